import PyProof.Rows.All
import Wide.All
import OpenK.AllK
import Wide.FinOn
import PySem.Challenge.RW_nm0140_01
open PySem PySem.W PyProof.Rows
set_option Elab.async false
set_option linter.all false
set_option genSizeOf false
set_option bootstrap.genMatcherCode false
namespace Mine
/-! sums of places, checked by counting -/
set_option genSizeOf false in
set_option genInjectivity false in
inductive LE1 where
  | v (i : Nat)
  | l (n : Nat)
  | a (x y : LE1)
  | m (c : Nat) (x : LE1)
  | s (x y : LE1)
  | g (x : LE1)
  | c (x : LE1)
  | h (q z : Bool) (x y t : LE1)
noncomputable abbrev LP1 := List Int × List Int
noncomputable def zadd : List Int → List Int → List Int := List.rec (fun b => b) fun x a f b => @List.rec Int (fun _ => List Int) (x :: a) (fun y b _ => (x + y) :: f b) b
noncomputable def zmul (k : Int) : List Int → List Int := List.rec [] fun x _ f => (k * x) :: f
noncomputable def unit1 (n : Nat) : List Int := Nat.rec [1] (fun _ f => 0 :: f) n
noncomputable abbrev nth1 {α : Type} (d : α) (l : List α) : Nat → α := List.rec (fun _ => d) (fun x _ f i => Nat.rec x (fun i _ => f i) i) l
noncomputable def ev (c : List Int) : (Nat → Int) → Int := List.rec (fun _ => 0) (fun c _ F f => c * f 0 + F fun i => f (i + 1)) c
noncomputable def padd (p q : LP1) : LP1 := (zadd p.1 q.1, zadd p.2 q.2)
noncomputable def pmul (k : Int) (p : LP1) : LP1 := (zmul k p.1, zmul k p.2)
noncomputable def LE1.pN (e : LE1) : LP1 := LE1.rec (fun i => (unit1 (i + 1), [])) (fun n => ([(n : Int)], [])) (fun _ _ x y => padd x y) (fun c _ x => pmul c x) (fun _ _ _ _ => ([], [])) (fun _ _ => ([], [])) (fun _ _ => ([], [])) (fun _ _ _ _ _ _ _ _ => ([], [])) e
noncomputable def LE1.pZ (e : LE1) : LP1 := LE1.rec (fun i => ([], unit1 i)) (fun n => ([(n : Int)], [])) (fun _ _ x y => padd x y) (fun c _ x => pmul c x) (fun _ _ x y => padd x (pmul (-1) y)) (fun _ x => pmul (-1) x) (fun x _ => x.pN) (fun _ _ _ _ _ _ _ _ => ([], [])) e
noncomputable def pol (z : Bool) (x : LE1) : LP1 := @Bool.rec (fun _ => LP1) x.pN x.pZ z
noncomputable def mulF (q : Bool) (k : Int) : Int := @Bool.rec (fun _ => Int) (k.natAbs : Int) k q
noncomputable def dif (z : Bool) (x y : LE1) : LP1 := padd (pol z y) (pmul (-1) (pol z x))
noncomputable def sumH (e : LE1) : List Int → LP1 := LE1.rec (fun _ _ => ([], [])) (fun _ _ => ([], [])) (fun _ _ _ _ _ => ([], [])) (fun _ _ _ _ => ([], [])) (fun _ _ _ _ _ => ([], [])) (fun _ _ _ => ([], [])) (fun _ _ _ => ([], []))
  (fun q z x y _ _ _ f ks => @List.rec Int (fun _ => LP1) ([], []) (fun k ks _ => padd (pmul (mulF q k) (dif z x y)) (f ks)) ks) e
noncomputable def low (c : List Int) : Bool := List.rec true (fun c _ f => decide (c ≤ 0) && f) c
noncomputable def bad (p : LP1) : Bool := @List.rec Int (fun _ => Bool) false (fun c r _ => decide (c < 0) && low r && decide (p.2 = zmul 0 p.2)) p.1
section
variable (cn : List Nat) (ci : List Int)
noncomputable abbrev LE1.dN (e : LE1) : Nat := LE1.rec (nth1 0 cn) (fun n => n) (fun _ _ x y => x + y) (fun c _ x => c * x) (fun _ _ _ _ => 0) (fun _ _ => 0) (fun _ _ => 0) (fun _ _ _ _ _ _ _ _ => 0) e
noncomputable abbrev LE1.dZ (e : LE1) : Int := LE1.rec (nth1 0 ci) (fun n => (n : Int)) (fun _ _ x y => x + y) (fun c _ x => (c : Int) * x) (fun _ _ x y => x - y) (fun _ x => -x) (fun x _ => (x.dN cn : Int)) (fun _ _ _ _ _ _ _ _ => 0) e
noncomputable abbrev denH (q z : Bool) (x y : LE1) : Prop := @Bool.rec (fun _ => Prop) (@Bool.rec (fun _ => Prop) (x.dN cn ≤ y.dN cn) (x.dZ cn ci ≤ y.dZ cn ci) z) (@Bool.rec (fun _ => Prop) (x.dN cn = y.dN cn) (x.dZ cn ci = y.dZ cn ci) z) q
noncomputable abbrev imp (e : LE1) (G : Prop) : Prop := LE1.rec (fun _ => G) (fun _ => G) (fun _ _ _ _ => G) (fun _ _ _ => G) (fun _ _ _ _ => G) (fun _ _ => G) (fun _ _ => G) (fun q z x y _ _ _ f => denH cn ci q z x y → f) e
noncomputable def nf (cn : List Nat) (i : Nat) : Int := Nat.rec 1 (fun j _ => ((nth1 0 cn j : Nat) : Int)) i
noncomputable def val1 (p : LP1) : Int := ev p.1 (nf cn) + ev p.2 (nth1 0 ci)
end
theorem ev_add (a : List Int) : ∀ (b : List Int) (f : Nat → Int), ev (zadd a b) f = ev a f + ev b f := by
  induction a with
  | nil => exact fun b xs => (Int.zero_add _).symm
  | cons x a ih =>
    intro b f
    cases b with
    | nil => exact (Int.add_zero _).symm
    | cons y b =>
      show (x + y) * f 0 + ev (zadd a b) _ = x * f 0 + ev a _ + (y * f 0 + ev b _)
      rw [ih, Int.add_mul, Int.add_assoc, Int.add_assoc, Int.add_left_comm (y * f 0)]
theorem ev_mul (k : Int) (a : List Int) : ∀ f : Nat → Int, ev (zmul k a) f = k * ev a f := by
  induction a with
  | nil => exact fun xs => (Int.mul_zero _).symm
  | cons x a ih =>
    intro f
    show k * x * f 0 + ev (zmul k a) _ = k * (x * f 0 + ev a _)
    rw [ih, Int.mul_add, Int.mul_assoc]
theorem ev_unit (i : Nat) : ∀ f : Nat → Int, ev (unit1 i) f = f i := by
  induction i with
  | zero => exact fun f => (Int.add_zero _).trans (Int.one_mul _)
  | succ i ih =>
    intro f
    show 0 * f 0 + ev (unit1 i) _ = f (i + 1)
    rw [ih, Int.zero_mul, Int.zero_add]
theorem ev_low (a : List Int) : ∀ f : Nat → Int, (∀ i, 0 ≤ f i) → low a = true → ev a f ≤ 0 := by
  induction a with
  | nil => exact fun _ _ _ => Int.le_refl 0
  | cons x a ih =>
    intro f hf h
    have h' := Bool.and_eq_true _ _ ▸ h
    exact Int.add_nonpos (Int.mul_nonpos_of_nonpos_of_nonneg (of_decide_eq_true h'.1) (hf 0)) (ih _ (fun i => hf (i + 1)) h'.2)
theorem nf_pos (cn : List Nat) (i : Nat) : 0 ≤ nf cn i := Nat.casesOn i (Int.le_of_lt Int.zero_lt_one) fun _ => Int.natCast_nonneg _
section
variable (cn : List Nat) (ci : List Int)
theorem val_add (p q : LP1) : val1 cn ci (padd p q) = val1 cn ci p + val1 cn ci q := by
  show ev (zadd p.1 q.1) _ + ev (zadd p.2 q.2) _ = ev p.1 _ + ev p.2 _ + (ev q.1 _ + ev q.2 _)
  rw [ev_add, ev_add, Int.add_assoc, Int.add_assoc, Int.add_left_comm (ev q.1 _)]
theorem val_mul (k : Int) (p : LP1) : val1 cn ci (pmul k p) = k * val1 cn ci p := by
  show ev (zmul k p.1) _ + ev (zmul k p.2) _ = k * (ev p.1 _ + ev p.2 _)
  rw [ev_mul, ev_mul, Int.mul_add]
theorem val_l (n : Nat) : val1 cn ci ([(n : Int)], []) = n := (Int.add_zero _).trans ((Int.add_zero _).trans (Int.mul_one _))
theorem val_0 : val1 cn ci ([], []) = 0 := rfl
theorem pN_ok (x : LE1) : val1 cn ci x.pN = (x.dN cn : Int) := by
  induction x with
  | v i => exact (Int.add_zero _).trans (ev_unit (i + 1) _)
  | l n => exact val_l cn ci n
  | a x y hx hy => exact (val_add cn ci x.pN y.pN).trans (by rw [hx, hy]; rfl)
  | m c x hx => exact (val_mul cn ci c x.pN).trans (congrArg _ hx)
  | s | g | c | h => rfl
theorem pZ_ok (x : LE1) : val1 cn ci x.pZ = x.dZ cn ci := by
  induction x with
  | v i => exact (Int.zero_add _).trans (ev_unit i _)
  | l n => exact val_l cn ci n
  | a x y hx hy => exact (val_add cn ci x.pZ y.pZ).trans (by rw [hx, hy])
  | m c x hx => exact (val_mul cn ci c x.pZ).trans (congrArg _ hx)
  | s x y hx hy => exact (val_add cn ci x.pZ (pmul (-1) y.pZ)).trans (by rw [val_mul, hx, hy, Int.neg_one_mul]; rfl)
  | g x hx => exact (val_mul cn ci (-1) x.pZ).trans (by rw [hx, Int.neg_one_mul])
  | c x => exact pN_ok cn ci x
  | h => rfl
theorem dif_ok {z : Bool} {x y : LE1} : val1 cn ci (dif z x y) = val1 cn ci (pol z y) - val1 cn ci (pol z x) := by
  rw [dif, val_add, val_mul, Int.neg_one_mul]; rfl
theorem ge_of {z : Bool} {x y : LE1} (h : denH cn ci false z x y) : 0 ≤ val1 cn ci (dif z x y) := by
  rw [dif_ok]
  cases z with
  | false => exact Int.sub_nonneg_of_le (by rw [pol, pol, pN_ok, pN_ok]; exact Int.ofNat_le.mpr h)
  | true => exact Int.sub_nonneg_of_le (by rw [pol, pol, pZ_ok, pZ_ok]; exact h)
theorem eq_of {z : Bool} {x y : LE1} (h : denH cn ci true z x y) : val1 cn ci (dif z x y) = 0 := by
  rw [dif_ok]
  cases z with
  | false => exact Int.sub_eq_zero_of_eq (by rw [pol, pol, pN_ok, pN_ok]; exact congrArg _ (Eq.symm h))
  | true => exact Int.sub_eq_zero_of_eq (by rw [pol, pol, pZ_ok, pZ_ok]; exact Eq.symm h)
theorem fact_ok {q z : Bool} {x y : LE1} (h : denH cn ci q z x y) (k : Int) : 0 ≤ val1 cn ci (pmul (mulF q k) (dif z x y)) := by
  rw [val_mul]
  cases q with
  | false => exact Int.mul_nonneg (Int.natCast_nonneg _) (ge_of cn ci h)
  | true => rw [eq_of cn ci h, Int.mul_zero]; exact Int.le_refl 0
theorem bad_no {p : LP1} (h : bad p = true) (q : 0 ≤ val1 cn ci p) : False := by
  obtain ⟨n, z⟩ := p
  cases n with
  | nil => cases h
  | cons c r =>
    have h' := Bool.and_eq_true _ _ ▸ h
    have h'' := Bool.and_eq_true _ _ ▸ h'.1
    have e : ev z (nth1 0 ci) = 0 := (congrArg (fun a => ev a (nth1 0 ci)) (of_decide_eq_true h'.2)).trans ((ev_mul 0 z _).trans (Int.zero_mul _))
    have l := ev_low r _ (fun i => nf_pos cn (i + 1)) h''.2
    have q' : 0 ≤ c * 1 + ev r _ + ev z _ := q
    rw [e, Int.add_zero, Int.mul_one] at q'
    exact absurd (Int.add_lt_add_of_lt_of_le (of_decide_eq_true h''.1) l) (Int.not_lt.mpr q')
theorem imp_of {G : Prop} (e : LE1) : ((∀ ks, 0 ≤ val1 cn ci (sumH e ks)) → G) → imp cn ci e G := by
  induction e with
  | h q z x y t _ _ ih =>
    exact fun k d => ih fun r => k fun ks => by
      cases ks with
      | nil => exact Int.le_refl 0
      | cons c ks => show 0 ≤ val1 cn ci (padd _ _); rw [val_add]; exact Int.add_nonneg (fact_ok cn ci d c) (r ks)
  | v | l | a | m | s | g | c => exact fun k => k fun _ => Int.le_refl 0
/-- from the facts e, taken so many times, nothing -/
theorem linF (e : LE1) (ks : List Int) (h : bad (sumH e ks) = true) : imp cn ci e False := imp_of cn ci e fun r => bad_no cn ci h (r ks)
theorem lin (z : Bool) (e x y : LE1) (k : Int) (ks : List Int) (h : bad (sumH (.h false z (.a y (.l 1)) x e) (k :: ks)) = true) : imp cn ci e (denH cn ci false z x y) := imp_of cn ci e fun r => by
  refine Classical.byContradiction fun n => bad_no cn ci h ?_
  show 0 ≤ val1 cn ci (padd _ _)
  rw [val_add]
  refine Int.add_nonneg (fact_ok cn ci (q := false) ?_ k) (r ks)
  cases z with
  | false => exact Nat.gt_of_not_le n
  | true => exact Int.not_le.mp n
theorem imp_and {G H K : Prop} (g : G → H → K) (e : LE1) : imp cn ci e G → imp cn ci e H → imp cn ci e K := by
  induction e with
  | h q z x y t _ _ ih => exact fun a b d => ih (a d) (b d)
  | v | l | a | m | s | g | c => exact g
theorem linE (z : Bool) (e x y : LE1) (k : Int) (ks : List Int) (k' : Int) (ks' : List Int) (h : bad (sumH (.h false z (.a y (.l 1)) x e) (k :: ks)) = true) (h' : bad (sumH (.h false z (.a x (.l 1)) y e) (k' :: ks')) = true) : imp cn ci e (denH cn ci true z x y) :=
  imp_and cn ci (by cases z with | false => exact Nat.le_antisymm | true => exact Int.le_antisymm) e (lin cn ci z e x y k ks h) (lin cn ci z e y x k' ks' h')
end
theorem sbl (a b : Nat) : a ≤ a - b + b := Nat.sub_le_iff_le_add.mp (Nat.le_refl _)
theorem nab_neg (a : Int) : -a ≤ a.natAbs := Int.natAbs_neg a ▸ Int.le_natAbs
theorem nab_le {a : Int} {c : Nat} (h : -(c : Int) ≤ a) (h' : a ≤ c) : a.natAbs ≤ c := by
  cases Int.le_total 0 a with
  | inl q => exact Int.ofNat_le.mp (Int.natAbs_of_nonneg q ▸ h')
  | inr q => exact Int.ofNat_le.mp (Int.ofNat_natAbs_of_nonpos q ▸ Int.neg_le_of_neg_le h)
end Mine
namespace Mine
theorem ff {P : Prop} (h : false = true) : P := nomatch h
theorem nso {α : Type} {P : Prop} {a : α} (h : none = some a) : P := nomatch h

/-! abstract values: tokens erased; frozen tuples and lists as deep data; mutable objects by address -/
inductive AV where
  | none
  | bool (b : Bool)
  | int (i : Int)
  | sy (n : Nat)                    -- a text of the program, by its number
  | ref (a : Addr)                  -- a mutable list or dict
  | tup (xs : List AV)
  | lst (xs : List AV)              -- a list that is changed no more
  | inst (pl f s : AV)              -- a Piece that is changed no more
  | piece (d : Addr)                -- a Piece whose dict is d
  | rng (lo hi : Int)
  | any

noncomputable def symTab : List Str := [Str.ofString "op", Str.ofString "br", Str.ofString "block", Str.ofString "names", Str.ofString "plain", Str.ofString "first", Str.ofString "second"]
noncomputable def symAt (n : Nat) : Str := symTab.getD n Str.empty

/-- contents of a mutable object -/
inductive MO where
  | list (xs : List AV)
  | dict (es : List (Nat × AV))

noncomputable abbrev Mem := Addr → Option MO
noncomputable abbrev Imm := Addr → Option Obj

noncomputable abbrev lstO (items : Array Value) (n : Nat) : Obj := { cls := .type "list", dict := none, data := .seq items n, slots := #[] }
noncomputable abbrev tupO (items : Array Value) (n : Nat) : Obj := { cls := .type "tuple", dict := none, data := .seq items n, slots := #[] }
noncomputable abbrev dicO (es : Array DictEntry) (n : Nat) : Obj := { cls := .type "dict", dict := none, data := .dict es n, slots := #[] }

noncomputable def keyH (P : Params) (x : Str) : Int := PyData.keyHash P x

section
variable (P : Params) (C : Addr) (I : Imm)
mutual
inductive Rep : Value → AV → Prop where
  | none : Rep .none .none
  | bool (b : Bool) : Rep (.bool b) (.bool b)
  | int (i : Int) (t : Tok) : Rep (.int i t) (.int i)
  | sy (n : Nat) (t : Tok) (h : n < 7) : Rep (.str (symAt n) t) (.sy n)
  | ref (a : Addr) : Rep (.ref a) (.ref a)
  | tup {a : Addr} {vs : List Value} {n : Nat} {xs : List AV} : I a = some (tupO vs.toArray n) → Reps vs xs → Rep (.ref a) (.tup xs)
  | lst {a : Addr} {vs : List Value} {n : Nat} {xs : List AV} : I a = some (lstO vs.toArray n) → Reps vs xs → Rep (.ref a) (.lst xs)
  | inst {p d : Addr} {es : List DictEntry} {n : Nat} {pl f s : AV} : I p = some (instObj C d) → I d = some (dicO es.toArray n) →
      RepE es [(4, pl), (5, f), (6, s)] → Rep (.ref p) (.inst pl f s)
  | piece {p d : Addr} : I p = some (instObj C d) → Rep (.ref p) (.piece d)
  | rng {a : Addr} {lo hi : Int} {t u v : Tok} : lo.natAbs ≤ 1000000 → hi.natAbs ≤ 1000000 → I a = some { cls := .type "range", dict := none, data := .fields #[.int lo t, .int hi u, .int 1 v], slots := #[] } → Rep (.ref a) (.rng lo hi)
  | any (v : Value) : Rep v .any
inductive Reps : List Value → List AV → Prop where
  | nil : Reps [] []
  | cons {v : Value} {vs : List Value} {x : AV} {xs : List AV} : Rep v x → Reps vs xs → Reps (v :: vs) (x :: xs)
inductive RepE : List DictEntry → List (Nat × AV) → Prop where
  | nil : RepE [] []
  | cons {k : Nat} {t : Tok} {v : Value} {es : List DictEntry} {x : AV} {xs : List (Nat × AV)} : k < 7 → Rep v x → RepE es xs → RepE (⟨keyH P (symAt k), .str (symAt k) t, v⟩ :: es) ((k, x) :: xs)
end

noncomputable def HasMO (h : Heap) (a : Addr) : MO → Prop
  | .list xs => ∃ vs n, h.get? a = some (lstO vs n) ∧ Reps P C I vs.toList xs
  | .dict es => ∃ ds n, h.get? a = some (dicO ds n) ∧ RepE P C I ds.toList es
end

variable {P : Params} {C : Addr} {I I' : Imm}

theorem mono_tup (hI : ∀ a o, I a = some o → I' a = some o) {a : Addr} {vs : List Value} {n : Nat} {xs : List AV} (h : I a = some (tupO vs.toArray n)) (_ : Reps P C I vs xs) (r : Reps P C I' vs xs) : Rep P C I' (.ref a) (.tup xs) := .tup (hI _ _ h) r
theorem mono_lst (hI : ∀ a o, I a = some o → I' a = some o) {a : Addr} {vs : List Value} {n : Nat} {xs : List AV} (h : I a = some (lstO vs.toArray n)) (_ : Reps P C I vs xs) (r : Reps P C I' vs xs) : Rep P C I' (.ref a) (.lst xs) := .lst (hI _ _ h) r
theorem mono_inst (hI : ∀ a o, I a = some o → I' a = some o) {p d : Addr} {es : List DictEntry} {n : Nat} {pl f s : AV} (h1 : I p = some (instObj C d)) (h2 : I d = some (dicO es.toArray n)) (_ : RepE P C I es [(4, pl), (5, f), (6, s)]) (r : RepE P C I' es [(4, pl), (5, f), (6, s)]) : Rep P C I' (.ref p) (.inst pl f s) := .inst (hI _ _ h1) (hI _ _ h2) r
theorem Rep.mono (hI : ∀ a o, I a = some o → I' a = some o) {v : Value} {x : AV} (h : Rep P C I v x) : Rep P C I' v x :=
  @Rep.rec P C I (fun v x _ => Rep P C I' v x) (fun v x _ => Reps P C I' v x) (fun v x _ => RepE P C I' v x) .none .bool .int .sy .ref (mono_tup hI) (mono_lst hI) (mono_inst hI) (fun h => .piece (hI _ _ h)) (fun h1 h2 h => .rng h1 h2 (hI _ _ h)) .any .nil (fun _ _ a b => .cons a b) .nil (fun hk _ _ a b => .cons hk a b) v x h
theorem Reps.mono (hI : ∀ a o, I a = some o → I' a = some o) {v : List Value} {x : List AV} (h : Reps P C I v x) : Reps P C I' v x :=
  @Reps.rec P C I (fun v x _ => Rep P C I' v x) (fun v x _ => Reps P C I' v x) (fun v x _ => RepE P C I' v x) .none .bool .int .sy .ref (mono_tup hI) (mono_lst hI) (mono_inst hI) (fun h => .piece (hI _ _ h)) (fun h1 h2 h => .rng h1 h2 (hI _ _ h)) .any .nil (fun _ _ a b => .cons a b) .nil (fun hk _ _ a b => .cons hk a b) v x h
theorem RepE.mono (hI : ∀ a o, I a = some o → I' a = some o) {v : List DictEntry} {x : List (Nat × AV)} (h : RepE P C I v x) : RepE P C I' v x :=
  @RepE.rec P C I (fun v x _ => Rep P C I' v x) (fun v x _ => Reps P C I' v x) (fun v x _ => RepE P C I' v x) .none .bool .int .sy .ref (mono_tup hI) (mono_lst hI) (mono_inst hI) (fun h => .piece (hI _ _ h)) (fun h1 h2 h => .rng h1 h2 (hI _ _ h)) .any .nil (fun _ _ a b => .cons a b) .nil (fun hk _ _ a b => .cons hk a b) v x h
/-- what stands behind a value, read off the abstract one -/
noncomputable def RepOf (P : Params) (C : Addr) (I : Imm) (v : Value) : AV → Prop
  | .none => v = .none
  | .bool b => v = .bool b
  | .int i => ∃ t, v = .int i t
  | .sy n => n < 7 ∧ ∃ t, v = .str (symAt n) t
  | .ref a => v = .ref a
  | .tup xs => ∃ a vs n, v = .ref a ∧ I a = some (tupO vs.toArray n) ∧ Reps P C I vs xs
  | .lst xs => ∃ a vs n, v = .ref a ∧ I a = some (lstO vs.toArray n) ∧ Reps P C I vs xs
  | .inst pl f s => ∃ p d es n, v = .ref p ∧ I p = some (instObj C d) ∧ I d = some (dicO es.toArray n) ∧ RepE P C I es [(4, pl), (5, f), (6, s)]
  | .piece d => ∃ p, v = .ref p ∧ I p = some (instObj C d)
  | .rng lo hi => ∃ a t u w, v = .ref a ∧ lo.natAbs ≤ 1000000 ∧ hi.natAbs ≤ 1000000 ∧ I a = some { cls := .type "range", dict := none, data := .fields #[.int lo t, .int hi u, .int 1 w], slots := #[] }
  | .any => True
theorem Rep.inv {v : Value} {x : AV} (h : Rep P C I v x) : RepOf P C I v x :=
  @Rep.casesOn P C I (fun v x _ => RepOf P C I v x) v x h rfl (fun _ => rfl) (fun _ t => ⟨t, rfl⟩) (fun _ t h => ⟨h, t, rfl⟩) (fun _ => rfl) (fun h r => ⟨_, _, _, rfl, h, r⟩) (fun h r => ⟨_, _, _, rfl, h, r⟩) (fun h1 h2 r => ⟨_, _, _, _, rfl, h1, h2, r⟩) (fun h => ⟨_, rfl, h⟩) (fun h1 h2 h => ⟨_, _, _, _, rfl, h1, h2, h⟩) fun _ => trivial
noncomputable def RepsOf (P : Params) (C : Addr) (I : Imm) (vs : List Value) : List AV → Prop
  | [] => vs = []
  | x :: xs => ∃ w ws, vs = w :: ws ∧ Rep P C I w x ∧ Reps P C I ws xs
theorem Reps.inv {vs : List Value} {xs : List AV} (h : Reps P C I vs xs) : RepsOf P C I vs xs :=
  @Reps.casesOn P C I (fun v x _ => RepsOf P C I v x) vs xs h rfl fun a b => ⟨_, _, rfl, a, b⟩

theorem Reps.ind {p : List Value → List AV → Prop} (n : p [] []) (c : ∀ {v : Value} {vs : List Value} {x : AV} {xs : List AV}, Rep P C I v x → Reps P C I vs xs → p vs xs → p (v :: vs) (x :: xs)) {vs : List Value} {xs : List AV} (h : Reps P C I vs xs) : p vs xs :=
  @Reps.rec P C I (fun _ _ _ => True) (fun v x _ => p v x) (fun _ _ _ => True) trivial (fun _ => trivial) (fun _ _ => trivial) (fun _ _ _ => trivial) (fun _ => trivial) (fun _ _ _ => trivial) (fun _ _ _ => trivial) (fun _ _ _ _ => trivial) (fun _ => trivial) (fun _ _ _ => trivial) (fun _ => trivial) n (fun h r _ ih => c h r ih) trivial (fun _ _ _ _ _ => trivial) vs xs h
theorem Reps.length {vs : List Value} {xs : List AV} (h : Reps P C I vs xs) : vs.length = xs.length := h.ind (p := fun vs xs => vs.length = xs.length) rfl fun _ _ ih => congrArg (· + 1) ih
theorem Reps.append {vs : List Value} {xs : List AV} {ws : List Value} {ys : List AV} (h : Reps P C I vs xs) (r : Reps P C I ws ys) : Reps P C I (vs ++ ws) (xs ++ ys) := h.ind (p := fun vs xs => Reps P C I (vs ++ ws) (xs ++ ys)) r fun h _ ih => .cons h ih
theorem Reps.get {vs : List Value} {xs : List AV} (h : Reps P C I vs xs) : ∀ {i : Nat} {x : AV}, xs[i]? = some x → ∃ v, vs[i]? = some v ∧ Rep P C I v x :=
  h.ind (p := fun vs xs => ∀ {i : Nat} {x : AV}, xs[i]? = some x → ∃ v, vs[i]? = some v ∧ Rep P C I v x) (fun e => nso e) fun {_ _ _ _} h _ ih {i _} => Nat.casesOn i (fun e => ⟨_, rfl, Option.some.inj e ▸ h⟩) fun _ e => ih e
theorem Reps.take {vs : List Value} {xs : List AV} (h : Reps P C I vs xs) : ∀ n, Reps P C I (vs.take n) (xs.take n) :=
  h.ind (p := fun vs xs => ∀ n, Reps P C I (vs.take n) (xs.take n)) (fun n => Nat.casesOn n .nil fun _ => .nil) fun h _ ih n => Nat.casesOn n .nil fun n => .cons h (ih n)
theorem Reps.drop {vs : List Value} {xs : List AV} (h : Reps P C I vs xs) : ∀ n, Reps P C I (vs.drop n) (xs.drop n) :=
  h.ind (p := fun vs xs => ∀ n, Reps P C I (vs.drop n) (xs.drop n)) (fun n => Nat.casesOn n .nil fun _ => .nil) fun h r ih n => Nat.casesOn n (.cons h r) fun n => ih n
theorem Reps.reverse {vs : List Value} {xs : List AV} (h : Reps P C I vs xs) : Reps P C I vs.reverse xs.reverse :=
  h.ind (p := fun vs xs => Reps P C I vs.reverse xs.reverse) .nil fun h _ ih => by rw [List.reverse_cons, List.reverse_cons]; exact ih.append (.cons h .nil)
theorem Reps.snoc {vs : List Value} {xs : List AV} {v : Value} {x : AV} (r : Reps P C I vs xs) (h : Rep P C I v x) : Reps P C I (vs ++ [v]) (xs ++ [x]) := r.append (.cons h .nil)

/-- the state of the heap -/
structure Stt (P : Params) (C : Addr) (I J : Imm) (M : Mem) (h : Heap) : Prop where
  imm : ∀ a o, I a = some o → h.get? a = some o
  frm : ∀ a o, J a = some o → h.get? a = some o
  mu : ∀ a mo, M a = some mo → HasMO P C I h a mo
  ij : ∀ a o, I a = some o → J a = none
  im : ∀ a mo, M a = some mo → I a = none
  jm : ∀ a mo, M a = some mo → J a = none

noncomputable def upd {β : Type} (f : Addr → Option β) (a : Addr) (o : β) : Addr → Option β := fun b => if b = a then some o else f b
noncomputable def del {β : Type} (f : Addr → Option β) (a : Addr) : Addr → Option β := fun b => if b = a then none else f b
theorem upd_self {β : Type} {f : Addr → Option β} {a : Addr} {o : β} : upd f a o a = some o := if_pos rfl
theorem upd_ne {β : Type} {f : Addr → Option β} {a b : Addr} {o : β} (h : b ≠ a) : upd f a o b = f b := if_neg h
theorem del_self {β : Type} {f : Addr → Option β} {a : Addr} : del f a a = none := if_pos rfl
theorem del_ne {β : Type} {f : Addr → Option β} {a b : Addr} (h : b ≠ a) : del f a b = f b := if_neg h

end Mine
namespace Mine

noncomputable abbrev Le (I I' : Imm) : Prop := ∀ a o, I a = some o → I' a = some o
theorem Le.refl (I : Imm) : Le I I := fun _ _ e => e
theorem Le.trans {I I' I'' : Imm} (x : Le I I') (y : Le I' I'') : Le I I'' := fun a o e => y a o (x a o e)

/-- what stands fixed while the law is called -/
structure Cx where
  prog : Program
  w : World
  h₀ : Heap
  os : OsState
  K : Frag
  C : Addr

noncomputable abbrev Cx.Rep (X : Cx) := Mine.Rep X.w.params X.C
noncomputable abbrev Cx.Reps (X : Cx) := Mine.Reps X.w.params X.C
noncomputable abbrev Cx.mdl (X : Cx) : Model := model X.prog X.w

structure St (X : Cx) (I J : Imm) (M : Mem) (h : Heap) : Prop extends Stt X.w.params X.C I J M h where
  base : ∀ a o, X.h₀.get? a = some o → I a = some o

section
variable {X : Cx} {I I' J : Imm} {M M' : Mem} {h h' : Heap}

theorem HasMO.mono {P : Params} {C : Addr} (hI : Le I I') {a : Addr} (hh : ∀ o, h.get? a = some o → h'.get? a = some o) : ∀ {mo : MO}, HasMO P C I h a mo → HasMO P C I' h' a mo
  | .list _, ⟨vs, n, e, r⟩ => ⟨vs, n, hh _ e, r.mono hI⟩
  | .dict _, ⟨ds, n, e, r⟩ => ⟨ds, n, hh _ e, r.mono hI⟩
theorem HasMO.get {P : Params} {C : Addr} {a : Addr} : ∀ {mo : MO}, HasMO P C I h a mo → ∃ o, h.get? a = some o
  | .list _, ⟨_, _, e, _⟩ => ⟨_, e⟩
  | .dict _, ⟨_, _, e, _⟩ => ⟨_, e⟩

theorem St.heap (S : St X I J M h) : ∀ a o, X.h₀.get? a = some o → h.get? a = some o := fun a o e => S.imm a o (S.base a o e)

/-- nothing of what we know has changed -/
theorem St.ext (S : St X I J M h) (hh : ∀ a o, h.get? a = some o → h'.get? a = some o) : St X I J M h' :=
  ⟨⟨fun a o e => hh a o (S.imm a o e), fun a o e => hh a o (S.frm a o e), fun a mo e => (S.mu a mo e).mono (Le.refl I) (hh a), S.ij, S.im, S.jm⟩, S.base⟩
/-- less is known -/
theorem St.less (S : St X I J M h) (hM : ∀ a mo, M' a = some mo → M a = some mo) : St X I J M' h :=
  ⟨⟨S.imm, S.frm, fun a mo e => S.mu a mo (hM a mo e), S.ij, fun a mo e => S.im a mo (hM a mo e), fun a mo e => S.jm a mo (hM a mo e)⟩, S.base⟩
/-- a foreign place has changed -/
theorem St.other (S : St X I J M h) {L : Addr} (hs : ∀ b, b ≠ L → ∀ o, h.get? b = some o → h'.get? b = some o) (iL : I L = none) (jL : J L = none) (mL : M L = none) : St X I J M h' := by
  have key : ∀ a o, a ≠ L → h.get? a = some o → h'.get? a = some o := fun a o hn e => hs a hn o e
  exact ⟨⟨fun a o e => key a o (fun q => by rw [q, iL] at e; cases e) (S.imm a o e), fun a o e => key a o (fun q => by rw [q, jL] at e; cases e) (S.frm a o e),
    fun a mo e => (S.mu a mo e).mono (Le.refl I) fun o q => key a o (fun q => by rw [q, mL] at e; cases e) q, S.ij, S.im, S.jm⟩, S.base⟩

theorem St.size_none (S : St X I J M h) : I h.objs.size = none ∧ J h.objs.size = none ∧ M h.objs.size = none := by
  refine ⟨?_, ?_, ?_⟩
  · cases q : I h.objs.size with
    | none => rfl
    | some o => exact absurd (Heap.lt_size (S.imm _ _ q)) (Nat.lt_irrefl _)
  · cases q : J h.objs.size with
    | none => rfl
    | some o => exact absurd (Heap.lt_size (S.frm _ _ q)) (Nat.lt_irrefl _)
  · cases q : M h.objs.size with
    | none => rfl
    | some o => obtain ⟨o', e⟩ := (S.mu _ _ q).get; exact absurd (Heap.lt_size e) (Nat.lt_irrefl _)

theorem Le.upd {a : Addr} {o : Obj} (e : I a = none) : Le I (upd I a o) := fun b o' q => by
  by_cases hb : b = a
  · rw [hb, e] at q; cases q
  · rw [upd_ne hb]; exact q

/-- a place that nobody knows becomes immutable -/
theorem St.toI (S : St X I J M h) {a : Addr} {o : Obj} (e : h.get? a = some o) (iL : I a = none) (jL : J a = none) (mL : M a = none) : St X (upd I a o) J M h := by
  have le : Le I (upd I a o) := Le.upd iL
  refine ⟨⟨fun b o' q => ?_, S.frm, fun b mo q => (S.mu b mo q).mono le fun _ x => x, fun b o' q => ?_, fun b mo q => ?_, S.jm⟩, fun b o' q => le b o' (S.base b o' q)⟩
  · by_cases hb : b = a
    · subst hb; rw [upd_self] at q; cases q; exact e
    · rw [upd_ne hb] at q; exact S.imm b o' q
  · by_cases hb : b = a
    · subst hb; exact jL
    · rw [upd_ne hb] at q; exact S.ij b o' q
  · by_cases hb : b = a
    · subst hb; rw [mL] at q; cases q
    · rw [upd_ne hb]; exact S.im b mo q
/-- a place that nobody knows becomes a mutable of ours -/
theorem St.toM (S : St X I J M h) {a : Addr} {mo : MO} (e : HasMO X.w.params X.C I h a mo) (iL : I a = none) (jL : J a = none) : St X I J (upd M a mo) h := by
  refine ⟨⟨S.imm, S.frm, fun b mo' q => ?_, S.ij, fun b mo' q => ?_, fun b mo' q => ?_⟩, S.base⟩
  · by_cases hb : b = a
    · subst hb; rw [upd_self] at q; cases q; exact e
    · rw [upd_ne hb] at q; exact S.mu b mo' q
  · by_cases hb : b = a
    · subst hb; exact iL
    · rw [upd_ne hb] at q; exact S.im b mo' q
  · by_cases hb : b = a
    · subst hb; exact jL
    · rw [upd_ne hb] at q; exact S.jm b mo' q
theorem St.allocI (S : St X I J M h) {o : Obj} (hf : o.isFreed = false) : St X (upd I h.objs.size o) J M (h.push o) :=
  let z := S.size_none
  (S.ext fun _ _ e => Heap.get?_push_of_some _ e).toI (Heap.get?_push_size _ hf) z.1 z.2.1 z.2.2
theorem St.allocM (S : St X I J M h) {o : Obj} {mo : MO} (hm : HasMO X.w.params X.C I (h.push o) h.objs.size mo) : St X I J (upd M h.objs.size mo) (h.push o) :=
  let z := S.size_none
  (S.ext fun _ _ e => Heap.get?_push_of_some _ e).toM hm z.1 z.2.1
/-- a mutable of ours is changed -/
theorem St.update (S : St X I J M h) {a : Addr} {mo mo' : MO} (e : M a = some mo) (hs : ∀ b, b ≠ a → ∀ o, h.get? b = some o → h'.get? b = some o) (hm : HasMO X.w.params X.C I h' a mo') : St X I J (upd M a mo') h' := by
  have iL := S.im a mo e
  have jL := S.jm a mo e
  have T := St.toM (M := del M a) ((S.less (M' := del M a) fun b mo q => by
      by_cases hb : b = a
      · subst hb; rw [del_self] at q; cases q
      · rwa [del_ne hb] at q).other hs iL jL del_self) hm iL jL
  · have : upd (del M a) a mo' = upd M a mo' := by
      funext b
      by_cases hb : b = a
      · subst hb; rw [upd_self, upd_self]
      · rw [upd_ne hb, upd_ne hb, del_ne hb]
    rwa [this] at T
theorem del_le {a : Addr} : ∀ b mo, del M a b = some mo → M b = some mo := fun b mo q => by
  by_cases hb : b = a
  · subst hb; rw [del_self] at q; cases q
  · rwa [del_ne hb] at q
end

/-! frames -/
noncomputable def lk : List (Option AV) → Nat → Option AV
  | [], _ => none
  | x :: _, 0 => x
  | _ :: r, n + 1 => lk r n
noncomputable def stv : List (Option AV) → Nat → AV → List (Option AV)
  | [], _, _ => []
  | _ :: r, 0, v => some v :: r
  | x :: r, n + 1, v => x :: stv r n v
theorem lk_stv_self : ∀ (ρ : List (Option AV)) (i : Nat) (v w : AV), lk (stv ρ i v) i = some w → w = v
  | [], _, _, _, e => by cases e
  | _ :: _, 0, _, _, e => by cases e; rfl
  | _ :: r, n + 1, v, w, e => lk_stv_self r n v w e
theorem lk_stv_ne : ∀ (ρ : List (Option AV)) (i j : Nat) (v : AV), j ≠ i → lk (stv ρ i v) j = lk ρ j
  | [], _, _, _, _ => rfl
  | _ :: _, 0, 0, _, h => absurd rfl h
  | _ :: _, 0, _ + 1, _, _ => rfl
  | _ :: _, _ + 1, 0, _, _ => rfl
  | _ :: r, n + 1, m + 1, v, h => lk_stv_ne r n m v fun q => h (by rw [q])

noncomputable abbrev Env0 := List (Option AV)
noncomputable def FA (env : Env) : List Addr := env.locals :: env.cells.map (·.2)

structure EnvOk (tbl : List Str) (env : Env) : Prop where
  kind : env.scope.kind = .function
  gl : env.globals = mainGlobals
  bi : env.builtins = builtinsNs
  nodup : tbl.Nodup
  apart : env.cells.Pairwise fun x y => x.2 ≠ y.2
  ne : ∀ p ∈ env.cells, p.2 ≠ env.locals
  dbg : ∀ x ∈ tbl, (x == ("__debug__" : Str)) = false

noncomputable def Slot (X : Cx) (env : Env) (m : Str → Option Value) (h : Heap) (I : Imm) (x : Str) (av : AV) : Prop :=
  (env.kindOf x = some .local ∧ ∃ v, m x = some v ∧ X.Rep I v av) ∨
  ((env.kindOf x = some .cell ∨ env.kindOf x = some .free) ∧ ∃ c v, env.cells.lookup x = some c ∧ h.IsCell c (some v) ∧ X.Rep I v av)

structure Frame (X : Cx) (tbl : List Str) (env : Env) (I J : Imm) (M : Mem) (ρ : Env0) (h : Heap) : Prop where
  ns : ∃ m, h.Ns env.locals m ∧ ∀ i x av, tbl[i]? = some x → lk ρ i = some av → Slot X env m h I x av
  cells : ∀ p ∈ env.cells, ∃ v, h.IsCell p.2 v
  free : ∀ a ∈ FA env, I a = none ∧ J a = none ∧ M a = none

section
variable {X : Cx} {tbl : List Str} {env : Env} {I I' J : Imm} {M M' : Mem} {ρ : Env0} {h h' : Heap}
theorem Slot.mono {m : Str → Option Value} {x : Str} {av : AV} (hI : Le I I') (hh : ∀ p ∈ env.cells, ∀ o, h.get? p.2 = some o → h'.get? p.2 = some o) (S : Slot X env m h I x av) : Slot X env m h' I' x av := by
  rcases S with ⟨k, v, e, r⟩ | ⟨k, c, v, e, ⟨o, ho, hd⟩, r⟩
  · exact .inl ⟨k, v, e, r.mono hI⟩
  · exact .inr ⟨k, c, v, e, ⟨o, hh _ (mem_of_lookup e) o ho, hd⟩, r.mono hI⟩
theorem Frame.ext (F : Frame X tbl env I J M ρ h) (hI : Le I I') (hh : ∀ a ∈ FA env, ∀ o, h.get? a = some o → h'.get? a = some o) (hf : ∀ a ∈ FA env, I' a = none ∧ J a = none ∧ M' a = none) : Frame X tbl env I' J M' ρ h' := by
  obtain ⟨m, ⟨o, es, ep, ho, r⟩, hs⟩ := F.ns
  have hc : ∀ p ∈ env.cells, ∀ o, h.get? p.2 = some o → h'.get? p.2 = some o := fun p hp => hh _ (List.mem_cons_of_mem _ (List.mem_map_of_mem hp))
  exact ⟨⟨m, ⟨o, es, ep, hh _ (List.mem_cons_self) _ ho, r⟩, fun i x av e1 e2 => (hs i x av e1 e2).mono hI hc⟩, fun p hp => let ⟨v, o, e, d⟩ := F.cells p hp; ⟨v, o, hc p hp o e, d⟩, hf⟩
theorem Frame.less {ρ' : Env0} (F : Frame X tbl env I J M ρ h) (hρ : ∀ i av, lk ρ' i = some av → lk ρ i = some av) : Frame X tbl env I J M ρ' h :=
  ⟨let ⟨m, hn, hs⟩ := F.ns; ⟨m, hn, fun i x av e1 e2 => hs i x av e1 (hρ i av e2)⟩, F.cells, F.free⟩
end

structure Sat (X : Cx) (tbl : List Str) (env : Env) (I J : Imm) (M : Mem) (ρ : Env0) (s : Shared) : Prop where
  st : St X I J M s.heap
  fr : Frame X tbl env I J M ρ s.heap
  gens : s.gens = #[]
  os : s.os = X.os

/-- the end of an expression -/
noncomputable def PostE (X : Cx) (tbl : List Str) (env : Env) (I J : Imm) (Q : AV → Mem → Env0 → Prop) (v : Value) (s : Shared) : Prop :=
  ∃ I' M' ρ' av, Le I I' ∧ Sat X tbl env I' J M' ρ' s ∧ X.Rep I' v av ∧ Q av M' ρ'
noncomputable def PostU (X : Cx) (tbl : List Str) (env : Env) (I J : Imm) (Q : Mem → Env0 → Prop) (s : Shared) : Prop :=
  ∃ I' M' ρ', Le I I' ∧ Sat X tbl env I' J M' ρ' s ∧ Q M' ρ'
noncomputable abbrev NoE : Value → Shared → Prop := fun _ _ => False

structure Room (k : Nat) (A : Around) : Prop where
  depth : A.depth + k < recursionLimit
  units : A.units + 8 * k + 200 < cLine
  handled : A.handled = none
/-- the room of a callee -/
structure RoomS (k : Nat) (A : Around) : Prop where
  depth : A.depth + k < recursionLimit
  units : A.units + 8 * k + 196 < cLine
  handled : A.handled = none
theorem Room.s {k : Nat} {A : Around} (h : Room k A) : RoomS k A := ⟨h.depth, by have := h.units; exact lin [A.units, k, cLine] [] false (.h false false (.a (.a (.a (.v 0) (.m 8 (.v 1))) (.l 200)) (.l 1)) (.v 2) (.v 0)) (.a (.a (.a (.v 0) (.m 8 (.v 1))) (.l 196)) (.l 1)) (.v 2) 1 [1] (Eq.refl true) this, h.handled⟩
theorem Room.in1 {k : Nat} {A : Around} (h : Room k A) : RoomS k A.in1 := ⟨h.depth, by have := h.units; show A.units + 1 + 8 * k + 196 < cLine; exact lin [A.units, k, cLine] [] false (.h false false (.a (.a (.a (.v 0) (.m 8 (.v 1))) (.l 200)) (.l 1)) (.v 2) (.v 0)) (.a (.a (.a (.a (.v 0) (.l 1)) (.m 8 (.v 1))) (.l 196)) (.l 1)) (.v 2) 1 [1] (Eq.refl true) this, h.handled⟩
theorem RoomS.deeper {k : Nat} {A : Around} {env : Env} (h : RoomS (k + 1) A) : Room k (A.deeper env) := ⟨by have := h.depth; show A.depth + 1 + k < recursionLimit; exact lin [A.depth, k, recursionLimit] [] false (.h false false (.a (.a (.v 0) (.a (.v 1) (.l 1))) (.l 1)) (.v 2) (.v 0)) (.a (.a (.a (.v 0) (.l 1)) (.v 1)) (.l 1)) (.v 2) 1 [1] (Eq.refl true) this, by have := h.units; show A.units + 3 + 8 * k + 200 < cLine; exact lin [A.units, k, cLine] [] false (.h false false (.a (.a (.a (.v 0) (.m 8 (.a (.v 1) (.l 1)))) (.l 196)) (.l 1)) (.v 2) (.v 0)) (.a (.a (.a (.a (.v 0) (.l 3)) (.m 8 (.v 1))) (.l 200)) (.l 1)) (.v 2) 1 [1] (Eq.refl true) this, h.handled⟩

section
variable {X : Cx} {tbl : List Str} {env : Env} {I I' J : Imm} {M M' : Mem} {ρ : Env0} {s : Shared} {A : Around}

theorem Sat.tok (S : Sat X tbl env I J M ρ s) (t : Nat) : Sat X tbl env I J M ρ { s with toks := t } := ⟨S.st, S.fr, S.gens, S.os⟩
theorem Sat.ext {h' : Heap} {t : Nat} (S : Sat X tbl env I J M ρ s) (hh : ∀ a o, s.heap.get? a = some o → h'.get? a = some o) : Sat X tbl env I J M ρ { s with heap := h', toks := t } :=
  ⟨S.st.ext hh, S.fr.ext (Le.refl I) (fun a _ => hh a) S.fr.free, S.gens, S.os⟩
theorem FA_lt (F : Frame X tbl env I J M ρ s.heap) : ∀ a ∈ FA env, a < s.heap.objs.size := fun a ha => by
  rcases List.mem_cons.mp ha with rfl | ha
  · obtain ⟨m, hn, _⟩ := F.ns; exact hn.lt
  · obtain ⟨p, hp, rfl⟩ := List.mem_map.mp ha
    obtain ⟨v, hc⟩ := F.cells p hp; exact hc.lt
theorem Sat.allocI {o : Obj} {t : Nat} (S : Sat X tbl env I J M ρ s) (hf : o.isFreed = false) : Sat X tbl env (upd I s.heap.objs.size o) J M ρ { s with heap := s.heap.push o, toks := t } :=
  ⟨S.st.allocI hf, S.fr.ext (Le.upd S.st.size_none.1) (fun _ _ _ e => Heap.get?_push_of_some _ e) fun a ha => by
    obtain ⟨h1, h2, h3⟩ := S.fr.free a ha
    exact ⟨by rw [upd_ne (Nat.ne_of_lt (FA_lt S.fr a ha))]; exact h1, h2, h3⟩, S.gens, S.os⟩
theorem Sat.allocM {o : Obj} {mo : MO} {t : Nat} (S : Sat X tbl env I J M ρ s) (hm : HasMO X.w.params X.C I (s.heap.push o) s.heap.objs.size mo) : Sat X tbl env I J (upd M s.heap.objs.size mo) ρ { s with heap := s.heap.push o, toks := t } :=
  ⟨S.st.allocM hm, S.fr.ext (Le.refl I) (fun _ _ _ e => Heap.get?_push_of_some _ e) fun a ha => by
    obtain ⟨h1, h2, h3⟩ := S.fr.free a ha
    exact ⟨h1, h2, by rw [upd_ne (Nat.ne_of_lt (FA_lt S.fr a ha))]; exact h3⟩, S.gens, S.os⟩
theorem Sat.update {h' : Heap} {a : Addr} {mo mo' : MO} {t : Nat} (S : Sat X tbl env I J M ρ s) (e : M a = some mo) (hs : ∀ b, b ≠ a → ∀ o, s.heap.get? b = some o → h'.get? b = some o) (hm : HasMO X.w.params X.C I h' a mo') :
    Sat X tbl env I J (upd M a mo') ρ { s with heap := h', toks := t } := by
  have ne : ∀ b ∈ FA env, b ≠ a := fun b hb q => by have := (S.fr.free b hb).2.2; rw [q, e] at this; cases this
  exact ⟨S.st.update e hs hm, S.fr.ext (Le.refl I) (fun b hb o q => hs b (ne b hb) o q) fun b hb => by
    obtain ⟨h1, h2, h3⟩ := S.fr.free b hb
    exact ⟨h1, h2, by rw [upd_ne (ne b hb)]; exact h3⟩, S.gens, S.os⟩
theorem Sat.less (S : Sat X tbl env I J M ρ s) (hM : ∀ a mo, M' a = some mo → M a = some mo) : Sat X tbl env I J M' ρ s :=
  ⟨S.st.less hM, S.fr.ext (Le.refl I) (fun _ _ _ x => x) fun a ha => by
    obtain ⟨h1, h2, h3⟩ := S.fr.free a ha
    refine ⟨h1, h2, ?_⟩
    cases q : M' a with
    | none => rfl
    | some mo => (rw [hM a mo q] at h3; cases h3), S.gens, S.os⟩

theorem load_slot {i : Nat} {x : Str} {av : AV} {Q : Value → Shared → Prop} (E : EnvOk tbl env) (S : Sat X tbl env I J M ρ s) (hx : tbl[i]? = some x) (hv : lk ρ i = some av)
    (hn : (x == ("__classdict__" : Str)) = false) (h : ∀ v, X.Rep I v av → Q v s) : wpAny X.mdl A (loadName env x) Q NoE s := by
  obtain ⟨m, hm, hs⟩ := S.fr.ns
  rcases hs i x av hx hv with ⟨k, v, e, r⟩ | ⟨k | k, c, v, e, hc, r⟩
  · exact wpAny_loadName_local E.kind k hm e (h v r)
  · exact wpAny_loadName_cell E.kind k e hc (h v r)
  · exact wpAny_loadName_free E.kind k e hc (h v r) hn
theorem wpAny_NameT {x : Str} {pos : Pos} {Q : Value → Shared → Prop} {E : Value → Shared → Prop} {M : Model} (hd : (x == ("__debug__" : Str)) = false) (h : wpAny M A (loadName env x) Q E s) : wpAny M A (eval (.Name x pos) env) Q E s := wpAny_Name h hd

theorem store_slot {i : Nat} {x : Str} {v : Value} {av : AV} {Q : Unit → Shared → Prop} (E : EnvOk tbl env) (S : Sat X tbl env I J M ρ s) (hx : tbl[i]? = some x) (hk : env.kindOf x = some .local ∨ (env.kindOf x = some .cell ∧ (env.cells.lookup x).isSome = true))
    (r : X.Rep I v av) (h : ∀ s', Sat X tbl env I J M (stv ρ i av) s' → Q () s') : wpAny X.mdl A (storeName env x v) Q NoE s := by
  obtain ⟨m, hm, hs⟩ := S.fr.ns
  have idx : ∀ j y, tbl[j]? = some y → j ≠ i → y ≠ x := fun j y hy hj q => by
    subst q
    obtain ⟨l2, _⟩ := List.getElem?_eq_some_iff.mp hy
    exact hj ((List.getElem?_inj l2 E.nodup).mp (hy.trans hx.symm))
  rcases hk with k | ⟨k, kc⟩
  · refine wpAny_storeName_local k hm (fun h' hn' hs' => h _ ?_) (by rw [E.kind]; rfl)
    have fL := S.fr.free env.locals (List.mem_cons_self)
    refine ⟨S.st.other (L := env.locals) (fun b hb o e => (hs'.2 b hb).trans e) fL.1 fL.2.1 fL.2.2, ⟨⟨_, hn', fun j y w hy hw => ?_⟩, fun p hp => ?_, S.fr.free⟩, S.gens, S.os⟩
    · by_cases hj : j = i
      · subst hj
        rw [hx] at hy; cases hy
        obtain rfl := lk_stv_self _ _ _ _ hw
        exact .inl ⟨k, v, if_pos rfl, r⟩
      · rw [lk_stv_ne _ _ _ _ hj] at hw
        have nn := idx j y hy hj
        rcases hs j y w hy hw with ⟨k', v', e', r'⟩ | ⟨k', c, v', e', hc, r'⟩
        · exact .inl ⟨k', v', (if_neg nn).trans e', r'⟩
        · exact .inr ⟨k', c, v', e', hc.sameBut hs' (E.ne _ (mem_of_lookup e')), r'⟩
    · obtain ⟨v', hc⟩ := S.fr.cells p hp
      exact ⟨v', hc.sameBut hs' (E.ne p hp)⟩
  · obtain ⟨c, hc⟩ := Option.isSome_iff_exists.mp kc
    have mc := mem_of_lookup hc
    obtain ⟨v₀, h₀⟩ := S.fr.cells _ mc
    have nL : env.locals ≠ c := fun q => E.ne _ mc q.symm
    have fL := S.fr.free c (List.mem_cons_of_mem _ (List.mem_map.mpr ⟨_, mc, rfl⟩))
    refine wpAny_storeName_cell E.kind k hc h₀ (fun h' hc' hs' => h _ ?_)
    refine ⟨S.st.other (L := c) (fun b hb o e => (hs'.2 b hb).trans e) fL.1 fL.2.1 fL.2.2, ⟨⟨m, hm.sameBut hs' nL, fun j y w hy hw => ?_⟩, fun p hp => ?_, S.fr.free⟩, S.gens, S.os⟩
    · by_cases hj : j = i
      · subst hj
        rw [hx] at hy; cases hy
        obtain rfl := lk_stv_self _ _ _ _ hw
        exact .inr ⟨.inl k, c, v, hc, hc', r⟩
      · rw [lk_stv_ne _ _ _ _ hj] at hw
        have nn := idx j y hy hj
        rcases hs j y w hy hw with ⟨k', v', e', r'⟩ | ⟨k', c', v', e', hc₂, r'⟩
        · exact .inl ⟨k', v', e', r'⟩
        · exact .inr ⟨k', c', v', e', hc₂.sameBut hs' (fun q => nn (name_of_addr E.apart (mem_of_lookup e') (q ▸ mc))), r'⟩
    · by_cases hp' : p.2 = c
      · exact ⟨some v, hp' ▸ hc'⟩
      · obtain ⟨v', hv'⟩ := S.fr.cells p hp
        exact ⟨v', hv'.sameBut hs' hp'⟩
end
end Mine
namespace Mine

/-! the small language -/
inductive BOp where | add | sub | mul | fdiv | mod | pow | shl
inductive COp where | eq | ne | lt | le | gt | ge
inductive Att where | plain | first | second | code
inductive Mth where | append | pop | extend | index | parts | labels
inductive BI where | len | list | tuple | range | min | max | sum | any | all

mutual
inductive ME where
  | loc (i : Nat)
  | con (v : AV)
  | gl (n : Nat)
  | bin (op : BOp) (a b : ME)
  | neg (a : ME)
  | not (a : ME)
  | cmp (op : COp) (a b : ME)
  | chn (o1 o2 : COp) (a b c : ME)
  | isN (pos : Bool) (a : ME)
  | nil (eq : Bool) (a : ME)
  | mem (pos : Bool) (a b : ME)
  | bop (and : Bool) (es : MEs)
  | ite (c a b : ME)
  | call (n : Nat) (es : MEs)
  | bi (b : BI) (es : MEs)
  | meth (m : Mth) (o : ME) (es : MEs)
  | sub (o i : ME)
  | slice (o lo hi st : ME)
  | att (o : ME) (n : Att)
  | list (es : MEs)
  | tuple (es : MEs)
  | dict (k : Nat) (v : ME)
  | comp (vis : List Bool) (x : Nat) (elt iter cnd : ME)
inductive MEs where
  | nil
  | cons (e : ME) (es : MEs)
end
inductive MS where
  | skip
  | seq (a b : MS)
  | asg (x : Nat) (e : ME)
  | asgT (xs : List Nat) (e : ME)
  | asgSub (o i e : ME)
  | asgSlice (o lo hi e : ME)
  | asgAtt (o : ME) (n : Att) (e : ME)
  | aug (x : Nat) (op : BOp) (e : ME)
  | exp (e : ME)
  | ifs (c : ME) (a b : MS)
  | fors (x : Nat) (e : ME) (b : MS)
  | forE (i x : Nat) (e : ME) (b : MS)
  | whil (c : ME) (b : MS)
  | ret (e : ME)
  | retN

/-! what the operations give -/
noncomputable def lim : Nat := 2 ^ 20
noncomputable def seqs (M : Mem) : AV → Option (List AV)
  | .lst xs => some xs
  | .tup xs => some xs
  | .ref a => match M a with
    | some (.list xs) => some xs
    | _ => none
  | _ => none
noncomputable def lists (M : Mem) : AV → Option (List AV)
  | .lst xs => some xs
  | .ref a => match M a with
    | some (.list xs) => some xs
    | _ => none
  | _ => none
noncomputable def rngL (lo hi : Int) : List AV := (List.range (hi - lo).toNat).map fun (i : Nat) => AV.int (lo + (i : Int))
noncomputable def iters (M : Mem) : AV → Option (List AV)
  | .rng lo hi => some (rngL lo hi)
  | v => seqs M v
noncomputable def toInts : List AV → Option (List Int)
  | [] => some []
  | .int i :: r => (toInts r).map (i :: ·)
  | _ => none
noncomputable def toBools : List AV → Option (List Bool)
  | [] => some []
  | .bool b :: r => (toBools r).map (b :: ·)
  | _ => none
mutual
noncomputable def toD : AV → Option PyData
  | .none => some .none
  | .bool b => some (.bool b)
  | .int i => some (.int i)
  | .sy n => some (.str (symAt n))
  | .tup xs => (toDs xs).map .tuple
  | .lst xs => (toDs xs).map .list
  | _ => none
noncomputable def toDs : List AV → Option (List PyData)
  | [] => some []
  | x :: xs => match toD x, toDs xs with
    | some d, some ds => some (d :: ds)
    | _, _ => none
end
noncomputable def topD (M : Mem) : AV → Option PyData
  | .ref a => match M a with
    | some (.list xs) => (toDs xs).map .list
    | _ => none
  | v => toD v
noncomputable def getI (xs : List AV) (k : Int) : Option AV := if 0 ≤ k then xs[k.toNat]? else if k.natAbs ≤ xs.length then xs[xs.length - k.natAbs]? else none
noncomputable def partI : AV → Option (Option Int)
  | .none => some none
  | .int i => some (some i)
  | _ => none
noncomputable def pickL (xs : List AV) (lo hi st : Option Int) : List AV :=
  (sliceRange (sliceBounds lo hi st xs.length).1 (sliceBounds lo hi st xs.length).2.1 (sliceBounds lo hi st xs.length).2.2).filterMap (xs[·]?)
noncomputable def lkD : List (Nat × AV) → Nat → Option AV
  | [], _ => none
  | (k, v) :: r, n => if k = n then some v else lkD r n
noncomputable def putD : List (Nat × AV) → Nat → AV → List (Nat × AV)
  | [], n, v => [(n, v)]
  | (k, w) :: r, n, v => if k = n then (k, v) :: r else (k, w) :: putD r n v
noncomputable def Att.key : Att → Nat
  | .plain => 4
  | .first => 5
  | .second => 6
  | .code => 7
noncomputable def cmpI : COp → Int → Int → Bool
  | .eq, a, b => decide (a = b)
  | .ne, a, b => decide (a ≠ b)
  | .lt, a, b => decide (a < b)
  | .le, a, b => decide (a ≤ b)
  | .gt, a, b => decide (b < a)
  | .ge, a, b => decide (b ≤ a)

section

variable (G : Nat → AV) (S : Nat → List AV → Mem → (AV → Mem → Prop) → Prop)

noncomputable abbrev QE := AV → Mem → Env0 → Prop
noncomputable def fresh (xs : List AV) (Q : QE) (M : Mem) (ρ : Env0) : Prop :=
  xs.length ≤ lim ∧ (Q (.lst xs) M ρ ∨ ∀ r, M r = none → Q (.ref r) (upd M r (.list xs)) ρ)
noncomputable def wB (v : AV) (Q : Bool → Prop) : Prop := match v with
  | .bool b => Q b
  | _ => False
noncomputable def wI (v : AV) (Q : Int → Prop) : Prop := match v with
  | .int b => Q b
  | _ => False
noncomputable def wIsN (pos : Bool) (x : AV) (Q : Bool → Prop) : Prop := match x with
  | .none => Q pos
  | .int _ => Q (!pos)
  | .ref _ => Q (!pos)
  | .tup _ => Q (!pos)
  | .lst _ => Q (!pos)
  | _ => False
/-- a branch: where the test is not known both ways -/
noncomputable def br (b : Bool) (P R : Prop) : Prop := match b with
  | true => P
  | false => R
noncomputable def wBinI (op : BOp) (a b : Int) (Q : AV → Prop) : Prop := match op with
  | .add => Q (.int (a + b))
  | .sub => Q (.int (a - b))
  | .mul => False
  | .fdiv => 0 < b ∧ b < 1000000 ∧ Q (.int (a.fdiv b))
  | .mod => b ≠ 0 ∧ Q (.int (a.fmod b))
  | .pow => a = 5 ∧ 0 ≤ b ∧ b ≤ 8 ∧ Q (.int (a ^ b.toNat))
  | .shl => 0 ≤ a ∧ a ≤ 8 ∧ 0 ≤ b ∧ b ≤ 8 ∧ Q (.int (a * 2 ^ b.toNat))
noncomputable def asI : AV → Option Int
  | .int i => some i
  | _ => none
noncomputable def asS : AV → Option Nat
  | .sy i => some i
  | _ => none
noncomputable def wBin (op : BOp) (x y : AV) (Q : QE) (M : Mem) (ρ : Env0) : Prop := match asI y with
  | some b => (match asI x with
    | some a => wBinI op a b fun v => Q v M ρ
    | none => op = .mul ∧ ∃ xs, lists M x = some xs ∧ 0 ≤ b ∧ b ≤ 1000000 ∧ fresh (List.replicate b.toNat xs).flatten Q M ρ)
  | none => op = .add ∧ ∃ xs ys, lists M x = some xs ∧ lists M y = some ys ∧ fresh (xs ++ ys) Q M ρ
noncomputable def wEq (op : COp) (b : Bool) (Q : Bool → Prop) : Prop := match op with
  | .eq => Q b
  | .ne => Q (!b)
  | _ => False
noncomputable def wSy (op : COp) (b : Bool) (Q : Bool → Prop) : Prop := match op with
  | .eq => Q b
  | _ => False
noncomputable def wCmpG (op : COp) (x y : AV) (Q : Bool → Prop) (M : Mem) : Prop := ∃ dx dy, topD M x = some dx ∧ topD M y = some dy ∧ dx.depth ≤ 60 ∧ wEq op (PyData.eqv dx dy) Q
noncomputable def wCmp (op : COp) (x y : AV) (Q : Bool → Prop) (M : Mem) : Prop := match asI x, asI y with
  | some a, some b => Q (cmpI op a b)
  | _, _ => (match asS x, asS y with
    | some a, some b => wSy op (a == b) Q
    | _, _ => wCmpG op x y Q M)
noncomputable def wMem (pos : Bool) (x y : AV) (Q : QE) (M : Mem) (ρ : Env0) : Prop :=
  wI x fun i => ∃ ys is, seqs M y = some ys ∧ toInts ys = some is ∧ Q (.bool (if pos then decide (i ∈ is) else !decide (i ∈ is))) M ρ
noncomputable def wSub (o i : AV) (Q : QE) (M : Mem) (ρ : Env0) : Prop := match i with
  | .int k => ∃ xs x, seqs M o = some xs ∧ getI xs k = some x ∧ -1000000 < k ∧ k < 1000000 ∧ Q x M ρ
  | .sy n => match o with
    | .ref a => ∃ x, M a = some (.dict [(n, x)]) ∧ Q x M ρ
    | _ => False
  | _ => False
noncomputable def wSlice (o lo hi st : AV) (Q : QE) (M : Mem) (ρ : Env0) : Prop :=
  ∃ l h t, partI lo = some l ∧ partI hi = some h ∧ partI st = some t ∧ t ≠ some 0 ∧ match o with
    | .tup xs => ∃ a : Nat, l = some (a : Int) ∧ h = none ∧ t = none ∧ 1 ≤ a ∧ a ≤ xs.length ∧ xs.length ≤ lim ∧ Q (.tup (xs.drop a)) M ρ
    | _ => ∃ xs, lists M o = some xs ∧ xs.length ≤ lim ∧ fresh (pickL xs l h t) Q M ρ
noncomputable def noAny : AV → Bool
  | .any => false
  | _ => true
noncomputable def isInst : AV → Bool
  | .inst .. => true
  | _ => false
noncomputable def wAtt (o : AV) (n : Att) (Q : QE) (M : Mem) (ρ : Env0) : Prop := match n with
  | .code => isInst o = true ∧ S 100 [o] M fun v M => noAny v = true ∧ Q v M ρ
  | n => match o with
    | .inst pl f s => match n with
      | .plain => noAny pl = true ∧ Q pl M ρ
      | .first => noAny f = true ∧ Q f M ρ
      | .second => noAny s = true ∧ Q s M ρ
      | .code => False
    | .piece d => ∃ es x, M d = some (.dict es) ∧ lkD es n.key = some x ∧ noAny x = true ∧ Q x M ρ
    | _ => False
noncomputable def preM (m : Mth) (M : Mem) (x : AV) : Prop := match m with
  | .parts => isInst x = true
  | .labels => isInst x = true
  | _ => ∃ xs, lists M x = some xs
noncomputable def w1 (vs : List AV) (F : AV → Prop) : Prop := match vs with
  | [v] => F v
  | _ => False
noncomputable def w0 (vs : List AV) (P : Prop) : Prop := match vs with
  | [] => P
  | _ => False
noncomputable def wRef (o : AV) (F : Addr → Prop) : Prop := match o with
  | .ref a => F a
  | _ => False
noncomputable def wMeth (m : Mth) (o : AV) (vs : List AV) (Q : QE) (M : Mem) (ρ : Env0) : Prop := match m with
  | .append => wRef o fun a => w1 vs fun v => ∃ xs, M a = some (.list xs) ∧ xs.length < lim ∧ Q .none (upd M a (.list (xs ++ [v]))) ρ
  | .pop => wRef o fun a => w0 vs (∃ xs v, M a = some (.list (xs ++ [v])) ∧ xs.length < lim ∧ Q v (upd M a (.list xs)) ρ)
  | .extend => wRef o fun a => w1 vs fun v => ∃ xs ys, M a = some (.list xs) ∧ lists M v = some ys ∧ v ≠ .ref a ∧ xs.length + ys.length ≤ lim ∧ Q .none (upd M a (.list (xs ++ ys))) ρ
  | .index => w1 vs fun v => wI v fun i => ∃ xs is, lists M o = some xs ∧ toInts xs = some is ∧ is.length ≤ lim ∧ i ∈ is ∧ Q (.int (is.idxOf i : Nat)) M ρ
  | .parts => w0 vs (isInst o = true ∧ S 101 [o] M fun v M => Q v M ρ)
  | .labels => w0 vs (isInst o = true ∧ S 102 [o] M fun v M => Q v M ρ)
noncomputable def w2I (vs : List AV) (F : Int → Int → Prop) : Prop := match vs with
  | u :: r => wI u fun m => w1 r fun v => wI v fun n => F m n
  | _ => False
noncomputable def wRange (vs : List AV) (F : Int → Prop) (G : Int → Int → Prop) : Prop := match vs with
  | [v] => wI v F
  | vs => w2I vs G
noncomputable def wBi (b : BI) (vs : List AV) (Q : QE) (M : Mem) (ρ : Env0) : Prop := match b with
  | .len => w1 vs fun v => ∃ xs, seqs M v = some xs ∧ xs.length ≤ 1000000000 ∧ Q (.int (xs.length : Nat)) M ρ
  | .list => w1 vs fun v => ∃ xs, iters M v = some xs ∧ fresh xs Q M ρ
  | .tuple => w1 vs fun v => ∃ xs, lists M v = some xs ∧ xs.length ≤ lim ∧ Q (.tup xs) M ρ
  | .range => wRange vs (fun n => n ≤ 1000000 ∧ -1000000 < n ∧ Q (.rng 0 n) M ρ) fun m n => n ≤ 1000000 ∧ -1000000 < n ∧ m ≤ 1000000 ∧ -1000000 < m ∧ Q (.rng m n) M ρ
  | .min => w2I vs fun m n => Q (.int (min m n)) M ρ
  | .max => w2I vs fun m n => Q (.int (max m n)) M ρ
  | .sum => w1 vs fun v => ∃ xs is, lists M v = some xs ∧ toInts xs = some is ∧ is.length ≤ lim ∧ Q (.int is.sum) M ρ
  | .any => w1 vs fun v => ∃ xs bs, lists M v = some xs ∧ toBools xs = some bs ∧ bs.length ≤ lim ∧ Q (.bool (bs.any id)) M ρ
  | .all => w1 vs fun v => ∃ xs bs, lists M v = some xs ∧ toBools xs = some bs ∧ bs.length ≤ lim ∧ Q (.bool (bs.all id)) M ρ
noncomputable def maskE : List Bool → Env0 → Env0
  | true :: r, x :: ρ => x :: maskE r ρ
  | false :: r, _ :: ρ => none :: maskE r ρ
  | _, _ => []
/-- the items of a loop, with what must hold of the memory when each is asked for -/
noncomputable def looks (M : Mem) (v : AV) : Option (List AV × (Mem → Prop)) := match v with
  | .lst xs => some (xs, fun _ => True)
  | .tup xs => some (xs, fun _ => True)
  | .rng lo hi => some (rngL lo hi, fun _ => True)
  | .ref a => match M a with
    | some (.list xs) => some (xs, fun M => M a = some (.list xs))
    | _ => none
  | _ => none
noncomputable def wLoop (chk : Mem → Prop) (step : AV → (Mem → Env0 → Prop) → Mem → Env0 → Prop) (Q : Mem → Env0 → Prop) : List AV → Mem → Env0 → Prop
  | [], M, ρ => chk M ∧ Q M ρ
  | x :: xs, M, ρ => chk M ∧ step x (wLoop chk step Q xs) M ρ
noncomputable def wLoopE (chk : Mem → Prop) (step : Nat → AV → (Mem → Env0 → Prop) → Mem → Env0 → Prop) (Q : Mem → Env0 → Prop) : Nat → List AV → Mem → Env0 → Prop
  | _, [], M, ρ => chk M ∧ Q M ρ
  | n, x :: xs, M, ρ => chk M ∧ step n x (wLoopE chk step Q (n + 1) xs) M ρ
noncomputable def wComp (chk : Mem → Prop) (step : AV → (Option AV → Mem → Prop) → Mem → Prop) (Q : List AV → Mem → Prop) : List AV → List AV → Mem → Prop
  | [], acc, M => chk M ∧ Q acc M
  | x :: xs, acc, M => chk M ∧ step x (fun r M => match r with
    | some v => wComp chk step Q xs (acc ++ [v]) M
    | none => wComp chk step Q xs acc M) M

mutual
noncomputable def WE : ME → QE → Mem → Env0 → Prop
  | .loc i, Q, M, ρ => match lk ρ i with
    | some v => Q v M ρ
    | none => False
  | .con v, Q, M, ρ => Q v M ρ
  | .gl n, Q, M, ρ => Q (G n) M ρ
  | .bin op a b, Q, M, ρ => WE a (fun x M ρ => WE b (fun y M ρ => wBin op x y Q M ρ) M ρ) M ρ
  | .neg a, Q, M, ρ => WE a (fun x M ρ => wI x fun i => Q (.int (-i)) M ρ) M ρ
  | .not a, Q, M, ρ => WE a (fun x M ρ => wB x fun b => Q (.bool (!b)) M ρ) M ρ
  | .cmp op a b, Q, M, ρ => WE a (fun x M ρ => WE b (fun y M ρ => wCmp op x y (fun t => Q (.bool t) M ρ) M) M ρ) M ρ
  | .chn o1 o2 a b c, Q, M, ρ => WE a (fun x M ρ => WE b (fun y M ρ => wI x fun i => wI y fun j =>
      br (cmpI o1 i j) (WE c (fun z M ρ => wI z fun k => Q (.bool (cmpI o2 j k)) M ρ) M ρ) (Q (.bool false) M ρ)) M ρ) M ρ
  | .isN pos a, Q, M, ρ => WE a (fun x M ρ => wIsN pos x (fun b => Q (.bool b) M ρ)) M ρ
  | .nil eq a, Q, M, ρ => WE a (fun x M ρ => ∃ xs, lists M x = some xs ∧ Q (.bool (if eq then xs.isEmpty else !xs.isEmpty)) M ρ) M ρ
  | .mem pos a b, Q, M, ρ => WE a (fun x M ρ => WE b (fun y M ρ => wMem pos x y Q M ρ) M ρ) M ρ
  | .bop and es, Q, M, ρ => WB and es Q M ρ
  | .ite c a b, Q, M, ρ => WE c (fun x M ρ => wB x fun t => br t (WE a Q M ρ) (WE b Q M ρ)) M ρ
  | .call n es, Q, M, ρ => WL es (fun vs M ρ => S n vs M fun r M => Q r M ρ) M ρ
  | .bi b es, Q, M, ρ => WL es (fun vs M ρ => wBi b vs Q M ρ) M ρ
  | .meth m o es, Q, M, ρ => WE o (fun x M ρ => preM m M x ∧ WL es (fun vs M ρ => wMeth S m x vs Q M ρ) M ρ) M ρ
  | .sub o i, Q, M, ρ => WE o (fun x M ρ => WE i (fun y M ρ => wSub x y Q M ρ) M ρ) M ρ
  | .slice o lo hi st, Q, M, ρ => WE o (fun x M ρ => WE lo (fun l M ρ => WE hi (fun h M ρ => WE st (fun t M ρ => wSlice x l h t Q M ρ) M ρ) M ρ) M ρ) M ρ
  | .att o n, Q, M, ρ => WE o (fun x M ρ => wAtt S x n Q M ρ) M ρ
  | .list es, Q, M, ρ => WL es (fun vs M ρ => fresh vs Q M ρ) M ρ
  | .tuple es, Q, M, ρ => WL es (fun vs M ρ => vs.length ≤ lim ∧ Q (.tup vs) M ρ) M ρ
  | .dict k v, Q, M, ρ => WE v (fun x M ρ => ∀ r, M r = none → Q (.ref r) (upd M r (.dict [(k, x)])) ρ) M ρ
  | .comp vis x elt iter cnd, Q, M, ρ => WE iter (fun y M ρ => ∃ xs chk, looks M y = some (xs, chk) ∧ xs.length ≤ lim ∧
      wComp chk (fun v k M => WE cnd (fun t M ρ' => wB t fun b => ρ' = stv (maskE vis ρ) x v ∧ br b (WE elt (fun r M ρ2 => ρ2 = ρ' ∧ k (some r) M) M ρ') (k none M)) M (stv (maskE vis ρ) x v))
        (fun acc M => fresh acc Q M ρ) xs [] M) M ρ
noncomputable def WL : MEs → (List AV → Mem → Env0 → Prop) → Mem → Env0 → Prop
  | .nil, Q, M, ρ => Q [] M ρ
  | .cons e es, Q, M, ρ => WE e (fun v M ρ => WL es (fun vs M ρ => Q (v :: vs) M ρ) M ρ) M ρ
noncomputable def WB : Bool → MEs → QE → Mem → Env0 → Prop
  | _, .nil, _, _, _ => False
  | and, .cons e es, Q, M, ρ => match es with
    | .nil => WE e Q M ρ
    | es => WE e (fun x M ρ => wB x fun b => br (b == and) (WB and es Q M ρ) (Q (.bool b) M ρ)) M ρ
end
end
end Mine
namespace Mine
section
variable (G : Nat → AV) (S : Nat → List AV → Mem → (AV → Mem → Prop) → Prop)

noncomputable def stvs : Env0 → List Nat → List AV → Env0
  | ρ, i :: is, v :: vs => stvs (stv ρ i v) is vs
  | ρ, _, _ => ρ
noncomputable def wStore (o i v : AV) (Q : Mem → Env0 → Prop) (M : Mem) (ρ : Env0) : Prop := match o, i with
  | .ref a, .int k => ∃ xs, M a = some (.list xs) ∧ k < 0 ∧ -1000000 < k ∧ k.natAbs ≤ xs.length ∧ Q (upd M a (.list (xs.set (xs.length - k.natAbs) v))) ρ
  | .ref a, .sy n => ∃ w, M a = some (.dict [(n, w)]) ∧ Q (upd M a (.dict [(n, v)])) ρ
  | _, _ => False
/-- where a slice's end lies -/
noncomputable def clipN (k : Option Int) (dflt n : Nat) : Nat := match k with
  | none => dflt
  | some k => if k < 0 then (k + (n : Int)).toNat else min k.toNat n
noncomputable def wStoreSl (o lo hi v : AV) (Q : Mem → Env0 → Prop) (M : Mem) (ρ : Env0) : Prop := match o with
  | .ref a => ∃ l h xs ys, partI lo = some l ∧ partI hi = some h ∧ M a = some (.list xs) ∧ lists M v = some ys ∧ v ≠ .ref a ∧ xs.length + ys.length ≤ lim ∧
      Q (upd M a (.list (xs.take (clipN l 0 xs.length) ++ ys ++ xs.drop (max (clipN l 0 xs.length) (clipN h xs.length xs.length))))) ρ
  | _ => False
noncomputable def wSetA (o : AV) (n : Att) (v : AV) (Q : Mem → Env0 → Prop) (M : Mem) (ρ : Env0) : Prop := match o with
  | .piece d => ∃ es, n.key < 7 ∧ M d = some (.dict es) ∧ es.length ≤ 3 ∧ Q (upd M d (.dict (putD es n.key v))) ρ
  | _ => False
noncomputable def wAug (op : BOp) (a b : Int) (Q : AV → Prop) : Prop := match op with
  | .add => Q (.int (a + b))
  | .sub => Q (.int (a - b))
  | _ => False
noncomputable def wWhile (tst : (Bool → Mem → Env0 → Prop) → Mem → Env0 → Prop) (step : (Mem → Env0 → Prop) → Mem → Env0 → Prop) (Q : Mem → Env0 → Prop) : Nat → Mem → Env0 → Prop
  | 0, _, _ => False
  | n + 1, M, ρ => tst (fun b M ρ => br b (step (wWhile tst step Q n) M ρ) (Q M ρ)) M ρ

noncomputable def WS : MS → (Mem → Env0 → Prop) → (AV → Mem → Prop) → Mem → Env0 → Prop
  | .skip, Q, _, M, ρ => Q M ρ
  | .seq a b, Q, R, M, ρ => WS a (fun M ρ => WS b Q R M ρ) R M ρ
  | .asg x e, Q, _, M, ρ => WE G S e (fun v M ρ => Q M (stv ρ x v)) M ρ
  | .asgT is e, Q, _, M, ρ => WE G S e (fun v M ρ => ∃ xs, v = .tup xs ∧ xs.length = is.length ∧ Q M (stvs ρ is xs)) M ρ
  | .asgSub o i e, Q, _, M, ρ => WE G S e (fun v M ρ => WE G S o (fun x M ρ => WE G S i (fun y M ρ => wStore x y v Q M ρ) M ρ) M ρ) M ρ
  | .asgSlice o lo hi e, Q, _, M, ρ => WE G S e (fun v M ρ => WE G S o (fun x M ρ => WE G S lo (fun l M ρ => WE G S hi (fun h M ρ => wStoreSl x l h v Q M ρ) M ρ) M ρ) M ρ) M ρ
  | .asgAtt o n e, Q, _, M, ρ => WE G S e (fun v M ρ => WE G S o (fun x M ρ => wSetA x n v Q M ρ) M ρ) M ρ
  | .aug x op e, Q, _, M, ρ => ∃ i, lk ρ x = some (.int i) ∧ WE G S e (fun v M ρ => wI v fun j => wAug op i j fun r => Q M (stv ρ x r)) M ρ
  | .exp e, Q, _, M, ρ => WE G S e (fun _ M ρ => Q M ρ) M ρ
  | .ifs c a b, Q, R, M, ρ => WE G S c (fun v M ρ => wB v fun t => br t (WS a Q R M ρ) (WS b Q R M ρ)) M ρ
  | .fors x e b, Q, R, M, ρ => WE G S e (fun y M ρ => ∃ xs chk, looks M y = some (xs, chk) ∧ wLoop chk (fun v k M ρ => WS b k R M (stv ρ x v)) Q xs M ρ) M ρ
  | .forE i x e b, Q, R, M, ρ => WE G S e (fun y M ρ => ∃ xs chk, lists M y = some xs ∧ looks M y = some (xs, chk) ∧ wLoopE chk (fun n v k M ρ => WS b k R M (stv (stv ρ i (.int (n : Nat))) x v)) Q 0 xs M ρ) M ρ
  | .whil c b, Q, R, M, ρ => ∃ n, wWhile (fun k M ρ => WE G S c (fun v M ρ => wB v fun t => k t M ρ) M ρ) (fun k M ρ => WS b k R M ρ) Q n M ρ
  | .ret e, _, R, M, ρ => WE G S e (fun v M _ => R v M) M ρ
  | .retN, _, R, M, _ => R .none M
end

example (G S Q R M ρ) : WS G S (.seq (.asg 0 (.con (.int 1))) (.ret (.bin .add (.loc 0) (.con (.int 2))))) Q R M (none :: ρ) = R (.int 3) M := rfl
example (G S) (Q : QE) (M ρ) : WE G S (.tuple (.cons (.con .none) (.cons (.bop true (.cons (.con (.bool true)) (.cons (.con (.bool false)) .nil))) .nil))) Q M ρ = (2 ≤ lim ∧ Q (.tup [.none, .bool false]) M ρ) := rfl
end Mine
namespace Mine

noncomputable def gTab : List Str := (["I32_EQZ", "I32_EQ", "I64_EQZ", "I64_EQ", "I32_CLZ", "I32_ADD", "I64_CLZ", "I64_ADD", "WRAP", "EXTEND_S", "EXTEND_U", "I32_EXTEND8", "I64_EXTEND8", "FIRST_DIVISION", "LAST_DIVISION",
  "UNREACHABLE", "NOP", "BLOCK", "LOOP", "IF", "ELSE", "END", "BR", "BR_IF", "BR_TABLE", "DROP", "SELECT", "SELECT_KINDS", "LOCAL_SET", "LOCAL_TEE", "REF_IS_NULL", "COUNTS", "COMPARES", "REST", "LAST", "PUTS"] : List String).map Str.ofString
noncomputable def gVals : List AV := [.int 69, .int 70, .int 80, .int 81, .int 103, .int 106, .int 121, .int 124, .int 167, .int 172, .int 173, .int 192, .int 194, .int 3, .int 6,
  .int 0, .int 1, .int 2, .int 3, .int 4, .int 5, .int 11, .int 12, .int 13, .int 14, .int 26, .int 27, .int 28, .int 33, .int 34, .int 209,
  .tup (List.replicate 3 .any), .tup (List.replicate 10 .any), .tup (List.replicate 15 .any), .tup [.int 0, .int 12, .int 14, .int 15, .int 18, .int 19], .tup [.int 32, .int 35, .int 65, .int 66, .int 63, .int 64528, .int 208, .int 210]]
noncomputable def gAV (n : Nat) : AV := gVals.getD n .none
noncomputable def gAt (n : Nat) : Str := gTab.getD n Str.empty

noncomputable def fnTab : List Str := (["Piece", "pieces_of", "put_pieces", "body_of", "is_named", "place_in", "narrow_of", "is_unary", "is_binary", "can_trap", "takes_of", "never_ends", "never_goes_on", "cut_dead", "put_drop", "cut_drops",
  "_law_next", "_law_node", "_law_nodes", "_law_flat", "_law_come_to", "_law_is_cut_right", "_law_pure", "_law_numbers", "_law_others", "_law_drops", "_law_dropped", "law"] : List String).map Str.ofString
noncomputable def fnAt (n : Nat) : Str := fnTab.getD n Str.empty

noncomputable def gl (K : Frag) (x : Str) : Option Value := if x == ("__name__" : Str) then none else match nsIn K mainGlobals x with
  | some (some v) => some v
  | some none => bootBuiltins x
  | none => none

structure Tx where
  tbl : List Str
  names : List (Str × NameKind)
noncomputable def Tx.isGlobal (T : Tx) (x : Str) : Bool := T.names.lookup x == some .globalImplicit
noncomputable def Tx.slot (T : Tx) (x : Str) : Option Nat := if T.isGlobal x then none else T.tbl.idxOf? x
noncomputable def Tx.store (T : Tx) (x : Str) : Option Nat := if T.names.lookup x == some .local || T.names.lookup x == some .cell then T.tbl.idxOf? x else none

noncomputable def BOp.py : BOp → Operator
  | .add => .Add
  | .sub => .Sub
  | .mul => .Mult
  | .fdiv => .FloorDiv
  | .mod => .Mod
  | .pow => .Pow
  | .shl => .LShift
noncomputable def COp.py : COp → CmpOp
  | .eq => .Eq
  | .ne => .NotEq
  | .lt => .Lt
  | .le => .LtE
  | .gt => .Gt
  | .ge => .GtE
noncomputable def BI.name : BI → Str
  | .len => Str.ofString "len"
  | .list => Str.ofString "list"
  | .tuple => Str.ofString "tuple"
  | .range => Str.ofString "range"
  | .min => Str.ofString "min"
  | .max => Str.ofString "max"
  | .sum => Str.ofString "sum"
  | .any => Str.ofString "any"
  | .all => Str.ofString "all"
noncomputable def biTab : List BI := [.len, .list, .tuple, .range, .min, .max, .sum, .any, .all]
noncomputable def Mth.name : Mth → Str
  | .append => Str.ofString "append"
  | .pop => Str.ofString "pop"
  | .extend => Str.ofString "extend"
  | .index => Str.ofString "index"
  | .parts => Str.ofString "parts"
  | .labels => Str.ofString "labels"
noncomputable def Mth.arity : Mth → Nat
  | .append => 1
  | .extend => 1
  | .index => 1
  | _ => 0
noncomputable def Att.name : Att → Str
  | .plain => Str.ofString "plain"
  | .first => Str.ofString "first"
  | .second => Str.ofString "second"
  | .code => Str.ofString "code"
noncomputable def opOf (and : Bool) : BoolOp := if and then .And else .Or
noncomputable def vis (T : Tx) (names : List (Str × NameKind)) : List Bool := T.tbl.map fun x => names.lookup x == some .free

noncomputable def innerNames (names : List (Str × NameKind)) (sc : Scope) : List (Str × NameKind) :=
  sc.names.map fun (n, k) => if (k == NameKind.free && true && names.lookup n == some .cell) then (n, NameKind.cell) else (n, k)
noncomputable def compOk (T : Tx) (sc : Scope) : Bool :=
  sc.kind == .function && sc.names.all (fun x => x.2 != .cell && (x.2 != .local || sc.names.lookup x.1 == some .local) && (x.2 != .free || (T.names.lookup x.1 == some .cell))) && decide (sc.names.map (·.1)).Nodup


/-! the checker: is this text of the program that term of the small language? -/
theorem not_of {a : Bool} (h : (!a) = true) : a = false := by cases a <;> first | rfl | exact ff h
theorem and2 {a b : Bool} (h : (a && b) = true) : a = true ∧ b = true := Bool.and_eq_true_iff.mp h
/-- an expression, its parts laid open -/
structure V where
  tag : Nat
  c : Const := default
  x : Str := Str.empty
  l : Expr := default
  r : Expr := default
  q : Expr := default
  op : Operator := .Add
  un : UnaryOp := .Not
  bo : BoolOp := .And
  ops : List CmpOp := []
  es : List Expr := []
  kw : List Keyword := []
  o1 : Option Expr := none
  o2 : Option Expr := none
  o3 : Option Expr := none
  ks : List (Option Expr) := []
  gs : List Comprehension := []
  sc : Scope := default
  n : Nat := 0
  p : Pos := default
noncomputable def V.mk' (t : Nat) (p : Pos) : V := { tag := t, p := p }
noncomputable def view : Expr → V
  | .Constant c n p => { V.mk' 1 p with c := c, n := n }
  | .Name x p => { V.mk' 2 p with x := x }
  | .BinOp l op r p => { V.mk' 3 p with l := l, op := op, r := r }
  | .UnaryOp un l p => { V.mk' 4 p with un := un, l := l }
  | .Compare l ops es p => { V.mk' 5 p with l := l, ops := ops, es := es }
  | .BoolOp bo es p => { V.mk' 6 p with bo := bo, es := es }
  | .IfExp l r q p => { V.mk' 7 p with l := l, r := r, q := q }
  | .Call l es kw p => { V.mk' 8 p with l := l, es := es, kw := kw }
  | .Attribute l x p => { V.mk' 9 p with l := l, x := x }
  | .Subscript l r p => { V.mk' 10 p with l := l, r := r }
  | .Slice a b c p => { V.mk' 11 p with o1 := a, o2 := b, o3 := c }
  | .List es p => { V.mk' 12 p with es := es }
  | .Tuple es n p => { V.mk' 13 p with es := es, n := n }
  | .Dict ks es p => { V.mk' 14 p with ks := ks, es := es }
  | .ListComp l gs sc p => { V.mk' 15 p with l := l, gs := gs, sc := sc }
  | _ => V.mk' 0 default
noncomputable def back (v : V) : Nat → Expr
  | 1 => .Constant v.c v.n v.p
  | 2 => .Name v.x v.p
  | 3 => .BinOp v.l v.op v.r v.p
  | 4 => .UnaryOp v.un v.l v.p
  | 5 => .Compare v.l v.ops v.es v.p
  | 6 => .BoolOp v.bo v.es v.p
  | 7 => .IfExp v.l v.r v.q v.p
  | 8 => .Call v.l v.es v.kw v.p
  | 9 => .Attribute v.l v.x v.p
  | 10 => .Subscript v.l v.r v.p
  | 11 => .Slice v.o1 v.o2 v.o3 v.p
  | 12 => .List v.es v.p
  | 13 => .Tuple v.es v.n v.p
  | 14 => .Dict v.ks v.es v.p
  | 15 => .ListComp v.l v.gs v.sc v.p
  | _ => default
theorem view_back {t : Nat} {e : Expr} (h : Nat.beq (view e).tag (t + 1) = true) : e = back (view e) (t + 1) := by
  rw [← Nat.eq_of_beq_eq_true h]
  cases e <;> first | rfl | exact ff h
noncomputable def onCon (e : Expr) (f : Const → Bool) : Bool := Nat.beq (view e).tag 1 && f (view e).c
noncomputable def onName (e : Expr) (f : Str → Bool) : Bool := Nat.beq (view e).tag 2 && f (view e).x
noncomputable def onBin (e : Expr) (f : Expr → Operator → Expr → Bool) : Bool := Nat.beq (view e).tag 3 && f (view e).l (view e).op (view e).r
noncomputable def onUn (e : Expr) (f : UnaryOp → Expr → Bool) : Bool := Nat.beq (view e).tag 4 && f (view e).un (view e).l
noncomputable def onCmp (e : Expr) (f : Expr → List CmpOp → List Expr → Bool) : Bool := Nat.beq (view e).tag 5 && f (view e).l (view e).ops (view e).es
noncomputable def onBop (e : Expr) (f : BoolOp → List Expr → Bool) : Bool := Nat.beq (view e).tag 6 && f (view e).bo (view e).es
noncomputable def onIf (e : Expr) (f : Expr → Expr → Expr → Bool) : Bool := Nat.beq (view e).tag 7 && f (view e).l (view e).r (view e).q
noncomputable def onCall (e : Expr) (f : Expr → List Expr → List Keyword → Pos → Bool) : Bool := Nat.beq (view e).tag 8 && f (view e).l (view e).es (view e).kw (view e).p
noncomputable def onAtt (e : Expr) (f : Expr → Str → Pos → Bool) : Bool := Nat.beq (view e).tag 9 && f (view e).l (view e).x (view e).p
noncomputable def onSub (e : Expr) (f : Expr → Expr → Bool) : Bool := Nat.beq (view e).tag 10 && f (view e).l (view e).r
noncomputable def onSlice (e : Expr) (f : Option Expr → Option Expr → Option Expr → Bool) : Bool := Nat.beq (view e).tag 11 && f (view e).o1 (view e).o2 (view e).o3
noncomputable def onList (e : Expr) (f : List Expr → Bool) : Bool := Nat.beq (view e).tag 12 && f (view e).es
noncomputable def onTup (e : Expr) (f : List Expr → Bool) : Bool := Nat.beq (view e).tag 13 && f (view e).es
noncomputable def onDict (e : Expr) (f : List (Option Expr) → List Expr → Bool) : Bool := Nat.beq (view e).tag 14 && f (view e).ks (view e).es
noncomputable def onComp (e : Expr) (f : Expr → List Comprehension → Scope → Bool) : Bool := Nat.beq (view e).tag 15 && f (view e).l (view e).gs (view e).sc
theorem onCon_inv {e : Expr} {f : Const → Bool} (h : onCon e f = true) : ∃ c n p, e = .Constant c n p ∧ f c = true := let a := and2 h; ⟨_, _, _, view_back a.1, a.2⟩
theorem onName_inv {e : Expr} {f : Str → Bool} (h : onName e f = true) : ∃ x p, e = .Name x p ∧ f x = true := let a := and2 h; ⟨_, _, view_back a.1, a.2⟩
theorem onBin_inv {e : Expr} {f : Expr → Operator → Expr → Bool} (h : onBin e f = true) : ∃ l op r p, e = .BinOp l op r p ∧ f l op r = true := let a := and2 h; ⟨_, _, _, _, view_back a.1, a.2⟩
theorem onUn_inv {e : Expr} {f : UnaryOp → Expr → Bool} (h : onUn e f = true) : ∃ op x p, e = .UnaryOp op x p ∧ f op x = true := let a := and2 h; ⟨_, _, _, view_back a.1, a.2⟩
theorem onCmp_inv {e : Expr} {f : Expr → List CmpOp → List Expr → Bool} (h : onCmp e f = true) : ∃ l ops rs p, e = .Compare l ops rs p ∧ f l ops rs = true := let a := and2 h; ⟨_, _, _, _, view_back a.1, a.2⟩
theorem onBop_inv {e : Expr} {f : BoolOp → List Expr → Bool} (h : onBop e f = true) : ∃ op es p, e = .BoolOp op es p ∧ f op es = true := let a := and2 h; ⟨_, _, _, view_back a.1, a.2⟩
theorem onIf_inv {e : Expr} {f : Expr → Expr → Expr → Bool} (h : onIf e f = true) : ∃ c x y p, e = .IfExp c x y p ∧ f c x y = true := let a := and2 h; ⟨_, _, _, _, view_back a.1, a.2⟩
theorem onCall_inv {e : Expr} {f : Expr → List Expr → List Keyword → Pos → Bool} (h : onCall e f = true) : ∃ g es kw p, e = .Call g es kw p ∧ f g es kw p = true := let a := and2 h; ⟨_, _, _, _, view_back a.1, a.2⟩
theorem onAtt_inv {e : Expr} {f : Expr → Str → Pos → Bool} (h : onAtt e f = true) : ∃ o x p, e = .Attribute o x p ∧ f o x p = true := let a := and2 h; ⟨_, _, _, view_back a.1, a.2⟩
theorem onSub_inv {e : Expr} {f : Expr → Expr → Bool} (h : onSub e f = true) : ∃ o i p, e = .Subscript o i p ∧ f o i = true := let a := and2 h; ⟨_, _, _, view_back a.1, a.2⟩
theorem onSlice_inv {e : Expr} {f : Option Expr → Option Expr → Option Expr → Bool} (h : onSlice e f = true) : ∃ x y z p, e = .Slice x y z p ∧ f x y z = true := let a := and2 h; ⟨_, _, _, _, view_back a.1, a.2⟩
theorem onList_inv {e : Expr} {f : List Expr → Bool} (h : onList e f = true) : ∃ es p, e = .List es p ∧ f es = true := let a := and2 h; ⟨_, _, view_back a.1, a.2⟩
theorem onTup_inv {e : Expr} {f : List Expr → Bool} (h : onTup e f = true) : ∃ es n p, e = .Tuple es n p ∧ f es = true := let a := and2 h; ⟨_, _, _, view_back a.1, a.2⟩
theorem onDict_inv {e : Expr} {f : List (Option Expr) → List Expr → Bool} (h : onDict e f = true) : ∃ ks vs p, e = .Dict ks vs p ∧ f ks vs = true := let a := and2 h; ⟨_, _, _, view_back a.1, a.2⟩
theorem onComp_inv {e : Expr} {f : Expr → List Comprehension → Scope → Bool} (h : onComp e f = true) : ∃ el gs sc p, e = .ListComp el gs sc p ∧ f el gs sc = true := let a := and2 h; ⟨_, _, _, _, view_back a.1, a.2⟩
noncomputable def onOne {α : Type} (l : List α) (f : α → Bool) : Bool := match l with
  | [a] => f a
  | _ => false
noncomputable def onCons {α : Type} (l : List α) (f : α → List α → Bool) : Bool := match l with
  | a :: r => f a r
  | _ => false
noncomputable def onOpt {α : Type} (o : Option α) (n : Bool) (f : α → Bool) : Bool := match o with
  | none => n
  | some a => f a
noncomputable def chkK (v : AV) (c : Const) : Bool := match v with
  | .none => (match c with | .none => true | _ => false)
  | .bool b => (match c with | .bool a => a == b | _ => false)
  | .int i => (match c with | .int a => decide (a = i) | _ => false)
  | .sy k => (match c with | .str x => decide (symTab[k]? = some x) | _ => false)
  | _ => false
noncomputable def isCN : ME → Bool
  | .con .none => true
  | _ => false
noncomputable def isCT : ME → Bool
  | .con (.bool true) => true
  | _ => false
noncomputable def isBase (e : Expr) : Bool := Nat.beq (view e).tag 2 || Nat.beq (view e).tag 10
noncomputable def inTx (T : Tx) (sc : Scope) : Tx := ⟨T.tbl, innerNames T.names sc⟩

mutual
noncomputable def chkE : ME → Tx → Expr → Bool
  | .loc i, T, pe => onName pe fun x => !T.isGlobal x && decide (T.tbl[i]? = some x)
  | .con v, _, pe => onCon pe (chkK v)
  | .gl i, T, pe => onName pe fun x => T.isGlobal x && decide (gTab[i]? = some x)
  | .bin o a b, T, pe => onBin pe fun l op r => decide (op = o.py) && (chkE a T l && chkE b T r)
  | .neg a, T, pe => onUn pe fun op x => decide (op = .USub) && chkE a T x
  | .not a, T, pe => onUn pe fun op x => decide (op = .Not) && chkE a T x
  | .cmp o a b, T, pe => onCmp pe fun l ops rs => decide (ops = [o.py]) && onOne rs fun r => chkE a T l && chkE b T r
  | .chn o1 o2 a b c, T, pe => onCmp pe fun l ops rs => decide (ops = [o1.py, o2.py]) && onCons rs fun r rs => onOne rs fun q => chkE a T l && (chkE b T r && chkE c T q)
  | .isN pos a, T, pe => onCmp pe fun l ops rs => decide (ops = [if pos then .Is else .IsNot]) && onOne rs fun r => onCon r (chkK .none) && chkE a T l
  | .nil eq a, T, pe => onCmp pe fun l ops rs => decide (ops = [if eq then .Eq else .NotEq]) && onOne rs fun r => onList r List.isEmpty && chkE a T l
  | .mem pos a b, T, pe => onCmp pe fun l ops rs => decide (ops = [if pos then .In else .NotIn]) && onOne rs fun r => chkE a T l && chkE b T r
  | .bop and es, T, pe => onBop pe fun op l => decide (op = opOf and) && chkL es T l
  | .ite c a b, T, pe => onIf pe fun x y z => chkE c T x && (chkE a T y && chkE b T z)
  | .call n es, T, pe => onCall pe fun g l kw _ => kw.isEmpty && onName g fun x => T.isGlobal x && (decide (fnTab[n]? = some x) && chkL es T l)
  | .bi b es, T, pe => onCall pe fun g l kw _ => kw.isEmpty && onName g fun x => T.isGlobal x && (decide (x = b.name) && chkL es T l)
  | .meth m o es, T, pe => onCall pe fun g l kw p => kw.isEmpty && onAtt g fun ob x ap => (ap.endLine == p.line) && (isBase ob && (decide (x = m.name) && (decide (l.length = m.arity) && (chkE o T ob && chkL es T l))))
  | .sub o i, T, pe => onSub pe fun x y => chkE o T x && chkE i T y
  | .slice o lo hi st, T, pe => onSub pe fun x y => onSlice y fun l h s => chkE o T x && (onOpt l (isCN lo) (chkE lo T) && (onOpt h (isCN hi) (chkE hi T) && onOpt s (isCN st) (chkE st T)))
  | .att o n, T, pe => onAtt pe fun x a _ => decide (a = n.name) && (isBase x && chkE o T x)
  | .list es, T, pe => onList pe (chkL es T)
  | .tuple es, T, pe => onTup pe (chkL es T)
  | .dict k v, T, pe => onDict pe fun ks vs => onOne ks fun k' => onOpt k' false fun k' => onCon k' fun c => chkK (.sy k) c && onOne vs (chkE v T)
  | .comp vs i el it cnd, T, pe => onComp pe fun el' gs sc => onOne gs fun g => onName g.target fun x => decide (g.is_async = 0) && (compOk T sc && (decide (sc.names.lookup x = some .local) && (decide (T.tbl[i]? = some x) && (decide (vis T sc.names = vs) &&
      (chkE el (inTx T sc) el' && (chkE it T g.iter && (g.ifs.isEmpty && isCT cnd || onOne g.ifs (chkE cnd (inTx T sc)))))))))
noncomputable def chkL : MEs → Tx → List Expr → Bool
  | .nil, _, es => es.isEmpty
  | .cons a as, T, es => onCons es fun e r => chkE a T e && chkL as T r
end

noncomputable def isLComp (e : Expr) : Bool := Nat.beq (view e).tag 15
noncomputable def tupOk (e : Expr) : Bool := !(Nat.beq (view e).tag 13 && (view e).es.all (constantsAlone 8))
noncomputable def chkN (T : Tx) : List Nat → List Expr → Bool
  | [], ts => ts.isEmpty
  | i :: is, ts => onCons ts fun t r => onName t fun x => decide (T.store x = some i) && chkN T is r

structure SV where
  tag : Nat
  t : Expr := default
  v : Expr := default
  op : Operator := .Add
  a : List Stmt := []
  b : List Stmt := []
  ts : List Expr := []
  o : Option Expr := none
  p : Pos := default
noncomputable def SV.mk' (t : Nat) (p : Pos) : SV := { tag := t, p := p }
noncomputable def viewS : Stmt → SV
  | .Assign ts v p => { SV.mk' 1 p with ts := ts, v := v }
  | .AugAssign t op v p => { SV.mk' 2 p with t := t, op := op, v := v }
  | .Expr v p => { SV.mk' 3 p with v := v }
  | .If v a b p => { SV.mk' 4 p with v := v, a := a, b := b }
  | .For t v a b p => { SV.mk' 5 p with t := t, v := v, a := a, b := b }
  | .While v a b p => { SV.mk' 6 p with v := v, a := a, b := b }
  | .Return o p => { SV.mk' 7 p with o := o }
  | _ => SV.mk' 0 default
noncomputable def backS (v : SV) : Nat → Stmt
  | 1 => .Assign v.ts v.v v.p
  | 2 => .AugAssign v.t v.op v.v v.p
  | 3 => .Expr v.v v.p
  | 4 => .If v.v v.a v.b v.p
  | 5 => .For v.t v.v v.a v.b v.p
  | 6 => .While v.v v.a v.b v.p
  | 7 => .Return v.o v.p
  | _ => .Pass v.p
theorem viewS_back {t : Nat} {s : Stmt} (h : Nat.beq (viewS s).tag (t + 1) = true) : s = backS (viewS s) (t + 1) := by
  rw [← Nat.eq_of_beq_eq_true h]
  cases s <;> first | rfl | exact ff h
noncomputable def onAsg (s : Stmt) (f : Expr → Expr → Bool) : Bool := Nat.beq (viewS s).tag 1 && onOne (viewS s).ts fun t => f t (viewS s).v
noncomputable def onAug (s : Stmt) (f : Expr → Operator → Expr → Bool) : Bool := Nat.beq (viewS s).tag 2 && f (viewS s).t (viewS s).op (viewS s).v
noncomputable def onExp (s : Stmt) (f : Expr → Bool) : Bool := Nat.beq (viewS s).tag 3 && f (viewS s).v
noncomputable def onIfs (s : Stmt) (f : Expr → List Stmt → List Stmt → Bool) : Bool := Nat.beq (viewS s).tag 4 && f (viewS s).v (viewS s).a (viewS s).b
noncomputable def onFor (s : Stmt) (f : Expr → Expr → List Stmt → Bool) : Bool := Nat.beq (viewS s).tag 5 && ((viewS s).b.isEmpty && f (viewS s).t (viewS s).v (viewS s).a)
noncomputable def onWhile (s : Stmt) (f : Expr → List Stmt → Bool) : Bool := Nat.beq (viewS s).tag 6 && ((viewS s).b.isEmpty && f (viewS s).v (viewS s).a)
noncomputable def onRet (s : Stmt) (f : Option Expr → Bool) : Bool := Nat.beq (viewS s).tag 7 && f (viewS s).o
theorem nil_of {α : Type} {l : List α} (h : l.isEmpty = true) : l = [] := List.isEmpty_iff.mp h
theorem onOne_inv {α : Type} {l : List α} {f : α → Bool} (h : onOne l f = true) : ∃ a, l = [a] ∧ f a = true := match l, h with
  | [a], h => ⟨a, rfl, h⟩
theorem onCons_inv {α : Type} {l : List α} {f : α → List α → Bool} (h : onCons l f = true) : ∃ a r, l = a :: r ∧ f a r = true := match l, h with
  | a :: r, h => ⟨a, r, rfl, h⟩
theorem onAsg_inv {s : Stmt} {f : Expr → Expr → Bool} (h : onAsg s f = true) : ∃ t v p, s = .Assign [t] v p ∧ f t v = true := let a := and2 h; let ⟨t, e, b⟩ := onOne_inv a.2; ⟨t, _, _, (viewS_back a.1).trans (congrArg (fun l => Stmt.Assign l (viewS s).v (viewS s).p) e), b⟩
theorem onAug_inv {s : Stmt} {f : Expr → Operator → Expr → Bool} (h : onAug s f = true) : ∃ t op v p, s = .AugAssign t op v p ∧ f t op v = true := let a := and2 h; ⟨_, _, _, _, viewS_back a.1, a.2⟩
theorem onExp_inv {s : Stmt} {f : Expr → Bool} (h : onExp s f = true) : ∃ v p, s = .Expr v p ∧ f v = true := let a := and2 h; ⟨_, _, viewS_back a.1, a.2⟩
theorem onIfs_inv {s : Stmt} {f : Expr → List Stmt → List Stmt → Bool} (h : onIfs s f = true) : ∃ v a b p, s = .If v a b p ∧ f v a b = true := let a := and2 h; ⟨_, _, _, _, viewS_back a.1, a.2⟩
theorem onFor_inv {s : Stmt} {f : Expr → Expr → List Stmt → Bool} (h : onFor s f = true) : ∃ t v a p, s = .For t v a [] p ∧ f t v a = true := let a := and2 h; let b := and2 a.2; ⟨_, _, _, _, (viewS_back a.1).trans (congrArg (fun l => Stmt.For (viewS s).t (viewS s).v (viewS s).a l (viewS s).p) (nil_of b.1)), b.2⟩
theorem onWhile_inv {s : Stmt} {f : Expr → List Stmt → Bool} (h : onWhile s f = true) : ∃ v a p, s = .While v a [] p ∧ f v a = true := let a := and2 h; let b := and2 a.2; ⟨_, _, _, (viewS_back a.1).trans (congrArg (fun l => Stmt.While (viewS s).v (viewS s).a l (viewS s).p) (nil_of b.1)), b.2⟩
theorem onRet_inv {s : Stmt} {f : Option Expr → Bool} (h : onRet s f = true) : ∃ o p, s = .Return o p ∧ f o = true := let a := and2 h; ⟨_, _, viewS_back a.1, a.2⟩
mutual
noncomputable def chkS : MS → Tx → Stmt → Bool
  | .asg i e, T, s => onAsg s fun t v => onName t fun x => decide (T.store x = some i) && chkE e T v
  | .asgT is e, T, s => onAsg s fun t v => onTup t fun ts => tupOk v && (chkN T is ts && (decide is.Nodup && chkE e T v))
  | .asgSub o i e, T, s => onAsg s fun t v => onSub t fun x y => chkE o T x && (chkE i T y && chkE e T v)
  | .asgSlice o lo hi e, T, s => onAsg s fun t v => onSub t fun x y => onSlice y fun l h st => st.isNone && (chkE o T x && (onOpt l (isCN lo) (chkE lo T) && (onOpt h (isCN hi) (chkE hi T) && chkE e T v)))
  | .asgAtt o n e, T, s => onAsg s fun t v => onAtt t fun x a _ => decide (a = n.name) && (chkE o T x && chkE e T v)
  | .aug i o e, T, s => onAug s fun t op v => onName t fun x => decide (T.store x = some i) && (decide (op = o.py) && chkE e T v)
  | .exp e, T, s => onExp s fun v => !isLComp v && chkE e T v
  | .ifs c a b, T, s => onIfs s fun x y z => chkE c T x && (chkB a T y && chkB b T z)
  | .fors i e b, T, s => onFor s fun t it y => onName t fun x => decide (T.store x = some i) && (chkE e T it && chkB b T y)
  | .forE i x e b, T, s => onFor s fun t it y => onTup t fun ts => onCall it fun g l kw _ => kw.isEmpty && onName g fun f => T.isGlobal f && (decide (f = Str.ofString "enumerate") && (chkN T [i, x] ts && (onOne l (chkE e T) && chkB b T y)))
  | .whil c b, T, s => onWhile s fun x y => chkE c T x && chkB b T y
  | .ret e, T, s => onRet s fun v => onOpt v false (chkE e T)
  | .retN, _, s => onRet s fun v => v.isNone
  | _, _, _ => false
noncomputable def chkB : MS → Tx → List Stmt → Bool
  | .seq a b, T, l => onCons l fun s r => chkS a T s && chkB b T r
  | .skip, _, l => l.isEmpty
  | _, _, _ => false
end
end Mine
namespace Mine

noncomputable def biVal : BI → Value
  | .len => .builtin "len"
  | .list => .type "list"
  | .tuple => .type "tuple"
  | .range => .type "range"
  | .min => .builtin "min"
  | .max => .builtin "max"
  | .sum => .builtin "sum"
  | .any => .builtin "any"
  | .all => .builtin "all"
/-- the value of a function of ours -/
noncomputable def fnV (K : Frag) (C : Addr) (n : Nat) : Option Value :=
  if n < 100 then gl K (fnAt n)
  else if n = 100 then (match findIn K (.ref C) (Str.ofString "code") with
    | some (some (.ref p)) => (match recIn K p "property" with
      | some (v :: _) => some v
      | _ => none)
    | _ => none)
  else (match findIn K (.ref C) (if n = 101 then Str.ofString "parts" else Str.ofString "labels") with
    | some (some v) => some v
    | _ => none)
noncomputable def fnVal (X : Cx) (n : Nat) : Option Value := fnV X.K X.C n

/-- what stands behind a call -/
noncomputable def PostS (X : Cx) (I J : Imm) (Q : AV → Mem → Prop) (v : Value) (s : Shared) : Prop :=
  ∃ I' M' av, Le I I' ∧ St X I' J M' s.heap ∧ s.gens = #[] ∧ s.os = X.os ∧ X.Rep I' v av ∧ Q av M'
/-- a contract: the call ends, with this behind it -/
structure Spec (X : Cx) (k : Nat) (n : Nat) (vs : List AV) (M : Mem) (Q : AV → Mem → Prop) : Prop where
  run : ∀ A, RoomS k A → ∀ (I J : Imm) (s : Shared) (f : Value) (ws : List Value), fnVal X n = some f → St X I J M s.heap → s.gens = #[] → s.os = X.os → X.Reps I ws vs →
    codeAny X.mdl A (.call f ⟨ws, []⟩) (fun r s' => match r with
      | .ok (.ret v) => PostS X I J Q v s'
      | _ => False) s

structure ClsOk (X : Cx) : Prop where
  ga : findIn X.K (.ref X.C) "__getattribute__" = some (some (.builtin "object.__getattribute__"))
  gt : findIn X.K (.ref X.C) "__getattr__" = some none
  hd : hasDictIn X.K X.C = true
  sa : findIn X.K (.ref X.C) "__setattr__" = some (some (.builtin "object.__setattr__"))
  over : plainOver X.K X.C = true
  own : ∀ n, 4 ≤ n → n < 7 → findIn X.K (.ref X.C) (symAt n) = some none
  meth : ∀ x, x = Str.ofString "parts" ∨ x = Str.ofString "labels" → ∃ f, findIn X.K (.ref X.C) x = some (some (.ref f)) ∧ typeIn X.K (.ref f) = some (.type "function") ∧ keepIn X.K (.ref f) = true
  prop : ∃ p f r, findIn X.K (.ref X.C) (Str.ofString "code") = some (some (.ref p)) ∧ specialIn X.K (.ref p) "__get__" = some (some (.builtin "property.__get__")) ∧ takesIn X.K (.ref p) = some true ∧ recIn X.K p "property" = some (.ref f :: r)
structure CxOk (X : Cx) : Prop where
  cls : ClsOk X
  kin : X.K.In X.h₀
  lim : X.h₀.NoLimit
  bns : ∃ mb, X.h₀.Ns builtinsNs mb ∧ ∀ x : Str, x ≠ "__name__" → mb x = bootBuiltins x
  bok : ∀ b : BI, gl X.K b.name = some (biVal b)
  eok : gl X.K (Str.ofString "enumerate") = some (.type "enumerate")
  fok : ∀ n, n < 28 → ∃ f, gl X.K (fnAt n) = some f ∧ keepIn X.K f = true
  gok : ∀ n, n < 36 → ∃ v, gl X.K (gAt n) = some v ∧ ∀ I : Imm, (∀ a o, X.K.lookup a = some o → I a = some o) → X.Rep I v (gAV n)

structure TxOk (T : Tx) (env : Env) : Prop where
  ok : EnvOk T.tbl env
  names : env.scope.names = T.names
  cls : ∀ x ∈ T.tbl, (x == ("__classdict__" : Str)) = false
  cells : ∀ x, T.names.lookup x = some .cell → (env.cells.lookup x).isSome = true

section
variable {X : Cx} {k : Nat} {T : Tx} {env : Env}

noncomputable def SndE (X : Cx) (k : Nat) (T : Tx) (env : Env) (pe : Expr) (e : ME) : Prop :=
  ∀ A, Room k A → ∀ (I J : Imm) (M : Mem) (ρ : Env0) (s : Shared) (Q : QE), Sat X T.tbl env I J M ρ s → WE gAV (Spec X k) e Q M ρ → wpAny X.mdl A (eval pe env) (PostE X T.tbl env I J Q) NoE s
/-- the end of a test -/
noncomputable def PostB (X : Cx) (tbl : List Str) (env : Env) (I J : Imm) (Q : Bool → Mem → Env0 → Prop) (b : Bool) (s : Shared) : Prop :=
  ∃ I' M' ρ', Le I I' ∧ Sat X tbl env I' J M' ρ' s ∧ Q b M' ρ'
noncomputable def SndT (X : Cx) (k : Nat) (T : Tx) (env : Env) (pe : Expr) (e : ME) : Prop :=
  ∀ A, Room k A → ∀ (I J : Imm) (M : Mem) (ρ : Env0) (s : Shared) (Q : Bool → Mem → Env0 → Prop), Sat X T.tbl env I J M ρ s → WE gAV (Spec X k) e (fun v M ρ => wB v fun b => Q b M ρ) M ρ →
    wpAny X.mdl A (isTrue pe env (eval pe env)) (PostB X T.tbl env I J Q) NoE s

theorem PostE.le {tbl : List Str} {I I' J : Imm} {Q : QE} {v : Value} {s : Shared} (h : Le I I') (p : PostE X tbl env I' J Q v s) : PostE X tbl env I J Q v s :=
  let ⟨I2, M2, ρ2, av, l, r⟩ := p; ⟨I2, M2, ρ2, av, h.trans l, r⟩
theorem PostB.le {tbl : List Str} {I I' J : Imm} {Q : Bool → Mem → Env0 → Prop} {b : Bool} {s : Shared} (h : Le I I') (p : PostB X tbl env I' J Q b s) : PostB X tbl env I J Q b s :=
  let ⟨I2, M2, ρ2, l, r⟩ := p; ⟨I2, M2, ρ2, h.trans l, r⟩
theorem PostE.mk {tbl : List Str} {I J : Imm} {M : Mem} {ρ : Env0} {Q : QE} {v : Value} {av : AV} {s : Shared} (S : Sat X tbl env I J M ρ s) (r : X.Rep I v av) (q : Q av M ρ) : PostE X tbl env I J Q v s :=
  ⟨I, M, ρ, av, Le.refl I, S, r, q⟩
theorem PostB.mk {tbl : List Str} {I J : Imm} {M : Mem} {ρ : Env0} {Q : Bool → Mem → Env0 → Prop} {b : Bool} {s : Shared} (S : Sat X tbl env I J M ρ s) (q : Q b M ρ) : PostB X tbl env I J Q b s :=
  ⟨I, M, ρ, Le.refl I, S, q⟩

theorem SndE.go {pe : Expr} {e : ME} {A : Around} {I J : Imm} {M : Mem} {ρ : Env0} {s : Shared} {Q : QE} {R : Value → Shared → Prop} (h : SndE X k T env pe e) (hA : Room k A) (S : Sat X T.tbl env I J M ρ s) (w : WE gAV (Spec X k) e Q M ρ)
    (hR : ∀ I' M' ρ' s' v av, Le I I' → Sat X T.tbl env I' J M' ρ' s' → X.Rep I' v av → Q av M' ρ' → R v s') : wpAny X.mdl A (eval pe env) R NoE s :=
  wpAny_mono (h A hA I J M ρ s Q S w) (fun v s' ⟨I', M', ρ', av, l, S', r, q⟩ => hR I' M' ρ' s' v av l S' r q) fun _ _ x => x
theorem SndT.go {pe : Expr} {e : ME} {A : Around} {I J : Imm} {M : Mem} {ρ : Env0} {s : Shared} {Q : Bool → Mem → Env0 → Prop} {R : Bool → Shared → Prop} (h : SndT X k T env pe e) (hA : Room k A) (S : Sat X T.tbl env I J M ρ s) (w : WE gAV (Spec X k) e (fun v M ρ => wB v fun b => Q b M ρ) M ρ)
    (hR : ∀ I' M' ρ' s' b, Le I I' → Sat X T.tbl env I' J M' ρ' s' → Q b M' ρ' → R b s') : wpAny X.mdl A (isTrue pe env (eval pe env)) R NoE s :=
  wpAny_mono (h A hA I J M ρ s Q S w) (fun b s' ⟨I', M', ρ', l, S', q⟩ => hR I' M' ρ' s' b l S' q) fun _ _ x => x

theorem wB_inv {v : AV} {Q : Bool → Prop} (h : wB v Q) : ∃ b, v = .bool b ∧ Q b := by
  cases v <;> first | exact ⟨_, rfl, h⟩ | exact h.elim
theorem wRef_inv {v : AV} {Q : Addr → Prop} (h : wRef v Q) : ∃ b, v = .ref b ∧ Q b := by
  cases v <;> first | exact ⟨_, rfl, h⟩ | exact h.elim
theorem wI_inv {v : AV} {Q : Int → Prop} (h : wI v Q) : ∃ b, v = .int b ∧ Q b := by
  cases v <;> first | exact ⟨_, rfl, h⟩ | exact h.elim
theorem Rep.int_inv {I : Imm} {v : Value} {i : Int} (r : X.Rep I v (.int i)) : ∃ t, v = .int i t := r.inv
theorem Rep.bool_inv {I : Imm} {v : Value} {b : Bool} (r : X.Rep I v (.bool b)) : v = .bool b := r.inv
theorem Rep.sy_inv {I : Imm} {v : Value} {n : Nat} (r : X.Rep I v (.sy n)) : n < 7 ∧ ∃ t, v = .str (symAt n) t := r.inv

/-! leaves -/
theorem snd_none {c p} : SndE X k T env (.Constant .none c p) (.con .none) := fun _ _ _ _ _ _ _ _ S w => wpAny_Constant_none (.mk S .none w)
theorem snd_bool {b c p} : SndE X k T env (.Constant (.bool b) c p) (.con (.bool b)) := fun _ _ _ _ _ _ _ _ S w => wpAny_Constant_bool (.mk S (.bool b) w)
theorem snd_int {i c p} : SndE X k T env (.Constant (.int i) c p) (.con (.int i)) := fun _ _ _ _ _ _ _ _ S w => wpAny_Constant_int (.mk (S.tok _) (.int i _) w)
theorem snd_str {n : Nat} {x : Str} {c p} (hx : x = symAt n) (h : n < 7) : SndE X k T env (.Constant (.str x) c p) (.con (.sy n)) := fun _ _ _ _ _ _ _ _ S w =>
  wpAny_Constant_str (.mk (S.tok _) (hx ▸ .sy n _ h) w)
theorem snd_loc {x : Str} {i : Nat} {p : Pos} (E : TxOk T env) (hi : T.tbl[i]? = some x) : SndE X k T env (.Name x p) (.loc i) := fun A _ I J M ρ s Q S w => by
  have hm : x ∈ T.tbl := List.mem_of_getElem? hi
  replace w : (match lk ρ i with | some v => Q v M ρ | none => False) := w
  cases hl : lk ρ i with
  | none => rw [hl] at w; exact w.elim
  | some av =>
    rw [hl] at w
    exact wpAny_NameT (E.ok.dbg x hm) (load_slot E.ok S hi hl (E.cls x hm) fun v r => .mk S r w)
theorem gl_load {x : Str} {v : Value} {A : Around} {s : Shared} {Q : Value → Shared → Prop} {E : Value → Shared → Prop} (hg : gl X.K x = some v) (hG : env.globals = mainGlobals) (hB : env.builtins = builtinsNs) (hk : X.K.In s.heap) (hb : ∃ mb, s.heap.Ns builtinsNs mb ∧ ∀ x : Str, x ≠ "__name__" → mb x = bootBuiltins x) (h : Q v s) :
    wpAny X.mdl A (loadGlobal env x) Q E s := by
  obtain ⟨mb, hmb, hbb⟩ := hb
  unfold gl at hg
  split at hg
  · cases hg
  · rename_i hx
    have hx' : x ≠ "__name__" := fun q => hx (by rw [q]; exact beq_self_eq_true _)
    unfold loadGlobal
    rw [hG, hB]
    cases h1 : nsIn X.K mainGlobals x with
    | none => rw [h1] at hg; cases hg
    | some o1 =>
      rw [h1] at hg
      cases o1 with
      | some v1 =>
        cases hg
        exact wpAny_bind ((looks_nsIn hk h1).here (wpAny_pure h))
      | none =>
        refine wpAny_bind ((looks_nsIn hk h1).here ?_)
        refine wpAny_bind (wpAny_nsGet hmb ?_)
        replace hg : bootBuiltins x = some v := hg
        rw [hbb x hx', hg]
        exact wpAny_pure h
theorem Sat.kin {I J : Imm} {M : Mem} {ρ : Env0} {s : Shared} {tbl : List Str} (O : CxOk X) (S : Sat X tbl env I J M ρ s) : X.K.In s.heap := fun a o e => S.st.heap a o (O.kin a o e)
theorem name_gl {x : Str} {v : Value} {p : Pos} {A : Around} {s : Shared} {I J : Imm} {M : Mem} {ρ : Env0} {R : Value → Shared → Prop} {E : Value → Shared → Prop} (O : CxOk X) (E0 : TxOk T env) (hg : T.isGlobal x = true) (hd : (x == ("__debug__" : Str)) = false) (hv : gl X.K x = some v)
    (S : Sat X T.tbl env I J M ρ s) (h : R v s) : wpAny X.mdl A (eval (.Name x p) env) R E s := by
  refine wpAny_NameT hd ?_
  have hk : env.kindOf x = some .globalImplicit := by
    unfold Env.kindOf
    rw [E0.names]
    unfold Tx.isGlobal at hg
    exact by simpa using hg
  rw [loadName_read E0.ok.kind hk]
  obtain ⟨mb, hmb, hbb⟩ := O.bns
  exact gl_load hv E0.ok.gl E0.ok.bi (S.kin O) ⟨mb, hmb.keeps S.st.heap, hbb⟩ h
theorem snd_gl {x : Str} {n : Nat} {p : Pos} (O : CxOk X) (E0 : TxOk T env) (hg : T.isGlobal x = true) (hd : (x == ("__debug__" : Str)) = false) (hn : n < 36) (hx : x = gAt n) : SndE X k T env (.Name x p) (.gl n) := fun A _ I J M ρ s Q S w => by
  obtain ⟨v, hv, hr⟩ := O.gok n hn
  exact name_gl O E0 hg hd (hx ▸ hv) S (.mk S (hr I fun a o e => S.st.base a o (O.kin a o e)) w)

/-! ints -/
theorem binI {op : Operator} {o : BOp} {a b : Int} {t u : Tok} {A : Around} {s : Shared} {I J : Imm} {M : Mem} {ρ : Env0} {tbl : List Str} {Q : AV → Prop} {R : Value → Shared → Prop} (ho : op = o.py) (S : Sat X tbl env I J M ρ s) (w : wBinI o a b Q)
    (h : ∀ r, Q (.int r) → ∀ tk s', Sat X tbl env I J M ρ s' → R (.int r tk) s') : wpAny X.mdl A (binaryOp op (.int a t) (.int b u)) R NoE s := by
  subst ho
  cases o
  · exact P.add_int (h _ w _ _ (S.tok _))
  · exact P.sub_int (h _ w _ _ (S.tok _))
  · exact w.elim
  · obtain ⟨h1, h2, q⟩ := w
    exact floordiv_int (by exact fun q_ => linF [] [b] (.h true true (.v 0) (.l 0) (.h false true (.a (.l 0) (.l 1)) (.v 0) (.v 0))) [1, 1] (Eq.refl true) q_ h1) (h _ q _ _ (S.tok _)) (.inl (PyProof.noPylong_small (by exact lin [b.natAbs] [b] false (.h false true (.a (.v 0) (.l 1)) (.l 1000000) (.h true true (.c (.v 0)) (.v 0) (.v 0))) (.a (.v 0) (.l 1)) (.l 1073741824) 1 [1, 1] (Eq.refl true) h2 (Int.natAbs_of_nonneg (lin [] [b] true (.h false true (.a (.l 0) (.l 1)) (.v 0) (.v 0)) (.l 0) (.v 0) 1 [1] (Eq.refl true) h1)))))
  · exact mod_int w.1 (h _ w.2 _ _ (S.tok _))
  · obtain ⟨h1, h2, h3, q⟩ := w
    subst h1
    exact pow_int_small h2 (by exact lin [] [b] true (.h false true (.v 0) (.l 8) (.v 0)) (.v 0) (.l 1000000) 1 [1] (Eq.refl true) h3) (by decide) (h _ q _ _ (S.tok _))
  · obtain ⟨h1, h2, h3, h4, q⟩ := w
    exact lshift_int_small h3 (by exact lin [] [b] true (.h false true (.v 0) (.l 8) (.v 0)) (.v 0) (.l 1000000) 1 [1] (Eq.refl true) h4) (by exact lin [a.natAbs] [a] false (.h false true (.v 0) (.l 8) (.h true true (.c (.v 0)) (.v 0) (.v 0))) (.a (.v 0) (.l 1)) (.l 18446744073709551616) 1 [1, 1] (Eq.refl true) h2 (Int.natAbs_of_nonneg (lin [] [a] true (.h false true (.l 0) (.v 0) (.v 0)) (.l 0) (.v 0) 1 [1] (Eq.refl true) h1))) (h _ q _ _ (S.tok _))
theorem cmpII {op : CmpOp} {o : COp} {a b : Int} {t u : Tok} {A : Around} {s : Shared} {R : Value → Shared → Prop} (ho : op = o.py) (h : R (.bool (cmpI o a b)) s) : wpAny X.mdl A (compareOp op (.int a t) (.int b u)) R NoE s := by
  subst ho
  cases o
  · exact P.eq_int (by rw [show (a == b) = cmpI .eq a b from rfl]; exact h)
  · exact P.ne_int (by rw [show (a != b) = cmpI .ne a b from by show (!(decide (a = b))) = decide (¬ a = b); rw [decide_not]]; exact h)
  · exact P.lt_int h
  · exact P.le_int h
  · exact P.gt_int h
  · exact P.ge_int h
end
end Mine
namespace Mine

section
variable {X : Cx} {k : Nat} {T : Tx} {env : Env} {tbl : List Str} {I J : Imm} {M : Mem} {ρ : Env0} {s : Shared} {A : Around}

theorem lists_at {a : Addr} {xs : List AV} (h : lists M (.ref a) = some xs) : M a = some (.list xs) := by
  unfold lists at h
  dsimp only at h
  cases hm : M a with
  | none => rw [hm] at h; exact nso h
  | some mo =>
    rw [hm] at h
    cases mo with
    | dict es => exact nso h
    | list ys => exact congrArg _ (congrArg _ (Option.some.inj h))
theorem lists_obj (S : Sat X tbl env I J M ρ s) {v : Value} {av : AV} {xs : List AV} (r : X.Rep I v av) (h : lists M av = some xs) :
    ∃ a items n, v = .ref a ∧ s.heap.get? a = some (lstO items n) ∧ X.Reps I items.toList xs := by
  have ri := r.inv
  cases av with
  | lst ys => obtain ⟨a, vs, n, e, hI, hr⟩ := ri; exact ⟨a, _, n, e, S.st.imm _ _ hI, Option.some.inj h ▸ hr⟩
  | ref a =>
    obtain ⟨vs, n, e, rr⟩ := S.st.mu a _ (lists_at h)
    exact ⟨a, vs, n, ri, e, rr⟩
  | _ => exact nso h
theorem seqs_obj (S : Sat X tbl env I J M ρ s) {v : Value} {av : AV} {xs : List AV} (r : X.Rep I v av) (h : seqs M av = some xs) :
    ∃ a items n, v = .ref a ∧ (s.heap.get? a = some (lstO items n) ∨ s.heap.get? a = some (tupO items n)) ∧ X.Reps I items.toList xs := by
  have ri := r.inv
  cases av with
  | lst ys => obtain ⟨a, vs, n, e, hI, hr⟩ := ri; exact ⟨a, _, n, e, .inl (S.st.imm _ _ hI), Option.some.inj h ▸ hr⟩
  | tup ys => obtain ⟨a, vs, n, e, hI, hr⟩ := ri; exact ⟨a, _, n, e, .inr (S.st.imm _ _ hI), Option.some.inj h ▸ hr⟩
  | ref a =>
    obtain ⟨vs, n, e, rr⟩ := S.st.mu a _ (lists_at (show lists M (.ref a) = some xs from h))
    exact ⟨a, vs, n, ri, .inl e, rr⟩
  | _ => exact nso h

theorem fresh_post {items : Array Value} {xs : List AV} {Q : QE} {t : Tok} (S : Sat X tbl env I J M ρ s) (r : X.Reps I items.toList xs) (w : fresh xs Q M ρ) :
    PostE X tbl env I J Q (.ref s.heap.objs.size) { s with heap := s.heap.push (lstO items 0), toks := t } := by
  obtain ⟨_, w | w⟩ := w
  · have S' := S.allocI (o := lstO items 0) (t := t) rfl
    have le : Le I (upd I s.heap.objs.size (lstO items 0)) := Le.upd S.st.size_none.1
    refine ⟨_, M, ρ, .lst xs, le, S', ?_, w⟩
    refine Rep.lst (vs := items.toList) (n := 0) ?_ (r.mono le)
    exact upd_self
  · refine ⟨I, _, ρ, .ref s.heap.objs.size, Le.refl I, S.allocM (mo := .list xs) (t := t) ⟨items, 0, Heap.get?_push_size _ rfl, r⟩, .ref _, w _ S.st.size_none.2.2⟩
theorem fresh_len {xs : List AV} {Q : QE} (w : fresh xs Q M ρ) : xs.length ≤ lim := w.1
theorem lim_lt : lim ≤ sizeLine := by unfold lim sizeLine; decide
theorem reps_size {items : Array Value} {xs : List AV} (r : X.Reps I items.toList xs) : items.size = xs.length := by
  have := Reps.length r
  simpa using this

theorem joined_eq (items : Array Value) : ∀ (k : Nat) (acc : Array Value), (List.foldl (fun x1 x2 => x1 ++ x2) acc (List.replicate k items)).toList = acc.toList ++ (List.replicate k items.toList).flatten
  | 0, acc => by simp
  | k + 1, acc => by rw [List.replicate_succ, List.foldl_cons, joined_eq items k, List.replicate_succ, List.flatten_cons]; simp
theorem reps_joined {vs : List Value} {xs : List AV} (r : X.Reps I vs xs) : ∀ k : Nat, X.Reps I (List.replicate k vs).flatten (List.replicate k xs).flatten
  | 0 => by simpa using Reps.nil
  | k + 1 => by rw [List.replicate_succ, List.replicate_succ, List.flatten_cons, List.flatten_cons]; exact r.append (reps_joined r k)

theorem mulL {v : Value} {av : AV} {xs : List AV} {n : Int} {u : Tok} {Q : QE} (S : Sat X tbl env I J M ρ s) (r : X.Rep I v av) (hx : lists M av = some xs) (hn : n ≤ 1000000) (w : fresh (List.replicate n.toNat xs).flatten Q M ρ) (hlo : -(2 ^ 63 : Int) ≤ n) :
    wpAny X.mdl A (binaryOp .Mult v (.int n u)) (PostE X tbl env I J Q) NoE s := by
  obtain ⟨l, items, c, rfl, hl, rr⟩ := lists_obj S r hx
  have hlen := fresh_len w
  have hsz : items.size * n.toNat ≤ 2 ^ 20 := by
    rw [List.length_flatten, List.map_replicate, List.sum_replicate_nat] at hlen
    rw [reps_size rr, Nat.mul_comm]; exact hlen
  refine wpAny_binaryOp_repeat_ref (T := "list") (U := "int") (by decide) ⟨_, hl, rfl⟩ (fun s' => typeIs_int s' n u) noFill_list_mul F.fills_int_mul F.slot_int_rmul repeat_list F.slot_int_index.lookup
    (call_meets F.slot_int_rmul (typeIs_int s n u) F.entry_int_rmul (F.args_int_rmul_2 _ _) (int___rmul___int_list n u l items c)
      ⟨hl, rfl, ⟨_, hl, rfl⟩, call_meets F.slot_list_mul ⟨_, hl, rfl⟩ F.entry_list_mul (F.args_list_mul_2 _ _)
        (AutoListH.list___mul___list_int_3 l items c n u (by simp [Builtin.List.listFitsIndex]; omega) (by exact Nat.not_lt.mpr (lin [items.size * n.toNat] [] false (.h false false (.v 0) (.l 1048576) (.v 0)) (.v 0) (.l 1152921504606846975) 1 [1] (Eq.refl true) hsz)) (by simp [Builtin.List.listTooLong, sizeLine]; exact lin [items.size * n.toNat] [] false (.h false false (.v 0) (.l 1048576) (.v 0)) (.v 0) (.l 16777216) 1 [1] (Eq.refl true) hsz))
        ⟨hl, ?_⟩⟩)
  refine fresh_post (t := s.toks) S ?_ w
  rw [joined_eq]
  by_cases he : items.isEmpty = true
  · have hz : items.toList = [] := by simpa using he
    have : xs = [] := by
      rw [hz] at rr
      cases rr; rfl
    subst this
    simp only [he, if_true, List.replicate_zero, List.flatten_nil]
    have : (List.replicate n.toNat ([] : List AV)).flatten = [] := by simp
    rw [this]; exact .nil
  · rw [if_neg he]
    exact reps_joined rr _
theorem addL {v v' : Value} {av aw : AV} {xs ys : List AV} {Q : QE} (S : Sat X tbl env I J M ρ s) (r : X.Rep I v av) (hx : lists M av = some xs) (r' : X.Rep I v' aw) (hy : lists M aw = some ys) (w : fresh (xs ++ ys) Q M ρ) :
    wpAny X.mdl A (binaryOp .Add v v') (PostE X tbl env I J Q) NoE s := by
  obtain ⟨l, items, c, rfl, hl, rr⟩ := lists_obj S r hx
  obtain ⟨l', items', c', rfl, hl', rr'⟩ := lists_obj S r' hy
  refine P.add_list hl hl' (fresh_post (t := s.toks) S ?_ w) ?_
  · rw [Array.toList_append]; exact rr.append rr'
  · have := fresh_len w
    rw [List.length_append] at this
    rw [reps_size rr, reps_size rr']
    exact Nat.le_trans this lim_lt

theorem asI_inv {x : AV} {i : Int} (h : asI x = some i) : x = .int i := by
  cases x <;> first
    | exact congrArg _ (Option.some.inj h)
    | exact nso h
theorem asS_inv {x : AV} {i : Nat} (h : asS x = some i) : x = .sy i := by
  cases x <;> first
    | exact congrArg _ (Option.some.inj h)
    | exact nso h
theorem wBin_inv {o : BOp} {x y : AV} {Q : QE} (h : wBin o x y Q M ρ) : (∃ a b, x = .int a ∧ y = .int b ∧ wBinI o a b fun v => Q v M ρ) ∨
    (∃ n xs, y = .int n ∧ o = .mul ∧ lists M x = some xs ∧ 0 ≤ n ∧ n ≤ 1000000 ∧ fresh (List.replicate n.toNat xs).flatten Q M ρ) ∨
    (o = .add ∧ ∃ xs ys, lists M x = some xs ∧ lists M y = some ys ∧ fresh (xs ++ ys) Q M ρ) := by
  unfold wBin at h
  cases hy : asI y with
  | none => rw [hy] at h; exact .inr (.inr h)
  | some b =>
    rw [hy] at h
    cases hx : asI x with
    | none => rw [hx] at h; exact .inr (.inl ⟨b, h.2.choose, asI_inv hy, h.1, h.2.choose_spec⟩)
    | some a => rw [hx] at h; exact .inl ⟨a, b, asI_inv hx, asI_inv hy, h⟩

theorem snd_bin {op : Operator} {o : BOp} {l r : Expr} {a b : ME} {p : Pos} (ho : op = o.py) (h1 : SndE X k T env l a) (h2 : SndE X k T env r b) : SndE X k T env (.BinOp l op r p) (.bin o a b) := fun A hA I J M ρ s Q S w => by
  refine wpAny_BinOp (h1.go hA S w fun I1 M1 ρ1 s1 v av l1 S1 r1 w1 => h2.go hA S1 w1 fun I2 M2 ρ2 s2 v' aw l2 S2 r2 w2 => ?_)
  have r1' := r1.mono l2
  have fin : ∀ {t : Sem Value}, wpAny X.mdl A t (PostE X T.tbl env I2 J Q) NoE s2 → wpAny X.mdl A t (PostE X T.tbl env I J Q) NoE s2 := fun h => wpAny_mono h (fun _ _ p => p.le (l1.trans l2)) fun _ _ x => x
  refine fin ?_
  rcases wBin_inv w2 with ⟨m, n, rfl, rfl, w3⟩ | ⟨n, xs, rfl, rfl, hx, hn0, hn, w3⟩ | ⟨rfl, xs, ys, hx, hy, w3⟩
  · obtain ⟨u, rfl⟩ := Rep.int_inv r2
    obtain ⟨t, rfl⟩ := Rep.int_inv r1'
    exact binI (Q := fun v => Q v M2 ρ2) ho S2 w3 fun r q tk s' S' => .mk S' (.int r tk) q
  · obtain ⟨u, rfl⟩ := Rep.int_inv r2
    subst ho
    exact mulL S2 r1' hx hn w3 (by exact lin [] [n] true (.h false true (.l 0) (.v 0) (.v 0)) (.g (.l 9223372036854775808)) (.v 0) 1 [1] (Eq.refl true) hn0)
  · subst ho
    exact addL S2 r1' hx r2 hy w3
end
end Mine
namespace Mine

section
variable {X : Cx} {k : Nat} {T : Tx} {env : Env} {tbl : List Str} {I J : Imm} {M : Mem} {ρ : Env0} {s : Shared} {A : Around}

theorem sndT_of (pe : Expr) {e : ME} (h : SndE X k T env pe e) (he : isTrue pe env (eval pe env) = (do let v ← eval pe env; standAt pe.pos; holding [v] (truthy v))) : SndT X k T env pe e := fun A hA I J M ρ s Q S w => by
  refine wpAny_isTrue_value (h.go hA S w fun I' M' ρ' s' v av l S' r q => ?_) he
  obtain ⟨b, rfl, q⟩ := wB_inv q
  obtain rfl := Rep.bool_inv r
  exact wpAny_truthy_bool ⟨I', M', ρ', l, S', q⟩

theorem wpAny_into {t : Sem Value} {I' : Imm} {Q : QE} (l : Le I I') (h : wpAny X.mdl A t (PostE X tbl env I' J Q) NoE s) : wpAny X.mdl A t (PostE X tbl env I J Q) NoE s := wpAny_mono h (fun _ _ p => p.le l) fun _ _ x => x
theorem wpAny_intoB {t : Sem Bool} {I' : Imm} {Q : Bool → Mem → Env0 → Prop} (l : Le I I') (h : wpAny X.mdl A t (PostB X tbl env I' J Q) NoE s) : wpAny X.mdl A t (PostB X tbl env I J Q) NoE s := wpAny_mono h (fun _ _ p => p.le l) fun _ _ x => x

theorem snd_neg {x : Expr} {a : ME} {p : Pos} (h1 : SndE X k T env x a) : SndE X k T env (.UnaryOp .USub x p) (.neg a) := fun A hA I J M ρ s Q S w => by
  refine wpAny_UnaryOp (h1.go hA S w fun I1 M1 ρ1 s1 v av l1 S1 r1 w1 => ?_)
  obtain ⟨b, rfl, q⟩ := wI_inv w1
  obtain ⟨t, rfl⟩ := Rep.int_inv r1
  exact P.neg_int ⟨I1, M1, ρ1, _, l1, S1.tok _, .int _ _, q⟩
theorem snd_not {x : Expr} {a : ME} {p : Pos} (h1 : SndE X k T env x a) : SndE X k T env (.UnaryOp .Not x p) (.not a) := fun A hA I J M ρ s Q S w => by
  refine wpAny_UnaryOp (h1.go hA S w fun I1 M1 ρ1 s1 v av l1 S1 r1 w1 => ?_)
  obtain ⟨b, rfl, q⟩ := wB_inv w1
  obtain rfl := Rep.bool_inv r1
  exact not_value (wpAny_truthy_bool ⟨I1, M1, ρ1, _, l1, S1, .bool _, q⟩)
theorem sndT_not {x : Expr} {a : ME} {p : Pos} (h1 : SndT X k T env x a) : SndT X k T env (.UnaryOp .Not x p) (.not a) := fun A hA I J M ρ s Q S w => by
  rw [arm_isTrue_UnaryOp]
  refine wpAny_bind (h1.go (Q := fun b M ρ => Q (!b) M ρ) hA S ?_ fun I1 M1 ρ1 s1 b l1 S1 w1 => wpAny_pure ⟨I1, M1, ρ1, l1, S1, w1⟩)
  exact w

theorem strOk_sym : ∀ n, n < 7 → PyData.strOk (symAt n) = true := by decide +kernel
theorem symInj : ∀ a, a < 7 → ∀ b, b < 7 → (symAt a == symAt b) = (a == b) := by decide +kernel

theorem toDs_cons {x : AV} {xs : List AV} {ds : List PyData} (e : toDs (x :: xs) = some ds) : ∃ d r, toD x = some d ∧ toDs xs = some r ∧ ds = d :: r := by
  unfold toDs at e
  cases h1 : toD x with
  | none => rw [h1] at e; cases e
  | some d =>
    cases h2 : toDs xs with
    | none => rw [h1, h2] at e; cases e
    | some r => rw [h1, h2] at e; cases e; exact ⟨d, r, rfl, rfl, rfl⟩
noncomputable def ReadOk (h : Heap) (v : Value) (av : AV) : Prop := ∀ d, toD av = some d → ∃ as, Reads h v d as ∧ d.canLay0 = true
noncomputable def ReadsOk (h : Heap) (vs : List Value) (xs : List AV) : Prop := ∀ ds, toDs xs = some ds → ∃ as, ReadsAll h vs ds as ∧ PyData.canLayAll0 ds = true
section
variable {P : Params} {C : Addr} {h : Heap}
theorem read_tup (hI : ∀ a o, I a = some o → h.get? a = some o) {a : Addr} {vs : List Value} {n : Nat} {xs : List AV} (hi : I a = some (tupO vs.toArray n)) (_ : Mine.Reps P C I vs xs) (r : ReadsOk h vs xs) : ReadOk h (.ref a) (.tup xs) := fun d e => by
  unfold toD at e
  obtain ⟨ds, e1, rfl⟩ := Option.map_eq_some_iff.mp e
  obtain ⟨as, hh, hc⟩ := r ds e1
  exact ⟨_, .tuple (hI _ _ hi) rfl rfl hh, by simp only [PyData.canLay0]; exact hc⟩
theorem read_lst (hI : ∀ a o, I a = some o → h.get? a = some o) {a : Addr} {vs : List Value} {n : Nat} {xs : List AV} (hi : I a = some (lstO vs.toArray n)) (_ : Mine.Reps P C I vs xs) (r : ReadsOk h vs xs) : ReadOk h (.ref a) (.lst xs) := fun d e => by
  unfold toD at e
  obtain ⟨ds, e1, rfl⟩ := Option.map_eq_some_iff.mp e
  obtain ⟨as, hh, hc⟩ := r ds e1
  exact ⟨_, .list (hI _ _ hi) rfl rfl hh, by simp only [PyData.canLay0]; exact hc⟩
theorem read_sy (n : Nat) (t : Tok) (hn : n < 7) : ReadOk h (.str (symAt n) t) (.sy n) := fun d e => by cases e; exact ⟨_, .str _ t, by simp only [PyData.canLay0]; exact strOk_sym n hn⟩
theorem read_cons {v : Value} {vs : List Value} {x : AV} {xs : List AV} (_ : Mine.Rep P C I v x) (_ : Mine.Reps P C I vs xs) (a : ReadOk h v x) (b : ReadsOk h vs xs) : ReadsOk h (v :: vs) (x :: xs) := fun ds e => by
  obtain ⟨d, r, h1, h2, rfl⟩ := toDs_cons e
  obtain ⟨as, ha, hc⟩ := a d h1
  obtain ⟨bs, hb, hd⟩ := b r h2
  exact ⟨_, .cons ha hb, by simp only [PyData.canLayAll0, hc, hd, Bool.and_self]⟩
theorem reads_all (hI : ∀ a o, I a = some o → h.get? a = some o) {v : Value} {av : AV} (r : Mine.Rep P C I v av) : ReadOk h v av :=
  @Mine.Rep.rec P C I (fun v x _ => ReadOk h v x) (fun v x _ => ReadsOk h v x) (fun _ _ _ => True) (fun d e => Option.some.inj e ▸ ⟨_, .none, rfl⟩) (fun b d e => Option.some.inj e ▸ ⟨_, .bool b, rfl⟩) (fun i t d e => Option.some.inj e ▸ ⟨_, .int i t, rfl⟩) read_sy (fun _ _ e => nso e) (read_tup hI) (read_lst hI) (fun _ _ _ _ _ e => nso e) (fun _ _ e => nso e) (fun _ _ _ _ e => nso e) (fun _ _ e => nso e)
    (fun ds e => Option.some.inj e ▸ ⟨_, .nil, rfl⟩) read_cons trivial (fun _ _ _ _ _ => trivial) v av r
theorem reads_rep (hI : ∀ a o, I a = some o → h.get? a = some o) {v : Value} {av : AV} {d : PyData} (r : Mine.Rep P C I v av) (e : toD av = some d) : ∃ as, Reads h v d as ∧ d.canLay0 = true := reads_all hI r d e
theorem reads_reps (hI : ∀ a o, I a = some o → h.get? a = some o) {vs : List Value} {xs : List AV} {ds : List PyData} (r : Mine.Reps P C I vs xs) (e : toDs xs = some ds) : ∃ as, ReadsAll h vs ds as ∧ PyData.canLayAll0 ds = true :=
  @Mine.Reps.rec P C I (fun v x _ => ReadOk h v x) (fun v x _ => ReadsOk h v x) (fun _ _ _ => True) (fun d e => Option.some.inj e ▸ ⟨_, .none, rfl⟩) (fun b d e => Option.some.inj e ▸ ⟨_, .bool b, rfl⟩) (fun i t d e => Option.some.inj e ▸ ⟨_, .int i t, rfl⟩) read_sy (fun _ _ e => nso e) (read_tup hI) (read_lst hI) (fun _ _ _ _ _ e => nso e) (fun _ _ e => nso e) (fun _ _ _ _ e => nso e) (fun _ _ e => nso e)
    (fun ds e => Option.some.inj e ▸ ⟨_, .nil, rfl⟩) read_cons trivial (fun _ _ _ _ _ => trivial) vs xs r ds e
end
theorem reads_top (S : Sat X tbl env I J M ρ s) {v : Value} {av : AV} {d : PyData} (r : X.Rep I v av) (h : topD M av = some d) : ∃ as, Reads s.heap v d as ∧ d.canLay0 = true := by
  cases r with
  | ref a =>
    unfold topD at h
    cases hm : M a with
    | none => simp only [hm] at h; cases h
    | some mo =>
      simp only [hm] at h
      cases mo with
      | dict es => cases h
      | list ys =>
        obtain ⟨ds, e1, rfl⟩ := Option.map_eq_some_iff.mp h
        obtain ⟨vs, n, e, rr⟩ := S.st.mu a _ hm
        obtain ⟨as, hh, hc⟩ := reads_reps S.st.imm rr e1
        exact ⟨_, .list e rfl rfl hh, by simp only [PyData.canLay0]; exact hc⟩
  | none => exact reads_rep (P := X.w.params) (C := X.C) S.st.imm .none h
  | bool b => exact reads_rep (P := X.w.params) (C := X.C) S.st.imm (.bool b) h
  | int i t => exact reads_rep (P := X.w.params) (C := X.C) S.st.imm (.int i t) h
  | sy n t hn => exact reads_rep (P := X.w.params) (C := X.C) S.st.imm (.sy n t hn) h
  | tup a b => exact reads_rep (P := X.w.params) (C := X.C) S.st.imm (.tup a b) h
  | lst a b => exact reads_rep (P := X.w.params) (C := X.C) S.st.imm (.lst a b) h
  | inst a b c => cases h
  | piece a => cases h
  | rng a b c => cases h
  | any a => cases h

theorem wEq_inv {o : COp} {b : Bool} {Q : Bool → Prop} (h : wEq o b Q) : (o = .eq ∧ Q b) ∨ (o = .ne ∧ Q (!b)) := by
  cases o <;> first | exact .inl ⟨rfl, h⟩ | exact .inr ⟨rfl, h⟩ | exact h.elim
theorem wSy_inv {o : COp} {b : Bool} {Q : Bool → Prop} (h : wSy o b Q) : o = .eq ∧ Q b := by
  cases o <;> first | exact ⟨rfl, h⟩ | exact h.elim
theorem wCmp_inv {o : COp} {x y : AV} {Q : Bool → Prop} (h : wCmp o x y Q M) : (∃ a b, x = .int a ∧ y = .int b ∧ Q (cmpI o a b)) ∨ (∃ a b, x = .sy a ∧ y = .sy b ∧ o = .eq ∧ Q (a == b)) ∨ wCmpG o x y Q M := by
  unfold wCmp at h
  have tail : (match asS x, asS y with
    | some a, some b => wSy o (a == b) Q
    | _, _ => wCmpG o x y Q M) → (∃ a b, x = .sy a ∧ y = .sy b ∧ o = .eq ∧ Q (a == b)) ∨ wCmpG o x y Q M := fun h => by
    cases hx : asS x with
    | none => rw [hx] at h; exact .inr h
    | some a => cases hy : asS y with
      | none => rw [hx, hy] at h; exact .inr h
      | some b => rw [hx, hy] at h; exact .inl ⟨a, b, asS_inv hx, asS_inv hy, wSy_inv h⟩
  cases hx : asI x with
  | none => rw [hx] at h; exact .inr (tail h)
  | some a => cases hy : asI y with
    | none => rw [hx, hy] at h; exact .inr (tail h)
    | some b => rw [hx, hy] at h; exact .inl ⟨a, b, asI_inv hx, asI_inv hy, h⟩

theorem cmp_core {op : CmpOp} {o : COp} {v v' : Value} {av aw : AV} {Q : Bool → Prop} {R : Value → Shared → Prop} (ho : op = o.py) (hA : Room k A) (S : Sat X tbl env I J M ρ s) (r : X.Rep I v av) (r' : X.Rep I v' aw) (w : wCmp o av aw Q M)
    (h : ∀ b, Q b → R (.bool b) s) : wpAny X.mdl A (compareOp op v v') R NoE s := by
  have hu := hA.units
  rcases wCmp_inv w with ⟨a, b, rfl, rfl, q⟩ | ⟨a, b, rfl, rfl, rfl, q⟩ | ⟨dx, dy, hx, hy, hd, q⟩
  rotate_right
  · obtain ⟨as, ra, ca⟩ := reads_top S r hx
    obtain ⟨bs, rb, cb⟩ := reads_top S r' hy
    have hd' : min dx.depth dy.depth ≤ 60 := Nat.le_trans (Nat.min_le_left _ _) hd
    rcases wEq_inv q with ⟨rfl, q⟩ | ⟨rfl, q⟩
    · subst ho
      exact SeqAt.compareEq_reads ra rb ca cb (by exact lin [A.units, min dx.depth dy.depth, cLine, k] [] false (.h false false (.a (.a (.a (.v 0) (.m 8 (.v 3))) (.l 200)) (.l 1)) (.v 2) (.h false false (.v 1) (.l 60) (.v 0))) (.a (.a (.v 0) (.v 1)) (.l 1)) (.v 2) 1 [1, 1] (Eq.refl true) hu hd') (h _ q)
    · subst ho
      exact SeqAt.compareNe_reads ra rb ca cb (by exact lin [A.units, min dx.depth dy.depth, cLine, k] [] false (.h false false (.a (.a (.a (.v 0) (.m 8 (.v 3))) (.l 200)) (.l 1)) (.v 2) (.h false false (.v 1) (.l 60) (.v 0))) (.a (.a (.v 0) (.v 1)) (.l 1)) (.v 2) 1 [1, 1] (Eq.refl true) hu hd') (h _ q)
  · obtain ⟨t, rfl⟩ := Rep.int_inv r
    obtain ⟨u, rfl⟩ := Rep.int_inv r'
    exact cmpII ho (h _ q)
  · subst ho
    obtain ⟨h1, t, rfl⟩ := Rep.sy_inv r
    obtain ⟨h2, u, rfl⟩ := Rep.sy_inv r'
    refine SeqAt.compareEq_reads (.str _ t) (.str _ u) (by simp only [PyData.canLay0]; exact strOk_sym _ h1) (by simp only [PyData.canLay0]; exact strOk_sym _ h2) (by simp only [PyData.depth]; exact lin [A.units, min 0 0, cLine, k] [] false (.h false false (.a (.a (.a (.v 0) (.m 8 (.v 3))) (.l 200)) (.l 1)) (.v 2) (.h false false (.v 1) (.l 0) (.v 0))) (.a (.a (.v 0) (.v 1)) (.l 1)) (.v 2) 1 [1, 1] (Eq.refl true) hu (Nat.min_le_left (0) (0))) ?_
    have : PyData.eqv (.str (symAt a)) (.str (symAt b)) = (a == b) := by unfold PyData.eqv; exact symInj a h1 b h2
    rw [this]; exact h _ q

theorem snd_cmp {op : CmpOp} {o : COp} {l r : Expr} {a b : ME} {p : Pos} (ho : op = o.py) (hm : behindInMarks op r = false) (h1 : SndE X k T env l a) (h2 : SndE X k T env r b) : SndE X k T env (.Compare l [op] [r] p) (.cmp o a b) := fun A hA I J M ρ s Q S w => by
  refine wpAny_Compare1 (h1.go hA S w fun I1 M1 ρ1 s1 v av l1 S1 r1 w1 => h2.go hA S1 w1 fun I2 M2 ρ2 s2 v' aw l2 S2 r2 w2 => ?_) hm
  exact cmp_core ho hA S2 (r1.mono l2) r2 w2 fun b q => ⟨I2, M2, ρ2, _, l1.trans l2, S2, .bool b, q⟩
theorem sndT_cmp {op : CmpOp} {o : COp} {l r : Expr} {a b : ME} {p : Pos} (ho : op = o.py) (hm : behindInMarks op r = false) (h1 : SndE X k T env l a) (h2 : SndE X k T env r b) : SndT X k T env (.Compare l [op] [r] p) (.cmp o a b) := fun A hA I J M ρ s Q S w => by
  refine wpAny_isTrue_Compare1 (h1.go hA S w fun I1 M1 ρ1 s1 v av l1 S1 r1 w1 => h2.go hA S1 w1 fun I2 M2 ρ2 s2 v' aw l2 S2 r2 w2 => ?_) hm
  exact cmp_core ho hA S2 (r1.mono l2) r2 w2 fun b q => wpAny_truthy_bool ⟨I2, M2, ρ2, l1.trans l2, S2, q⟩

theorem br_split {b : Bool} {P R : Prop} (h : br b P R) : (b = true ∧ P) ∨ (b = false ∧ R) := by cases b <;> first | exact .inl ⟨rfl, h⟩ | exact .inr ⟨rfl, h⟩

theorem snd_chn {p1 p2 : CmpOp} {o1 o2 : COp} {l r q : Expr} {a b c : ME} {p : Pos} (ho1 : p1 = o1.py) (ho2 : p2 = o2.py) (hm : lastMarks [p1, p2] [r, q] = false) (h1 : SndE X k T env l a) (h2 : SndE X k T env r b) (h3 : SndE X k T env q c) :
    SndE X k T env (.Compare l [p1, p2] [r, q] p) (.chn o1 o2 a b c) := fun A hA I J M ρ s Q S w => by
  refine Compare_chain (h1.go hA S w fun I1 M1 ρ1 s1 v av l1 S1 r1 w1 => chain_link (h2.go hA S1 w1 fun I2 M2 ρ2 s2 v' aw l2 S2 r2 w2 => ?_)) hm
  obtain ⟨i, rfl, w3⟩ := wI_inv w2
  clear w2
  obtain ⟨j, rfl, w2⟩ := wI_inv w3
  obtain ⟨t, rfl⟩ := Rep.int_inv r1
  obtain ⟨u, rfl⟩ := Rep.int_inv r2
  refine cmpII ho1 (wpAny_truthy_bool ?_)
  rcases br_split w2 with ⟨e, w3⟩ | ⟨e, w3⟩
  · rw [e]
    refine chain_last (h3.go hA S2 w3 fun I3 M3 ρ3 s3 v3 az l3 S3 r3 w4 => ?_)
    obtain ⟨m, rfl, w4⟩ := wI_inv w4
    obtain ⟨t3, rfl⟩ := Rep.int_inv r3
    exact cmpII ho2 ⟨I3, M3, ρ3, _, l1.trans (l2.trans l3), S3, .bool _, w4⟩
  · rw [e]
    exact ⟨I2, M2, ρ2, _, l1.trans l2, S2, .bool _, w3⟩
theorem sndT_chn {p1 p2 : CmpOp} {o1 o2 : COp} {l r q : Expr} {a b c : ME} {p : Pos} (ho1 : p1 = o1.py) (ho2 : p2 = o2.py) (hm : lastMarks [p1, p2] [r, q] = false) (h1 : SndE X k T env l a) (h2 : SndE X k T env r b) (h3 : SndE X k T env q c) :
    SndT X k T env (.Compare l [p1, p2] [r, q] p) (.chn o1 o2 a b c) := fun A hA I J M ρ s Q S w => by
  refine isTrue_chain (h1.go hA S w fun I1 M1 ρ1 s1 v av l1 S1 r1 w1 => test_link (h2.go hA S1 w1 fun I2 M2 ρ2 s2 v' aw l2 S2 r2 w2 => ?_)) hm
  obtain ⟨i, rfl, w3⟩ := wI_inv w2
  clear w2
  obtain ⟨j, rfl, w2⟩ := wI_inv w3
  obtain ⟨t, rfl⟩ := Rep.int_inv r1
  obtain ⟨u, rfl⟩ := Rep.int_inv r2
  refine cmpII ho1 (wpAny_truthy_bool ?_)
  rcases br_split w2 with ⟨e, w3⟩ | ⟨e, w3⟩
  · rw [e]
    refine test_last (h3.go hA S2 w3 fun I3 M3 ρ3 s3 v3 az l3 S3 r3 w4 => ?_)
    obtain ⟨m, rfl, w4⟩ := wI_inv w4
    obtain ⟨t3, rfl⟩ := Rep.int_inv r3
    exact cmpII ho2 (wpAny_truthy_bool ⟨I3, M3, ρ3, l1.trans (l2.trans l3), S3, w4⟩)
  · rw [e]
    exact ⟨I2, M2, ρ2, l1.trans l2, S2, w3⟩

/-! is None -/
theorem isN_core {pos : Bool} {op : CmpOp} {v : Value} {av : AV} {Q : Bool → Prop} {R : Value → Shared → Prop} (ho : op = if pos then .Is else .IsNot) (r : X.Rep I v av) (w : wIsN pos av Q) (h : ∀ b, Q b → R (.bool b) s) : wpAny X.mdl A (compareOp op v .none) R NoE s := by
  subst ho
  cases r with
  | none => cases pos
            · exact wpAny_isNot_self rfl (h _ w)
            · exact wpAny_is_self rfl (h _ w)
  | int i t => cases pos
               · exact wpAny_isNot_other rfl (fun e => nomatch e) (h _ w)
               · exact wpAny_is_other rfl (fun e => nomatch e) (h _ w)
  | ref a => cases pos
             · exact wpAny_isNot_other rfl (fun e => nomatch e) (h _ w)
             · exact wpAny_is_other rfl (fun e => nomatch e) (h _ w)
  | tup h1 h2 => cases pos
                 · exact wpAny_isNot_other rfl (fun e => nomatch e) (h _ w)
                 · exact wpAny_is_other rfl (fun e => nomatch e) (h _ w)
  | lst h1 h2 => cases pos
                 · exact wpAny_isNot_other rfl (fun e => nomatch e) (h _ w)
                 · exact wpAny_is_other rfl (fun e => nomatch e) (h _ w)
  | _ => exact w.elim
theorem snd_isN {pos : Bool} {l : Expr} {c : Nat} {q : Pos} {a : ME} {p : Pos} (h1 : SndE X k T env l a) : SndE X k T env (.Compare l [if pos then .Is else .IsNot] [.Constant .none c q] p) (.isN pos a) := fun A hA I J M ρ s Q S w => by
  refine wpAny_Compare1 (h1.go hA S w fun I1 M1 ρ1 s1 v av l1 S1 r1 w1 => wpAny_Constant_none ?_) (by cases pos <;> rfl)
  exact isN_core (Q := fun b => Q (.bool b) M1 ρ1) rfl r1 w1 fun b q => ⟨I1, M1, ρ1, _, l1, S1, .bool b, q⟩
theorem sndT_isN {pos : Bool} {l : Expr} {c : Nat} {q : Pos} {a : ME} {p : Pos} (h1 : SndE X k T env l a) : SndT X k T env (.Compare l [if pos then .Is else .IsNot] [.Constant .none c q] p) (.isN pos a) := fun A hA I J M ρ s Q S w => by
  refine wpAny_isTrue_Compare1 (h1.go hA S w fun I1 M1 ρ1 s1 v av l1 S1 r1 w1 => wpAny_Constant_none ?_) (by cases pos <;> rfl)
  exact isN_core (Q := fun b => Q b M1 ρ1) rfl r1 w1 fun b q => wpAny_truthy_bool ⟨I1, M1, ρ1, l1, S1, q⟩
end
end Mine
namespace Mine

section
variable {X : Cx} {k : Nat} {T : Tx} {env : Env} {tbl : List Str} {I J : Imm} {M : Mem} {ρ : Env0} {s : Shared} {A : Around}

noncomputable def isStar : Expr → Bool
  | .Starred .. => true
  | _ => false
/-- a list of expressions, each sound -/
inductive SndL (X : Cx) (k : Nat) (T : Tx) (env : Env) : List Expr → MEs → Prop where
  | nil : SndL X k T env [] .nil
  | cons {e : Expr} {a : ME} {es : List Expr} {as : MEs} : isStar e = false → SndE X k T env e a → SndT X k T env e a → SndL X k T env es as → SndL X k T env (e :: es) (.cons a as)

theorem starEach_cons {e : Expr} {es : List Expr} (h : isStar e = false) : starEach (e :: es) env = (false, eval e env) :: starEach es env := by
  cases e <;> first | rfl | cases h
theorem backTo_cons {p : Pos} {t : Sem Value} {r : List (Bool × Sem Value)} : backTo p ((false, t) :: r) = (false, t) :: backTo p r := rfl

noncomputable def PostL (X : Cx) (tbl : List Str) (env : Env) (I J : Imm) (Q : List AV → Mem → Env0 → Prop) (vs : List Value) (s : Shared) : Prop :=
  ∃ I' M' ρ' avs, Le I I' ∧ Sat X tbl env I' J M' ρ' s ∧ X.Reps I' vs avs ∧ Q avs M' ρ'

theorem snd_args {p : Pos} (hA : Room k A) {es : List Expr} {as : MEs} (h : SndL X k T env es as) : ∀ {I : Imm} {M : Mem} {ρ : Env0} {s : Shared} {Q : List AV → Mem → Env0 → Prop}, Sat X T.tbl env I J M ρ s → WL gAV (Spec X k) as Q M ρ →
    wpAny X.mdl A (spliced (backTo p (starEach es env))) (PostL X T.tbl env I J Q) NoE s := by
  induction h with
  | nil => exact fun S w => Calls.spliced_nil ⟨_, _, _, [], Le.refl _, S, .nil, w⟩
  | cons hs h1 _ _ ih =>
    intro I M ρ s Q S w
    rw [starEach_cons hs, backTo_cons]
    refine Calls.spliced_cons (h1.go hA S w fun I1 M1 ρ1 s1 v av l1 S1 r1 w1 => wpAny_mono (ih S1 w1) ?_ fun _ _ x => x)
    rintro vs s2 ⟨I2, M2, ρ2, avs, l2, S2, r2, w2⟩
    exact ⟨I2, M2, ρ2, av :: avs, l1.trans l2, S2, .cons (r1.mono l2) r2, w2⟩

theorem snd_list {es : List Expr} {as : MEs} {p : Pos} (h : SndL X k T env es as) : SndE X k T env (.List es p) (.list as) := fun A hA I J M ρ s Q S w => by
  refine List_ (wpAny_mono (snd_args hA h S w) ?_ fun _ _ x => x)
  rintro vs s1 ⟨I1, M1, ρ1, avs, l1, S1, r1, w1⟩
  refine wpAny_into l1 (wpAny_newList (fresh_post (items := vs.toArray) (t := s1.toks) S1 (by simpa using r1) w1) ?_)
  rw [Reps.length r1]
  exact Nat.le_trans (fresh_len w1) lim_lt
theorem snd_tuple {es : List Expr} {as : MEs} {c : Nat} {p : Pos} (h : SndL X k T env es as) : SndE X k T env (.Tuple es c p) (.tuple as) := fun A hA I J M ρ s Q S w => by
  refine Tuple_ (wpAny_mono (snd_args hA h S w) ?_ fun _ _ x => x)
  rintro vs s1 ⟨I1, M1, ρ1, avs, l1, S1, r1, w1, w2⟩
  refine wpAny_newTuple ?_ (by rw [Reps.length r1]; exact Nat.le_trans w1 lim_lt)
  have le : Le I1 (upd I1 s1.heap.objs.size (tupO vs.toArray 0)) := Le.upd S1.st.size_none.1
  exact ⟨_, M1, ρ1, .tup avs, l1.trans le, S1.allocI (o := tupO vs.toArray 0) (t := s1.toks) rfl, .tup (vs := vs) (n := 0) upd_self (r1.mono le), w2⟩

/-! == [] -/
theorem nil_core {eq : Bool} {op : CmpOp} {v : Value} {av : AV} {xs : List AV} {p : Pos} {R : Value → Shared → Prop} (ho : op = if eq then .Eq else .NotEq) (hA : Room k A) (S : Sat X tbl env I J M ρ s) (r : X.Rep I v av) (hx : lists M av = some xs)
    (h : ∀ s', Sat X tbl env I J M ρ s' → R (.bool (if eq then xs.isEmpty else !xs.isEmpty)) s') : wpAny X.mdl A (eval (.List [] p) env) (fun b s2 => wpAny X.mdl A (compareOp op v b) R NoE s2) NoE s := by
  have hu : A.units < cLine := by have := hA.units; exact lin [A.units, cLine, k] [] false (.h false false (.a (.a (.a (.v 0) (.m 8 (.v 2))) (.l 200)) (.l 1)) (.v 1) (.v 0)) (.a (.v 0) (.l 1)) (.v 1) 1 [1] (Eq.refl true) this
  refine List_ (Calls.spliced_nil (wpAny_newList ?_ (by decide)))
  have S' : Sat X tbl env I J M ρ { s with heap := s.heap.push (lstO #[] 0) } := S.ext (t := s.toks) fun _ _ e => Heap.get?_push_of_some _ e
  obtain ⟨a, items, n, rfl, ha, rr⟩ := lists_obj S' r hx
  have hl : (s.heap.push (lstO #[] 0)).IsList a items := ⟨_, ha, rfl, _, rfl⟩
  have hb : (s.heap.push (lstO #[] 0)).IsList s.heap.objs.size #[] := ⟨_, Heap.get?_push_size _ rfl, rfl, _, rfl⟩
  have hz := reps_size rr
  have fin := h _ S'
  by_cases he : xs = []
  · subst he
    have hz0 : items.size = (#[] : Array Value).size := by rw [hz]; rfl
    have hi : items = #[] := Array.eq_empty_of_size_eq_zero hz0
    cases eq
    · subst ho
      exact SeqAt.RcNeAt.lists (e := fun _ => true) hl hb hz0 hu (fun j h1 _ => absurd h1 (by rw [hz0]; exact Nat.not_lt_zero _)) X.prog X.w NoE R (by rw [hi]; exact fin)
    · subst ho
      exact SeqAt.RcAt.lists (e := fun _ => true) hl hb hz0 hu (fun j h1 _ => absurd h1 (by rw [hz0]; exact Nat.not_lt_zero _)) X.prog X.w NoE R (by rw [hi]; exact fin)
  · have hne : (items.size != (#[] : Array Value).size) = true := by
      rw [hz]
      have : xs.length ≠ 0 := fun q => he (List.eq_nil_of_length_eq_zero q)
      simpa using this
    have hx' : xs.isEmpty = false := by cases xs <;> first | rfl | exact absurd rfl he
    rw [hx'] at fin
    cases eq
    · subst ho
      exact SeqAt.RcNeAt.lists_lengths hl hb hne hu X.prog X.w NoE R fin
    · subst ho
      exact SeqAt.RcAt.lists_lengths hl hb hne hu X.prog X.w NoE R fin
theorem snd_nil {eq : Bool} {l : Expr} {q : Pos} {a : ME} {p : Pos} (h1 : SndE X k T env l a) : SndE X k T env (.Compare l [if eq then .Eq else .NotEq] [.List [] q] p) (.nil eq a) := fun A hA I J M ρ s Q S w => by
  refine wpAny_Compare1 (h1.go hA S w fun I1 M1 ρ1 s1 v av l1 S1 r1 ⟨xs, hx, w1⟩ => ?_) (by cases eq <;> rfl)
  exact nil_core rfl hA S1 r1 hx fun s' S' => ⟨I1, M1, ρ1, _, l1, S', .bool _, w1⟩
theorem sndT_nil {eq : Bool} {l : Expr} {q : Pos} {a : ME} {p : Pos} (h1 : SndE X k T env l a) : SndT X k T env (.Compare l [if eq then .Eq else .NotEq] [.List [] q] p) (.nil eq a) := fun A hA I J M ρ s Q S w => by
  refine wpAny_isTrue_Compare1 (h1.go hA S w fun I1 M1 ρ1 s1 v av l1 S1 r1 ⟨xs, hx, w1⟩ => ?_) (by cases eq <;> rfl)
  exact nil_core rfl hA S1 r1 hx fun s' S' => wpAny_truthy_bool ⟨I1, M1, ρ1, l1, S', w1⟩

/-! in -/
theorem toInts_D : ∀ {xs : List AV} {is : List Int}, toInts xs = some is → toDs xs = some (is.map .int)
  | [], _, e => by cases e; rfl
  | .int i :: r, is, e => by
    unfold toInts at e
    obtain ⟨js, e1, rfl⟩ := Option.map_eq_some_iff.mp e
    have := toInts_D e1
    simp only [toDs, toD, this, List.map_cons]
theorem canLay_ints : ∀ is : List Int, PyData.canLayAll0 (is.map .int) = true
  | [] => rfl
  | i :: r => by simp only [List.map_cons, PyData.canLayAll0, PyData.canLay0, canLay_ints r, Bool.and_self]
theorem depth_ints : ∀ is : List Int, PyData.depthAll (is.map .int) = 0
  | [] => rfl
  | i :: r => by simp only [List.map_cons, PyData.depthAll, PyData.depth, depth_ints r]; rfl
theorem any_ints (i : Int) : ∀ is : List Int, ((is.map PyData.int).any fun y => PyData.eqv y (.int i)) = decide (i ∈ is)
  | [] => by simp
  | j :: r => by
    rw [List.map_cons, List.any_cons, any_ints i r]
    have : PyData.eqv (.int j) (.int i) = decide (i = j) := by
      unfold PyData.eqv
      show decide (j = i) = decide (i = j)
      exact decide_eq_decide.mpr eq_comm
    rw [this, ← Bool.decide_or]
    congr 1
    simp
theorem mem_core {pos : Bool} {op : CmpOp} {v v' : Value} {av aw : AV} {Q : QE} {R : Value → Shared → Prop} (ho : op = if pos then .In else .NotIn) (hA : Room k A) (S : Sat X tbl env I J M ρ s) (r : X.Rep I v av) (r' : X.Rep I v' aw) (w : wMem pos av aw Q M ρ)
    (h : ∀ b, Q (.bool b) M ρ → R (.bool b) s) : wpAny X.mdl A (compareOp op v v') R NoE s := by
  obtain ⟨i, rfl, ys, is, hy, hi, q⟩ := wI_inv w
  obtain ⟨t, rfl⟩ := Rep.int_inv r
  have hu := hA.units
  have hD := toInts_D hi
  have room : A.units + 1 + min (PyData.depthAll (is.map .int)) (PyData.depth (.int i)) < cLine := by rw [depth_ints]; simp only [PyData.depth]; exact lin [A.units, min 0 0, cLine, k] [] false (.h false false (.a (.a (.a (.v 0) (.m 8 (.v 3))) (.l 200)) (.l 1)) (.v 2) (.h false false (.v 1) (.l 0) (.v 0))) (.a (.a (.a (.v 0) (.l 1)) (.v 1)) (.l 1)) (.v 2) 1 [1, 1] (Eq.refl true) hu (Nat.min_le_left (0) (0))
  have rx : Reads s.heap (.int i t) (.int i) [] := .int i t
  obtain ⟨a, items, n, rfl, ha, rr⟩ := seqs_obj S r' hy
  obtain ⟨as, ra, ca⟩ := reads_reps S.st.imm rr hD
  rcases ha with ha | ha
  · have rc : Reads s.heap (.ref a) (.list (is.map .int)) (a :: as) := .list ha rfl rfl ra
    cases pos
    · subst ho
      exact SeqAt.notIn_list_reads rc rx (canLay_ints is) rfl room (h _ (by rw [any_ints]; exact q))
    · subst ho
      exact SeqAt.in_list_reads rc rx (canLay_ints is) rfl room (h _ (by rw [any_ints]; exact q))
  · have rc : Reads s.heap (.ref a) (.tuple (is.map .int)) as := .tuple ha rfl rfl ra
    cases pos
    · subst ho
      exact SeqAt.notIn_tuple_reads rc rx (canLay_ints is) rfl room (h _ (by rw [any_ints]; exact q))
    · subst ho
      exact SeqAt.in_tuple_reads rc rx (canLay_ints is) rfl room (h _ (by rw [any_ints]; exact q))
theorem snd_mem {pos : Bool} {l r : Expr} {a b : ME} {p : Pos} (hm : behindInMarks (if pos then .In else .NotIn) r = false) (h1 : SndE X k T env l a) (h2 : SndE X k T env r b) : SndE X k T env (.Compare l [if pos then .In else .NotIn] [r] p) (.mem pos a b) := fun A hA I J M ρ s Q S w => by
  refine wpAny_Compare1 (h1.go hA S w fun I1 M1 ρ1 s1 v av l1 S1 r1 w1 => h2.go hA S1 w1 fun I2 M2 ρ2 s2 v' aw l2 S2 r2 w2 => ?_) hm
  exact mem_core rfl hA S2 (r1.mono l2) r2 w2 fun b q => ⟨I2, M2, ρ2, _, l1.trans l2, S2, .bool b, q⟩
theorem sndT_mem {pos : Bool} {l r : Expr} {a b : ME} {p : Pos} (hm : behindInMarks (if pos then .In else .NotIn) r = false) (h1 : SndE X k T env l a) (h2 : SndE X k T env r b) : SndT X k T env (.Compare l [if pos then .In else .NotIn] [r] p) (.mem pos a b) := fun A hA I J M ρ s Q S w => by
  refine wpAny_isTrue_Compare1 (h1.go hA S w fun I1 M1 ρ1 s1 v av l1 S1 r1 w1 => h2.go hA S1 w1 fun I2 M2 ρ2 s2 v' aw l2 S2 r2 w2 => ?_) hm
  exact mem_core rfl hA S2 (r1.mono l2) r2 w2 fun b q => wpAny_truthy_bool ⟨I2, M2, ρ2, l1.trans l2, S2, q⟩

/-! and, or, if -/
theorem snd_ite {c x y : Expr} {mc a b : ME} {p : Pos} (h0 : SndT X k T env c mc) (h1 : SndE X k T env x a) (h2 : SndE X k T env y b) : SndE X k T env (.IfExp c x y p) (.ite mc a b) := fun A hA I J M ρ s Q S w => by
  refine wpAny_IfExp (h0.go (Q := fun t M ρ => br t (WE gAV (Spec X k) a Q M ρ) (WE gAV (Spec X k) b Q M ρ)) hA S w fun I1 M1 ρ1 s1 t l1 S1 w1 => ?_)
  rcases br_split w1 with ⟨rfl, w2⟩ | ⟨rfl, w2⟩
  · rw [if_pos rfl]; exact wpAny_into l1 (h1 A hA I1 J M1 ρ1 s1 Q S1 w2)
  · rw [if_neg Bool.false_ne_true]; exact wpAny_into l1 (h2 A hA I1 J M1 ρ1 s1 Q S1 w2)
theorem sndT_ite {c x y : Expr} {mc a b : ME} {p : Pos} (h0 : SndT X k T env c mc) (h1 : SndT X k T env x a) (h2 : SndT X k T env y b) : SndT X k T env (.IfExp c x y p) (.ite mc a b) := fun A hA I J M ρ s Q S w => by
  rw [arm_isTrue_IfExp]
  refine wpAny_bind (h0.go (Q := fun t M ρ => br t (WE gAV (Spec X k) a (fun v M ρ => wB v fun b => Q b M ρ) M ρ) (WE gAV (Spec X k) b (fun v M ρ => wB v fun b => Q b M ρ) M ρ)) hA S w fun I1 M1 ρ1 s1 t l1 S1 w1 => ?_)
  rcases br_split w1 with ⟨rfl, w2⟩ | ⟨rfl, w2⟩
  · exact wpAny_intoB l1 (h1 A hA I1 J M1 ρ1 s1 Q S1 w2)
  · exact wpAny_intoB l1 (h2 A hA I1 J M1 ρ1 s1 Q S1 w2)

theorem boolOp_cons {p : Pos} {op : BoolOp} {x y : Sem Value} {r : List (Sem Value)} : boolOp p op (x :: y :: r) = (do
    let v ← x
    standAt p
    let t ← holding [v] (truthy v)
    match op, t with
    | .And, false | .Or, true => pure v
    | _, _ => boolOp p op (y :: r)) := rfl
theorem snd_bopL {and : Bool} {p : Pos} (hA : Room k A) {es : List Expr} {as : MEs} (h : SndL X k T env es as) : ∀ {I : Imm} {M : Mem} {ρ : Env0} {s : Shared} {Q : QE}, Sat X T.tbl env I J M ρ s → WB gAV (Spec X k) and as Q M ρ →
    wpAny X.mdl A (boolOp p (opOf and) (evalEach es env)) (PostE X T.tbl env I J Q) NoE s := by
  induction h with
  | nil => exact fun _ w => w.elim
  | cons _ h1 _ hr ih => cases hr with
    | nil => exact fun S w => h1 A hA _ J _ _ _ _ S w
    | @cons e2 a2 es2 as2 hs h2 h2' hr =>
      intro I M ρ s Q S w
      rw [arm_evalEach_cons, arm_evalEach_cons, boolOp_cons]
      refine wpAny_bind (h1.go hA S w fun I1 M1 ρ1 s1 v av l1 S1 r1 w1 => wpAny_bind (wpAny_standAt (wpAny_bind (wpAny_holding ?_))))
      obtain ⟨b, rfl, w2⟩ := wB_inv w1
      obtain rfl := Rep.bool_inv r1
      refine wpAny_truthy_bool ?_
      have ih : WB gAV (Spec X k) and (.cons a2 as2) Q M1 ρ1 → wpAny X.mdl A (boolOp p (opOf and) (eval e2 env :: evalEach es2 env)) (PostE X T.tbl env I J Q) NoE s1 := fun w => wpAny_into l1 (ih S1 w)
      rcases br_split w2 with ⟨e, w3⟩ | ⟨e, w3⟩
      · cases and <;> cases b <;> first | exact absurd e (by decide) | exact ih w3
      · cases and <;> cases b <;> first | exact absurd e (by decide) | exact wpAny_pure ⟨I1, M1, ρ1, _, l1, S1, .bool _, w3⟩
theorem sndT_bopL {and : Bool} (hA : Room k A) {es : List Expr} {as : MEs} (h : SndL X k T env es as) : ∀ {I : Imm} {M : Mem} {ρ : Env0} {s : Shared} {Q : Bool → Mem → Env0 → Prop}, Sat X T.tbl env I J M ρ s → WB gAV (Spec X k) and as (fun v M ρ => wB v fun b => Q b M ρ) M ρ →
    wpAny X.mdl A (allTrue (opOf and) es env) (PostB X T.tbl env I J Q) NoE s := by
  induction h with
  | nil => exact fun _ w => w.elim
  | cons _ _ h1 hr ih => cases hr with
    | nil =>
      intro I M ρ s Q S w
      cases and
      · refine wpAny_allTrue_Or_cons (h1.go hA S w fun I1 M1 ρ1 s1 b l1 S1 w1 => ?_)
        cases b
        · exact wpAny_allTrue_Or_nil ⟨I1, M1, ρ1, l1, S1, w1⟩
        · exact ⟨I1, M1, ρ1, l1, S1, w1⟩
      · refine wpAny_allTrue_And_cons (h1.go hA S w fun I1 M1 ρ1 s1 b l1 S1 w1 => ?_)
        cases b
        · exact ⟨I1, M1, ρ1, l1, S1, w1⟩
        · exact wpAny_allTrue_And_nil ⟨I1, M1, ρ1, l1, S1, w1⟩
    | @cons e2 a2 es2 as2 hs h2 h2' hr =>
      intro I M ρ s Q S w
      have w' : WE gAV (Spec X k) _ (fun x M ρ => wB x fun b => br (b == and) (WB gAV (Spec X k) and (.cons a2 as2) (fun v M ρ => wB v fun b => Q b M ρ) M ρ) (Q b M ρ)) M ρ := w
      cases and
      · refine wpAny_allTrue_Or_cons (h1.go hA S w' fun I1 M1 ρ1 s1 b l1 S1 w1 => ?_)
        cases b
        · exact wpAny_intoB l1 (ih S1 w1)
        · exact ⟨I1, M1, ρ1, l1, S1, w1⟩
      · refine wpAny_allTrue_And_cons (h1.go hA S w' fun I1 M1 ρ1 s1 b l1 S1 w1 => ?_)
        cases b
        · exact ⟨I1, M1, ρ1, l1, S1, w1⟩
        · exact wpAny_intoB l1 (ih S1 w1)
theorem snd_bop {and : Bool} {es : List Expr} {as : MEs} {p : Pos} (h : SndL X k T env es as) : SndE X k T env (.BoolOp (opOf and) es p) (.bop and as) := fun A hA I J M ρ s Q S w => by
  rw [arm_eval_BoolOp]
  exact snd_bopL hA h S w
theorem sndT_bop {and : Bool} {es : List Expr} {as : MEs} {p : Pos} (h : SndL X k T env es as) : SndT X k T env (.BoolOp (opOf and) es p) (.bop and as) := fun A hA I J M ρ s Q S w => by
  rw [arm_isTrue_BoolOp]
  exact sndT_bopL hA h S w
end
end Mine
namespace Mine

section
variable {X : Cx} {k : Nat} {T : Tx} {env : Env} {tbl : List Str} {I J : Imm} {M : Mem} {ρ : Env0} {s : Shared} {A : Around}

theorem subscripted_gen (slice : Expr) (o i : Value) : ∃ vs, subscripted slice false o i = operate vs (getItem o i) := by
  cases slice with
  | Slice _ _ c => cases c <;> exact ⟨_, rfl⟩
  | _ => exact ⟨_, rfl⟩
theorem sub_tail {ty id : String} {value slice : Expr} {o i : Value} {R : Value → Shared → Prop} (hl : typeLookup (.type ty) "__getitem__" = pure (some (.builtin id))) (hT : s.TypeIs o ty) (h : wpAny X.mdl A (getItem o i) R NoE s) :
    wpAny X.mdl A (do let r ← subscripted slice (← getitemInPython o) o i; letTemporaryGo value o r; pure r) R NoE s := by
  obtain ⟨vs, e⟩ := subscripted_gen slice o i
  have fin : wpAny X.mdl A (subscripted slice false o i) (fun r s₃ => wpAny X.mdl A (letTemporaryGo value o r >>= fun _ => pure r) R NoE s₃) NoE s := by
    rw [e]
    exact wpAny_operating (wpAny_mono h (fun r s₃ h₃ => wpAny_bind (wpAny_letTemporaryGo (wpAny_pure h₃))) fun _ _ x => x)
  refine wpAny_bind ?_
  rw [getitemInPython_of_ne hT.not_modules]
  refine wpAny_bind (wpAny_specialOf hT hl ?_)
  exact wpAny_pure (wpAny_bind fin)

theorem getI_get {xs : List AV} {x : AV} {j : Int} (h : getI xs j = some x) : (0 ≤ j ∧ xs[j.toNat]? = some x) ∨ (j < 0 ∧ -(xs.length : Int) ≤ j ∧ xs[(j + xs.length).toNat]? = some x) := by
  unfold getI at h
  split at h
  · rename_i h0; exact .inl ⟨h0, h⟩
  · rename_i h0
    split at h
    · rename_i h1
      refine .inr ⟨by exact lin [] [j] true (.h false true (.a (.v 0) (.l 1)) (.l 0) (.v 0)) (.a (.v 0) (.l 1)) (.l 0) 1 [1] (Eq.refl true) (Int.not_le.mp h0), by exact lin [xs.length, j.natAbs] [j] true (.h false false (.v 1) (.v 0) (.h false true (.g (.v 0)) (.c (.v 1)) (.v 0))) (.g (.c (.v 0))) (.v 0) 1 [1, 1] (Eq.refl true) h1 (nab_neg (j)), ?_⟩
      have : (j + (xs.length : Int)).toNat = xs.length - j.natAbs := by exact linE [_, _, _, _] [_] false (.h true true (.c (.v 0)) (.a (.v 0) (.c (.v 2))) (.h true false (.a (.v 1) (.v 3)) (.v 2) (.h true true (.c (.v 3)) (.g (.v 0)) (.v 0)))) (.v 0) (.v 1) 1 [1, .negSucc 0, 1] 1 [.negSucc 0, 1, .negSucc 0] (Eq.refl true) (Eq.refl true) (Int.toNat_of_nonneg (lin [_, _] [_] true (.h false false (.v 1) (.v 0) (.h false true (.g (.v 0)) (.c (.v 1)) (.v 0))) (.l 0) (.a (.v 0) (.c (.v 0))) 1 [1, 1] (Eq.refl true) h1 (nab_neg (j)))) (Nat.sub_add_cancel (lin [_, _] [] false (.h false false (.v 0) (.v 1) (.v 0)) (.v 0) (.v 1) 1 [1] (Eq.refl true) h1)) (Int.ofNat_natAbs_of_nonpos (lin [] [_] true (.h false true (.a (.v 0) (.l 1)) (.l 0) (.v 0)) (.v 0) (.l 0) 1 [1] (Eq.refl true) (Int.not_le.mp h0)))
      rw [this]; exact h
    · cases h
theorem getItem_core {v : Value} {av : AV} {xs : List AV} {j : Int} {t : Tok} {x : AV} {R : Value → Shared → Prop} (S : Sat X tbl env I J M ρ s) (r : X.Rep I v av) (hx : seqs M av = some xs) (hg : getI xs j = some x) (hlo : -1000000 < j) (hhi : j < 1000000)
    (h : ∀ w, X.Rep I w x → R w s) : (∃ ty id, typeLookup (.type ty) "__getitem__" = pure (some (.builtin id)) ∧ s.TypeIs v ty) ∧ wpAny X.mdl A (getItem v (.int j t)) R NoE s := by
  obtain ⟨a, items, n, rfl, ha, rr⟩ := seqs_obj S r hx
  have hz := reps_size rr
  rcases ha with ha | ha
  · have hl : s.heap.IsList a items := ⟨_, ha, rfl, _, rfl⟩
    refine ⟨⟨"list", _, slot_list_getitem.lookup, ⟨_, ha, rfl⟩⟩, ?_⟩
    rcases getI_get hg with ⟨h0, e⟩ | ⟨h0, h1, e⟩
    · obtain ⟨w, ew, rw'⟩ := rr.get e
      exact wpAny_getItem_list hl h0 (by exact lin [] [j] true (.h false true (.a (.v 0) (.l 1)) (.l 1000000) (.v 0)) (.a (.v 0) (.l 1)) (.l 9223372036854775808) 1 [1] (Eq.refl true) hhi) (by rw [← Array.getElem?_toList]; exact ew) (h w rw')
    · rw [← hz] at e
      obtain ⟨w, ew, rw'⟩ := rr.get e
      exact wpAny_getItem_list_neg hl h0 (by rw [hz]; exact h1) (by exact lin [] [j] true (.h false true (.a (.g (.l 1000000)) (.l 1)) (.v 0) (.v 0)) (.g (.l 9223372036854775808)) (.v 0) 1 [1] (Eq.refl true) hlo) (by rw [← Array.getElem?_toList]; exact ew) (h w rw')
  · refine ⟨⟨"tuple", _, slot_tuple_getitem.lookup, ⟨_, ha, rfl⟩⟩, ?_⟩
    rcases getI_get hg with ⟨h0, e⟩ | ⟨h0, h1, e⟩
    · obtain ⟨w, ew, rw'⟩ := rr.get e
      have : j.toNat < items.size := by
        have := (List.getElem?_eq_some_iff.mp ew).1
        simpa using this
      exact P.getItem_tuple (n := n) (k := j.toNat) ha (by exact lin [] [j] true (.h false true (.l 0) (.v 0) (.v 0)) (.g (.l 9223372036854775808)) (.v 0) 1 [1] (Eq.refl true) h0) (by exact lin [] [j] true (.h false true (.a (.v 0) (.l 1)) (.l 1000000) (.v 0)) (.a (.v 0) (.l 1)) (.l 9223372036854775808) 1 [1] (Eq.refl true) hhi) (seqIndex_of h0 (by exact lin [items.size, j.toNat] [j] true (.h false false (.a (.v 1) (.l 1)) (.v 0) (.h false true (.v 0) (.c (.v 1)) (.v 0))) (.a (.v 0) (.l 1)) (.c (.v 0)) 1 [1, 1] (Eq.refl true) this (Int.self_le_toNat (j)))) (by rw [← Array.getElem?_toList]; exact ew) (h w rw')
    · rw [← hz] at e
      obtain ⟨w, ew, rw'⟩ := rr.get e
      refine P.getItem_tuple (n := n) (k := (j + items.size).toNat) ha (by exact lin [] [j] true (.h false true (.a (.g (.l 1000000)) (.l 1)) (.v 0) (.v 0)) (.g (.l 9223372036854775808)) (.v 0) 1 [1] (Eq.refl true) hlo) (by exact lin [] [j] true (.h false true (.a (.v 0) (.l 1)) (.l 0) (.v 0)) (.a (.v 0) (.l 1)) (.l 9223372036854775808) 1 [1] (Eq.refl true) h0) ?_ (by rw [← Array.getElem?_toList]; exact ew) (h w rw')
      unfold seqIndex?
      have h2 : j < 0 := h0
      simp only [h2, if_true]
      have h3 : 0 ≤ j + (items.size : Int) := by rw [hz]; exact lin [xs.length] [j] true (.h false true (.g (.c (.v 0))) (.v 0) (.v 0)) (.l 0) (.a (.v 0) (.c (.v 0))) 1 [1] (Eq.refl true) h1
      have h4 : j + (items.size : Int) < items.size := by exact lin [items.size] [j] true (.h false true (.a (.v 0) (.l 1)) (.l 0) (.v 0)) (.a (.a (.v 0) (.c (.v 0))) (.l 1)) (.c (.v 0)) 1 [1] (Eq.refl true) h2
      simp [h3, h4]
end
end Mine
namespace Mine

section
variable {X : Cx} {k : Nat} {T : Tx} {env : Env} {tbl : List Str} {I J : Imm} {M : Mem} {ρ : Env0} {s : Shared} {A : Around}

theorem isStrOf_sym (n : Nat) (t : Tok) : Value.isStrOf (symAt n) (.str (symAt n) t) = true := by
  simp [Value.isStrOf]
theorem dictOf_one {prog : Program} {w : World} {C : Addr} {h : Heap} {d : Addr} {n : Nat} {x : AV} (H : HasMO w.params C I h d (.dict [(n, x)])) : ∃ v, h.DictOf (strKind prog w) d [(symAt n, v)] ∧ Mine.Rep w.params C I v x := by
  obtain ⟨ds, c, e, r⟩ := H
  obtain ⟨l⟩ := ds
  cases r with
  | cons hk hr hn =>
    cases hn
    rename_i t v
    refine ⟨v, ⟨_, _, _, e, ⟨rfl, rfl, rfl⟩, rfl, ?_, ?_, ?_⟩, hr⟩
    · intro en hen
      have : en = ⟨keyH w.params (symAt n), .str (symAt n) t, v⟩ := by simpa using hen
      subst this
      exact ⟨symAt n, isStrOf_sym n t, rfl⟩
    · exact .cons (isStrOf_sym n t) rfl .nil
    · simp
theorem key_lt {w : World} {C : Addr} {h : Heap} {d : Addr} {n : Nat} {x : AV} (H : HasMO w.params C I h d (.dict [(n, x)])) : n < 7 := by
  obtain ⟨⟨l⟩, c, e, r⟩ := H
  cases r with
  | cons hk hr hn => exact hk
theorem hasMO_one {prog : Program} {w : World} {C : Addr} {h : Heap} {d : Addr} {n : Nat} {x : AV} {v : Value} (hn7 : n < 7) (H : h.DictOf (strKind prog w) d [(symAt n, v)]) (r : Mine.Rep w.params C I v x) : HasMO w.params C I h d (.dict [(n, x)]) := by
  obtain ⟨⟨c, dd, dt, sl⟩, ⟨l⟩, ep, ho, ⟨h1, h2, h3⟩, hd, hk, hp, _⟩ := H
  dsimp only at h1 h2 h3 hd
  subst h1 h2 h3 hd
  refine ⟨_, ep, ho, ?_⟩
  cases hp with
  | cons hk1 hv hn =>
    cases hn
    rename_i e
    obtain ⟨k', hk2, hh⟩ := hk e (by simp)
    have hkk : k' = symAt n := (strKind prog w).inj e.key k' (symAt n) hk2 hk1
    subst hkk
    obtain ⟨hs, key, val⟩ := e
    obtain ⟨t, rfl⟩ := Value.isStrOf_shape hk1
    dsimp only at hh hv
    subst hv
    have : hs = keyH w.params (symAt n) := hh
    subst this
    exact .cons hn7 r .nil

theorem snd_sub {o i : Expr} {a b : ME} {p : Pos} (h1 : SndE X k T env o a) (h2 : SndE X k T env i b) : SndE X k T env (.Subscript o i p) (.sub a b) := fun A hA I J M ρ s Q S w => by
  rw [arm_eval_Subscript]
  refine wpAny_bind (h1.go hA S w fun I1 M1 ρ1 s1 v av l1 S1 r1 w1 => wpAny_bind (wpAny_holding (h2.go hA S1 w1 fun I2 M2 ρ2 s2 v' aw l2 S2 r2 w2 => wpAny_bind (wpAny_standAt ?_))))
  have r1' := r1.mono l2
  cases aw with
  | int j =>
    obtain ⟨t, rfl⟩ := Rep.int_inv r2
    obtain ⟨xs, x, hx, hg, hlo, hhi, q⟩ := w2
    obtain ⟨⟨ty, id, hl, hT⟩, h3⟩ := getItem_core (R := PostE X T.tbl env I J Q) (A := A) (t := t) S2 r1' hx hg hlo hhi fun w rw' => ⟨I2, M2, ρ2, _, l1.trans l2, S2, rw', q⟩
    exact sub_tail hl hT h3
  | sy n =>
    obtain ⟨hn, t, rfl⟩ := Rep.sy_inv r2
    cases av with
    | ref c =>
      obtain ⟨x, hm, q⟩ := w2
      cases r1'
      obtain ⟨u, hd, hu⟩ := dictOf_one (prog := X.prog) (S2.st.mu c _ hm)
      refine sub_tail slot_dict_getitem.lookup hd.typeIs ?_
      refine wpAny_getItem_of (knd := strKind X.prog X.w) (k := symAt n) (v := u) (isStrOf_sym n t) hd.mapOf (by simp [valueAt]) ?_
      exact ⟨I2, M2, ρ2, _, l1.trans l2, S2.tok _, hu, q⟩
    | _ => exact w2.elim
  | _ => exact w2.elim
end
end Mine
namespace Mine

section
variable {X : Cx} {k : Nat} {T : Tx} {env : Env} {tbl : List Str} {I J : Imm} {M : Mem} {ρ : Env0} {s : Shared} {A : Around}

inductive SndO (X : Cx) (k : Nat) (T : Tx) (env : Env) : Option Expr → ME → Prop where
  | none : SndO X k T env none (.con .none)
  | some {e : Expr} {a : ME} : SndE X k T env e a → SndO X k T env (some e) a
theorem SndO.go {pe : Option Expr} {e : ME} {R : Value → Shared → Prop} {Q : QE} (h : SndO X k T env pe e) (hA : Room k A) (S : Sat X T.tbl env I J M ρ s) (w : WE gAV (Spec X k) e Q M ρ)
    (hR : ∀ I' M' ρ' s' v av, Le I I' → Sat X T.tbl env I' J M' ρ' s' → X.Rep I' v av → Q av M' ρ' → R v s') : wpAny X.mdl A (evalPart pe env) R NoE s := by
  cases h with
  | none => exact wpAny_evalPart_none (hR I M ρ s _ _ (Le.refl I) S .none w)
  | some h => exact wpAny_evalPart_some (h.go hA S w hR)

theorem Reps.get_none {vs : List Value} {xs : List AV} (r : X.Reps I vs xs) (i : Nat) : xs[i]? = none → vs[i]? = none := fun h => by
  have := Reps.length r
  rw [List.getElem?_eq_none_iff] at h ⊢
  exact lin [vs.length, i, xs.length] [] false (.h false false (.v 2) (.v 1) (.h true false (.v 0) (.v 2) (.v 0))) (.v 0) (.v 1) 1 [1, 1] (Eq.refl true) h this
theorem reps_filterMap {items : Array Value} {xs : List AV} (r : X.Reps I items.toList xs) : ∀ is : List Nat, X.Reps I (is.filterMap (items[·]?)) (is.filterMap (xs[·]?))
  | [] => .nil
  | i :: is => by
    rw [List.filterMap_cons, List.filterMap_cons]
    cases h : xs[i]? with
    | none =>
      have : items[i]? = none := by rw [← Array.getElem?_toList]; exact Reps.get_none r i h
      rw [this]; exact reps_filterMap r is
    | some x =>
      obtain ⟨v, hv, hr⟩ := Reps.get r h
      have : items[i]? = some v := by rw [← Array.getElem?_toList]; exact hv
      rw [this]; exact .cons hr (reps_filterMap r is)
theorem reps_pick {items : Array Value} {xs : List AV} (r : X.Reps I items.toList xs) (lo hi st : Option Int) : X.Reps I (slicePick items lo hi st).toList (pickL xs lo hi st) := by
  unfold slicePick pickL
  rw [reps_size r]
  simpa using reps_filterMap r _
theorem part_of {v : Value} {av : AV} {l : Option Int} (r : X.Rep I v av) (h : partI av = some l) : IsPart v l := by
  have ri := r.inv
  cases av with
  | none => rw [show v = .none from ri, ← Option.some.inj h]; exact .none
  | int i => obtain ⟨t, rfl⟩ := ri; rw [← Option.some.inj h]; exact .int i t
  | _ => exact nso h

theorem slice_list {o : Expr} {lo hi st : Option Expr} {p' : Pos} {v v2 v3 v4 : Value} {ll hh tt : Option Int} {sl : Addr} {av : AV} {xs : List AV} {Q : QE} (S : Sat X T.tbl env I J M ρ s) (r : X.Rep I v av) (hs : s.heap.IsSliceOf sl v2 v3 v4) (p2 : IsPart v2 ll) (p3 : IsPart v3 hh) (p4 : IsPart v4 tt) (ht : tt ≠ some 0)
    (hx : lists M av = some xs) (hlen : xs.length ≤ lim) (w : fresh (pickL xs ll hh tt) Q M ρ) : wpAny X.mdl A (do let r ← subscripted (.Slice lo hi st p') (← getitemInPython v) v (.ref sl); letTemporaryGo o v r; pure r) (PostE X T.tbl env I J Q) NoE s := by
  obtain ⟨c, items, n, rfl, hc, rr⟩ := lists_obj S r hx
  refine sub_tail slot_list_getitem.lookup ⟨_, hc, rfl⟩ ?_
  refine wpAny_getItem_list_slice ⟨_, hc, rfl, _, rfl⟩ hs p2 p3 p4 ht ?_ (by rw [reps_size rr]; exact Nat.le_trans hlen lim_lt)
  exact fresh_post (t := s.toks) S (reps_pick rr ll hh tt) w
theorem part_some {v : Value} {i : Int} (h : IsPart v (some i)) : ∃ t, v = .int i t := by cases h; exact ⟨_, rfl⟩
theorem part_none {v : Value} (h : IsPart v none) : v = .none := by cases h; rfl
theorem slice_tup {o : Expr} {lo hi st : Option Expr} {p' : Pos} {v v2 v3 v4 : Value} {c : Nat} {sl : Addr} {xs : List AV} {Q : QE} (S : Sat X T.tbl env I J M ρ s) (r : X.Rep I v (.tup xs)) (hs : s.heap.IsSliceOf sl v2 v3 v4) (p2 : IsPart v2 (some (c : Int))) (p3 : IsPart v3 none) (p4 : IsPart v4 none)
    (h1 : 1 ≤ c) (h2 : c ≤ xs.length) (h3 : xs.length ≤ lim) (q : Q (.tup (xs.drop c)) M ρ) : wpAny X.mdl A (do let r ← subscripted (.Slice lo hi st p') (← getitemInPython v) v (.ref sl); letTemporaryGo o v r; pure r) (PostE X T.tbl env I J Q) NoE s := by
  obtain ⟨a, vs, n, rfl, hI, hr⟩ := r.inv
  obtain ⟨t, rfl⟩ := part_some p2
  obtain rfl := part_none p3
  obtain rfl := part_none p4
  have hc := S.st.imm _ _ hI
  have hz : vs.length = xs.length := Reps.length hr
  have le : Le I (upd I s.heap.objs.size (tupO (vs.drop c).toArray 0)) := Le.upd S.st.size_none.1
  refine sub_tail F.slot_tuple_getitem.lookup ⟨_, hc, rfl⟩ (getItem_tuple_from (items := vs.toArray) (a := c) ⟨_, hc, rfl, _, rfl⟩ hs h1 (hz.symm ▸ h2 : c ≤ vs.length) ?_ (Nat.le_trans (hz.symm ▸ h3 : vs.length ≤ lim) lim_lt))
  exact ⟨_, M, ρ, .tup (xs.drop c), le, S.allocI (o := tupO (vs.drop c).toArray 0) (t := s.toks) rfl, .tup (vs := vs.drop c) (n := 0) upd_self ((hr.drop c).mono le), q⟩
theorem slice_core {o : Expr} {lo hi st : Option Expr} {p' : Pos} {v v2 v3 v4 : Value} {a2 a3 a4 : AV} {sl : Addr} {av : AV} {Q : QE} (S : Sat X T.tbl env I J M ρ s) (r : X.Rep I v av) (hs : s.heap.IsSliceOf sl v2 v3 v4) (r2 : X.Rep I v2 a2) (r3 : X.Rep I v3 a3) (r4 : X.Rep I v4 a4) (w : wSlice av a2 a3 a4 Q M ρ) :
    wpAny X.mdl A (do let r ← subscripted (.Slice lo hi st p') (← getitemInPython v) v (.ref sl); letTemporaryGo o v r; pure r) (PostE X T.tbl env I J Q) NoE s := by
  obtain ⟨ll, hh, tt, e2, e3, e4, ht, w5⟩ := w
  have p2 := part_of r2 e2
  have p3 := part_of r3 e3
  have p4 := part_of r4 e4
  cases av with
  | tup xs =>
    obtain ⟨c, rfl, rfl, rfl, ha1, ha2, ha3, q⟩ := w5
    exact slice_tup S r hs p2 p3 p4 ha1 ha2 ha3 q
  | _ => exact w5.elim fun xs h => slice_list S r hs p2 p3 p4 ht h.1 h.2.1 h.2.2

theorem snd_slice {o : Expr} {lo hi st : Option Expr} {a l h t : ME} {p p' : Pos} (h1 : SndE X k T env o a) (h2 : SndO X k T env lo l) (h3 : SndO X k T env hi h) (h4 : SndO X k T env st t) : SndE X k T env (.Subscript o (.Slice lo hi st p') p) (.slice a l h t) := fun A hA I J M ρ s Q S w => by
  rw [arm_eval_Subscript]
  refine wpAny_bind (h1.go hA S w fun I1 M1 ρ1 s1 v av l1 S1 r1 w1 => wpAny_bind (wpAny_holding (wpAny_Slice ?_)))
  refine h2.go hA S1 w1 fun I2 M2 ρ2 s2 v2 av2 l2 S2 r2 w2 => h3.go hA S2 w2 fun I3 M3 ρ3 s3 v3 av3 l3 S3 r3 w3 => h4.go hA S3 w3 fun I4 M4 ρ4 s4 v4 av4 l4 S4 r4 w4 => wpAny_bind (wpAny_standAt ?_)
  have S5 : Sat X T.tbl env I4 J M4 ρ4 { s4 with heap := s4.heap.push { cls := .type "slice", data := .fields #[v2, v3, v4] } } := S4.ext (t := s4.toks) fun _ _ e => Heap.get?_push_of_some _ e
  have l24 := l3.trans l4
  have l14 := l2.trans l24
  exact wpAny_mono (slice_core S5 (r1.mono l14) (Heap.IsSliceOf.new s4.heap v2 v3 v4) (r2.mono l24) (r3.mono l4) r4 w4) (fun _ _ p => p.le (l1.trans l14)) fun _ _ e => e
end
end Mine
namespace Mine

section
variable {X : Cx} {k : Nat} {T : Tx} {env : Env} {tbl : List Str} {I J : Imm} {M : Mem} {ρ : Env0} {s : Shared} {A : Around}

/-! a call of a function with a contract -/
noncomputable def RetP (P : Value → Shared → Prop) (r : Result) (s : Shared) : Prop := match r with
  | .ok (.ret v) => P v s
  | _ => False
theorem RetP.mono {P Q : Value → Shared → Prop} {r : Result} {s : Shared} (h : RetP P r s) (g : ∀ v, P v s → Q v s) : RetP Q r s := match r, h with
  | .ok (.ret v), h => g v h
theorem RetP.wp {P Q : Value → Shared → Prop} {E : Value → Shared → Prop} {r : Result} {s : Shared} (h : RetP P r s) (g : ∀ v, P v s → Q v s) : (match (generalizing := false) r with
    | .ok (.ret v) => Q v s
    | .ok _ => False
    | .error e => E e s) := match r, h with
  | .ok (.ret v), h => g v h
theorem call_spec {n : Nat} {avs : List AV} {vs : List Value} {f : Value} {Q : AV → Mem → Prop} (hA : RoomS k A) (S : Sat X tbl env I J M ρ s) (sp : Spec X k n avs M Q) (hf : fnVal X n = some f) (r : X.Reps I vs avs) :
    codeAny X.mdl A (.call f ⟨vs, []⟩) (RetP fun v s' => ∃ I' M' av, Le I I' ∧ Sat X tbl env I' J M' ρ s' ∧ X.Rep I' v av ∧ Q av M') s := by
  let J' : Imm := fun a => if a ∈ FA env then s.heap.get? a else J a
  have hJ : ∀ a, J a ≠ none → J' a = J a := fun a ha => by
    show (if a ∈ FA env then s.heap.get? a else J a) = J a
    split
    · rename_i h; exact absurd (S.fr.free a h).2.1 ha
    · rfl
  have hF : ∀ a ∈ FA env, ∃ o, J' a = some o ∧ s.heap.get? a = some o := fun a ha => by
    have : J' a = s.heap.get? a := if_pos ha
    rw [this]
    rcases List.mem_cons.mp ha with rfl | hc
    · obtain ⟨m, ⟨o, _, _, ho, _⟩, _⟩ := S.fr.ns; exact ⟨o, ho, ho⟩
    · obtain ⟨p, hp, rfl⟩ := List.mem_map.mp hc
      obtain ⟨v, o, ho, _⟩ := S.fr.cells p hp; exact ⟨o, ho, ho⟩
  have S' : St X I J' M s.heap := by
    refine ⟨⟨S.st.imm, fun a o e => ?_, S.st.mu, fun a o e => ?_, S.st.im, fun a mo e => ?_⟩, S.st.base⟩
    · by_cases ha : a ∈ FA env
      · have : J' a = s.heap.get? a := if_pos ha
        rw [this] at e; exact e
      · have : J' a = J a := if_neg ha
        rw [this] at e; exact S.st.frm a o e
    · by_cases ha : a ∈ FA env
      · rw [(S.fr.free a ha).1] at e; cases e
      · have : J' a = J a := if_neg ha
        rw [this]; exact S.st.ij a o e
    · by_cases ha : a ∈ FA env
      · rw [(S.fr.free a ha).2.2] at e; cases e
      · have : J' a = J a := if_neg ha
        rw [this]; exact S.st.jm a mo e
  refine codeAny_mono (sp.run A hA I J' s f vs hf S' S.gens S.os r) fun rr s' hp => ?_
  refine RetP.mono (P := PostS X I J' Q) hp fun v ⟨I', M', av, le, S1, g1, o1, r1, q⟩ => ?_
  refine ⟨I', M', av, le, ⟨?_, ?_, g1, o1⟩, r1, q⟩
  · refine ⟨⟨S1.imm, fun a o e => S1.frm a o ((hJ a (by rw [e]; exact fun h => by cases h)).trans e), S1.mu, fun a o e => ?_, S1.im, fun a mo e => ?_⟩, S1.base⟩
    · cases q : J a with
      | none => rfl
      | some o' => have := S1.ij a o e; rw [hJ a (by rw [q]; exact fun h => by cases h), q] at this; cases this
    · cases q : J a with
      | none => rfl
      | some o' => have := S1.jm a mo e; rw [hJ a (by rw [q]; exact fun h => by cases h), q] at this; cases this
  · refine S.fr.ext le (fun a ha o e => ?_) fun a ha => ?_
    · obtain ⟨o', h1, h2⟩ := hF a ha
      rw [h2] at e; cases e
      exact S1.frm a _ h1
    · obtain ⟨o', h1, _⟩ := hF a ha
      refine ⟨?_, (S.fr.free a ha).2.1, ?_⟩
      · cases q : I' a with
        | none => rfl
        | some o => have := S1.ij a o q; rw [h1] at this; cases this
      · cases q : M' a with
        | none => rfl
        | some o => have := S1.jm a o q; rw [h1] at this; cases this

/-- what may be called -/
noncomputable def Callable (K : Frag) (f : Value) : Prop := (∃ id, f = .builtin id) ∨ (∃ ty, f = .type ty) ∨ keepIn K f = true
theorem any_noStar {p : Pos} : ∀ {es : List Expr} {as : MEs}, SndL X k T env es as → (backTo p (starEach es env)).any (·.1) = false
  | _, _, .nil => rfl
  | _, _, .cons hs _ _ hr => by rw [starEach_cons hs, backTo_cons, List.any_cons, any_noStar hr]; rfl
theorem call_with {f : Value} {first : List Value} {es : List Expr} {as : MEs} {p : Pos} {R : Value → Shared → Prop} {Q : List AV → Mem → Env0 → Prop} (O : CxOk X) (hA : Room k A) (hc : Callable X.K f) (hl : SndL X k T env es as) (S : Sat X T.tbl env I J M ρ s) (w : WL gAV (Spec X k) as Q M ρ)
    (h : ∀ I' M' ρ' s' vs avs, Le I I' → Sat X T.tbl env I' J M' ρ' s' → X.Reps I' vs avs → Q avs M' ρ' → wpAny X.mdl A (call f (first ++ vs)) R NoE s') : wpAny X.mdl A (callWith p f first (backTo p (starEach es env)) []) R NoE s := by
  have ha := any_noStar (p := p) hl
  have hev : wpAny X.mdl A (evalArgs f true (backTo p (starEach es env)) []) (fun a s₁ => X.K.In s₁.heap ∧ wpAny X.mdl A (call f (first ++ a.pos) a.kw) R NoE s₁) NoE s := by
    cases hl with
    | nil => exact PySem.evalArgs_none ⟨S.kin O, h I M ρ s [] [] (Le.refl I) S .nil w⟩
    | cons hs h1 h1' hr =>
      have z := snd_args (p := p) hA (.cons hs h1 h1' hr) S w
      rw [starEach_cons hs, backTo_cons] at z ⊢
      refine Calls.evalArgs_plain (wpAny_mono z ?_ fun _ _ x => x)
      rintro vs s1 ⟨I1, M1, ρ1, avs, l1, S1, r1, w1⟩
      exact ⟨S1.kin O, h I1 M1 ρ1 s1 vs avs l1 S1 r1 w1⟩
  rcases hc with ⟨id, rfl⟩ | ⟨ty, rfl⟩ | hkeep
  · exact Calls.callWith_builtin ha (wpAny_mono hev (fun _ _ x => x.2) fun _ _ x => x)
  · exact PySem.callWith_type ha (wpAny_mono hev (fun _ _ x => x.2) fun _ _ x => x)
  · exact callWith_of (by rw [ha]; rfl) (keeps_K hkeep) hev

/-- user functions -/
theorem snd_call {x : Str} {n : Nat} {es : List Expr} {as : MEs} {np p : Pos} {f : Value} (O : CxOk X) (E0 : TxOk T env) (hg : T.isGlobal x = true) (hd : (x == ("__debug__" : Str)) = false) (hv : gl X.K x = some f) (hf : fnVal X n = some f) (hc : keepIn X.K f = true) (hl : SndL X k T env es as) :
    SndE X k T env (.Call (.Name x np) es [] p) (.call n as) := fun A hA I J M ρ s Q S w => by
  refine wpAny_Call_ofName (name_gl O E0 hg hd hv S ?_)
  refine call_with O hA (.inr (.inr hc)) hl S w fun I1 M1 ρ1 s1 vs avs l1 S1 r1 w1 => ?_
  refine wpAny_call (codeAny_mono (call_spec hA.s S1 w1 hf r1) fun rr s2 hp => ?_)
  refine hp.wp fun v ⟨I2, M2, av, l2, S2, r2, q⟩ => ?_
  exact ⟨I2, M2, ρ1, av, l1.trans l2, S2, r2, q⟩
end
end Mine
namespace Mine

theorem biVal_callable (K : Frag) (b : BI) : Callable K (biVal b) := by
  cases b <;> first | exact .inl ⟨_, rfl⟩ | exact .inr (.inl ⟨_, rfl⟩)

section
variable {X : Cx} {k : Nat} {T : Tx} {env : Env} {tbl : List Str} {I J : Imm} {M : Mem} {ρ : Env0} {s : Shared} {A : Around}

theorem reps1 {vs : List Value} {a : AV} (r : X.Reps I vs [a]) : ∃ v, vs = [v] ∧ X.Rep I v a := by
  cases r with
  | cons h t => cases t; exact ⟨_, rfl, h⟩
theorem reps2 {vs : List Value} {a b : AV} (r : X.Reps I vs [a, b]) : ∃ v w, vs = [v, w] ∧ X.Rep I v a ∧ X.Rep I w b := by
  cases r with
  | cons h t => obtain ⟨w, rfl, hw⟩ := reps1 t; exact ⟨_, _, rfl, h, hw⟩

theorem ints_are {vs : List Value} : ∀ {xs : List AV} {is : List Int}, X.Reps I vs xs → toInts xs = some is → ∃ ps : List (Int × Tok), vs = ps.map (fun p => .int p.1 p.2) ∧ ps.map (·.1) = is := by
  intro xs
  induction xs generalizing vs with
  | nil => intro is r h; exact ⟨[], r.inv, Option.some.inj h⟩
  | cons x xs ih =>
    intro is r h
    obtain ⟨v, ws, rfl, h1, h2⟩ := r.inv
    cases x with
    | int i =>
      unfold toInts at h
      obtain ⟨js, e, rfl⟩ := Option.map_eq_some_iff.mp h
      obtain ⟨ps, rfl, hp⟩ := ih h2 e
      obtain ⟨t, rfl⟩ := h1.inv
      exact ⟨(i, t) :: ps, rfl, by rw [List.map_cons, hp]⟩
    | _ => exact nso h
theorem bools_are {vs : List Value} : ∀ {xs : List AV} {bs : List Bool}, X.Reps I vs xs → toBools xs = some bs → vs = bs.map .bool := by
  intro xs
  induction xs generalizing vs with
  | nil => intro is r h; rw [← Option.some.inj h]; exact r.inv
  | cons x xs ih =>
    intro is r h
    obtain ⟨v, ws, rfl, h1, h2⟩ := r.inv
    cases x with
    | bool i =>
      unfold toBools at h
      obtain ⟨js, e, rfl⟩ := Option.map_eq_some_iff.mp h
      rw [ih h2 e, show v = .bool i from h1.inv]
      rfl
    | _ => exact nso h

theorem range_all_get (bs : List Bool) : (List.range bs.length).all (fun i => bs.getD i false) = bs.all id := by
  rw [Bool.eq_iff_iff, List.all_eq_true, List.all_eq_true]
  constructor
  · intro h b hb
    obtain ⟨i, hi, rfl⟩ := List.getElem_of_mem hb
    have := h i (by simpa using hi)
    simpa [List.getD_eq_getElem?_getD, List.getElem?_eq_getElem hi] using this
  · intro h i hi
    have hi' : i < bs.length := by simpa using hi
    have := h bs[i] (List.getElem_mem hi')
    simpa [List.getD_eq_getElem?_getD, List.getElem?_eq_getElem hi'] using this
theorem range_any_get (bs : List Bool) : (List.range bs.length).any (fun i => bs.getD i false) = bs.any id := by
  rw [Bool.eq_iff_iff, List.any_eq_true, List.any_eq_true]
  constructor
  · rintro ⟨i, hi, h⟩
    have hi' : i < bs.length := by simpa using hi
    exact ⟨bs[i], List.getElem_mem hi', by simpa [List.getD_eq_getElem?_getD, List.getElem?_eq_getElem hi'] using h⟩
  · rintro ⟨b, hb, h⟩
    obtain ⟨i, hi, rfl⟩ := List.getElem_of_mem hb
    exact ⟨i, by simpa using hi, by simpa [List.getD_eq_getElem?_getD, List.getElem?_eq_getElem hi] using h⟩

/-- the iteration over a list of bools -/
theorem bools_walk {a : Addr} {items : Array Value} {n : Nat} {bs : List Bool} {R : Value → Shared → Prop} (hA : Room k A) (S : Sat X tbl env I J M ρ s) (ha : s.heap.get? a = some (lstO items n)) (hb : items.toList = bs.map .bool) (F : (Nat → Bool) → Nat → Bool)
    (h : ∀ s', Sat X tbl env I J M ρ s' → R (.bool (F (fun i => bs.getD i false) bs.length)) s') :
    wpAny X.mdl A.in1 (pyIter (.ref a)) (fun it s₂ => ∃ Ii fp wr n P St tr, it = .ref Ii ∧ Walks X.prog X.w A.in1 Ii fp wr n P St ∧ St 0 s₂.heap ∧ TruthOf X.prog X.w A.in1 P tr ∧
      ∀ h' tk, (∀ b o, b ∉ wr → s₂.heap.get? b = some o → h'.get? b = some o) → R (.bool (F tr n)) { s₂ with heap := h', toks := tk }) NoE s := by
  have hl : s.heap.IsList a items := ⟨_, ha, rfl, _, rfl⟩
  have hlt := Heap.lt_size ha
  have hne : a ≠ s.heap.objs.size := Nat.ne_of_lt hlt
  have hsz : items.size = bs.length := by have := congrArg List.length hb; simpa using this
  refine wpAny_pyIter_list hl ⟨s.heap.objs.size, _, _, items.size, _, _, fun i => bs.getD i false, rfl, Walks.list (A := A.in1) hA.handled _ a hne items, ⟨⟨_, Heap.get?_push_size _ rfl, rfl, rfl⟩, hl.push _⟩, ?_, ?_⟩
  · intro i v s Q E hi hQ
    have : bs[i]?.map Value.bool = some v := by
      rw [← List.getElem?_map, ← hb, Array.getElem?_toList]; exact hi
    obtain ⟨b, hb', rfl⟩ := Option.map_eq_some_iff.mp this
    refine wpAny_truthy_bool ?_
    dsimp only at hQ
    rw [List.getD_eq_getElem?_getD, hb'] at hQ
    exact hQ
  · intro h' tk hk
    rw [hsz]
    refine h _ ⟨?_, ?_, S.gens, S.os⟩
    · exact S.st.ext fun b o e => hk b o (fun hm => by
        have : b = s.heap.objs.size := by simpa using hm
        exact absurd (this ▸ Heap.lt_size e) (Nat.lt_irrefl _)) (Heap.get?_push_of_some _ e)
    · exact S.fr.ext (Le.refl I) (fun c _ o e => hk c o (fun hm => by
        have : c = s.heap.objs.size := by simpa using hm
        exact absurd (this ▸ Heap.lt_size e) (Nat.lt_irrefl _)) (Heap.get?_push_of_some _ e)) S.fr.free

theorem list_fin {xs : List AV} {Q : QE} (S : Sat X tbl env I J M ρ s) (w : fresh xs Q M ρ) (h' : Heap) (items : Array Value) (c : Nat) (tk : Nat) (hk : ∀ b o, s.heap.get? b = some o → h'.get? b = some o) (hg : h'.get? s.heap.objs.size = some (lstO items c)) (hr : X.Reps I items.toList xs) :
    PostE X tbl env I J Q (.ref s.heap.objs.size) { s with heap := h', toks := tk } := by
  have z := S.st.size_none
  have S' : Sat X tbl env I J M ρ { s with heap := h', toks := tk } := S.ext hk
  obtain ⟨_, w | w⟩ := w
  · have le : Le I (upd I s.heap.objs.size (lstO items c)) := Le.upd z.1
    refine ⟨_, M, ρ, .lst xs, le, ⟨S'.st.toI hg z.1 z.2.1 z.2.2, S'.fr.ext le (fun _ _ _ e => e) fun a ha => ?_, S.gens, S.os⟩, .lst (vs := items.toList) (n := c) upd_self (hr.mono le), w⟩
    obtain ⟨f1, f2, f3⟩ := S.fr.free a ha
    exact ⟨by rw [upd_ne (Nat.ne_of_lt (FA_lt S.fr a ha))]; exact f1, f2, f3⟩
  · refine ⟨I, _, ρ, .ref s.heap.objs.size, Le.refl I, ⟨S'.st.toM (mo := .list xs) ⟨items, c, hg, hr⟩ z.1 z.2.1, S'.fr.ext (Le.refl I) (fun _ _ _ e => e) fun a ha => ?_, S.gens, S.os⟩, .ref _, w _ z.2.2⟩
    obtain ⟨f1, f2, f3⟩ := S.fr.free a ha
    exact ⟨f1, f2, by rw [upd_ne (Nat.ne_of_lt (FA_lt S.fr a ha))]; exact f3⟩
theorem rngL_len (lo hi : Int) : (rngL lo hi).length = (hi - lo).toNat := by unfold rngL; simp
theorem reps_of_get {vs : List Value} : ∀ {xs : List AV}, vs.length = xs.length → (∀ (i : Nat) (v : Value), vs[i]? = some v → ∃ x, xs[i]? = some x ∧ X.Rep I v x) → X.Reps I vs xs := by
  induction vs with
  | nil => intro xs h _; cases xs with
    | nil => exact .nil
    | cons => cases h
  | cons v vs ih =>
    intro xs h hg
    cases xs with
    | nil => cases h
    | cons x xs =>
      obtain ⟨x', e, r⟩ := hg 0 v rfl
      cases e
      exact .cons r (ih (by simpa using h) fun i w hw => by simpa using hg (i + 1) w (by simpa using hw))
theorem list_core {v : Value} {av : AV} {xs : List AV} {Q : QE} (hA : Room k A) (S : Sat X tbl env I J M ρ s) (r : X.Rep I v av) (hx : iters M av = some xs) (w : fresh xs Q M ρ) : wpAny X.mdl A (call (.type "list") [v]) (PostE X tbl env I J Q) NoE s := by
  have hlim := fresh_len w
  have gen : seqs M av = some xs → wpAny X.mdl A (call (.type "list") [v]) (PostE X tbl env I J Q) NoE s := fun hx => by
    obtain ⟨a, items, n, rfl, ha, rr⟩ := seqs_obj S r hx
    have hsz : items.size ≤ sizeLine := by rw [reps_size rr]; exact Nat.le_trans hlim lim_lt
    rcases ha with ha | ha
    · exact call_list_seq a (.inl rfl) ha rfl rfl (fun h' c' hk hg => list_fin S w h' items c' s.toks hk hg rr) hsz
    · exact call_list_seq a (.inr rfl) ha rfl rfl (fun h' c' hk hg => list_fin S w h' items c' s.toks hk hg rr) hsz
  have ri := r.inv
  cases av with
  | rng lo hi =>
    obtain ⟨a, t, u, c, rfl, b1, b2, hI⟩ := ri
    obtain rfl : rngL lo hi = xs := Option.some.inj hx
    have hr := S.st.imm _ _ hI
    rw [rngL_len] at hlim
    have hn : Builtin.Range.rangeSize lo hi 1 = ((hi - lo).toNat : Nat) := by
      unfold Builtin.Range.rangeSize
      rw [if_pos (by decide), Int.ediv_one]
      split <;> omega
    refine call_list_range (n := (hi - lo).toNat) hA.handled hr ?_ hn (Nat.le_trans hlim (by unfold lim; decide)) fun h' tk acc c' hk hg hit => list_fin S w h' acc c' tk hk hg ?_
    · exact small_one (by exact lin [lo.natAbs] [lo] true (.h false false (.v 0) (.l 1000000) (.h false true (.g (.v 0)) (.c (.v 0)) (.v 0))) (.g (.l 4611686018427387904)) (.v 0) 1 [1, 1] (Eq.refl true) b1 (nab_neg (lo))) (by exact lin [lo.natAbs] [lo] true (.h false false (.v 0) (.l 1000000) (.h false true (.v 0) (.c (.v 0)) (.v 0))) (.a (.v 0) (.l 1)) (.l 4611686018427387904) 1 [1, 1] (Eq.refl true) b1 (Int.le_natAbs (a := lo))) (by exact lin [hi.natAbs] [hi] true (.h false false (.v 0) (.l 1000000) (.h false true (.g (.v 0)) (.c (.v 0)) (.v 0))) (.g (.l 4611686018427387904)) (.v 0) 1 [1, 1] (Eq.refl true) b2 (nab_neg (hi))) (by exact lin [hi.natAbs] [hi] true (.h false false (.v 0) (.l 1000000) (.h false true (.v 0) (.c (.v 0)) (.v 0))) (.a (.v 0) (.l 1)) (.l 4611686018427387904) 1 [1, 1] (Eq.refl true) b2 (Int.le_natAbs (a := hi)))
    · refine reps_of_get (by rw [rngL_len]; simpa using hit.1) fun i v hv => ?_
      have hi9 : i < acc.size := by
        have := (List.getElem?_eq_some_iff.mp hv).1
        simpa using this
      obtain ⟨t', rfl⟩ := hit.2 i v (by rw [← Array.getElem?_toList]; exact hv)
      refine ⟨.int (lo + (i : Int)), ?_, by rw [Int.mul_one]; exact .int _ _⟩
      have hi2 : i < (hi - lo).toNat := by have := hit.1; exact lin [i, (hi - lo).toNat, acc.size] [] false (.h false false (.a (.v 0) (.l 1)) (.v 2) (.h true false (.v 2) (.v 1) (.v 0))) (.a (.v 0) (.l 1)) (.v 1) 1 [1, 1] (Eq.refl true) hi9 this
      unfold rngL
      rw [List.getElem?_map, List.getElem?_range hi2]; rfl
  | _ => exact gen hx

theorem w1_inv {vs : List Value} {avs : List AV} {F : AV → Prop} (r : X.Reps I vs avs) (w : w1 avs F) : ∃ v a, vs = [v] ∧ X.Rep I v a ∧ F a := match avs, w, r with
  | [a], w, r => let ⟨v, e, h⟩ := reps1 r; ⟨v, a, e, h, w⟩
theorem w2I_inv {vs : List Value} {avs : List AV} {F : Int → Int → Prop} (r : X.Reps I vs avs) (w : w2I avs F) : ∃ m n t u, vs = [.int m t, .int n u] ∧ F m n := by
  cases r with
  | nil => exact w.elim
  | cons h1 h2 =>
    obtain ⟨m, rfl, w⟩ := wI_inv w
    obtain ⟨v, a, rfl, h3, w⟩ := w1_inv h2 w
    obtain ⟨n, rfl, w⟩ := wI_inv w
    obtain ⟨t, rfl⟩ := Rep.int_inv h1
    obtain ⟨u, rfl⟩ := Rep.int_inv h3
    exact ⟨m, n, t, u, rfl, w⟩
theorem wRange_inv {vs : List Value} {avs : List AV} {F : Int → Prop} {G : Int → Int → Prop} (r : X.Reps I vs avs) (w : wRange avs F G) : (∃ n t, vs = [.int n t] ∧ F n) ∨ ∃ m n t u, vs = [.int m t, .int n u] ∧ G m n := by
  match avs, w with
  | [], w => exact w.elim
  | [a], w =>
    obtain ⟨v, rfl, h⟩ := reps1 r
    obtain ⟨n, rfl, w⟩ := wI_inv w
    obtain ⟨t, rfl⟩ := Rep.int_inv h
    exact .inl ⟨n, t, rfl, w⟩
  | a :: b :: c, w => exact .inr (w2I_inv (F := G) r w)
theorem bi_core {b : BI} {avs : List AV} {vs : List Value} {Q : QE} (hA : Room k A) (S : Sat X tbl env I J M ρ s) (r : X.Reps I vs avs) (w : wBi b avs Q M ρ) : wpAny X.mdl A (call (biVal b) vs) (PostE X tbl env I J Q) NoE s := by
  cases b with
  | len =>
    obtain ⟨v, av, rfl, r1, xs, hx, hlen, q⟩ := w1_inv r w
    obtain ⟨a, items, n, rfl, ha, rr⟩ := seqs_obj S r1 hx
    have hz := reps_size rr
    rcases ha with ha | ha
    · exact Calls.call_len_list ⟨_, ha, rfl, _, rfl⟩ (by exact lin [items.size, xs.length] [] true (.h false false (.v 1) (.l 1000000000) (.h true false (.v 0) (.v 1) (.v 0))) (.a (.c (.v 0)) (.l 1)) (.l 9223372036854775808) 1 [1, 1] (Eq.refl true) hlen hz) (by rw [hz]; exact .mk (S.tok _) (.int _ _) q)
    · exact P.len_tuple (n := n) ha (by exact Int.not_le.mpr (lin [items.size, xs.length] [] true (.h false false (.v 1) (.l 1000000000) (.h true false (.v 0) (.v 1) (.v 0))) (.a (.c (.v 0)) (.l 1)) (.l 9223372036854775808) 1 [1, 1] (Eq.refl true) hlen hz)) (by rw [hz]; exact .mk (S.tok _) (.int _ _) q)
  | list =>
    obtain ⟨v, av, rfl, r1, xs, hx, w⟩ := w1_inv r w
    exact list_core hA S r1 hx w
  | tuple =>
    obtain ⟨v, av, rfl, r1, xs, hx, hlen, q⟩ := w1_inv r w
    obtain ⟨a, items, n, rfl, ha, rr⟩ := lists_obj S r1 hx
    refine call_tuple_list ⟨_, ha, rfl, _, rfl⟩ (fun h' hk => ?_) (by rw [reps_size rr]; exact Nat.le_trans hlen lim_lt)
    have S' : Sat X tbl env I J M ρ { s with heap := h' } := S.ext (t := s.toks) hk
    have le : Le I (upd I h'.objs.size (tupO items 0)) := Le.upd S'.st.size_none.1
    exact ⟨_, M, ρ, .tup xs, le, S'.allocI (o := tupO items 0) (t := s.toks) rfl, .tup (vs := items.toList) (n := 0) upd_self (rr.mono le), q⟩
  | range =>
    rcases wRange_inv r w with ⟨n, t, rfl, b1, b2, q⟩ | ⟨m, n, t, u, rfl, b1, b2, b3, b4, q⟩
    · refine call_range_1 ?_
      exact ⟨_, M, ρ, .rng 0 _, Le.upd S.st.size_none.1, S.allocI (o := { cls := .type "range", data := .fields #[.int 0 s.toks, .int _ t, .int 1 (s.toks + 1)] }) (t := s.toks + 1 + 1) rfl, .rng (by exact lin [Int.natAbs 0] [] false (.h true true (.c (.v 0)) (.l 0) (.v 0)) (.v 0) (.l 1000000) 1 [1] (Eq.refl true) (Int.natAbs_of_nonneg (lin [] [] true (.v 0) (.l 0) (.l 0) 1 [] (Eq.refl true)))) (by omega) upd_self, q⟩
    · refine call_range_2 ?_
      exact ⟨_, M, ρ, .rng _ _, Le.upd S.st.size_none.1, S.allocI (o := { cls := .type "range", data := .fields #[.int _ t, .int _ u, .int 1 s.toks] }) (t := s.toks + 1) rfl, .rng (by omega) (by omega) upd_self, q⟩
  | min =>
    obtain ⟨m, n, t, u, rfl, w⟩ := w2I_inv r w
    refine min_two_ints hA.handled fun h' tk hk => ?_
    have S' : Sat X tbl env I J M ρ { s with heap := h', toks := tk } := S.ext hk
    by_cases c : n < m
    · rw [if_pos c]
      rw [Int.min_eq_right (Int.le_of_lt c)] at w
      exact .mk S' (.int n _) w
    · rw [if_neg c]
      rw [Int.min_eq_left (Int.not_lt.mp c)] at w
      exact .mk S' (.int m _) w
  | max =>
    obtain ⟨m, n, t, u, rfl, w⟩ := w2I_inv r w
    refine max_two_ints hA.handled fun h' tk hk => ?_
    have S' : Sat X tbl env I J M ρ { s with heap := h', toks := tk } := S.ext hk
    by_cases c : n > m
    · rw [if_pos c]
      rw [Int.max_eq_right (Int.le_of_lt c)] at w
      exact .mk S' (.int n _) w
    · rw [if_neg c]
      rw [Int.max_eq_left (Int.not_lt.mp c)] at w
      exact .mk S' (.int m _) w
  | sum =>
    obtain ⟨v, av, rfl, r1, xs, is, hx, hi, hlen, q⟩ := w1_inv r w
    obtain ⟨a, items, n, rfl, ha, rr⟩ := lists_obj S r1 hx
    obtain ⟨ps, e1, e2⟩ := ints_are rr hi
    have hit : items = intItems ps.toArray := by
      apply Array.ext'
      rw [e1]; simp [intItems]
    subst hit
    refine sum_intListG hA.handled ⟨_, ha, rfl, _, rfl⟩ fun h' tk t' hk => ?_
    rw [preSum_eq, List.take_of_length_le (by simp)]
    have : (ps.toArray.toList.map (·.1)) = is := e2
    rw [this]
    exact .mk (S.ext hk) (.int _ _) q
  | any =>
    obtain ⟨v, av, rfl, r1, xs, bs, hx, hi, hlen, q⟩ := w1_inv r w
    obtain ⟨a, items, n, rfl, ha, rr⟩ := lists_obj S r1 hx
    refine call_any_walk (bools_walk (k := k) hA S ha (bools_are rr hi) (fun tr n => (List.range n).any tr) fun s' S' => ?_)
    rw [range_any_get]
    exact .mk S' (.bool _) q
  | all =>
    obtain ⟨v, av, rfl, r1, xs, bs, hx, hi, hlen, q⟩ := w1_inv r w
    obtain ⟨a, items, n, rfl, ha, rr⟩ := lists_obj S r1 hx
    refine call_all_walk (bools_walk (k := k) hA S ha (bools_are rr hi) (fun tr n => (List.range n).all tr) fun s' S' => ?_)
    rw [range_all_get]
    exact .mk S' (.bool _) q
end
end Mine
namespace Mine

section
variable {X : Cx} {k : Nat} {T : Tx} {env : Env} {tbl : List Str} {I J : Imm} {M : Mem} {ρ : Env0} {s : Shared} {A : Around}

theorem Sat.mapSeq {a : Addr} {items : Array Value} {n : Nat} {xs ys : List AV} {f : Array Value → Array Value} {t : Tok} (S : Sat X tbl env I J M ρ s) (hm : M a = some (.list xs)) (ha : s.heap.get? a = some (lstO items n)) (r : X.Reps I (f items).toList ys) :
    Sat X tbl env I J (upd M a (.list ys)) ρ { s with heap := s.heap.update a (Obj.mapSeq f), toks := t } := by
  refine S.update (mo' := .list ys) hm (fun b hb o e => (Heap.get?_update_other _ _ (Ne.symm hb)).trans e) ?_
  exact ⟨f items, _, IsL.update ha f, r⟩

theorem ref_obj (S : Sat X tbl env I J M ρ s) {a : Addr} {xs : List AV} (hm : M a = some (.list xs)) : ∃ items n, s.heap.get? a = some (lstO items n) ∧ X.Reps I items.toList xs := S.st.mu a _ hm

theorem starE1 {e : Expr} {p : Pos} (h : isStar e = false) : backTo p (starEach [e] env) = [(false, eval e env)] := by rw [starEach_cons h, backTo_cons]; rfl

theorem base_eq {o : Expr} {n : Str} {w : Sem Value} (h : isBase o = true) : attributeBase o n env w = w := by
  cases o <;> first | rfl | exact nomatch h

theorem noStar_few {p : Pos} {es : List Expr} {as : MEs} (hl : SndL X k T env es as) (hlen : es.length < 30) : ((backTo p (starEach es env)).all (fun x => !x.1) && (backToKw p (keywordEach [] env)).all (fun x => x.1.isSome)
      && decide (es.length + ([] : List Keyword).length + (if ([] : List Keyword).isEmpty then 0 else 1) < 30)) = true := by
  have h1 : (backTo p (starEach es env)).all (fun x => !x.1) = true := by
    have := any_noStar (p := p) hl
    rw [List.any_eq_false] at this
    rw [List.all_eq_true]
    intro x hx
    simpa using this x hx
  have h2 : (backToKw p (keywordEach [] env)).all (fun x => x.1.isSome) = true := rfl
  rw [h1, h2]
  simpa using hlen

theorem list_meth {o : Expr} {mn : Str} {ap p : Pos} {es : List Expr} {as : MEs} {a : ME} {m : Mth} {id : String} (hm : preM m = preM .append) (ho : isBase o = true) (hline : (ap.endLine == p.line) = true) (hlen : es.length < 30)
    (slot : PySem.Slot "list" mn id) (hty : typeOf (.builtin id) = pure (.type "method_descriptor")) (h1 : SndE X k T env o a) (hl : SndL X k T env es as)
    (core : ∀ A, Room k A → ∀ I J M ρ s c av Q, Sat X T.tbl env I J M ρ s → X.Rep I (.ref c) av → WL gAV (Spec X k) as (fun vs M ρ => wMeth (Spec X k) m av vs Q M ρ) M ρ →
      wpAny X.mdl A (callWith p (.builtin id) [.ref c] (backTo p (starEach es env)) []) (PostE X T.tbl env I J Q) NoE s) :
    SndE X k T env (.Call (.Attribute o mn ap) es [] p) (.meth m a as) := fun A hA I J M ρ s Q S w => by
  refine wpAny_Call_method (base_eq ho) (noStar_few hl hlen) hline PySem.F.plainAttrs_list slot hty (h1.go hA S w fun I1 M1 ρ1 s1 v av l1 S1 r1 w1 => ?_)
  obtain ⟨hp, w2⟩ := w1
  rw [hm] at hp
  obtain ⟨xs, hx⟩ := hp
  obtain ⟨c, items, n, rfl, hc, _⟩ := lists_obj S1 r1 hx
  exact ⟨⟨_, hc, rfl⟩, fun a ha => by cases ha; exact ⟨_, hc, rfl⟩, wpAny_into l1 (core A hA I1 J M1 ρ1 s1 c av Q S1 r1 w2)⟩


theorem snd_append {o e : Expr} {ap p : Pos} {a b : ME} (ho : isBase o = true) (hline : (ap.endLine == p.line) = true) (h1 : SndE X k T env o a) (hl : SndL X k T env [e] (.cons b .nil)) : SndE X k T env (.Call (.Attribute o (Str.ofString "append") ap) [e] [] p) (.meth .append a (.cons b .nil)) :=
  list_meth rfl ho hline (by show 1 < 30; decide) F.slot_list_append F.type_list_append h1 hl fun A hA I J M ρ s c av Q S r w => by
    cases hl with
    | cons hs he _ _ =>
    rw [starE1 hs]
    refine P.append_list (he.go hA S w fun I1 M1 ρ1 s1 v aw l1 S1 r1 w1 => ?_)
    obtain ⟨c', rfl, xs, hm, hlen, q⟩ := wRef_inv w1
    obtain rfl : c = c' := Value.ref.inj r.inv
    obtain ⟨items, n, hc, rr⟩ := ref_obj S1 hm
    refine ⟨items, n, by rw [reps_size rr]; exact Nat.le_trans (Nat.le_of_lt hlen) lim_lt, hc, I1, _, ρ1, .none, l1, S1.mapSeq (ys := xs ++ [aw]) (t := s1.toks) hm hc ?_, .none, q⟩
    rw [Array.toList_push]; exact rr.snoc r1
theorem snd_extend {o e : Expr} {ap p : Pos} {a b : ME} (ho : isBase o = true) (hline : (ap.endLine == p.line) = true) (h1 : SndE X k T env o a) (hl : SndL X k T env [e] (.cons b .nil)) : SndE X k T env (.Call (.Attribute o (Str.ofString "extend") ap) [e] [] p) (.meth .extend a (.cons b .nil)) :=
  list_meth rfl ho hline (by show 1 < 30; decide) F.slot_list_extend F.type_list_extend h1 hl fun A hA I J M ρ s c av Q S r w => by
    cases hl with
    | cons hs he _ _ =>
    rw [starE1 hs]
    refine P.extend_list (he.go hA S w fun I1 M1 ρ1 s1 v aw l1 S1 r1 w1 => ?_)
    obtain ⟨c', rfl, xs, ys, hm, hy, hne, hlen, q⟩ := wRef_inv w1
    obtain rfl : c = c' := Value.ref.inj r.inv
    obtain ⟨items, n, hc, rr⟩ := ref_obj S1 hm
    obtain ⟨b', items2, n2, rfl, hb, rr2⟩ := lists_obj S1 r1 hy
    have hsz : items.size + items2.size ≤ lim := by rw [reps_size rr, reps_size rr2]; exact hlen
    have hs1 := Nat.le_trans hsz lim_lt
    refine ⟨b', items, items2, n, n2, Nat.le_trans (Nat.le_add_right _ _) hs1, Nat.le_succ_of_le hs1, ?_, rfl, hc, hb, I1, _, ρ1, .none, l1, S1.mapSeq (ys := xs ++ ys) (t := s1.toks) hm hc ?_, .none, q⟩
    · simp [Builtin.List.listTooLong]; intro _; exact hs1
    · rw [Array.toList_append]; exact rr.append rr2
theorem pop_reps {items : Array Value} {xs : List AV} {v : AV} (rr : X.Reps I items.toList (xs ++ [v])) : ∃ w, items[items.size - 1]? = some w ∧ X.Rep I w v ∧ items.size = xs.length + 1 ∧ X.Reps I (items.eraseIdxIfInBounds (items.size - 1)).toList xs := by
  have z1 := reps_size rr
  rw [List.length_append, List.length_singleton] at z1
  obtain ⟨w, hw, hr⟩ := rr.get (i := xs.length) (x := v) (by simp)
  have hi : items.size - 1 = xs.length := by rw [z1]; rfl
  have hlt : xs.length < items.size := by rw [z1]; exact Nat.lt_succ_self _
  refine ⟨w, by rw [hi, ← Array.getElem?_toList]; exact hw, hr, z1, ?_⟩
  have e : (items.eraseIdxIfInBounds (items.size - 1)).toList = items.toList.take xs.length := by
    rw [hi, Array.eraseIdxIfInBounds_eq, dif_pos hlt, Array.toList_eraseIdx, List.eraseIdx_eq_take_drop_succ, List.drop_eq_nil_of_le (by rw [Array.length_toList]; exact Nat.le_of_eq z1), List.append_nil]
  rw [e]
  have := rr.take xs.length
  rwa [List.take_left] at this
theorem snd_pop {o : Expr} {ap p : Pos} {a : ME} (ho : isBase o = true) (hline : (ap.endLine == p.line) = true) (h1 : SndE X k T env o a) : SndE X k T env (.Call (.Attribute o (Str.ofString "pop") ap) [] [] p) (.meth .pop a .nil) :=
  list_meth rfl ho hline (by decide) F.slot_list_pop F.type_list_pop h1 .nil fun A hA I J M ρ s c av Q S r w => by
    obtain ⟨c', rfl, xs, v, hm, hlen, q⟩ := wRef_inv w
    obtain rfl : c = c' := Value.ref.inj r.inv
    obtain ⟨items, n, hc, rr⟩ := ref_obj S hm
    obtain ⟨w, hw, hr, z1, e⟩ := pop_reps rr
    exact P.pop_list (n := n) (items := items) (y := w) hc hw ⟨I, _, ρ, v, Le.refl I, S.mapSeq (ys := xs) (t := s.toks) hm hc e, hr, q⟩ (Nat.le_trans (z1 ▸ Nat.succ_le_of_lt hlen) lim_lt)
theorem ints_get {items : Array Value} {xs : List AV} {is : List Int} (rr : X.Reps I items.toList xs) (hi : toInts xs = some is) : items.size = is.length ∧ ∀ j (h : j < items.size), ∃ t x, is[j]? = some x ∧ items[j] = .int x t := by
  obtain ⟨ps, e1, e2⟩ := ints_are rr hi
  have hz : items.size = ps.length := by rw [← Array.length_toList, e1, List.length_map]
  refine ⟨by rw [hz, ← e2, List.length_map], fun j h => ?_⟩
  have hp : ps[j]? = some (ps[j]'(hz ▸ h)) := List.getElem?_eq_getElem (hz ▸ h)
  refine ⟨(ps[j]'(hz ▸ h)).2, (ps[j]'(hz ▸ h)).1, by rw [← e2, List.getElem?_map, hp]; rfl, ?_⟩
  have q : items[j]? = some (.int (ps[j]'(hz ▸ h)).1 (ps[j]'(hz ▸ h)).2) := by rw [← Array.getElem?_toList, e1, List.getElem?_map, hp]; rfl
  rw [Array.getElem?_eq_getElem h] at q
  exact Option.some.inj q
theorem idx_val {is : List Int} {i x : Int} (hm : i ∈ is) (h : is[is.idxOf i]? = some x) : x = i := by
  rw [List.getElem?_eq_getElem (List.idxOf_lt_length_of_mem hm)] at h
  rw [← Option.some.inj h]
  exact List.getElem_idxOf (List.idxOf_lt_length_of_mem hm)
theorem idx_ne {is : List Int} {i x : Int} {m : Nat} (h : is[m]? = some x) (hm : m < is.idxOf i) : ¬ x = i := fun e => by
  obtain ⟨hl, hx⟩ := List.getElem?_eq_some_iff.mp h
  have := List.not_of_lt_findIdx (xs := is) (p := (· == i)) (i := m) hm
  rw [hx, e] at this
  exact Bool.false_ne_true (this.symm.trans (beq_self_eq_true i))
theorem snd_index {o e : Expr} {ap p : Pos} {a b : ME} (ho : isBase o = true) (hline : (ap.endLine == p.line) = true) (h1 : SndE X k T env o a) (hl : SndL X k T env [e] (.cons b .nil)) : SndE X k T env (.Call (.Attribute o (Str.ofString "index") ap) [e] [] p) (.meth .index a (.cons b .nil)) :=
  list_meth rfl ho hline (by show 1 < 30; decide) F.slot_list_index F.type_list_index h1 hl fun A hA I J M ρ s c av Q S r w => by
    cases hl with
    | cons hs he _ _ =>
    rw [starE1 hs]
    refine P.index_list (he.go hA S w fun I1 M1 ρ1 s1 v aw l1 S1 r1 w1 => ?_)
    have r' := r.mono l1
    obtain ⟨i, rfl, xs, is, hx, hi, hlen, hmem, q⟩ := wI_inv w1
    obtain ⟨t, rfl⟩ := r1.inv
    obtain ⟨c', items, n, e0, hc, rr⟩ := lists_obj S1 r' hx
    obtain rfl : c = c' := Value.ref.inj e0
    obtain ⟨hz, hget⟩ := ints_get rr hi
    have hj : is.idxOf i < items.size := hz ▸ List.idxOf_lt_length_of_mem hmem
    refine ⟨items, n, isInt i, is.idxOf i, hj, hc, fun y hy => ?_, by have : lim = 1048576 := rfl; exact lin [List.idxOf i is, is.length, lim, items.size] [] true (.h false false (.v 1) (.v 2) (.h true false (.v 3) (.v 1) (.h false false (.a (.v 0) (.l 1)) (.v 3) (.h true false (.v 2) (.l 1048576) (.v 0))))) (.a (.c (.v 0)) (.l 1)) (.l 9223372036854775807) 1 [1, 1, 1, 1] (Eq.refl true) hlen hz hj this, ?_, fun m hm1 hm2 => ?_, I1, M1, ρ1, _, l1, S1.tok _, .int _ _, q⟩
    · obtain ⟨j, hj', rfl⟩ := Array.getElem_of_mem hy
      obtain ⟨u, x, hx, hu⟩ := hget j hj'
      rw [hu]
      exact MeetsSeq.EqGives.int x i u t
    · obtain ⟨u, x, hx, hu⟩ := hget _ hj
      rw [hu, idx_val hmem hx]
      simp [isInt]
    · obtain ⟨u, x, hx, hu⟩ := hget m hm1
      rw [hu]
      simpa [isInt] using idx_ne hx hm2
end
end Mine
namespace Mine

section
variable {X : Cx} {k : Nat} {T : Tx} {env : Env} {tbl : List Str} {I J : Imm} {M : Mem} {ρ : Env0} {s : Shared} {A : Around}

theorem isStr_eq (k : Nat) (t : Tok) (y : Str) : (Value.str (symAt k) t).isStr y = (symAt k == y) := rfl
theorem find_rep {es : List DictEntry} : ∀ {xs : List (Nat × AV)} {n : Nat} {x : AV}, RepE X.w.params X.C I es xs → n < 7 → lkD xs n = some x → ∃ v, (es.find? (·.key.isStr (symAt n))).map (·.val) = some v ∧ X.Rep I v x := by
  induction es with
  | nil => intro xs n x r hn h; cases r; cases h
  | cons e es ih =>
    intro xs n x r hn h
    cases r with
    | cons hk hr hrs =>
      rename_i k t v y ys
      unfold lkD at h
      by_cases hkn : k = n
      · subst hkn
        rw [if_pos rfl] at h; cases h
        refine ⟨v, ?_, hr⟩
        rw [List.find?_cons_of_pos (by simp [Value.isStr])]; rfl
      · rw [if_neg hkn] at h
        obtain ⟨w, hw, hr'⟩ := ih hrs hn h
        refine ⟨w, ?_, hr'⟩
        rw [List.find?_cons_of_neg]
        · exact hw
        · rw [isStr_eq, symInj k hk n hn]; simpa using hkn
theorem noRef_rep {es : List DictEntry} : ∀ {xs : List (Nat × AV)}, RepE X.w.params X.C I es xs → es.any (·.refKey) = false := by
  induction es with
  | nil => intro _ _; rfl
  | cons e es ih =>
    intro xs r
    cases r with
    | cons hk hr hrs => rw [List.any_cons, ih hrs]; rfl
theorem find_none {es : List DictEntry} {y : Str} (hy : ∀ k, k < 7 → (symAt k == y) = false) : ∀ {xs : List (Nat × AV)}, RepE X.w.params X.C I es xs → es.find? (·.key.isStr y) = none := by
  induction es with
  | nil => intro _ _; rfl
  | cons e es ih =>
    intro xs r
    cases r with
    | cons hk hr hrs =>
      rw [List.find?_cons_of_neg]
      · exact ih hrs
      · rw [isStr_eq, hy _ hk]; exact Bool.false_ne_true
theorem look_rep {es : List DictEntry} {xs : List (Nat × AV)} {n c : Nat} {x : AV} (r : RepE X.w.params X.C I es xs) (hn : n < 7) (h : lkD xs n = some x) : ∃ v, lookIn (symAt n) (dicO es.toArray c) = some (some v) ∧ X.Rep I v x := by
  obtain ⟨v, hv, hr⟩ := find_rep r hn h
  obtain ⟨e, he, rfl⟩ := Option.map_eq_some_iff.mp hv
  refine ⟨e.val, ?_, hr⟩
  simp only [lookIn, he]
theorem look_none {es : List DictEntry} {xs : List (Nat × AV)} {c : Nat} {y : Str} (r : RepE X.w.params X.C I es xs) (hy : ∀ k, k < 7 → (symAt k == y) = false) : lookIn y (dicO es.toArray c) = some none := by
  simp only [lookIn, find_none hy r, noRef_rep r]; rfl

/-- an object of the class -/
theorem inst_at {v : Value} {av : AV} (S : Sat X tbl env I J M ρ s) (r : X.Rep I v av) (h : (∃ pl f x, av = .inst pl f x) ∨ (∃ d es, av = .piece d ∧ M d = some (.dict es))) :
    ∃ p d ds n xs, v = .ref p ∧ InstAt s.heap p (instObj X.C d) X.C (some (dicO (List.toArray ds) n)) ∧ RepE X.w.params X.C I ds xs ∧
      ((∃ pl f x, av = .inst pl f x ∧ xs = [(4, pl), (5, f), (6, x)]) ∨ (∃ es, av = .piece d ∧ M d = some (.dict es) ∧ xs = es)) := by
  rcases h with ⟨pl, f, x, rfl⟩ | ⟨d, es, rfl, hm⟩
  · obtain ⟨p, d, es, n, e, h1, h2, h3⟩ := r.inv
    exact ⟨p, d, es, n, _, e, ⟨S.st.imm _ _ h1, rfl, rfl, S.st.imm _ _ h2⟩, h3, .inl ⟨_, _, _, rfl, rfl⟩⟩
  · obtain ⟨p, e, h1⟩ := r.inv
    obtain ⟨⟨l⟩, n, e', rr⟩ := S.st.mu d _ hm
    exact ⟨p, d, l, n, es, e, ⟨S.st.imm _ _ h1, rfl, rfl, e'⟩, rr, .inr ⟨es, rfl, hm, rfl⟩⟩

theorem handed_rep {v : Value} {x : AV} (r : X.Rep I v x) (h : noAny x = true) : handedIn v = true := by
  cases r <;> first | rfl | cases h
theorem attSym : (symAt 4 = Str.ofString "plain") ∧ (symAt 5 = Str.ofString "first") ∧ (symAt 6 = Str.ofString "second") := ⟨rfl, rfl, rfl⟩
theorem plain_ok (O : CxOk X) {n : Str} : plainGet X.K X.C n = true := by
  unfold plainGet; rw [O.cls.ga, O.cls.gt]; rfl

theorem own_core {n : Nat} {v : Value} {av x : AV} {expr : Bool} {R : Value → Shared → Prop} (O : CxOk X) (S : Sat X tbl env I J M ρ s) (r : X.Rep I v av) (h4 : 4 ≤ n) (hn : n < 7)
    (h : (∃ pl f y, av = .inst pl f y ∧ lkD [(4, pl), (5, f), (6, y)] n = some x) ∨ (∃ d es, av = .piece d ∧ M d = some (.dict es) ∧ lkD es n = some x)) (hx : noAny x = true)
    (hR : ∀ w s', Sat X tbl env I J M ρ s' → X.Rep I w x → R w s') : wpAny X.mdl A (getAttr v (symAt n) expr) R NoE s := by
  obtain ⟨p, d, ds, c, xs, rfl, hI, rr, hxs⟩ := inst_at S r (by
    rcases h with ⟨pl, f, y, rfl, _⟩ | ⟨d, es, rfl, hm, _⟩
    · exact .inl ⟨_, _, _, rfl⟩
    · exact .inr ⟨_, _, rfl, hm⟩)
  have hl : lkD xs n = some x := by
    rcases hxs with ⟨pl, f, y, rfl, rfl⟩ | ⟨es, rfl, hm, rfl⟩
    · rcases h with ⟨pl', f', y', e, hl⟩ | ⟨d', es', e, _, _⟩
      · cases e; exact hl
      · cases e
    · rcases h with ⟨pl', f', y', e, hl⟩ | ⟨d', es', e, hm', hl⟩
      · cases e
      · cases e; rw [hm] at hm'; cases hm'; exact hl
  obtain ⟨w, hw, hr⟩ := look_rep (c := c) rr hn hl
  exact get_value (S.kin O) hI O.cls.ga (findObj_own O.cls.hd (O.cls.own n h4 hn) rfl hw) (handed_rep hr hx) (hR w _ (S.tok _) hr)

theorem isInst_inv {av : AV} (h : isInst av = true) : ∃ pl f x, av = .inst pl f x := by
  cases av <;> first
    | exact ⟨_, _, _, rfl⟩
    | exact ff h
theorem own_key {m : Mth} {n : Nat} {av : AV} {Q : QE} (hmn : (n = 101 ∧ m = .parts) ∨ (n = 102 ∧ m = .labels)) (w : preM m M av ∧ wMeth (Spec X k) m av [] Q M ρ) : (∃ pl f x, av = .inst pl f x) ∧ Spec X k n [av] M fun v M => Q v M ρ := by
  rcases hmn with ⟨rfl, rfl⟩ | ⟨rfl, rfl⟩
  · obtain ⟨pl, f, x, rfl⟩ := isInst_inv w.1
    exact ⟨⟨_, _, _, rfl⟩, w.2.2⟩
  · obtain ⟨pl, f, x, rfl⟩ := isInst_inv w.1
    exact ⟨⟨_, _, _, rfl⟩, w.2.2⟩
theorem att_core {n : Att} {v : Value} {av : AV} {Q : QE} (O : CxOk X) (hA : Room k A) (S : Sat X tbl env I J M ρ s) (r : X.Rep I v av) (w : wAtt (Spec X k) av n Q M ρ) : wpAny X.mdl A (getAttr v n.name true) (PostE X tbl env I J Q) NoE s := by
  have fin : ∀ {x : AV}, Q x M ρ → ∀ w s', Sat X tbl env I J M ρ s' → X.Rep I w x → PostE X tbl env I J Q w s' := fun q w s' S' r' => .mk S' r' q
  cases n with
  | code =>
    obtain ⟨hi, Sx⟩ := w
    have hinst := isInst_inv hi
    obtain ⟨p, d, ds, c, xs, rfl, hI, rr, hxs⟩ := inst_at S r (.inl hinst)
    obtain ⟨q, f, rest, h1, h2, h3, h4⟩ := O.cls.prop
    have hf : fnVal X 100 = some (.ref f) := by
      unfold fnVal fnV
      rw [if_neg (by decide), if_pos rfl, h1]
      dsimp only
      rw [h4]
    refine get_bind (S.kin O) hI O.cls.ga (findObj_data (by obtain ⟨cd, hc, _⟩ := any_some O.cls.hd; rw [hc]; rfl) h1 h2 h3) O.cls.gt (wpAny_call (prop_get (s := { s with toks := s.toks + 1 }) ((S.tok (s.toks + 1)).kin O) h4 ?_))
    refine codeAny_mono (call_spec (hA.in1) (S.tok _) Sx hf (.cons r .nil)) fun rr s2 hp => ?_
    refine hp.wp fun v ⟨I2, M2, aw, l2, S2, r2, hn, q2⟩ => ?_
    try dsimp only
    rw [handedOut_of (handed_rep r2 hn)]
    exact wpAny_pure ⟨I2, M2, ρ, aw, l2, S2, r2, q2⟩
  | plain =>
    cases av with
    | inst pl f x => exact own_core (n := 4) O S r (by decide) (by decide) (.inl ⟨pl, f, x, rfl, rfl⟩) w.1 (fin w.2)
    | piece d => obtain ⟨es, x, hm, hl, hx, q⟩ := w; exact own_core (n := 4) O S r (by decide) (by decide) (.inr ⟨d, es, rfl, hm, hl⟩) hx (fin q)
    | _ => exact w.elim
  | first =>
    cases av with
    | inst pl f x => exact own_core (n := 5) O S r (by decide) (by decide) (.inl ⟨pl, f, x, rfl, rfl⟩) w.1 (fin w.2)
    | piece d => obtain ⟨es, x, hm, hl, hx, q⟩ := w; exact own_core (n := 5) O S r (by decide) (by decide) (.inr ⟨d, es, rfl, hm, hl⟩) hx (fin q)
    | _ => exact w.elim
  | second =>
    cases av with
    | inst pl f x => exact own_core (n := 6) O S r (by decide) (by decide) (.inl ⟨pl, f, x, rfl, rfl⟩) w.1 (fin w.2)
    | piece d => obtain ⟨es, x, hm, hl, hx, q⟩ := w; exact own_core (n := 6) O S r (by decide) (by decide) (.inr ⟨d, es, rfl, hm, hl⟩) hx (fin q)
    | _ => exact w.elim

theorem snd_att {o : Expr} {n : Att} {a : ME} {p : Pos} (O : CxOk X) (ho : isBase o = true) (h1 : SndE X k T env o a) : SndE X k T env (.Attribute o n.name p) (.att a n) := fun A hA I J M ρ s Q S w => by
  rw [arm_eval_Attribute, base_eq ho]
  refine wpAny_bind (h1.go hA S w fun I1 M1 ρ1 s1 v av l1 S1 r1 w1 => wpAny_bind (wpAny_standAt (wpAny_bind (wpAny_holding ?_))))
  refine wpAny_mono (att_core O hA S1 r1 w1) (fun x s2 hp => ?_) fun _ _ x => x
  exact wpAny_bind (wpAny_letTemporaryGo (wpAny_pure (hp.le l1)))

/-- methods of ours -/
theorem snd_own_meth {o : Expr} {mn : Str} {ap p : Pos} {a : ME} {m : Mth} {n : Nat} (O : CxOk X) (hmn : (mn = Str.ofString "parts" ∧ n = 101 ∧ m = .parts) ∨ (mn = Str.ofString "labels" ∧ n = 102 ∧ m = .labels)) (ho : isBase o = true) (hline : (ap.endLine == p.line) = true) (h1 : SndE X k T env o a) :
    SndE X k T env (.Call (.Attribute o mn ap) [] [] p) (.meth m a .nil) := fun A hA I J M ρ s Q S w => by
  rw [arm_eval_Call, base_eq ho]
  refine wpAny_bind (h1.go hA S w fun I1 M1 ρ1 s1 v av l1 S1 r1 w1 => wpAny_bind (wpAny_standAt ?_))
  have hform : methodCallForm (([] : List Expr).length + ([] : List Keyword).length) (backTo p (starEach [] env)) (backToKw p (keywordEach [] env)) = true := rfl
  have hpos : methodCallPos true o env ap p = pure p := by unfold methodCallPos; simp [hline]
  obtain ⟨hinst, sp⟩ := own_key (hmn.imp And.right And.right) w1
  obtain ⟨q, d, ds, c, xs, rfl, hI, rr, hxs⟩ := inst_at S1 r1 (.inl hinst)
  obtain ⟨f, h2, h3, h4⟩ := O.cls.meth mn (by rcases hmn with ⟨h, _⟩ | ⟨h, _⟩; exact .inl h; exact .inr h)
  have hf : fnVal X n = some (.ref f) := by
    rcases hmn with ⟨rfl, rfl, rfl⟩ | ⟨rfl, rfl, rfl⟩
    · unfold fnVal fnV; rw [if_neg (by decide), if_neg (by decide), if_pos rfl, h2]
    · unfold fnVal fnV; rw [if_neg (by decide), if_neg (by decide), if_neg (by decide), h2]
  have hsh : shadowIn (some (dicO ds.toArray c)) mn = some false := by
    unfold shadowIn
    dsimp only
    rw [look_none rr (y := mn) (by rcases hmn with ⟨rfl, _⟩ | ⟨rfl, _⟩ <;> decide +kernel)]
    rfl
  unfold methodCall
  rw [hform]
  refine wpAny_bind (wpAny_holding (method_fn (S1.kin O) hI O.cls.ga O.cls.gt h2 h3 hsh ?_))
  refine wpAny_bind (wpAny_of_eq hpos ?_)
  refine call_with (first := [.ref q]) (es := []) (as := .nil) (Q := fun vs M' ρ' => vs = [] ∧ M' = M1 ∧ ρ' = ρ1) O hA (.inr (.inr h4)) .nil S1 ⟨rfl, rfl, rfl⟩ fun I2 M2 ρ2 s2 vs avs l2 S2 r2 w2 => ?_
  obtain ⟨rfl, rfl, rfl⟩ := w2
  cases r2
  refine wpAny_call (codeAny_mono (call_spec hA.s S2 sp hf (.cons (r1.mono l2) .nil)) fun rr s2 hp => ?_)
  refine hp.wp fun v ⟨I3, M3, aw, l3, S3, r3, q3⟩ => ?_
  exact ⟨I3, M3, ρ2, aw, l1.trans (l2.trans l3), S3, r3, q3⟩

theorem ne_fa {a b : Addr} (fL : a ∉ FA env) (hb : b ∈ FA env) : b ≠ a := fun q => fL (q ▸ hb)
/-- a place that nobody else knows is kept -/
theorem Sat.addJ {a : Addr} {o : Obj} (S : Sat X tbl env I J M ρ s) (e : s.heap.get? a = some o) (iL : I a = none) (jL : J a = none) (mL : M a = none) (fL : a ∉ FA env) : Sat X tbl env I (upd J a o) M ρ s := by
  refine ⟨⟨⟨S.st.imm, fun b o' q => ?_, S.st.mu, fun b o' q => ?_, S.st.im, fun b mo q => ?_⟩, S.st.base⟩, ⟨S.fr.ns, S.fr.cells, fun b hb => ?_⟩, S.gens, S.os⟩
  · by_cases hb : b = a
    · subst hb; rw [upd_self] at q; cases q; exact e
    · rw [upd_ne hb] at q; exact S.st.frm b o' q
  · by_cases hb : b = a
    · subst hb; rw [iL] at q; cases q
    · rw [upd_ne hb]; exact S.st.ij b o' q
  · by_cases hb : b = a
    · subst hb; rw [mL] at q; cases q
    · rw [upd_ne hb]; exact S.st.jm b mo q
  · have hne : b ≠ a := fun q => fL (q ▸ hb)
    obtain ⟨f1, f2, f3⟩ := S.fr.free b hb
    exact ⟨f1, by rw [upd_ne hne]; exact f2, f3⟩
theorem Sat.dropJ {a : Addr} {o : Obj} (S : Sat X tbl env I (upd J a o) M ρ s) (jL : J a = none) : Sat X tbl env I J M ρ s ∧ s.heap.get? a = some o ∧ I a = none ∧ M a = none ∧ a ∉ FA env := by
  have hJ : ∀ b o', J b = some o' → upd J a o b = some o' := fun b o' q => by
    by_cases hb : b = a
    · subst hb; rw [jL] at q; cases q
    · rw [upd_ne hb]; exact q
  have none_of : ∀ b, upd J a o b = none → J b = none := fun b q => by
    by_cases hb : b = a
    · subst hb; exact jL
    · rwa [upd_ne hb] at q
  refine ⟨⟨⟨⟨S.st.imm, fun b o' q => S.st.frm b o' (hJ b o' q), S.st.mu, fun b o' q => none_of b (S.st.ij b o' q), S.st.im, fun b mo q => none_of b (S.st.jm b mo q)⟩, S.st.base⟩, ⟨S.fr.ns, S.fr.cells, fun b hb => ?_⟩, S.gens, S.os⟩, S.st.frm a o upd_self, ?_, ?_, ?_⟩
  · obtain ⟨f1, f2, f3⟩ := S.fr.free b hb
    exact ⟨f1, none_of b f2, f3⟩
  · cases q : I a with
    | none => rfl
    | some o' => have := S.st.ij a o' q; rw [upd_self] at this; cases this
  · cases q : M a with
    | none => rfl
    | some o' => have := S.st.jm a o' q; rw [upd_self] at this; cases this
  · intro hm
    have := (S.fr.free a hm).2.1
    rw [upd_self] at this; cases this
theorem Sat.size_free (S : Sat X tbl env I J M ρ s) : s.heap.objs.size ∉ FA env := fun h => Nat.lt_irrefl _ (FA_lt S.fr _ h)
/-- a fresh place, kept -/
theorem Sat.pushJ {o : Obj} {t : Tok} (S : Sat X tbl env I J M ρ s) (hf : o.isFreed = false) : Sat X tbl env I (upd J s.heap.objs.size o) M ρ { s with heap := s.heap.push o, toks := t } :=
  (S.ext (t := t) fun _ _ e => Heap.get?_push_of_some _ e).addJ (Heap.get?_push_size _ hf) S.st.size_none.1 S.st.size_none.2.1 S.st.size_none.2.2 S.size_free
/-- a place that nobody knows becomes a mutable of ours -/
theorem Sat.toM {a : Addr} {mo : MO} (S : Sat X tbl env I J M ρ s) (e : HasMO X.w.params X.C I s.heap a mo) (iL : I a = none) (jL : J a = none) (fL : a ∉ FA env) : Sat X tbl env I J (upd M a mo) ρ s :=
  ⟨S.st.toM e iL jL, ⟨S.fr.ns, S.fr.cells, fun b hb => by
    obtain ⟨f1, f2, f3⟩ := S.fr.free b hb
    exact ⟨f1, f2, by rw [upd_ne (ne_fa fL hb)]; exact f3⟩⟩, S.gens, S.os⟩
theorem Sat.toI {a : Addr} {o : Obj} (S : Sat X tbl env I J M ρ s) (e : s.heap.get? a = some o) (iL : I a = none) (jL : J a = none) (mL : M a = none) (fL : a ∉ FA env) : Sat X tbl env (upd I a o) J M ρ s :=
  ⟨S.st.toI e iL jL mL, S.fr.ext (Le.upd iL) (fun _ _ _ x => x) fun b hb => by
    obtain ⟨f1, f2, f3⟩ := S.fr.free b hb
    exact ⟨by rw [upd_ne (ne_fa fL hb)]; exact f1, f2, f3⟩, S.gens, S.os⟩
/-- a place that nobody knows has changed -/
theorem Sat.other {a : Addr} {h' : Heap} {t : Tok} (S : Sat X tbl env I J M ρ s) (hs : ∀ b, b ≠ a → ∀ o, s.heap.get? b = some o → h'.get? b = some o) (iL : I a = none) (jL : J a = none) (mL : M a = none) (fL : a ∉ FA env) : Sat X tbl env I J M ρ { s with heap := h', toks := t } :=
  ⟨S.st.other hs iL jL mL, S.fr.ext (Le.refl I) (fun b hb o e => hs b (ne_fa fL hb) o e) S.fr.free, S.gens, S.os⟩

/-- a dict with one key -/
theorem snd_dict {x : Str} {c : Nat} {p q : Pos} {v : Expr} {n : Nat} {a : ME} (hx : x = symAt n) (hn : n < 7) (h1 : SndE X k T env v a) : SndE X k T env (.Dict [some (.Constant (.str x) c q)] [v] p) (.dict n a) := fun A hA I J M ρ s Q S w => by
  subst hx
  refine wpAny_Dict_pairs (knd := strKind X.prog X.w) (pairs := [(eval (.Constant (.str (symAt n)) c q) env, do let x ← eval v env; standAt p; pure x)]) rfl (by simp) (by show 1 ≤ 15; decide) ?_
  have z := S.st.size_none
  have S0 := S.pushJ (o := { cls := .type "dict", data := .dict #[] }) (t := s.toks) rfl
  have body : wpAny X.mdl A (evalPairs [(eval (.Constant (.str (symAt n)) c q) env, do let x ← eval v env; standAt p; pure x)]) (fun vs s₁ => ∃ kvs, Carries (strKind X.prog X.w) vs kvs ∧ s₁.heap.DictOf (strKind X.prog X.w) s.heap.objs.size [] ∧
      ∀ h', h'.DictOf (strKind X.prog X.w) s.heap.objs.size (merged [] kvs) → Heap.SameBut s.heap.objs.size s₁.heap h' → PostE X T.tbl env I J Q (.ref s.heap.objs.size) { s₁ with heap := h', toks := s₁.toks + vs.length }) NoE { s with heap := s.heap.push { cls := .type "dict", data := .dict #[] } } := by
    show wpAny X.mdl A (do
      let kv ← eval (.Constant (.str (symAt n)) c q) env
      let vv ← holding [kv] (do let x ← eval v env; standAt p; pure x)
      return (kv, vv) :: (← holding [kv, vv] (pure []))) _ NoE _
    refine wpAny_bind (wpAny_Constant_str (wpAny_bind (wpAny_holding (wpAny_bind (h1.go hA (S0.tok _) w fun I1 M1 ρ1 s1 x av l1 S1 r1 w1 => wpAny_bind (wpAny_standAt (wpAny_pure (wpAny_bind (wpAny_holding (wpAny_pure (wpAny_pure ?_)))))))))))
    obtain ⟨S2, hg, iL, mL, fL⟩ := S1.dropJ z.2.1
    refine ⟨[(symAt n, x)], ⟨isStrOf_sym n s.toks, rfl, trivial⟩, ⟨_, _, _, hg, ⟨rfl, rfl, rfl⟩, rfl, fun e he => by simp at he, .nil, by simp⟩, fun h' hd hs => ?_⟩
    have hd' : h'.DictOf (strKind X.prog X.w) s.heap.objs.size [(symAt n, x)] := hd
    have S3 : Sat X T.tbl env I1 J M1 ρ1 { s1 with heap := h', toks := s1.toks + 1 } := S2.other (fun b hb o e => (hs.2 b hb).trans e) iL z.2.1 mL fL
    exact ⟨I1, _, ρ1, .ref s.heap.objs.size, l1, S3.toM (mo := .dict [(n, av)]) (hasMO_one hn hd' r1) iL z.2.1 fL, .ref _, w1 _ mL⟩
  exact body
end
end Mine
namespace Mine

section
variable {X : Cx} {k : Nat} {T : Tx} {env : Env} {tbl : List Str} {I I' J : Imm} {M : Mem} {ρ : Env0} {s : Shared} {A : Around}

/-- the object of an iteration over v, at its i-th item -/
noncomputable def ItOk (X : Cx) (I : Imm) (v : AV) (i : Nat) (o : Obj) : Prop := match v with
  | .lst xs => ∃ l vs n, I l = some (lstO (List.toArray vs) n) ∧ X.Reps I vs xs ∧ o.cls = .type "list_iterator" ∧ o.data = .fields #[.ref l, .int i 0]
  | .tup xs => ∃ l vs n, I l = some (tupO (List.toArray vs) n) ∧ X.Reps I vs xs ∧ o.cls = .type "tuple_iterator" ∧ o.data = .fields #[.ref l, .int i 0]
  | .ref a => o.cls = .type "list_iterator" ∧ o.data = .fields #[.ref a, .int i 0]
  | .rng lo hi => lo.natAbs ≤ 1000000 ∧ hi.natAbs ≤ 1000000 ∧ i ≤ (hi - lo).toNat ∧ o = { cls := .type "range_iterator", dict := none, data := .fields #[rawInt (lo + (i : Int)), rawInt (((hi - lo).toNat : Int) - (i : Int)), rawInt 1], slots := #[] }
  | _ => False
theorem ItOk.mono (hI : Le I I') : ∀ {v : AV} {i : Nat} {o : Obj}, ItOk X I v i o → ItOk X I' v i o
  | .lst _, _, _, ⟨l, vs, n, a, b, c⟩ => ⟨l, vs, n, hI _ _ a, b.mono hI, c⟩
  | .tup _, _, _, ⟨l, vs, n, a, b, c⟩ => ⟨l, vs, n, hI _ _ a, b.mono hI, c⟩
  | .ref _, _, _, h => h
  | .rng _ _, _, _, h => h
  | .none, _, _, h => h.elim
  | .bool _, _, _, h => h.elim
  | .int _, _, _, h => h.elim
  | .sy _, _, _, h => h.elim
  | .inst .., _, _, h => h.elim
  | .piece _, _, _, h => h.elim
  | .any, _, _, h => h.elim
theorem obj_eta {o : Obj} {c : Value} {d : Data} (h1 : o.cls = c) (h2 : o.data = d) : ∃ dd sl, o = ⟨c, dd, d, sl⟩ := by
  obtain ⟨c', dd, d', sl⟩ := o
  dsimp only at h1 h2
  subst h1 h2
  exact ⟨dd, sl, rfl⟩
theorem ItOk.live {v : AV} {i : Nat} {o : Obj} (h : ItOk X I v i o) : o.isFreed = false := by
  cases v <;> first
    | exact h.elim
    | (obtain ⟨l, vs, n, _, _, h1, h2⟩ := h; obtain ⟨dd, sl, rfl⟩ := obj_eta h1 h2; rfl)
    | (obtain ⟨h1, h2⟩ := h; obtain ⟨dd, sl, rfl⟩ := obj_eta h1 h2; rfl)
    | (obtain ⟨_, _, _, rfl⟩ := h; rfl)

theorem looks_at {a : Addr} {xs : List AV} {chk : Mem → Prop} (h : looks M (.ref a) = some (xs, chk)) : ∃ ys, M a = some (.list ys) ∧ chk = fun M => M a = some (.list ys) := by
  unfold looks at h
  dsimp only at h
  cases hm : M a with
  | none => rw [hm] at h; exact nso h
  | some mo =>
    rw [hm] at h
    cases mo with
    | dict es => exact nso h
    | list ys => exact ⟨ys, rfl, (Prod.mk.inj (Option.some.inj h)).2.symm⟩
theorem iter_make {w : Value} {v : AV} {xs : List AV} {chk : Mem → Prop} {R : Value → Shared → Prop} (S : Sat X tbl env I J M ρ s) (r : X.Rep I w v) (hx : looks M v = some (xs, chk))
    (h : ∀ o, ItOk X I v 0 o → chk M → R (.ref s.heap.objs.size) { s with heap := s.heap.push o }) : wpAny X.mdl A (pyIter w) R NoE s := by
  have ri := r.inv
  cases v with
  | lst ys =>
    obtain ⟨l, vs, n, rfl, hI, hr⟩ := ri
    exact wpAny_pyIter_list ⟨_, S.st.imm _ _ hI, rfl, _, rfl⟩ (h _ ⟨_, _, _, hI, hr, rfl, rfl⟩ ((Prod.mk.inj (Option.some.inj hx)).2 ▸ trivial))
  | tup ys =>
    obtain ⟨l, vs, n, rfl, hI, hr⟩ := ri
    exact wpAny_pyIter_tuple ⟨_, S.st.imm _ _ hI, rfl, _, rfl⟩ (h _ ⟨_, _, _, hI, hr, rfl, rfl⟩ ((Prod.mk.inj (Option.some.inj hx)).2 ▸ trivial))
  | ref a =>
    obtain rfl : w = .ref a := ri
    obtain ⟨ys, hm, e2⟩ := looks_at hx
    obtain ⟨vs, n, e, rr⟩ := S.st.mu a _ hm
    exact wpAny_pyIter_list ⟨_, e, rfl, _, rfl⟩ (h _ ⟨rfl, rfl⟩ (e2 ▸ hm))
  | rng lo hi =>
    obtain ⟨a, t, u, c, rfl, b1, b2, hI⟩ := ri
    have hn : Builtin.Range.rangeSize lo hi 1 = ((hi - lo).toNat : Nat) := by
      unfold Builtin.Range.rangeSize
      rw [if_pos (by decide), Int.ediv_one]
      split <;> omega
    refine wpAny_pyIter_range (S.st.imm _ _ hI) (small_one (by exact lin [lo.natAbs] [lo] true (.h false false (.v 0) (.l 1000000) (.h false true (.g (.v 0)) (.c (.v 0)) (.v 0))) (.g (.l 4611686018427387904)) (.v 0) 1 [1, 1] (Eq.refl true) b1 (nab_neg (lo))) (by exact lin [lo.natAbs] [lo] true (.h false false (.v 0) (.l 1000000) (.h false true (.v 0) (.c (.v 0)) (.v 0))) (.a (.v 0) (.l 1)) (.l 4611686018427387904) 1 [1, 1] (Eq.refl true) b1 (Int.le_natAbs (a := lo))) (by exact lin [hi.natAbs] [hi] true (.h false false (.v 0) (.l 1000000) (.h false true (.g (.v 0)) (.c (.v 0)) (.v 0))) (.g (.l 4611686018427387904)) (.v 0) 1 [1, 1] (Eq.refl true) b2 (nab_neg (hi))) (by exact lin [hi.natAbs] [hi] true (.h false false (.v 0) (.l 1000000) (.h false true (.v 0) (.c (.v 0)) (.v 0))) (.a (.v 0) (.l 1)) (.l 4611686018427387904) 1 [1, 1] (Eq.refl true) b2 (Int.le_natAbs (a := hi)))) ?_
    rw [hn]
    refine h _ ⟨b1, b2, Nat.zero_le _, ?_⟩ ((Prod.mk.inj (Option.some.inj hx)).2 ▸ trivial)
    simp
  | _ => exact nso hx

theorem iter_next {it : Addr} {o : Obj} {M₀ : Mem} {v : AV} {xs : List AV} {chk : Mem → Prop} {i : Nat} {x : AV} {R : Option Value → Shared → Prop} (S : Sat X tbl env I J M ρ s) (hx : looks M₀ v = some (xs, chk)) (hc : chk M) (ho : s.heap.get? it = some o) (hi : ItOk X I v i o) (hg : xs[i]? = some x)
    (h : ∀ w h' o' tk, X.Rep I w x → ItOk X I v (i + 1) o' → h'.get? it = some o' → Heap.SameBut it s.heap h' → R (some w) { s with heap := h', toks := tk }) : wpAny X.mdl A (pyNext (.ref it)) R NoE s := by
  cases v with
  | lst ys =>
    cases hx
    obtain ⟨l, vs, n, a, b, c, d⟩ := hi
    obtain ⟨w, hw, hr⟩ := b.get hg
    refine wpAny_pyNext_list_item ⟨o, ho, c, d⟩ ⟨_, S.st.imm _ _ a, rfl, _, rfl⟩ (by simpa using hw) fun h' ⟨o', ho', c', d'⟩ hs => ?_
    exact h w h' o' s.toks hr ⟨l, vs, n, a, b, c', d'⟩ ho' hs
  | tup ys =>
    cases hx
    obtain ⟨l, vs, n, a, b, c, d⟩ := hi
    obtain ⟨w, hw, hr⟩ := b.get hg
    refine wpAny_pyNext_tuple_item ⟨o, ho, c, d⟩ ⟨_, S.st.imm _ _ a, rfl, _, rfl⟩ (by simpa using hw) fun h' ⟨o', ho', c', d'⟩ hs => ?_
    exact h w h' o' s.toks hr ⟨l, vs, n, a, b, c', d'⟩ ho' hs
  | ref a =>
    simp only [looks] at hx
    cases hm : M₀ a with
    | none => rw [hm] at hx; cases hx
    | some mo =>
      rw [hm] at hx
      cases mo with
      | dict es => cases hx
      | list ys =>
        cases hx
        obtain ⟨vs, n, e, rr⟩ := S.st.mu a _ hc
        obtain ⟨c, d⟩ := hi
        obtain ⟨w, hw, hr⟩ := rr.get hg
        refine wpAny_pyNext_list_item ⟨o, ho, c, d⟩ ⟨_, e, rfl, _, rfl⟩ (by rw [← Array.getElem?_toList]; exact hw) fun h' ⟨o', ho', c', d'⟩ hs => ?_
        exact h w h' o' s.toks hr ⟨c', d'⟩ ho' hs
  | rng lo hi2 =>
    cases hx
    obtain ⟨b1, b2, b3, rfl⟩ := hi
    have hlt : i < (hi2 - lo).toNat := by
      have := (List.getElem?_eq_some_iff.mp hg).1
      rwa [rngL_len] at this
    have hxe : x = .int (lo + (i : Int)) := by
      unfold rngL at hg
      rw [List.getElem?_map, List.getElem?_range hlt] at hg
      exact (Option.some.inj hg).symm
    subst hxe
    refine wpAny_pyNext_range_item ho (by exact lin [(hi2 - lo).toNat, i] [] true (.h false false (.a (.v 1) (.l 1)) (.v 0) (.v 0)) (.a (.l 0) (.l 1)) (.s (.c (.v 0)) (.c (.v 1))) 1 [1] (Eq.refl true) hlt) fun h' ho' hs => ?_
    refine h _ h' _ _ (.int _ _) ⟨b1, b2, hlt, ?_⟩ ho' hs
    have e1 : lo + (i : Int) + 1 = lo + ((i + 1 : Nat) : Int) := by exact linE [i] [lo] true (.v 0) (.a (.a (.v 0) (.c (.v 0))) (.l 1)) (.a (.v 0) (.c (.a (.v 0) (.l 1)))) 1 [] 1 [] (Eq.refl true) (Eq.refl true)
    have e2 : ((hi2 - lo).toNat : Int) - (i : Int) - 1 = ((hi2 - lo).toNat : Int) - ((i + 1 : Nat) : Int) := by exact linE [(hi2 - lo).toNat, i] [] true (.v 0) (.s (.s (.c (.v 0)) (.c (.v 1))) (.l 1)) (.s (.c (.v 0)) (.c (.a (.v 1) (.l 1)))) 1 [] 1 [] (Eq.refl true) (Eq.refl true)
    rw [e1, e2]
  | _ => exact hi.elim
theorem iter_end {it : Addr} {o : Obj} {M₀ : Mem} {v : AV} {xs : List AV} {chk : Mem → Prop} {i : Nat} {R : Option Value → Shared → Prop} (hA : A.handled = none) (S : Sat X tbl env I J M ρ s) (hx : looks M₀ v = some (xs, chk)) (hc : chk M) (ho : s.heap.get? it = some o) (hi : ItOk X I v i o) (hg : xs[i]? = none)
    (h : ∀ h', Heap.ExtBut it s.heap h' → R none { s with heap := h' }) : wpAny X.mdl A (pyNext (.ref it)) R NoE s := by
  cases v with
  | lst ys =>
    cases hx
    obtain ⟨l, vs, n, a, b, c, d⟩ := hi
    exact wpAny_pyNext_list_end hA ⟨o, ho, c, d⟩ ⟨_, S.st.imm _ _ a, rfl, _, rfl⟩ (by simpa using Reps.get_none b i hg) h
  | tup ys =>
    cases hx
    obtain ⟨l, vs, n, a, b, c, d⟩ := hi
    exact wpAny_pyNext_tuple_end hA ⟨o, ho, c, d⟩ ⟨_, S.st.imm _ _ a, rfl, _, rfl⟩ (by simpa using Reps.get_none b i hg) h
  | ref a =>
    simp only [looks] at hx
    cases hm : M₀ a with
    | none => rw [hm] at hx; cases hx
    | some mo =>
      rw [hm] at hx
      cases mo with
      | dict es => cases hx
      | list ys =>
        cases hx
        obtain ⟨vs, n, e, rr⟩ := S.st.mu a _ hc
        obtain ⟨c, d⟩ := hi
        exact wpAny_pyNext_list_end hA ⟨o, ho, c, d⟩ ⟨_, e, rfl, _, rfl⟩ (by rw [← Array.getElem?_toList]; exact Reps.get_none rr i hg) h
  | rng lo hi2 =>
    cases hx
    obtain ⟨b1, b2, b3, rfl⟩ := hi
    have hlt : ¬ i < (hi2 - lo).toNat := by
      rw [List.getElem?_eq_none_iff, rngL_len] at hg
      exact Nat.not_lt.mpr (lin [(hi2 - lo).toNat, i] [] false (.h false false (.v 0) (.v 1) (.v 0)) (.v 0) (.v 1) 1 [1] (Eq.refl true) hg)
    exact wpAny_pyNext_range_end hA ho (by exact lin [(hi2 - lo).toNat, i] [] true (.h false false (.v 0) (.v 1) (.v 0)) (.s (.c (.v 0)) (.c (.v 1))) (.l 0) 1 [1] (Eq.refl true) (Nat.le_of_not_lt hlt)) h
  | _ => exact hi.elim
end
end Mine
namespace Mine

/-! the scope of a comprehension -/
noncomputable def clF (cells : List (Str × Addr)) : List (Str × NameKind) → List (Str × Addr) → List (Str × Addr)
  | [], cs => cs
  | (n, k) :: r, cs => clF cells r (if k == NameKind.free then (n, (cells.lookup n).getD 0) :: cs else cs)
noncomputable def clOf (sc : Scope) (env : Env) : List (Str × Addr) := clF env.cells sc.names []

theorem closure_go {env : Env} : ∀ (l : List (Str × NameKind)) (cs : List (Str × Addr)), (∀ x ∈ l, x.2 = .free → (env.cells.lookup x.1).isSome = true) →
    (forIn l cs fun (x : Str × NameKind) (cs : List (Str × Addr)) => if (x.2 == NameKind.free) = true then do let c ← cellOf env x.1; pure (ForInStep.yield ((x.1, c) :: cs)) else pure (ForInStep.yield cs) : Sem (List (Str × Addr))) = pure (clF env.cells l cs)
  | [], cs, _ => rfl
  | (n, k) :: r, cs, h => by
    rw [List.forIn_cons]
    unfold clF
    dsimp only
    by_cases hk : (k == NameKind.free) = true
    · rw [if_pos hk, if_pos hk]
      obtain ⟨c, hc⟩ := Option.isSome_iff_exists.mp (h (n, k) List.mem_cons_self (by simpa using hk))
      have hce : cellOf env n = pure c := by unfold cellOf; rw [hc]
      rw [hce, hc]
      exact closure_go r _ fun x hx => h x (List.mem_cons_of_mem _ hx)
    · rw [if_neg hk, if_neg hk]
      exact closure_go r _ fun x hx => h x (List.mem_cons_of_mem _ hx)
theorem closure_eq {sc : Scope} {env : Env} (h : ∀ x ∈ sc.names, x.2 = .free → (env.cells.lookup x.1).isSome = true) : closureFor sc env = pure (clOf sc env) := by
  unfold closureFor clOf
  rw [← closure_go sc.names [] h]
  show _ >>= pure = _
  simp only [bind_pure]
theorem clF_mem {cells : List (Str × Addr)} : ∀ (l : List (Str × NameKind)) (cs : List (Str × Addr)) {p : Str × Addr}, p ∈ clF cells l cs ↔ p ∈ cs ∨ ((p.1, NameKind.free) ∈ l ∧ p.2 = (cells.lookup p.1).getD 0)
  | [], cs, p => by unfold clF; simp
  | (n, k) :: r, cs, p => by
    unfold clF
    rw [clF_mem r]
    by_cases hk : (k == NameKind.free) = true
    · rw [if_pos hk]
      have hk' : k = .free := by simpa using hk
      subst hk'
      constructor
      · rintro (h | ⟨h, e⟩)
        · rcases List.mem_cons.mp h with rfl | h
          · exact .inr ⟨List.mem_cons_self, rfl⟩
          · exact .inl h
        · exact .inr ⟨List.mem_cons_of_mem _ h, e⟩
      · rintro (h | ⟨h, e⟩)
        · exact .inl (List.mem_cons_of_mem _ h)
        · rcases List.mem_cons.mp h with h | h
          · obtain ⟨p1, p2⟩ := p
            cases h
            dsimp only at e
            subst e
            exact .inl List.mem_cons_self
          · exact .inr ⟨h, e⟩
    · rw [if_neg hk]
      have hk' : k ≠ .free := by simpa using hk
      constructor
      · rintro (h | ⟨h, e⟩)
        · exact .inl h
        · exact .inr ⟨List.mem_cons_of_mem _ h, e⟩
      · rintro (h | ⟨h, e⟩)
        · exact .inl h
        · rcases List.mem_cons.mp h with h | h
          · cases h; exact absurd rfl hk'
          · exact .inr ⟨h, e⟩
theorem lookup_map {f : Str → NameKind → NameKind} : ∀ (l : List (Str × NameKind)) (y : Str), (l.map fun p => (p.1, f p.1 p.2)).lookup y = (l.lookup y).map (f y)
  | [], _ => rfl
  | (n, k) :: r, y => by
    rw [List.map_cons, List.lookup_cons, List.lookup_cons]
    cases h : y == n with
    | true => have : y = n := by simpa using h
              subst this; rfl
    | false => exact lookup_map r y
theorem inner_lookup {names : List (Str × NameKind)} {sc : Scope} (y : Str) : (innerNames names sc).lookup y = (sc.names.lookup y).map fun k => if (k == NameKind.free && true && names.lookup y == some .cell) then .cell else k := by
  unfold innerNames
  rw [← lookup_map (f := fun n k => if (k == NameKind.free && true && names.lookup n == some .cell) then .cell else k)]
  congr 1
  refine List.map_congr_left fun p _ => ?_
  obtain ⟨n, k⟩ := p
  dsimp only
  split <;> rfl
theorem mem_lookup {l : List (Str × NameKind)} (hn : (l.map (·.1)).Nodup) {x : Str} {k : NameKind} (h : (x, k) ∈ l) : l.lookup x = some k := by
  induction l with
  | nil => cases h
  | cons p r ih =>
    obtain ⟨n, k'⟩ := p
    rw [List.map_cons, List.nodup_cons] at hn
    rcases List.mem_cons.mp h with h' | h'
    · cases h'; rw [List.lookup_cons, beq_self_eq_true]
    · have hne : (x == n) = false := by
        refine beq_eq_false_iff_ne.mpr fun q => hn.1 ?_
        subst q
        exact List.mem_map.mpr ⟨_, h', rfl⟩
      rw [List.lookup_cons, hne]; exact ih hn.2 h'
structure InOk (T : Tx) (sc : Scope) : Prop where
  kind : sc.kind = .function
  nocell : ∀ x ∈ sc.names, x.2 ≠ .cell
  loc : ∀ x ∈ sc.names, x.2 = .local → sc.names.lookup x.1 = some .local
  free : ∀ x ∈ sc.names, x.2 = .free → T.names.lookup x.1 = some .cell
  nodup : (sc.names.map (·.1)).Nodup
theorem compOk_of {T : Tx} {sc : Scope} (h : compOk T sc = true) : InOk T sc := by
  unfold compOk at h
  rw [Bool.and_eq_true, Bool.and_eq_true] at h
  obtain ⟨⟨h1, h2⟩, h3⟩ := h
  have h2 := List.all_eq_true.mp h2
  refine ⟨by simpa using h1, fun x hx => ?_, fun x hx hl => ?_, fun x hx hl => ?_, of_decide_eq_true h3⟩
  · have := h2 x hx
    simp only [Bool.and_eq_true, bne_iff_ne, ne_eq] at this
    exact this.1.1
  · have := h2 x hx
    rw [hl] at this
    simp only [Bool.and_eq_true] at this
    simpa using this.1.2
  · have := h2 x hx
    rw [hl] at this
    simp only [Bool.and_eq_true] at this
    simpa using this.2

section
variable {X : Cx} {T : Tx} {env : Env} {sc : Scope}
theorem relabel_names (E0 : TxOk T env) : (relabel sc env).names = innerNames T.names sc := by
  unfold relabel innerNames
  dsimp only
  refine List.map_congr_left fun p _ => ?_
  unfold Env.kindOf
  rw [E0.ok.kind, E0.names]
  rfl
theorem clOf_spec (E0 : TxOk T env) (H : InOk T sc) : ∀ p ∈ clOf sc env, env.cells.lookup p.1 = some p.2 ∧ (p.1, NameKind.free) ∈ sc.names ∧ T.names.lookup p.1 = some .cell := fun p hp => by
  unfold clOf at hp
  rw [clF_mem] at hp
  rcases hp with hp | ⟨hp, e⟩
  · cases hp
  · have hc := H.free _ hp rfl
    obtain ⟨c, hc'⟩ := Option.isSome_iff_exists.mp (E0.cells _ hc)
    dsimp only at hc'
    refine ⟨?_, hp, hc⟩
    rw [e, hc']; rfl
theorem cl_closure (E0 : TxOk T env) (H : InOk T sc) : closureFor sc env = pure (clOf sc env) := closure_eq fun x hx hf => E0.cells _ (H.free x hx hf)
theorem lookup_exists {x : Str} : ∀ {l : List (Str × Addr)}, (∃ c, (x, c) ∈ l) → ∃ c, l.lookup x = some c
  | [], ⟨_, h⟩ => by cases h
  | (n, d) :: r, ⟨c, h⟩ => by
    rw [List.lookup_cons]
    cases q : x == n with
    | true => exact ⟨d, rfl⟩
    | false =>
      rcases List.mem_cons.mp h with h | h
      · cases h; simp at q
      · exact lookup_exists ⟨c, h⟩
theorem cl_lookup (E0 : TxOk T env) (H : InOk T sc) {x : Str} {c : Addr} (hf : (x, NameKind.free) ∈ sc.names) (hc : env.cells.lookup x = some c) : (clOf sc env).lookup x = some c := by
  have hm : (x, c) ∈ clOf sc env := by
    unfold clOf; rw [clF_mem]
    exact .inr ⟨hf, by dsimp only; rw [hc]; rfl⟩
  obtain ⟨c', hc'⟩ := lookup_exists ⟨c, hm⟩
  have := (clOf_spec E0 H _ (mem_of_lookup hc')).1
  dsimp only at this
  rw [hc] at this; cases this; exact hc'
theorem mem_of_lookupK {l : List (Str × NameKind)} {x : Str} {k : NameKind} (h : l.lookup x = some k) : (x, k) ∈ l := by
  induction l with
  | nil => cases h
  | cons p r ih =>
    obtain ⟨n, k'⟩ := p
    rw [List.lookup_cons] at h
    cases q : x == n with
    | true =>
      rw [q] at h
      have : x = n := by simpa using q
      subst this; cases h; exact List.mem_cons_self
    | false => rw [q] at h; exact List.mem_cons_of_mem _ (ih h)
theorem clF_pair {cells : List (Str × Addr)} : ∀ (l : List (Str × NameKind)) (cs : List (Str × Addr)), (l.map (·.1)).Nodup → (∀ p ∈ cs, p.1 ∉ l.map (·.1)) → cs.Pairwise (fun x y => x.1 ≠ y.1) → (clF cells l cs).Pairwise fun x y => x.1 ≠ y.1
  | [], _, _, _, h => h
  | (n, k) :: r, cs, hn, hd, h => by
    rw [List.map_cons, List.nodup_cons] at hn
    unfold clF
    refine clF_pair r _ hn.2 (fun p hp => ?_) ?_
    · split at hp
      · rcases List.mem_cons.mp hp with rfl | hp
        · exact hn.1
        · exact fun q => hd p hp (List.mem_cons_of_mem _ q)
      · exact fun q => hd p hp (List.mem_cons_of_mem _ q)
    · split
      · exact List.pairwise_cons.mpr ⟨fun p hp q => hd p hp (by rw [← q]; exact List.mem_cons_self), h⟩
      · exact h
theorem cl_apart (E0 : TxOk T env) (H : InOk T sc) : (clOf sc env).Pairwise fun x y => x.2 ≠ y.2 := by
  have h1 := clF_pair (cells := env.cells) sc.names [] H.nodup (fun p hp => by cases hp) List.Pairwise.nil
  refine List.Pairwise.imp_of_mem (fun {x y} hx hy hne q => hne ?_) h1
  obtain ⟨a1, _, _⟩ := clOf_spec E0 H x hx
  obtain ⟨a2, _, _⟩ := clOf_spec E0 H y hy
  exact name_of_addr E0.ok.apart (mem_of_lookup a1) (q ▸ mem_of_lookup a2)

/-- the environment within -/
theorem inner_ok {C : Addr} (E0 : TxOk T env) (H : InOk T sc) (hC : ∀ p ∈ env.cells, p.2 ≠ C) : TxOk (inTx T sc) (compEnvC sc (clOf sc env) C env) where
  ok := {
    kind := H.kind
    gl := E0.ok.gl
    bi := E0.ok.bi
    nodup := E0.ok.nodup
    apart := cl_apart E0 H
    ne := fun p hp => hC _ (mem_of_lookup (clOf_spec E0 H p hp).1)
    dbg := E0.ok.dbg }
  names := relabel_names E0
  cls := E0.cls
  cells := fun x hx => by
    have hx' : (innerNames T.names sc).lookup x = some .cell := hx
    rw [inner_lookup] at hx'
    obtain ⟨k, hk, e⟩ := Option.map_eq_some_iff.mp hx'
    have hf : k = .free := by
      by_cases q : k = .free
      · exact q
      · rw [if_neg (by simp [q])] at e
        subst e
        exact absurd rfl (H.nocell _ (mem_of_lookupK hk))
    subst hf
    have hm := mem_of_lookupK hk
    obtain ⟨c, hc⟩ := Option.isSome_iff_exists.mp (E0.cells _ (H.free _ hm rfl))
    show ((clOf sc env).lookup x).isSome = true
    rw [cl_lookup E0 H hm hc]; rfl
end
end Mine
namespace Mine

theorem lk_mask {f : Str → Bool} : ∀ (tbl : List Str) (ρ : Env0) (j : Nat) (av : AV), lk (maskE (tbl.map f) ρ) j = some av → ∃ y, tbl[j]? = some y ∧ f y = true ∧ lk ρ j = some av
  | [], _, _, _, h => by unfold maskE at h; simp [lk] at h
  | y :: tbl, [], j, av, h => by
    rw [List.map_cons] at h
    cases q : f y <;> rw [q] at h <;> simp [maskE, lk] at h
  | y :: tbl, x :: ρ, 0, av, h => by
    rw [List.map_cons] at h
    cases q : f y with
    | true => rw [q] at h; exact ⟨y, rfl, q, h⟩
    | false => rw [q] at h; simp [maskE, lk] at h
  | y :: tbl, x :: ρ, j + 1, av, h => by
    rw [List.map_cons] at h
    cases q : f y <;> rw [q] at h <;> exact lk_mask tbl ρ j av h
theorem mask_lk {f : Str → Bool} : ∀ (tbl : List Str) (ρ : Env0) (j : Nat) (av : AV) (y : Str), tbl[j]? = some y → f y = true → lk ρ j = some av → lk (maskE (tbl.map f) ρ) j = some av
  | [], _, _, _, _, h, _, _ => by simp at h
  | _ :: _, [], _, _, _, _, _, h => by simp [lk] at h
  | y :: tbl, x :: ρ, 0, av, z, h, hf, e => by
    cases h
    rw [List.map_cons, hf]; exact e
  | y :: tbl, x :: ρ, j + 1, av, z, h, hf, e => by
    rw [List.map_cons]
    cases q : f y <;> exact mask_lk tbl ρ j av z h hf e
theorem mask_none {f : Str → Bool} {tbl : List Str} {ρ : Env0} {j : Nat} {y : Str} (h : tbl[j]? = some y) (hf : f y = false) : lk (maskE (tbl.map f) ρ) j = none := by
  cases q : lk (maskE (tbl.map f) ρ) j with
  | none => rfl
  | some av =>
    obtain ⟨z, h1, h2, _⟩ := lk_mask _ _ _ _ q
    rw [h] at h1; cases h1
    rw [hf] at h2; cases h2

noncomputable def outJ (cl : List (Str × Addr)) (env : Env) (J : Imm) (h : Heap) : Imm := fun a => if a ∈ FA env ∧ a ∉ cl.map (·.2) then h.get? a else J a

section
variable {X : Cx} {T : Tx} {env : Env} {sc : Scope} {I I' J : Imm} {M M' : Mem} {ρ : Env0} {s s' : Shared} {C : Addr}

theorem outJ_in {cl : List (Str × Addr)} {h : Heap} {a : Addr} (h1 : a ∈ FA env) (h2 : a ∉ cl.map (·.2)) : outJ cl env J h a = h.get? a := if_pos ⟨h1, h2⟩
theorem outJ_out {cl : List (Str × Addr)} {h : Heap} {a : Addr} (h1 : ¬ (a ∈ FA env ∧ a ∉ cl.map (·.2))) : outJ cl env J h a = J a := if_neg h1
theorem cl_FA (E0 : TxOk T env) (H : InOk T sc) : ∀ a ∈ (clOf sc env).map (·.2), a ∈ FA env := fun a ha => by
  obtain ⟨p, hp, rfl⟩ := List.mem_map.mp ha
  exact List.mem_cons_of_mem _ (List.mem_map.mpr ⟨_, mem_of_lookup (clOf_spec E0 H p hp).1, rfl⟩)
theorem kindOf_inner (E0 : TxOk T env) (y : Str) : (compEnvC sc (clOf sc env) C env).kindOf y = (innerNames T.names sc).lookup y := by
  show ((relabel sc env).names).lookup y = _
  rw [relabel_names E0]

theorem inner_start (E0 : TxOk T env) (H : InOk T sc) (S : Sat X T.tbl env I J M ρ s) {h' : Heap} {t : Tok} (hk : ∀ a o, s.heap.get? a = some o → h'.get? a = some o) {m : Str → Option Value} (hC : s.heap.objs.size ≤ C) (hn : h'.Ns C m) :
    Sat X T.tbl (compEnvC sc (clOf sc env) C env) I (outJ (clOf sc env) env J s.heap) M (maskE (vis T sc.names) ρ) { s with heap := h', toks := t } := by
  have S1 : Sat X T.tbl env I J M ρ { s with heap := h', toks := t } := S.ext hk
  have nC : s.heap.get? C = none := by
    cases q : s.heap.get? C with
    | none => rfl
    | some o => exact absurd (Heap.lt_size q) (Nat.not_lt.mpr hC)
  have CFA : C ∉ FA env := fun h => absurd (FA_lt S.fr C h) (Nat.not_lt.mpr hC)
  have iC : I C = none := by
    cases q : I C with
    | none => rfl
    | some o => have := S.st.imm _ _ q; rw [nC] at this; cases this
  have jC : J C = none := by
    cases q : J C with
    | none => rfl
    | some o => have := S.st.frm _ _ q; rw [nC] at this; cases this
  have mC : M C = none := by
    cases q : M C with
    | none => rfl
    | some o => obtain ⟨o', e⟩ := (S.st.mu _ _ q).get; rw [nC] at e; cases e
  refine ⟨⟨⟨S1.st.imm, fun a o e => ?_, S1.st.mu, fun a o e => ?_, S1.st.im, fun a mo e => ?_⟩, S1.st.base⟩, ⟨⟨m, hn, fun j y av hy hv => ?_⟩, fun p hp => ?_, fun a ha => ?_⟩, S.gens, S.os⟩
  · by_cases c : a ∈ FA env ∧ a ∉ (clOf sc env).map (·.2)
    · rw [outJ_in c.1 c.2] at e; exact hk _ _ e
    · rw [outJ_out c] at e; exact S1.st.frm a o e
  · by_cases c : a ∈ FA env ∧ a ∉ (clOf sc env).map (·.2)
    · rw [(S.fr.free a c.1).1] at e; cases e
    · rw [outJ_out c]; exact S.st.ij a o e
  · by_cases c : a ∈ FA env ∧ a ∉ (clOf sc env).map (·.2)
    · rw [(S.fr.free a c.1).2.2] at e; cases e
    · rw [outJ_out c]; exact S.st.jm a mo e
  · obtain ⟨z, hz, hf, hl⟩ := lk_mask _ _ _ _ hv
    rw [hy] at hz; cases hz
    have hfr : (y, NameKind.free) ∈ sc.names := mem_of_lookupK (by simpa using hf)
    have hcell := H.free _ hfr rfl
    dsimp only at hcell
    obtain ⟨m0, hm0, hs0⟩ := S1.fr.ns
    have hko : env.kindOf y = some .cell := by unfold Env.kindOf; rw [E0.names]; exact hcell
    rcases hs0 j y av hy hl with ⟨k, _⟩ | ⟨_, c, v, e, hc, r⟩
    · rw [hko] at k; cases k
    · refine .inr ⟨.inl ?_, c, v, cl_lookup E0 H hfr e, hc, r⟩
      rw [kindOf_inner E0, inner_lookup, (by simpa using hf : sc.names.lookup y = some .free)]
      simp [hcell]
  · exact S1.fr.cells _ (mem_of_lookup (clOf_spec E0 H p hp).1)
  · rcases List.mem_cons.mp ha with rfl | ha
    · refine ⟨iC, ?_, mC⟩
      rw [outJ_out (fun c => CFA c.1)]; exact jC
    · have ha' := cl_FA E0 H a ha
      obtain ⟨f1, f2, f3⟩ := S.fr.free a ha'
      refine ⟨f1, ?_, f3⟩
      have ha2 : a ∈ (clOf sc env).map (·.2) := ha
      rw [outJ_out (fun c => c.2 ha2)]; exact f2

theorem inner_end (E0 : TxOk T env) (H : InOk T sc) (S : Sat X T.tbl env I J M ρ s) (hI : Le I I') (S' : Sat X T.tbl (compEnvC sc (clOf sc env) C env) I' (outJ (clOf sc env) env J s.heap) M' (maskE (vis T sc.names) ρ) s') :
    Sat X T.tbl env I' J M' ρ s' := by
  have hJ : ∀ a o, J a = some o → outJ (clOf sc env) env J s.heap a = some o := fun a o e => by
    rw [outJ_out]
    · exact e
    · intro c; rw [(S.fr.free a c.1).2.1] at e; cases e
  have none_of : ∀ a, outJ (clOf sc env) env J s.heap a = none → J a = none := fun a h => by
    cases q : J a with
    | none => rfl
    | some o => rw [hJ a o q] at h; cases h
  have keep : ∀ a, a ∈ FA env → a ∉ (clOf sc env).map (·.2) → ∀ o, s.heap.get? a = some o → s'.heap.get? a = some o := fun a h1 h2 o e => S'.st.frm a o (by rw [outJ_in h1 h2]; exact e)
  have hL : env.locals ∉ (clOf sc env).map (·.2) := fun h => by
    obtain ⟨p, hp, e⟩ := List.mem_map.mp h
    exact E0.ok.ne _ (mem_of_lookup (clOf_spec E0 H p hp).1) e
  obtain ⟨m, ⟨o, es, ep, ho, r⟩, hs⟩ := S.fr.ns
  obtain ⟨m', _, hs'⟩ := S'.fr.ns
  refine ⟨⟨⟨S'.st.imm, fun a o e => S'.st.frm a o (hJ a o e), S'.st.mu, fun a o e => none_of a (S'.st.ij a o e), S'.st.im, fun a mo e => none_of a (S'.st.jm a mo e)⟩, S'.st.base⟩, ⟨⟨m, ⟨o, es, ep, keep _ List.mem_cons_self hL _ ho, r⟩, fun j y av hy hv => ?_⟩, fun p hp => ?_, fun a ha => ?_⟩, S'.gens, S'.os⟩
  · rcases hs j y av hy hv with ⟨k, v, e, r⟩ | ⟨k, c, v, e, hc, r⟩
    · exact .inl ⟨k, v, e, r.mono hI⟩
    · by_cases q : c ∈ (clOf sc env).map (·.2)
      · obtain ⟨⟨z, c'⟩, hp, rfl⟩ := List.mem_map.mp q
        obtain ⟨a1, a2, a3⟩ := clOf_spec E0 H _ hp
        have hzy : z = y := name_of_addr E0.ok.apart (mem_of_lookup a1) (mem_of_lookup e)
        subst hzy
        have hf : (sc.names.lookup z == some NameKind.free) = true := by simpa using mem_lookup H.nodup a2
        rcases hs' j z av hy (mask_lk _ _ _ _ _ hy hf hv) with ⟨k', _⟩ | ⟨_, c2, v2, e2, hc2, r2⟩
        · rw [kindOf_inner E0, inner_lookup, (by simpa using hf : sc.names.lookup z = some .free)] at k'
          simp [a3] at k'
        · have e3 := cl_lookup E0 H a2 a1
          have e2' : (clOf sc env).lookup z = some c2 := e2
          rw [e3] at e2'; cases e2'
          exact .inr ⟨k, _, v2, e, hc2, r2⟩
      · obtain ⟨oc, hoc, hd⟩ := hc
        exact .inr ⟨k, c, v, e, ⟨oc, keep c (List.mem_cons_of_mem _ (List.mem_map.mpr ⟨_, mem_of_lookup e, rfl⟩)) q _ hoc, hd⟩, r.mono hI⟩
  · by_cases q : p.2 ∈ (clOf sc env).map (·.2)
    · obtain ⟨p', hp', e⟩ := List.mem_map.mp q
      rw [← e]; exact S'.fr.cells p' hp'
    · obtain ⟨v, oc, hoc, hd⟩ := S.fr.cells p hp
      exact ⟨v, oc, keep _ (List.mem_cons_of_mem _ (List.mem_map_of_mem hp)) q _ hoc, hd⟩
  · by_cases q : a ∈ (clOf sc env).map (·.2)
    · obtain ⟨f1, f2, f3⟩ := S'.fr.free a (List.mem_cons_of_mem _ q)
      exact ⟨f1, none_of a f2, f3⟩
    · have : ∃ o, s.heap.get? a = some o := by
        rcases List.mem_cons.mp ha with rfl | ha
        · exact ⟨o, ho⟩
        · obtain ⟨p, hp, rfl⟩ := List.mem_map.mp ha
          obtain ⟨v, oc, hoc, _⟩ := S.fr.cells p hp; exact ⟨oc, hoc⟩
      obtain ⟨oa, hoa⟩ := this
      have hj : outJ (clOf sc env) env J s.heap a = some oa := by rw [outJ_in ha q]; exact hoa
      refine ⟨?_, (S.fr.free a ha).2.1, ?_⟩
      · cases q' : I' a with
        | none => rfl
        | some o => have := S'.st.ij a o q'; rw [hj] at this; cases this
      · cases q' : M' a with
        | none => rfl
        | some o => have := S'.st.jm a o q'; rw [hj] at this; cases this
end
end Mine
namespace Mine

section
variable {X : Cx} {k : Nat} {T : Tx} {env cenv : Env} {sc : Scope} {tbl : List Str} {I I' J : Imm} {M M' : Mem} {ρ : Env0} {s s' : Shared} {A : Around}

theorem ItOk.self {M₀ : Mem} {v : AV} {xs : List AV} {chk : Mem → Prop} {it : Addr} {i : Nat} {o : Obj} {Q : Value → Shared → Prop} {E : Value → Shared → Prop} (_hx : looks M₀ v = some (xs, chk)) (ho : s.heap.get? it = some o) (hi : ItOk X I v i o) (h : Q (.ref it) s) : wpAny X.mdl A (pyIter (.ref it)) Q E s := by
  cases v with
  | lst ys => obtain ⟨l, vs, n, _, _, c, d⟩ := hi; exact wpAny_pyIter_listiter ⟨o, ho, c, d⟩ h
  | tup ys => obtain ⟨l, vs, n, _, _, c, d⟩ := hi; exact wpAny_pyIter_tupleiter ⟨o, ho, c, d⟩ h
  | ref a => obtain ⟨c, d⟩ := hi; exact wpAny_pyIter_listiter ⟨o, ho, c, d⟩ h
  | rng lo hi2 => obtain ⟨_, _, _, rfl⟩ := hi; exact wpAny_pyIter_rangeiter ho h
  | _ => exact hi.elim

theorem noE {α : Type} {Md : Model} {m : Sem α} {Q : α → Shared → Prop} {E : Value → Shared → Prop} (h : wpAny Md A m Q NoE s) : wpAny Md A m Q E s := wpAny_mono h (fun _ _ x => x) fun _ _ x => x.elim
theorem list_app {D : Addr} {items : Array Value} {n : Nat} {x : Value} {Q : Value → Shared → Prop} {E : Value → Shared → Prop} (hl : s.heap.get? D = some (lstO items n)) (hsz : items.size ≤ sizeLine)
    (hQ : ∀ h' n', h'.get? D = some (lstO (items.push x) n') → Heap.SameBut D s.heap h' → Q .none { s with heap := h' }) : wpAny X.mdl A (call (.builtin "list.append") [.ref D, x]) Q E s := by
  refine wpAny_call_entry slot_list_append ⟨_, hl, rfl⟩ entry_list_append ?_ (args_list_append _ _)
  show wpAny _ _ (updateSeq D (·.push x) >>= fun _ => ret .none) _ _ s
  refine wpAny_bind ?_
  refine wpAny_updateSeq hl rfl (wpAny_pure ⟨.none, rfl, hQ _ _ (IsL.update hl (·.push x)) (Heap.SameBut.update ..)⟩)

theorem Sat.lessρ {ρ' : Env0} (S : Sat X tbl env I J M ρ s) (h : ∀ i av, lk ρ' i = some av → lk ρ i = some av) : Sat X tbl env I J M ρ' s := ⟨S.st, S.fr.less h, S.gens, S.os⟩
theorem lk_stv_old {ρ : Env0} {i : Nat} {v : AV} (h : lk ρ i = none) : ∀ j av, lk ρ j = some av → lk (stv ρ i v) j = some av := fun j av e => by
  rw [lk_stv_ne _ _ _ _ (fun q => by rw [q, h] at e; cases e)]; exact e
noncomputable def TestsOk (X : Cx) (k : Nat) (T : Tx) (env : Env) (ifs : List Expr) (c : ME) : Prop :=
  ∀ A, Room k A → ∀ (I J : Imm) (M : Mem) (ρ : Env0) (s : Shared) (Q : Bool → Mem → Env0 → Prop), Sat X T.tbl env I J M ρ s → WE gAV (Spec X k) c (fun v M ρ => wB v fun b => Q b M ρ) M ρ →
    wpAny X.mdl A (forIn ifs true fun c r => if r = true then do let ok ← isTrue c env (eval c env); pure (ForInStep.yield ok) else pure (ForInStep.yield r)) (PostB X T.tbl env I J Q) NoE s
theorem tests_nil : TestsOk X k T env [] (.con (.bool true)) := fun A _ I J M ρ s Q S w => wpAny_tests_nil (.mk S w)
theorem tests_one {c : Expr} {m : ME} (h : SndT X k T env c m) : TestsOk X k T env [c] m := fun A hA I J M ρ s Q S w => wpAny_tests_one (h A hA I J M ρ s Q S w)

/-- a place that is known to nobody -/
structure Lone (tbl : List Str) (env : Env) (I J : Imm) (M : Mem) (a : Addr) : Prop where
  i : I a = none
  j : J a = none
  m : M a = none
  f : a ∉ FA env

theorem drop_at {xs : List AV} {j : Nat} {y : AV} (hg : xs[j]? = some y) : xs.drop j = y :: xs.drop (j + 1) := by
  obtain ⟨h, rfl⟩ := List.getElem?_eq_some_iff.mp hg
  exact List.drop_eq_getElem_cons h
theorem lt_of_inv {n j z : Nat} (h : n + j = z + 1) (hj : j < z) : n - 1 < n ∧ n - 1 + (j + 1) = z + 1 := by
  cases n with
  | zero => rw [Nat.zero_add] at h; rw [h] at hj; exact absurd hj (Nat.not_lt.mpr (Nat.le_succ z))
  | succ m => exact ⟨Nat.lt_succ_self m, (Nat.add_right_comm m 1 j).symm.trans h⟩
/-- what one turn of a comprehension hands on -/
noncomputable def cTurn (X : Cx) (k : Nat) (a c : ME) (i : Nat) (ρ₀ : Env0) (v : AV) (k' : Option AV → Mem → Prop) (M : Mem) : Prop :=
  WE gAV (Spec X k) c (fun t M ρ' => wB t fun b => ρ' = stv ρ₀ i v ∧ br b (WE gAV (Spec X k) a (fun r M ρ2 => ρ2 = ρ' ∧ k' (some r) M) M ρ') (k' none M)) M (stv ρ₀ i v)
structure CI (X : Cx) (k : Nat) (T : Tx) (cenv : Env) (a c : ME) (i : Nat) (It D : Addr) (v : AV) (xs : List AV) (chk : Mem → Prop) (ρ₀ : Env0) (Q : List AV → Mem → Prop) (I J : Imm) (n : Nat) (s : Shared) (I' : Imm) (M' : Mem) (items : Array Value) (cnt : Nat) (o : Obj) (acc : List AV) (j : Nat) : Prop where
  hn : n + j = xs.length + 1
  l : Le I I'
  S : Sat X T.tbl cenv I' J M' ρ₀ s
  ho : s.heap.get? It = some o
  hit : ItOk X I' v j o
  LI : Lone T.tbl cenv I' J M' It
  LD : Lone T.tbl cenv I' J M' D
  hD : s.heap.get? D = some (lstO items cnt)
  hr : X.Reps I' items.toList acc
  hacc : acc.length ≤ j
  w : wComp chk (cTurn X k a c i ρ₀) Q (xs.drop j) acc M'
noncomputable def CInv (X : Cx) (k : Nat) (T : Tx) (cenv : Env) (a c : ME) (i : Nat) (It D : Addr) (v : AV) (xs : List AV) (chk : Mem → Prop) (ρ₀ : Env0) (Q : List AV → Mem → Prop) (I J : Imm) (n : Nat) (s : Shared) : Prop :=
  ∃ I' M' items cnt o acc j, CI X k T cenv a c i It D v xs chk ρ₀ Q I J n s I' M' items cnt o acc j
section
variable {a c : ME} {i : Nat} {It D : Addr} {v y : AV} {xs acc : List AV} {chk : Mem → Prop} {ρ₀ : Env0} {Q : List AV → Mem → Prop} {n cnt j : Nat} {items : Array Value} {o o' : Obj} {h' : Heap} {tk : Tok} {I6 : Imm} {M6 : Mem} {ρ6 : Env0} {s6 : Shared}
/-- not kept -/
theorem comp_skip (H : CI X k T cenv a c i It D v xs chk ρ₀ Q I J n s I' M items cnt o acc j) (hρ : lk ρ₀ i = none) (hne : It ≠ D) (hj : j < xs.length) (jD : upd J It o' D = none)
    (hit' : ItOk X I' v (j + 1) o') (l6 : Le I' I6) (S6 : Sat X T.tbl cenv I6 (upd (upd J It o') D (lstO items cnt)) M6 (stv ρ₀ i y) s6) (w : wComp chk (cTurn X k a c i ρ₀) Q (xs.drop (j + 1)) acc M6) : CInv X k T cenv a c i It D v xs chk ρ₀ Q I J (n - 1) s6 := by
  have p8 := S6.dropJ jD
  have p9 := p8.1.dropJ H.LI.j
  exact ⟨I6, M6, items, cnt, o', acc, j + 1, (lt_of_inv H.hn hj).2, H.l.trans l6, p9.1.lessρ (lk_stv_old hρ), p9.2.1, hit'.mono l6, ⟨p9.2.2.1, H.LI.j, p9.2.2.2.1, p9.2.2.2.2⟩, ⟨p8.2.2.1, H.LD.j, p8.2.2.2.1, p8.2.2.2.2⟩, p8.2.1, H.hr.mono l6, Nat.le_succ_of_le H.hacc, w⟩
/-- kept -/
theorem comp_keep {ev : Value} {av : AV} {h8 : Heap} {n8 : Nat} (H : CI X k T cenv a c i It D v xs chk ρ₀ Q I J n s I' M items cnt o acc j) (hρ : lk ρ₀ i = none) (hne : It ≠ D) (hj : j < xs.length) (jD : upd J It o' D = none)
    (hit' : ItOk X I' v (j + 1) o') (l6 : Le I' I6) (S6 : Sat X T.tbl cenv I6 (upd (upd J It o') D (lstO items cnt)) M6 (stv ρ₀ i y) s6) (r : X.Rep I6 ev av) (hg8 : h8.get? D = some (lstO (items.push ev) n8)) (hsb8 : Heap.SameBut D s6.heap h8)
    (w : wComp chk (cTurn X k a c i ρ₀) Q (xs.drop (j + 1)) (acc ++ [av]) M6) : CInv X k T cenv a c i It D v xs chk ρ₀ Q I J (n - 1) { s6 with heap := h8 } := by
  have p8 := S6.dropJ jD
  have p9 := p8.1.dropJ H.LI.j
  exact ⟨I6, M6, items.push ev, n8, o', acc ++ [av], j + 1, (lt_of_inv H.hn hj).2, H.l.trans l6, (p9.1.lessρ (lk_stv_old hρ)).other (t := s6.toks) (a := D) (fun b hb o e => (hsb8.2 b hb).trans e) p8.2.2.1 H.LD.j p8.2.2.2.1 p8.2.2.2.2, (hsb8.2 It hne).trans p9.2.1,
    hit'.mono l6, ⟨p9.2.2.1, H.LI.j, p9.2.2.2.1, p9.2.2.2.2⟩, ⟨p8.2.2.1, H.LD.j, p8.2.2.2.1, p8.2.2.2.2⟩, hg8, by rw [Array.toList_push]; exact (H.hr.mono l6).snoc r, by rw [List.length_append]; exact Nat.succ_le_succ H.hacc, w⟩
end
theorem comp_loop {elt iter : Expr} {a c : ME} {x : Str} {px : Pos} {ifs : List Expr} {pos : Pos} {i : Nat} {It D : Addr} {v : AV} {xs : List AV} {chk : Mem → Prop} {M₀ : Mem} {ρ₀ : Env0} {Q : List AV → Mem → Prop} {R : Result → Shared → Prop}
    (hA : Room k A) (E1 : TxOk T cenv) (hi : T.tbl[i]? = some x) (hx : cenv.kindOf x = some .local) (hρ : lk ρ₀ i = none) (he : SndE X k T cenv elt a) (ht : TestsOk X k T cenv ifs c) (hl : looks M₀ v = some (xs, chk)) (hlen : xs.length ≤ lim) (hne : It ≠ D)
    (hR : ∀ I' M' s' D_items cnt acc, Le I I' → Sat X T.tbl cenv I' J M' ρ₀ s' → Lone T.tbl cenv I' J M' D → s'.heap.get? D = some (lstO D_items cnt) → X.Reps I' D_items.toList acc → Q acc M' → R (.ok .next) s') :
    ∀ (n : Nat) (s : Shared), CInv X k T cenv a c i It D v xs chk ρ₀ Q I J n s →
    codeAny X.mdl A (.compLoop (.ListComp elt [⟨.Name x px, iter, ifs, 0⟩] sc pos) 0 (.ref It) (.ref D) cenv) R s := by
  intro n s hs
  refine codeAny_compLoop_tests (CInv X k T cenv a c i It D v xs chk ρ₀ Q I J) ?_ n hs
  clear hs s n
  rintro n s ⟨I1, M1, items, cnt, o, acc, j, H⟩
  have w := H.w
  cases hg : xs[j]? with
  | none =>
    rw [List.drop_eq_nil_of_le (List.getElem?_eq_none_iff.mp hg)] at w
    exact noE (iter_end hA.handled H.S hl w.1 H.ho H.hit hg fun h' hk =>
      hR I1 M1 _ items cnt acc H.l (H.S.other (t := s.toks) (a := It) (fun b hb o e => hk b o hb e) H.LI.i H.LI.j H.LI.m H.LI.f) H.LD (hk _ _ (Ne.symm hne) H.hD) H.hr w.2)
  | some y =>
    have hj : j < xs.length := (List.getElem?_eq_some_iff.mp hg).1
    rw [drop_at hg] at w
    refine noE (iter_next H.S hl w.1 H.ho H.hit hg fun yv h' o' tk hyr hit' ho' hsb => ?_)
    have S3 := (H.S.other (a := It) (t := tk) (fun b hb o e => (hsb.2 b hb).trans e) H.LI.i H.LI.j H.LI.m H.LI.f).addJ ho' H.LI.i H.LI.j H.LI.m H.LI.f
    have jD : upd J It o' D = none := by rw [upd_ne (Ne.symm hne)]; exact H.LD.j
    have S4 := S3.addJ (a := D) ((hsb.2 D (Ne.symm hne)).trans H.hD) H.LD.i jD H.LD.m H.LD.f
    refine wpAny_assign_Name (wpAny_mono (store_slot E1.ok S4 hi (.inl hx) hyr (Q := fun _ s' => Sat X T.tbl cenv I1 (upd (upd J It o') D (lstO items cnt)) M1 (stv ρ₀ i y) s') fun s' S' => S') (fun _ s5 S5 => ?_) fun _ _ e => e.elim)
    refine wpAny_mono (ht A hA I1 _ M1 _ s5 _ S5 w.2) (fun ok s6 h6 => ?_) fun _ _ e => e.elim
    obtain ⟨I6, M6, ρ6, l6, S6, rfl, q6⟩ := h6
    have ln := (lt_of_inv H.hn hj).1
    rcases br_split q6 with ⟨rfl, q6⟩ | ⟨rfl, q6⟩
    · rw [if_pos rfl]
      refine wpAny_mono (he A hA I6 _ M6 _ s6 _ S6 q6) (fun ev s7 h7 => ?_) fun _ _ e => e.elim
      obtain ⟨I7, M7, ρ7, av, l7, S7, r7, rfl, q7⟩ := h7
      have hsz : items.size ≤ sizeLine := by rw [reps_size H.hr]; exact Nat.le_trans H.hacc (Nat.le_trans (Nat.le_of_lt hj) (Nat.le_trans hlen lim_lt))
      exact list_app (S7.dropJ jD).2.1 hsz fun h8 n8 hg8 hsb8 => ⟨n - 1, ln, comp_keep H hρ hne hj jD hit' (l6.trans l7) S7 r7 hg8 hsb8 q7⟩
    · rw [if_neg Bool.false_ne_true]
      exact ⟨n - 1, ln, comp_skip H hρ hne hj jD hit' l6 S6 q6⟩
end
end Mine
namespace Mine

section
variable {X : Cx} {k : Nat} {T : Tx} {env cenv : Env} {sc : Scope} {tbl : List Str} {I I' J : Imm} {M M' : Mem} {ρ : Env0} {s s' : Shared} {A : Around}

theorem fa_some (F : Frame X tbl env I J M ρ s.heap) : ∀ a ∈ FA env, ∃ o, s.heap.get? a = some o := fun a ha => by
  rcases List.mem_cons.mp ha with rfl | ha
  · obtain ⟨m, ⟨o, _, _, ho, _⟩, _⟩ := F.ns; exact ⟨o, ho⟩
  · obtain ⟨p, hp, rfl⟩ := List.mem_map.mp ha
    obtain ⟨v, oc, hoc, _⟩ := F.cells p hp; exact ⟨oc, hoc⟩
theorem size_lone {a : Addr} (S : Sat X tbl env I J M ρ s) (h : s.heap.objs.size ≤ a) : Lone tbl env I J M a := by
  have nC : s.heap.get? a = none := by
    cases q : s.heap.get? a with
    | none => rfl
    | some o => exact absurd (Heap.lt_size q) (Nat.not_lt.mpr h)
  refine ⟨?_, ?_, ?_, fun hf => absurd (FA_lt S.fr a hf) (Nat.not_lt.mpr h)⟩
  · cases q : I a with
    | none => rfl
    | some o => have := S.st.imm _ _ q; rw [nC] at this; cases this
  · cases q : J a with
    | none => rfl
    | some o => have := S.st.frm _ _ q; rw [nC] at this; cases this
  · cases q : M a with
    | none => rfl
    | some o => obtain ⟨o', e⟩ := (S.st.mu _ _ q).get; rw [nC] at e; cases e
theorem lone_inner {C a : Addr} (E0 : TxOk T env) (H : InOk T sc) (hC : s.heap.objs.size ≤ C) (S : Sat X T.tbl env I J M ρ s) (ha : s.heap.objs.size ≤ a) (hne : a ≠ C) : Lone T.tbl (compEnvC sc (clOf sc env) C env) I (outJ (clOf sc env) env J s.heap) M a := by
  have L := size_lone S ha
  refine ⟨L.i, ?_, L.m, fun hf => ?_⟩
  · rw [outJ_out (fun c => L.f c.1)]; exact L.j
  · rcases List.mem_cons.mp hf with h | h
    · exact hne h
    · exact L.f (cl_FA E0 H a h)
theorem lone_outer {C a : Addr} (S : Sat X T.tbl env I J M ρ s) (L : Lone T.tbl (compEnvC sc (clOf sc env) C env) I' (outJ (clOf sc env) env J s.heap) M' a) : Lone T.tbl env I' J M' a := by
  have hf : a ∉ FA env := fun hf => by
    by_cases q : a ∈ (clOf sc env).map (·.2)
    · exact L.f (List.mem_cons_of_mem _ q)
    · obtain ⟨o, ho⟩ := fa_some S.fr a hf
      have := L.j
      rw [outJ_in hf q, ho] at this; cases this
  refine ⟨L.i, ?_, L.m, hf⟩
  have := L.j
  rwa [outJ_out (fun c => hf c.1)] at this

theorem comp_block {elt iter : Expr} {a c : ME} {x : Str} {px : Pos} {ifs : List Expr} {pos : Pos} {i : Nat} {w : Value} {v : AV} {xs : List AV} {chk : Mem → Prop} {Q : List AV → Mem → Prop} {RR : Value → Addr → Result → Shared → Prop}
    (hA : Room k A) (E0 : TxOk T env) (H : InOk T sc) (hi : T.tbl[i]? = some x) (hx : sc.names.lookup x = some .local)
    (he : ∀ C, (∀ p ∈ env.cells, p.2 ≠ C) → SndE X k (inTx T sc) (compEnvC sc (clOf sc env) C env) elt a) (ht : ∀ C, (∀ p ∈ env.cells, p.2 ≠ C) → TestsOk X k (inTx T sc) (compEnvC sc (clOf sc env) C env) ifs c)
    (S : Sat X T.tbl env I J M ρ s) (r : X.Rep I w v) (hl : looks M v = some (xs, chk)) (hlen : xs.length ≤ lim)
    (wc : wComp chk (fun v k' M => WE gAV (Spec X k) c (fun t M ρ' => wB t fun b => ρ' = stv (maskE (vis T sc.names) ρ) i v ∧ br b (WE gAV (Spec X k) a (fun r M ρ2 => ρ2 = ρ' ∧ k' (some r) M) M ρ') (k' none M)) M (stv (maskE (vis T sc.names) ρ) i v)) Q xs [] M)
    (hRR : ∀ I' M' s' D C items cnt acc m, Le I I' → Sat X T.tbl env I' J M' ρ s' → Lone T.tbl env I' J M' D → Lone T.tbl env I' J M' C → C ≠ D → s'.heap.Ns C m → s'.heap.get? D = some (lstO items cnt) → X.Reps I' items.toList acc → Q acc M' → RR (.ref D) C (.ok .next) s') :
    wpAny X.mdl A (pyIter w) (fun it s₂ => wpAny X.mdl A (newList []) (fun acc s₃ => wpAny X.mdl A (newFunctionEnv sc env.globals (clOf sc env) [] env.qual none .none (some env)) (fun cenv s₄ =>
      codeAny X.mdl A (.compStart (.ListComp elt [⟨.Name x px, iter, ifs, 0⟩] sc pos) 0 it acc { cenv with scope := relabel sc env }) (RR acc cenv.locals) s₄) NoE s₃) NoE s₂) NoE s := by
  refine iter_make S r hl fun o hit hchk => ?_
  refine wpAny_newObj_type (wpAny_newFunctionEnv H.nocell (by intro y hy; simp at hy) (fun h₁ hns hsb => ?_) H.kind)
  dsimp only at hns hsb ⊢
  generalize hH1 : s.heap.push o = H1 at hns hsb ⊢
  have z1 : H1.objs.size = s.heap.objs.size + 1 := by rw [← hH1, Heap.size_push]
  generalize hH2 : H1.push { cls := .type "list", dict := none, data := .seq ([] : List Value).toArray } = H2 at hns hsb ⊢
  have z2 : H2.objs.size = s.heap.objs.size + 2 := by rw [← hH2, Heap.size_push, z1]
  have nIC : s.heap.objs.size ≠ H2.objs.size := by exact fun q_ => linF [s.heap.objs.size, H2.objs.size] [] (.h true false (.v 0) (.v 1) (.h true false (.v 1) (.a (.v 0) (.l 2)) (.v 0))) [.negSucc 0, .negSucc 0] (Eq.refl true) q_ z2
  have nDC : H1.objs.size ≠ H2.objs.size := by exact fun q_ => linF [H1.objs.size, H2.objs.size, s.heap.objs.size] [] (.h true false (.v 0) (.v 1) (.h true false (.v 0) (.a (.v 2) (.l 1)) (.h true false (.v 1) (.a (.v 2) (.l 2)) (.v 0)))) [.negSucc 0, 1, .negSucc 0] (Eq.refl true) q_ z1 z2
  have nID : s.heap.objs.size ≠ H1.objs.size := by exact fun q_ => linF [s.heap.objs.size, H1.objs.size] [] (.h true false (.v 0) (.v 1) (.h true false (.v 1) (.a (.v 0) (.l 1)) (.v 0))) [.negSucc 0, .negSucc 0] (Eq.refl true) q_ z1
  have zC : s.heap.objs.size ≤ H2.objs.size := by exact lin [s.heap.objs.size, H2.objs.size] [] false (.h true false (.v 1) (.a (.v 0) (.l 2)) (.v 0)) (.v 0) (.v 1) 1 [.negSucc 0] (Eq.refl true) z2
  have old : ∀ b o', s.heap.get? b = some o' → h₁.get? b = some o' := fun b o' e =>
    hsb.extBut b o' (Nat.ne_of_lt (Nat.lt_of_lt_of_le (Heap.lt_size e) zC)) (Heap.get?_push_of_some _ (hH2 ▸ Heap.get?_push_of_some _ (hH1 ▸ Heap.get?_push_of_some _ e)))
  have gI : h₁.get? s.heap.objs.size = some o := hsb.extBut _ _ nIC (Heap.get?_push_of_some _ (hH2 ▸ Heap.get?_push_of_some _ (hH1 ▸ Heap.get?_push_size _ hit.live)))
  have gD : h₁.get? H1.objs.size = some (lstO #[] 0) := hsb.extBut _ _ nDC (Heap.get?_push_of_some _ (hH2 ▸ Heap.get?_push_size _ rfl))
  have hCc : ∀ p ∈ env.cells, p.2 ≠ H2.objs.size := fun p hp q => by
    have := FA_lt S.fr p.2 (List.mem_cons_of_mem _ (List.mem_map_of_mem hp))
    exact absurd (q ▸ this) (Nat.not_lt.mpr zC)
  have S1 := inner_start (t := s.toks + ([] : List (Str × Value)).length) E0 H S old (C := H2.objs.size) zC hns
  have E1 := inner_ok (C := H2.objs.size) E0 H hCc
  have hkx : (compEnvC sc (clOf sc env) H2.objs.size env).kindOf x = some .local := by
    rw [kindOf_inner E0, inner_lookup, hx]; rfl
  have hρ : lk (maskE (vis T sc.names) ρ) i = none := mask_none hi (by rw [hx]; rfl)
  have loop := comp_loop (T := inTx T sc) (R := RR (.ref H1.objs.size) H2.objs.size) (px := px) (pos := pos) (iter := iter) (sc := sc) hA E1 hi hkx hρ (he _ hCc) (ht _ hCc) hl hlen nID (I := I) (J := outJ (clOf sc env) env J s.heap) (M₀ := M) (Q := Q)
    (fun I' M' s' items cnt acc l S' L g rr q => by
      have Sout := inner_end E0 H S l S'
      obtain ⟨mm, hmm, _⟩ := S'.fr.ns
      obtain ⟨f1, f2, f3⟩ := S'.fr.free _ List.mem_cons_self
      have fC : H2.objs.size ∉ FA env := fun hf => absurd (FA_lt S.fr _ hf) (Nat.not_lt.mpr zC)
      have f2' : outJ (clOf sc env) env J s.heap H2.objs.size = none := f2
      rw [outJ_out (fun c => fC c.1)] at f2'
      exact hRR I' M' s' _ _ items cnt acc mm l Sout (lone_outer S L) ⟨f1, f2', f3, fC⟩ (Ne.symm nDC) hmm g rr q)
    (xs.length + 1) _ ⟨I, M, #[], 0, o, [], 0, rfl, Le.refl I, S1, gI, hit, lone_inner (T := T) E0 H zC S (Nat.le_refl _) nIC, lone_inner (T := T) E0 H zC S (by exact lin [s.heap.objs.size, H1.objs.size] [] false (.h true false (.v 1) (.a (.v 0) (.l 1)) (.v 0)) (.v 0) (.v 1) 1 [.negSucc 0] (Eq.refl true) z1) nDC, gD, .nil, Nat.le_refl _, wc⟩
  exact codeAny_compStart_list loop (ItOk.self (M₀ := M) hl gI hit loop)

/-- a list that nobody knows is handed on -/
theorem fresh_fin {D : Addr} {items : Array Value} {cnt : Nat} {xs : List AV} {Q : QE} (S : Sat X tbl env I J M ρ s) (L : Lone tbl env I J M D) (hg : s.heap.get? D = some (lstO items cnt)) (r : X.Reps I items.toList xs) (w : fresh xs Q M ρ) :
    PostE X tbl env I J Q (.ref D) s := by
  obtain ⟨_, w | w⟩ := w
  · have le : Le I (upd I D (lstO items cnt)) := Le.upd L.i
    exact ⟨_, M, ρ, .lst xs, le, S.toI hg L.i L.j L.m L.f, .lst (vs := items.toList) (n := cnt) upd_self (r.mono le), w⟩
  · exact ⟨I, _, ρ, .ref D, Le.refl I, S.toM (mo := .list xs) ⟨items, cnt, hg, r⟩ L.i L.j L.f, .ref _, w _ L.m⟩

theorem snd_comp {elt iter : Expr} {a b c : ME} {x : Str} {px : Pos} {ifs : List Expr} {pos : Pos} {i : Nat} (E0 : TxOk T env) (H : InOk T sc) (hi : T.tbl[i]? = some x) (hx : sc.names.lookup x = some .local)
    (hf : ∀ x, foldedSetIterable iter env x = pure x) (h1 : SndE X k T env iter b)
    (he : ∀ C, (∀ p ∈ env.cells, p.2 ≠ C) → SndE X k (inTx T sc) (compEnvC sc (clOf sc env) C env) elt a) (ht : ∀ C, (∀ p ∈ env.cells, p.2 ≠ C) → TestsOk X k (inTx T sc) (compEnvC sc (clOf sc env) C env) ifs c) :
    SndE X k T env (.ListComp elt [⟨.Name x px, iter, ifs, 0⟩] sc pos) (.comp (vis T sc.names) i a b c) := fun A hA I J M ρ s Q S w => by
  rw [eval_ListComp]
  refine wpAny_comprehension_free (use := none) rfl hf (cl_closure E0 H) H.kind H.loc ?_
  show wpAny _ _ (eval iter env) _ _ _
  refine h1.go hA S w fun I1 M1 ρ1 s1 y yv l1 S1 r1 ⟨xs, chk, hl, hlen, wc⟩ => ?_
  refine comp_block (RR := fun acc C => compPost X.mdl A NoE none (PostE X T.tbl env I J Q) acc C) hA E0 H hi hx he ht S1 r1 hl hlen wc ?_
  intro I2 M2 s2 D C items cnt acc m l2 S2 LD LC hne hns hg rr q
  refine ⟨m, hns, fun h' hsb => ?_⟩
  have S3 : Sat X T.tbl env I2 J M2 ρ1 { s2 with heap := h' } := S2.other (t := s2.toks) (a := C) (fun b hb o e => (hsb.2 b hb).trans e) LC.i LC.j LC.m LC.f
  exact (fresh_fin S3 LD ((hsb.2 D (Ne.symm hne)).trans hg) rr q).le (l1.trans l2)
/-- a comprehension whose value is bound -/
theorem use_comp {elt iter : Expr} {a b c : ME} {x y : Str} {px py : Pos} {ifs : List Expr} {pos : Pos} {i j : Nat} (E0 : TxOk T env) (H : InOk T sc) (hi : T.tbl[i]? = some x) (hx : sc.names.lookup x = some .local)
    (hf : ∀ x, foldedSetIterable iter env x = pure x) (h1 : SndE X k T env iter b) (hj : T.tbl[j]? = some y) (hy : env.kindOf y = some .local)
    (he : ∀ C, (∀ p ∈ env.cells, p.2 ≠ C) → SndE X k (inTx T sc) (compEnvC sc (clOf sc env) C env) elt a) (ht : ∀ C, (∀ p ∈ env.cells, p.2 ≠ C) → TestsOk X k (inTx T sc) (compEnvC sc (clOf sc env) C env) ifs c)
    {Q : Mem → Env0 → Prop} (hA : Room k A) (S : Sat X T.tbl env I J M ρ s) (w : WE gAV (Spec X k) (.comp (vis T sc.names) i a b c) (fun v M ρ => Q M (stv ρ j v)) M ρ) :
    wpAny X.mdl A (evalThenUse (.ListComp elt [⟨.Name x px, iter, ifs, 0⟩] sc pos) env (assign (.Name y py) env)) (fun _ => PostU X T.tbl env I J Q) NoE s := by
  show wpAny _ A (do let _ ← comprehension (.ListComp elt [⟨.Name x px, iter, ifs, 0⟩] sc pos) sc env _ (newList []) false (eval iter env) (some (assign (.Name y py) env))) _ _ s
  refine wpAny_bind (wpAny_mono (wpAny_comprehension_free (use := some (assign (.Name y py) env)) (Q := fun _ s' => PostU X T.tbl env I J Q s') rfl hf (cl_closure E0 H) H.kind H.loc ?_) (fun _ s' hq => wpAny_pure hq) fun _ _ e => e)
  refine h1.go hA S w fun I1 M1 ρ1 s1 yw yv l1 S1 r1 ⟨xs, chk, hl, hlen, wc⟩ => ?_
  refine comp_block (RR := fun acc C => compPost X.mdl A NoE (some (assign (.Name y py) env)) (fun _ s' => PostU X T.tbl env I J Q s') acc C) hA E0 H hi hx he ht S1 r1 hl hlen wc ?_
  intro I2 M2 s2 D C items cnt acc m l2 S2 LD LC hne hns hg rr q
  obtain ⟨oC, es, ep, hoC, hres⟩ := hns
  have S2' := S2.addJ hoC LC.i LC.j LC.m LC.f
  obtain ⟨I3, M3, ρ3, av, l3, S3, r3, q3⟩ := fresh_fin S2' ⟨LD.i, by rw [upd_ne (Ne.symm hne)]; exact LD.j, LD.m, LD.f⟩ hg rr q
  refine wpAny_assign_Name (store_slot E0.ok S3 hj (.inl hy) r3 fun s4 S4 => ?_)
  obtain ⟨S5, gC, iC, mC, fC⟩ := S4.dropJ LC.j
  refine ⟨m, ⟨oC, es, ep, gC, hres⟩, fun h' hsb => ⟨I3, M3, _, l1.trans (l2.trans l3), S5.other (t := s4.toks) (a := C) (fun b hb o e => (hsb.2 b hb).trans e) iC LC.j mC fC, q3⟩⟩
end
end Mine
namespace Mine
section
variable {X : Cx} {k : Nat} {T : Tx} {env : Env}
structure Snd (X : Cx) (k : Nat) (T : Tx) (env : Env) (pe : Expr) (m : ME) : Prop where
  e : SndE X k T env pe m
  t : SndT X k T env pe m
  star : isStar pe = false
  set : (∀ op, behindInMarks op pe = false) ∧ ∀ env x, foldedSetIterable pe env x = pure x
  sw : isLComp pe = false → ∀ t l env, swapsWith pe t l env = pure false
theorem plainT (pe : Expr) {e : ME} (h : SndE X k T env pe e) (he : isTrue pe env (eval pe env) = (do let v ← eval pe env; standAt pe.pos; holding [v] (truthy v))) (h2 : isStar pe = false) (h3 : ∀ op, behindInMarks op pe = false) (h4 : ∀ env x, foldedSetIterable pe env x = pure x) (h5 : isLComp pe = false → ∀ t l env, swapsWith pe t l env = pure false) : Snd X k T env pe e := ⟨h, sndT_of pe h he, h2, ⟨h3, h4⟩, h5⟩
noncomputable def PEx (X : Cx) (k : Nat) (m : ME) : Prop := ∀ (T : Tx) (env : Env), TxOk T env → ∀ pe : Expr, chkE m T pe = true → Snd X k T env pe m
noncomputable def PLx (X : Cx) (k : Nat) (ms : MEs) : Prop := ∀ (T : Tx) (env : Env), TxOk T env → ∀ es : List Expr, chkL ms T es = true → SndL X k T env es ms
theorem getD_of {l : List Str} {i : Nat} {x : Str} (h : l[i]? = some x) : x = l.getD i Str.empty := by
  rw [List.getD_eq_getElem?_getD, h]; rfl
theorem lt_of_get {l : List Str} {i : Nat} {x : Str} (h : l[i]? = some x) : i < l.length := (List.getElem?_eq_some_iff.mp h).1
theorem dbg_g : ∀ x ∈ gTab, (x == ("__debug__" : Str)) = false := by decide +kernel
theorem dbg_f : ∀ x ∈ fnTab, (x == ("__debug__" : Str)) = false := by decide +kernel
theorem dbg_b : ∀ b : BI, (b.name == ("__debug__" : Str)) = false := fun b => by cases b <;> decide +kernel
theorem snd_bi {b : BI} {np : Pos} {es : List Expr} {as : MEs} {p : Pos} (O : CxOk X) (E0 : TxOk T env) (hg : T.isGlobal b.name = true) (hl : SndL X k T env es as) :
    SndE X k T env (.Call (.Name b.name np) es [] p) (.bi b as) := fun A hA I J M ρ s Q S w => by
  refine wpAny_Call_ofName (name_gl O E0 hg (dbg_b b) (O.bok b) S ?_)
  exact call_with O hA (biVal_callable _ b) hl S w fun I1 M1 ρ1 s1 vs avs l1 S1 r1 w1 => wpAny_into l1 (bi_core hA S1 r1 w1)

inductive ConOk : AV → Const → Prop where
  | none : ConOk .none .none
  | bool (b : Bool) : ConOk (.bool b) (.bool b)
  | int (i : Int) : ConOk (.int i) (.int i)
  | sy (k : Nat) (x : Str) : symTab[k]? = some x → ConOk (.sy k) (.str x)
theorem chkC_inv {v : AV} {c : Const} (h : chkK v c = true) : ConOk v c := by
  cases v <;> first
    | exact ff h
    | (cases c <;> first
      | exact ff h
      | exact .none
      | exact eq_of_beq h ▸ .bool _
      | exact of_decide_eq_true h ▸ .int _
      | exact .sy _ _ (of_decide_eq_true h))
theorem ck_loc (i : Nat) : PEx X k (.loc i) := fun T env E0 pe h => by
  obtain ⟨x, p, rfl, g1⟩ := onName_inv h
  exact plainT _ (snd_loc E0 (of_decide_eq_true (and2 g1).2)) rfl rfl (fun _ => rfl) (fun _ _ => rfl) fun _ _ _ _ => rfl
theorem ck_con (v : AV) : PEx X k (.con v) := fun T env E0 pe h => by
  obtain ⟨c, n, p, rfl, g1⟩ := onCon_inv h
  refine plainT _ ?_ rfl rfl (fun _ => rfl) (fun _ _ => rfl) fun _ _ _ _ => rfl
  cases chkC_inv g1 with
  | none => exact snd_none
  | bool => exact snd_bool
  | int => exact snd_int
  | sy _ _ e => exact snd_str (getD_of e) (lt_of_get e)
theorem ck_gl (O : CxOk X) (i : Nat) : PEx X k (.gl i) := fun T env E0 pe h => by
  obtain ⟨x, p, rfl, g1⟩ := onName_inv h
  have e := of_decide_eq_true (and2 g1).2
  exact plainT _ (snd_gl O E0 (and2 g1).1 (dbg_g _ (List.mem_of_getElem? e)) (lt_of_get e) (getD_of e)) rfl rfl (fun _ => rfl) (fun _ _ => rfl) fun _ _ _ _ => rfl
theorem ck_bin (o : BOp) (a b : ME) (h1 : PEx X k a) (h2 : PEx X k b) : PEx X k (.bin o a b) := fun T env E0 pe h => by
  obtain ⟨l, op, r, p, rfl, g1⟩ := onBin_inv h
  have a := and2 g1
  have b := and2 a.2
  exact plainT _ (snd_bin (of_decide_eq_true a.1) (h1 T env E0 _ b.1).e (h2 T env E0 _ b.2).e) rfl rfl (fun _ => rfl) (fun _ _ => rfl) fun _ _ _ _ => rfl
theorem ck_neg (a : ME) (h1 : PEx X k a) : PEx X k (.neg a) := fun T env E0 pe hc => by
  obtain ⟨op, x, p, rfl, g1⟩ := onUn_inv hc
  have a := and2 g1
  obtain rfl := of_decide_eq_true a.1
  exact plainT _ (snd_neg (h1 T env E0 _ a.2).e) rfl rfl (fun _ => rfl) (fun _ _ => rfl) fun _ _ _ _ => rfl
theorem ck_not (a : ME) (h1 : PEx X k a) : PEx X k (.not a) := fun T env E0 pe hc => by
  obtain ⟨op, x, p, rfl, g1⟩ := onUn_inv hc
  have a := and2 g1
  obtain rfl := of_decide_eq_true a.1
  have i := h1 T env E0 _ a.2
  exact ⟨snd_not i.e, sndT_not i.t, rfl, ⟨fun _ => rfl, fun _ _ => rfl⟩, fun _ _ _ _ => rfl⟩
theorem ck_cmp (o : COp) (a b : ME) (h1 : PEx X k a) (h2 : PEx X k b) : PEx X k (.cmp o a b) := fun T env E0 pe hc => by
  obtain ⟨l, ops, rs, p, rfl, g1⟩ := onCmp_inv hc
  have a := and2 g1
  obtain rfl := of_decide_eq_true a.1
  obtain ⟨r, rfl, g2⟩ := onOne_inv a.2
  have i := h1 T env E0 _ (and2 g2).1
  have j := h2 T env E0 _ (and2 g2).2
  exact ⟨snd_cmp rfl (j.set.1 _) i.e j.e, sndT_cmp rfl (j.set.1 _) i.e j.e, rfl, ⟨fun _ => rfl, fun _ _ => rfl⟩, fun _ _ _ _ => rfl⟩
theorem ck_chn (o1 o2 : COp) (a b c : ME) (h1 : PEx X k a) (h2 : PEx X k b) (h3 : PEx X k c) : PEx X k (.chn o1 o2 a b c) := fun T env E0 pe hc => by
  obtain ⟨l, ops, rs, p, rfl, g1⟩ := onCmp_inv hc
  have a := and2 g1
  obtain rfl := of_decide_eq_true a.1
  obtain ⟨r, rs, rfl, g2⟩ := onCons_inv a.2
  obtain ⟨q, rfl, g3⟩ := onOne_inv g2
  have i := h1 T env E0 _ (and2 g3).1
  have b := and2 (and2 g3).2
  have j := h2 T env E0 _ b.1
  have m := h3 T env E0 _ b.2
  exact ⟨snd_chn rfl rfl (m.set.1 o2.py) i.e j.e m.e, sndT_chn rfl rfl (m.set.1 o2.py) i.e j.e m.e, rfl, ⟨fun _ => rfl, fun _ _ => rfl⟩, fun _ _ _ _ => rfl⟩
theorem ck_isN (pos : Bool) (a : ME) (h1 : PEx X k a) : PEx X k (.isN pos a) := fun T env E0 pe hc => by
  obtain ⟨l, ops, rs, p, rfl, g1⟩ := onCmp_inv hc
  have a := and2 g1
  obtain rfl := of_decide_eq_true a.1
  obtain ⟨r, rfl, g2⟩ := onOne_inv a.2
  obtain ⟨c, n, q, rfl, h'⟩ := onCon_inv (and2 g2).1
  have i := h1 T env E0 _ (and2 g2).2
  cases chkC_inv h'
  exact ⟨snd_isN i.e, sndT_isN i.e, rfl, ⟨fun _ => rfl, fun _ _ => rfl⟩, fun _ _ _ _ => rfl⟩
theorem ck_nil (eq : Bool) (a : ME) (h1 : PEx X k a) : PEx X k (.nil eq a) := fun T env E0 pe hc => by
  obtain ⟨l, ops, rs, p, rfl, g1⟩ := onCmp_inv hc
  have a := and2 g1
  obtain rfl := of_decide_eq_true a.1
  obtain ⟨r, rfl, g2⟩ := onOne_inv a.2
  obtain ⟨es, q, rfl, h'⟩ := onList_inv (and2 g2).1
  obtain rfl := nil_of h'
  have i := h1 T env E0 _ (and2 g2).2
  exact ⟨snd_nil i.e, sndT_nil i.e, rfl, ⟨fun _ => rfl, fun _ _ => rfl⟩, fun _ _ _ _ => rfl⟩
theorem ck_mem (pos : Bool) (a b : ME) (h1 : PEx X k a) (h2 : PEx X k b) : PEx X k (.mem pos a b) := fun T env E0 pe hc => by
  obtain ⟨l, ops, rs, p, rfl, g1⟩ := onCmp_inv hc
  have a := and2 g1
  obtain rfl := of_decide_eq_true a.1
  obtain ⟨r, rfl, g2⟩ := onOne_inv a.2
  have i := h1 T env E0 _ (and2 g2).1
  have j := h2 T env E0 _ (and2 g2).2
  exact ⟨snd_mem (j.set.1 _) i.e j.e, sndT_mem (j.set.1 _) i.e j.e, rfl, ⟨fun _ => rfl, fun _ _ => rfl⟩, fun _ _ _ _ => rfl⟩
theorem ck_bop (and : Bool) (es : MEs) (h1 : PLx X k es) : PEx X k (.bop and es) := fun T env E0 pe hc => by
  obtain ⟨op, es, p, rfl, g1⟩ := onBop_inv hc
  have a := and2 g1
  obtain rfl := of_decide_eq_true a.1
  have hl := h1 T env E0 _ a.2
  exact ⟨snd_bop hl, sndT_bop hl, rfl, ⟨fun _ => rfl, fun _ _ => rfl⟩, fun _ _ _ _ => rfl⟩
theorem ck_ite (c a b : ME) (h0 : PEx X k c) (h1 : PEx X k a) (h2 : PEx X k b) : PEx X k (.ite c a b) := fun T env E0 pe h => by
  obtain ⟨x, y, z, p, rfl, g1⟩ := onIf_inv h
  have b := and2 (and2 g1).2
  have i := h0 T env E0 _ (and2 g1).1
  have j := h1 T env E0 _ b.1
  have m := h2 T env E0 _ b.2
  exact ⟨snd_ite i.t j.e m.e, sndT_ite i.t j.t m.t, rfl, ⟨fun _ => rfl, fun _ _ => rfl⟩, fun _ _ _ _ => rfl⟩
theorem ck_call (O : CxOk X) (n : Nat) (es : MEs) (h1 : PLx X k es) : PEx X k (.call n es) := fun T env E0 pe hc => by
  obtain ⟨g, l, kw, p, rfl, g1⟩ := onCall_inv hc
  obtain rfl := nil_of (and2 g1).1
  obtain ⟨x, q, rfl, g2⟩ := onName_inv (and2 g1).2
  have a := and2 (and2 g2).2
  have e := of_decide_eq_true a.1
  have hn : n < 28 := lt_of_get e
  obtain ⟨f, f1, f2⟩ := O.fok n hn
  have hf : fnVal X n = some f := (if_pos (Nat.lt_of_lt_of_le hn (by decide : 28 ≤ 100))).trans f1
  exact plainT _ (snd_call O E0 (and2 g2).1 (dbg_f _ (List.mem_of_getElem? e)) (getD_of e ▸ f1) hf f2 (h1 T env E0 _ a.2)) rfl rfl (fun _ => rfl) (fun _ _ => rfl) fun _ _ _ _ => rfl
theorem ck_bi (O : CxOk X) (b : BI) (es : MEs) (h1 : PLx X k es) : PEx X k (.bi b es) := fun T env E0 pe hc => by
  obtain ⟨g, l, kw, p, rfl, g1⟩ := onCall_inv hc
  obtain rfl := nil_of (and2 g1).1
  obtain ⟨x, q, rfl, g2⟩ := onName_inv (and2 g1).2
  have a := and2 (and2 g2).2
  obtain rfl := of_decide_eq_true a.1
  exact plainT _ (snd_bi O E0 (and2 g2).1 (h1 T env E0 _ a.2)) rfl rfl (fun _ => rfl) (fun _ _ => rfl) fun _ _ _ _ => rfl
theorem sndL0 {es : List Expr} {as : MEs} (h : SndL X k T env es as) (e : es.length = 0) : es = [] ∧ as = .nil := by
  cases h with
  | nil => exact ⟨rfl, rfl⟩
  | cons _ _ _ _ => cases e
theorem sndL1 {es : List Expr} {as : MEs} (h : SndL X k T env es as) (e : es.length = 1) : ∃ x b, es = [x] ∧ as = .cons b .nil := by
  cases h with
  | nil => cases e
  | cons _ _ _ h => obtain ⟨rfl, rfl⟩ := sndL0 h (Nat.succ.inj e); exact ⟨_, _, rfl, rfl⟩
theorem meth_go (O : CxOk X) {m : Mth} {ob : Expr} {ap p : Pos} {a : ME} {l : List Expr} {es : MEs} (hline : (ap.endLine == p.line) = true) (hb : isBase ob = true) (hn : l.length = m.arity) (h1 : SndE X k T env ob a) (hl : SndL X k T env l es) :
    SndE X k T env (.Call (.Attribute ob m.name ap) l [] p) (.meth m a es) := by
  have h0 := sndL0 hl
  have h2 := sndL1 hl
  cases m with
  | append => obtain ⟨x, b, rfl, rfl⟩ := h2 hn; exact snd_append hb hline h1 hl
  | pop => obtain ⟨rfl, rfl⟩ := h0 hn; exact snd_pop hb hline h1
  | extend => obtain ⟨x, b, rfl, rfl⟩ := h2 hn; exact snd_extend hb hline h1 hl
  | index => obtain ⟨x, b, rfl, rfl⟩ := h2 hn; exact snd_index hb hline h1 hl
  | parts => obtain ⟨rfl, rfl⟩ := h0 hn; exact snd_own_meth O (.inl ⟨rfl, rfl, rfl⟩) hb hline h1
  | labels => obtain ⟨rfl, rfl⟩ := h0 hn; exact snd_own_meth O (.inr ⟨rfl, rfl, rfl⟩) hb hline h1
theorem ck_meth (O : CxOk X) (m : Mth) (o : ME) (es : MEs) (h1 : PEx X k o) (h2 : PLx X k es) : PEx X k (.meth m o es) := fun T env E0 pe hc => by
  obtain ⟨g, l, kw, p, rfl, g1⟩ := onCall_inv hc
  obtain rfl := nil_of (and2 g1).1
  obtain ⟨ob, x, ap, rfl, g2⟩ := onAtt_inv (and2 g1).2
  have a := and2 (and2 g2).2
  have b := and2 a.2
  obtain rfl := of_decide_eq_true b.1
  have c := and2 b.2
  have d := and2 c.2
  exact plainT _ (meth_go O (and2 g2).1 a.1 (of_decide_eq_true c.1) (h1 T env E0 _ d.1).e (h2 T env E0 _ d.2)) rfl rfl (fun _ => rfl) (fun _ _ => rfl) fun _ _ _ _ => rfl
theorem ck_sub (o i : ME) (h1 : PEx X k o) (h2 : PEx X k i) : PEx X k (.sub o i) := fun T env E0 pe h => by
  obtain ⟨x, y, p, rfl, g1⟩ := onSub_inv h
  exact plainT _ (snd_sub (h1 T env E0 _ (and2 g1).1).e (h2 T env E0 _ (and2 g1).2).e) rfl rfl (fun _ => rfl) (fun _ _ => rfl) fun _ _ _ _ => rfl
theorem isCN_inv {m : ME} (h : isCN m = true) : m = .con .none := by
  cases m <;> first
    | exact ff h
    | skip
  rename_i v
  cases v <;> first
    | rfl
    | exact ff h
theorem ck_opt {m : ME} (h1 : PEx X k m) (E0 : TxOk T env) {o : Option Expr} (h : onOpt o (isCN m) (chkE m T) = true) : SndO X k T env o m := by
  cases o with
  | none => rw [isCN_inv h]; exact .none
  | some e => exact .some (h1 T env E0 _ h).e
theorem ck_slice (o lo hi st : ME) (h1 : PEx X k o) (h2 : PEx X k lo) (h3 : PEx X k hi) (h4 : PEx X k st) : PEx X k (.slice o lo hi st) := fun T env E0 pe hc => by
  obtain ⟨x, y, p, rfl, g1⟩ := onSub_inv hc
  obtain ⟨l, u, s, q, rfl, g2⟩ := onSlice_inv g1
  have a := and2 (and2 g2).2
  have b := and2 a.2
  exact plainT _ (snd_slice (h1 T env E0 _ (and2 g2).1).e (ck_opt h2 E0 a.1) (ck_opt h3 E0 b.1) (ck_opt h4 E0 b.2)) rfl rfl (fun _ => rfl) (fun _ _ => rfl) fun _ _ _ _ => rfl
theorem ck_att (O : CxOk X) (o : ME) (n : Att) (h1 : PEx X k o) : PEx X k (.att o n) := fun T env E0 pe hc => by
  obtain ⟨x, a, p, rfl, g1⟩ := onAtt_inv hc
  obtain rfl := of_decide_eq_true (and2 g1).1
  have b := and2 (and2 g1).2
  exact plainT _ (snd_att O b.1 (h1 T env E0 _ b.2).e) rfl rfl (fun _ => rfl) (fun _ _ => rfl) fun _ _ _ _ => rfl
theorem ck_list (es : MEs) (h1 : PLx X k es) : PEx X k (.list es) := fun T env E0 pe h => by
  obtain ⟨l, p, rfl, g1⟩ := onList_inv h
  exact plainT _ (snd_list (h1 T env E0 _ g1)) rfl rfl (fun _ => rfl) (fun _ _ => rfl) fun _ _ _ _ => rfl
theorem ck_tuple (es : MEs) (h1 : PLx X k es) : PEx X k (.tuple es) := fun T env E0 pe h => by
  obtain ⟨l, n, p, rfl, g1⟩ := onTup_inv h
  exact plainT _ (snd_tuple (h1 T env E0 _ g1)) rfl rfl (fun _ => rfl) (fun _ _ => rfl) fun _ _ _ _ => rfl
theorem onOpt_inv {α : Type} {o : Option α} {f : α → Bool} (h : onOpt o false f = true) : ∃ a, o = some a ∧ f a = true := match o, h with
  | some a, h => ⟨a, rfl, h⟩
theorem ck_dict (n : Nat) (v : ME) (h1 : PEx X k v) : PEx X k (.dict n v) := fun T env E0 pe hc => by
  obtain ⟨ks, vs, p, rfl, g1⟩ := onDict_inv hc
  obtain ⟨k', rfl, g2⟩ := onOne_inv g1
  obtain ⟨k', rfl, g3⟩ := onOpt_inv g2
  obtain ⟨c, m, q, rfl, g4⟩ := onCon_inv g3
  obtain ⟨x, rfl, hx⟩ := onOne_inv (and2 g4).2
  obtain ⟨e', e⟩ := and2 g4
  cases chkC_inv e' with
  | sy _ _ z => exact plainT _ (snd_dict (getD_of z) (lt_of_get z) (h1 T env E0 _ hx).e) rfl rfl (fun _ => rfl) (fun _ _ => rfl) fun _ _ _ _ => rfl
theorem isCT_inv {m : ME} (h : isCT m = true) : m = .con (.bool true) := by
  cases m <;> first
    | exact ff h
    | skip
  rename_i v
  cases v <;> first
    | exact ff h
    | skip
  rename_i b
  cases b <;> first
    | rfl
    | exact ff h
theorem ck_tests {m : ME} (h1 : PEx X k m) (E0 : TxOk T env) {ifs : List Expr} (h : (ifs.isEmpty && isCT m || onOne ifs (chkE m T)) = true) : TestsOk X k T env ifs m := by
  rcases Bool.or_eq_true_iff.mp h with h | h
  · rw [nil_of (and2 h).1, isCT_inv (and2 h).2]; exact tests_nil
  · obtain ⟨c, rfl, h⟩ := onOne_inv h
    exact tests_one (h1 T env E0 _ h).t
/-- what the checker of a comprehension has seen -/
structure CompSeen (X : Cx) (k : Nat) (T : Tx) (env : Env) (el : Expr) (gs : List Comprehension) (sc : Scope) (vs : List Bool) (i : Nat) (a b c : ME) (x : Str) (px : Pos) (iter : Expr) (ifs : List Expr) : Prop where
  gs : gs = [⟨.Name x px, iter, ifs, 0⟩]
  vs : vis T sc.names = vs
  ok : InOk T sc
  hi : T.tbl[i]? = some x
  hx : sc.names.lookup x = some .local
  hf : ∀ x, foldedSetIterable iter env x = pure x
  it : SndE X k T env iter b
  el : ∀ C, (∀ p ∈ env.cells, p.2 ≠ C) → SndE X k (inTx T sc) (compEnvC sc (clOf sc env) C env) el a
  ts : ∀ C, (∀ p ∈ env.cells, p.2 ≠ C) → TestsOk X k (inTx T sc) (compEnvC sc (clOf sc env) C env) ifs c
theorem comp_seen {vs : List Bool} {i : Nat} {a b c : ME} (h1 : PEx X k a) (h2 : PEx X k b) (h3 : PEx X k c) (E0 : TxOk T env) {el : Expr} {gs : List Comprehension} {sc : Scope} {p : Pos} (h : chkE (.comp vs i a b c) T (.ListComp el gs sc p) = true) : ∃ x px iter ifs, CompSeen X k T env el gs sc vs i a b c x px iter ifs := by
  obtain ⟨_, _, _, _, e, g0⟩ := onComp_inv h
  cases e
  obtain ⟨g, rfl, g1⟩ := onOne_inv g0
  obtain ⟨tg, iter, ifs, as⟩ := g
  obtain ⟨x, px, rfl, g2⟩ := onName_inv g1
  have d := and2 g2
  obtain rfl := of_decide_eq_true d.1
  have a2 := and2 d.2
  have a3 := and2 a2.2
  have a4 := and2 a3.2
  have a5 := and2 a4.2
  have a6 := and2 a5.2
  have a7 := and2 a6.2
  have H := compOk_of a2.1
  have j := h2 T env E0 iter a7.1
  exact ⟨x, px, iter, ifs, rfl, of_decide_eq_true a5.1, H, of_decide_eq_true a4.1, of_decide_eq_true a3.1, fun x => j.set.2 env x, j.e, fun C hC => (h1 _ _ (inner_ok E0 H hC) _ a6.1).e, fun C hC => ck_tests h3 (inner_ok E0 H hC) a7.2⟩
theorem ck_comp (vs : List Bool) (i : Nat) (a b c : ME) (h1 : PEx X k a) (h2 : PEx X k b) (h3 : PEx X k c) : PEx X k (.comp vs i a b c) := fun T env E0 pe h => by
  obtain ⟨el, gs, sc, p, rfl, _⟩ := onComp_inv h
  obtain ⟨x, px, iter, ifs, H⟩ := comp_seen h1 h2 h3 E0 h
  obtain rfl := H.gs
  obtain rfl := H.vs
  exact plainT _ (snd_comp E0 H.ok H.hi H.hx H.hf H.it H.el H.ts) rfl rfl (fun _ => rfl) (fun _ _ => rfl) fun h => Bool.noConfusion h
theorem ck_nils : PLx X k .nil := fun T env E0 es h => by rw [nil_of h]; exact .nil
theorem ck_cons (a : ME) (as : MEs) (h1 : PEx X k a) (h2 : PLx X k as) : PLx X k (.cons a as) := fun T env E0 es h => by
  obtain ⟨e, r, rfl, g1⟩ := onCons_inv h
  have i := h1 T env E0 _ (and2 g1).1
  exact .cons i.star i.e i.t (h2 T env E0 _ (and2 g1).2)
theorem chkE_all (O : CxOk X) (m : ME) : PEx X k m :=
  @ME.rec (PEx X k) (PLx X k) ck_loc ck_con (ck_gl O) ck_bin ck_neg ck_not ck_cmp ck_chn ck_isN ck_nil ck_mem ck_bop ck_ite (ck_call O) (ck_bi O) (ck_meth O) ck_sub ck_slice (ck_att O) ck_list ck_tuple ck_dict ck_comp ck_nils ck_cons m
theorem chkE_sound (O : CxOk X) (E0 : TxOk T env) {pe : Expr} {m : ME} (h : chkE m T pe = true) : Snd X k T env pe m := chkE_all O m T env E0 pe h
end
end Mine
namespace Mine
section
variable {X : Cx} {k : Nat} {T : Tx} {env : Env} {tbl : List Str} {I I' J : Imm} {M M' : Mem} {ρ : Env0} {s s' : Shared} {A : Around}

/-- the end of a statement -/
noncomputable def PostF (X : Cx) (tbl : List Str) (env : Env) (I J : Imm) (Q : Mem → Env0 → Prop) (R : AV → Mem → Prop) (f : Flow) (s : Shared) : Prop := match f with
  | .next => PostU X tbl env I J Q s
  | .ret v => ∃ I' M' ρ' av, Le I I' ∧ Sat X tbl env I' J M' ρ' s ∧ X.Rep I' v av ∧ R av M'
  | _ => False
noncomputable def SndS (X : Cx) (k : Nat) (T : Tx) (env : Env) (ps : Stmt) (m : MS) : Prop :=
  ∀ A, Room k A → ∀ (I J : Imm) (M : Mem) (ρ : Env0) (s : Shared) (Q : Mem → Env0 → Prop) (R : AV → Mem → Prop), Sat X T.tbl env I J M ρ s → WS gAV (Spec X k) m Q R M ρ → wpAny X.mdl A (exec ps env) (PostF X T.tbl env I J Q R) NoE s
noncomputable def SndB (X : Cx) (k : Nat) (T : Tx) (env : Env) (ps : List Stmt) (m : MS) : Prop :=
  ∀ A, Room k A → ∀ (I J : Imm) (M : Mem) (ρ : Env0) (s : Shared) (Q : Mem → Env0 → Prop) (R : AV → Mem → Prop), Sat X T.tbl env I J M ρ s → WS gAV (Spec X k) m Q R M ρ → wpAny X.mdl A (execs ps env) (PostF X T.tbl env I J Q R) NoE s

theorem PostU.le {Q : Mem → Env0 → Prop} (h : Le I I') (p : PostU X tbl env I' J Q s) : PostU X tbl env I J Q s := let ⟨I2, M2, ρ2, l, r⟩ := p; ⟨I2, M2, ρ2, h.trans l, r⟩
theorem PostU.mk {Q : Mem → Env0 → Prop} (S : Sat X tbl env I J M ρ s) (q : Q M ρ) : PostU X tbl env I J Q s := ⟨I, M, ρ, Le.refl I, S, q⟩
theorem PostF.le {Q : Mem → Env0 → Prop} {R : AV → Mem → Prop} {f : Flow} (h : Le I I') (p : PostF X tbl env I' J Q R f s) : PostF X tbl env I J Q R f s := by
  cases f with
  | next => exact PostU.le h p
  | ret v => exact let ⟨I2, M2, ρ2, av, l, r⟩ := p; ⟨I2, M2, ρ2, av, h.trans l, r⟩
  | brk => exact p
  | cont => exact p
theorem sndB_nil : SndB X k T env [] .skip := fun A _ I J M ρ s Q R S w => wpAny_execs_nil (PostU.mk S w)
theorem sndB_cons {st : Stmt} {r : List Stmt} {a b : MS} (h1 : SndS X k T env st a) (h2 : SndB X k T env r b) : SndB X k T env (st :: r) (.seq a b) := fun A hA I J M ρ s Q R S w => by
  refine wpAny_execs_cons (wpAny_mono (h1 A hA I J M ρ s _ R S w) (fun f s1 p => ?_) fun _ _ x => x)
  cases f with
  | next =>
    obtain ⟨I1, M1, ρ1, l1, S1, w1⟩ := p
    exact wpAny_mono (h2 A hA I1 J M1 ρ1 s1 Q R S1 w1) (fun f s2 p => p.le l1) fun _ _ x => x
  | ret v => exact p
  | brk => exact p.elim
  | cont => exact p.elim

theorem idx_get {l : List Str} {x : Str} {i : Nat} (h : l.idxOf? x = some i) : l[i]? = some x := by
  obtain ⟨h1, h2, _⟩ := List.idxOf?_eq_some_iff.mp h
  rw [List.getElem?_eq_getElem h1, h2]
theorem store_ok (E0 : TxOk T env) {x : Str} {i : Nat} (h : T.store x = some i) : T.tbl[i]? = some x ∧ (env.kindOf x = some .local ∨ (env.kindOf x = some .cell ∧ (env.cells.lookup x).isSome = true)) := by
  unfold Tx.store at h
  split at h
  · rename_i hk
    refine ⟨idx_get h, ?_⟩
    have e : env.kindOf x = T.names.lookup x := by unfold Env.kindOf; rw [E0.names]
    rw [e]
    rcases Bool.or_eq_true_iff.mp hk with q | q
    · exact .inl (by simpa using q)
    · have q' : T.names.lookup x = some .cell := by simpa using q
      exact .inr ⟨q', E0.cells x q'⟩
  · cases h

/-! binding a name -/
theorem comp_of {e : ME} {el : Expr} {gs : List Comprehension} {sc : Scope} {p : Pos} (h : chkE e T (.ListComp el gs sc p) = true) : ∃ vs i a b c, e = .comp vs i a b c := by
  cases e <;> first
    | exact ff h
    | exact ⟨_, _, _, _, _, rfl⟩
theorem use_go (O : CxOk X) (E0 : TxOk T env) {elt : Expr} {gens : List Comprehension} {sc : Scope} {pos py : Pos} {e : ME} {y : Str} {j : Nat} (h : chkE e T (.ListComp elt gens sc pos) = true) (hj : T.tbl[j]? = some y) (hy : env.kindOf y = some .local)
    {Q : Mem → Env0 → Prop} (hA : Room k A) (S : Sat X T.tbl env I J M ρ s) (w : WE gAV (Spec X k) e (fun v M ρ => Q M (stv ρ j v)) M ρ) :
    wpAny X.mdl A (evalThenUse (.ListComp elt gens sc pos) env (assign (.Name y py) env)) (fun _ => PostU X T.tbl env I J Q) NoE s := by
  obtain ⟨vs, i, a, b, c, rfl⟩ := comp_of h
  obtain ⟨x, px, iter, ifs, H⟩ := comp_seen (chkE_all (k := k) O a) (chkE_all O b) (chkE_all O c) E0 h
  obtain rfl := H.gs
  obtain rfl := H.vs
  exact use_comp E0 H.ok H.hi H.hx H.hf H.it hj hy H.el H.ts hA S w
theorem list_view {v : Expr} (h : isLComp v = true) : ∃ el gs sc p, v = .ListComp el gs sc p := ⟨_, _, _, _, view_back h⟩
theorem snds_asg (O : CxOk X) (E0 : TxOk T env) {v : Expr} {e : ME} {y : Str} {j : Nat} {py p : Pos} (h : chkE e T v = true) (hs : T.store y = some j) : SndS X k T env (.Assign [.Name y py] v p) (.asg j e) := fun A hA I J M ρ s Q R S w => by
  obtain ⟨hj, hk⟩ := store_ok E0 hs
  have sn := chkE_sound (k := k) O E0 h
  have plain : swapsWith v (some (.Name y py)) p.line env = pure false → wpAny X.mdl A (exec (.Assign [.Name y py] v p) env) (PostF X T.tbl env I J Q R) NoE s := fun hsw =>
    wpAny_Assign_Name (sn.e.go hA S w fun I1 M1 ρ1 s1 av vv l1 S1 r1 w1 => store_slot E0.ok S1 hj hk r1 fun s2 S2 => ⟨I1, M1, _, l1, S2, w1⟩) hsw
  cases hc : isLComp v with
  | false => exact plain (sn.sw hc _ _ _)
  | true =>
    obtain ⟨elt, gens, sc, pos, rfl⟩ := list_view hc
    have hsw : swapsWith (.ListComp elt gens sc pos) (some (.Name y py)) p.line env = pure (env.blockKind == .function && env.kindOf y == some .local && py.line == (Expr.ListComp elt gens sc pos).pos.line && !(sc.names.any fun (n, k) => n == y && (k == .local || k == .cell))) := rfl
    cases hb : (env.blockKind == .function && env.kindOf y == some .local && py.line == (Expr.ListComp elt gens sc pos).pos.line && !(sc.names.any fun (n, k) => n == y && (k == .local || k == .cell))) with
    | false => rw [hb] at hsw; exact plain hsw
    | true =>
      rw [hb] at hsw
      rw [exec_Assign_Name_used _ _ _ _ hsw]
      have hy : env.kindOf y = some .local := eq_of_beq (and2 (and2 (and2 hb).1).1).2
      exact wpAny_bind (wpAny_standAt (wpAny_bind (wpAny_mono (use_go O E0 h hj hy (py := py) hA S w) (fun _ s2 hq => wpAny_pure hq) fun _ _ e => e)))
end
end Mine
namespace Mine
noncomputable def namesOf : List Expr → List Str
  | [] => []
  | .Name x _ :: r => x :: namesOf r
  | _ :: r => namesOf r
section
variable {X : Cx} {k : Nat} {T : Tx} {env : Env} {tbl : List Str} {I I' J : Imm} {M M' : Mem} {ρ : Env0} {s s' : Shared} {A : Around}

theorem chkN_inv {t : Expr} {r : List Expr} {is : List Nat} (h : chkN T is (t :: r) = true) : ∃ x p i is', t = .Name x p ∧ T.store x = some i ∧ chkN T is' r = true ∧ is = i :: is' := by
  cases is with
  | nil => cases h
  | cons i is =>
    obtain ⟨_, _, e, g⟩ := onCons_inv h
    cases e
    obtain ⟨x, p, rfl, h'⟩ := onName_inv g
    exact ⟨x, p, i, is, rfl, of_decide_eq_true (and2 h').1, (and2 h').2, rfl⟩
theorem chkN_nil {is : List Nat} (h : chkN T is [] = true) : is = [] := by
  cases is with
  | nil => rfl
  | cons i is => cases h
theorem fm_names {f : Expr → Option Str} (hf : ∀ x p, f (.Name x p) = some x ∨ f (.Name x p) = none) : ∀ {ts : List Expr} {is : List Nat}, chkN T is ts = true → (ts.filterMap f).length = ts.length → ts.filterMap f = namesOf ts
  | [], _, _, _ => rfl
  | t :: r, is, h, hl => by
    obtain ⟨x, p, i, is', rfl, h1, h2, rfl⟩ := chkN_inv h
    rcases hf x p with q | q
    · rw [List.filterMap_cons_some q] at hl ⊢
      unfold namesOf
      rw [fm_names hf h2 (by simpa using hl)]
    · rw [List.filterMap_cons_none q] at hl
      have := List.length_filterMap_le f r
      rw [hl, List.length_cons] at this
      omega

theorem swap_not {v : Expr} {ts : List Expr} {c : Nat} {p : Pos} (h : Nat.beq (view v).tag 13 = false) : swappedStores [.Tuple ts c p] v env = pure none := by
  cases v <;> first
    | rfl
    | exact ff h.symm
theorem swapped_cases {ts : List Expr} {is : List Nat} {c : Nat} {p : Pos} {v : Expr} (hn : chkN T is ts = true) (hv : tupOk v = true) :
    swappedStores [.Tuple ts c p] v env = pure none ∨ (swappedStores [.Tuple ts c p] v env = pure (some (namesOf ts)) ∧ (ts.length = 2 ∨ ts.length = 3)) := by
  cases hb : Nat.beq (view v).tag 13 with
  | false => exact .inl (swap_not hb)
  | true =>
  obtain ⟨vs, c2, p2, rfl⟩ : ∃ vs c2 p2, v = .Tuple vs c2 p2 := ⟨_, _, _, view_back hb⟩
  have hv' : vs.all (constantsAlone 8) = false := not_of hv
  unfold swappedStores
  dsimp only
  split
  · exact .inl rfl
  · rename_i h1
    split
    · exact .inl rfl
    · split
      · exact .inl rfl
      · rename_i h3
        split
        · exact .inl rfl
        · rw [hv', if_neg Bool.false_ne_true]
          refine .inr ⟨?_, ?_⟩
          · congr 2
            refine fm_names (T := T) (fun x p => ?_) hn ?_
            · dsimp only
              split
              · exact .inl rfl
              · exact .inr rfl
            · simp only [Bool.or_eq_true, not_or, bne_iff_ne, ne_eq, Decidable.not_not] at h3
              exact h3.1
          · simp only [Bool.or_eq_true, not_or, Bool.not_eq_true', Bool.or_eq_false_iff, beq_eq_false_iff_ne, ne_eq] at h1
            have := h1.1.1
            omega

/-- a row of stores -/
inductive StoreL (X : Cx) (T : Tx) (env : Env) (A : Around) : List (Value → Sem Unit) → List Nat → Prop where
  | nil : StoreL X T env A [] []
  | cons {f : Value → Sem Unit} {x : Str} {i : Nat} {fs : List (Value → Sem Unit)} {is : List Nat} : (∀ (v : Value) (s : Shared) (Q : Unit → Shared → Prop), wpAny X.mdl A (storeName env x v) Q NoE s → wpAny X.mdl A (f v) Q NoE s) →
      T.tbl[i]? = some x → (env.kindOf x = some .local ∨ (env.kindOf x = some .cell ∧ (env.cells.lookup x).isSome = true)) → StoreL X T env A fs is → StoreL X T env A (f :: fs) (i :: is)
theorem StoreL.append {fs gs : List (Value → Sem Unit)} {is js : List Nat} (h : StoreL X T env A fs is) (r : StoreL X T env A gs js) : StoreL X T env A (fs ++ gs) (is ++ js) := by
  induction h with
  | nil => exact r
  | cons a b c _ ih => exact .cons a b c ih
theorem StoreL.reverse {fs : List (Value → Sem Unit)} {is : List Nat} (h : StoreL X T env A fs is) : StoreL X T env A fs.reverse is.reverse := by
  induction h with
  | nil => exact .nil
  | cons a b c _ ih =>
    rw [List.reverse_cons, List.reverse_cons]
    exact ih.append (.cons a b c .nil)
theorem stores_go (E0 : TxOk T env) {fs : List (Value → Sem Unit)} {is : List Nat} (h : StoreL X T env A fs is) : ∀ {vs : List Value} {xs : List AV} {ρ : Env0} {s : Shared} {Q : Unit → Shared → Prop}, Sat X T.tbl env I J M ρ s → X.Reps I vs xs →
    (∀ s', Sat X T.tbl env I J M (stvs ρ is xs) s' → Q () s') → wpAny X.mdl A (assignInOrder fs vs) Q NoE s := by
  induction h with
  | nil =>
    intro vs xs ρ s Q S _ h
    have : stvs ρ [] xs = ρ := by cases xs <;> rfl
    exact wpAny_pure (h s (this ▸ S))
  | cons a b c _ ih =>
    intro vs xs ρ s Q S r h
    cases xs with
    | nil => obtain rfl := r.inv; exact wpAny_pure (h s S)
    | cons x xs =>
      obtain ⟨v, vs, rfl, r, rs⟩ := r.inv
      exact wpAny_bind (wpAny_holding (a _ _ _ (store_slot E0.ok S b c r fun s1 S1 => ih S1 rs h)))
theorem stvs_swap {ρ : Env0} : ∀ {i j : Nat} {a b : AV}, i ≠ j → stv (stv ρ i a) j b = stv (stv ρ j b) i a := by
  induction ρ with
  | nil => intros; rfl
  | cons x r ih =>
    intro i j a b h
    cases i with
    | zero => cases j with
      | zero => exact absurd rfl h
      | succ j => rfl
    | succ i => cases j with
      | zero => rfl
      | succ j =>
        show x :: stv (stv r i a) j b = x :: stv (stv r j b) i a
        rw [ih fun q => h (by rw [q])]
theorem stvs_rev {ρ : Env0} {is : List Nat} {xs : List AV} (hd : is.Nodup) (hl : xs.length = is.length) (h : is.length = 2 ∨ is.length = 3) : stvs ρ is.reverse xs.reverse = stvs ρ is xs := by
  rcases h with h | h
  · match is, xs, hl, h with
    | [i, j], [a, b], _, _ =>
      have hij : i ≠ j := by simpa using hd
      exact stvs_swap (Ne.symm hij)
  · match is, xs, hl, h with
    | [i, j, l], [a, b, c], _, _ =>
      simp only [List.nodup_cons, List.mem_cons, List.not_mem_nil, or_false, not_or, not_false_eq_true, List.nodup_nil, and_true] at hd
      show stv (stv (stv ρ l c) j b) i a = stv (stv (stv ρ i a) j b) l c
      rw [stvs_swap (i := l) (j := j) (Ne.symm hd.2), stvs_swap (i := l) (j := i) (Ne.symm hd.1.2), stvs_swap (i := j) (j := i) (Ne.symm hd.1.1)]
theorem assignEach_names (E0 : TxOk T env) : ∀ {ts : List Expr} {is : List Nat}, chkN T is ts = true → StoreL X T env A ((assignEach ts env).map (·.2)) is ∧ (assignEach ts env).findIdx? (·.1) = none ∧ (assignEach ts env).length = ts.length ∧ StoreL X T env A ((namesOf ts).map fun n => bindName env n) is ∧ (namesOf ts).length = ts.length ∧ is.length = ts.length
  | [], _, h => by rw [chkN_nil h]; exact ⟨.nil, rfl, rfl, .nil, rfl, rfl⟩
  | t :: r, is, h => by
    obtain ⟨x, p, i, is', rfl, h1, h2, rfl⟩ := chkN_inv h
    obtain ⟨a1, a2, a3, a4, a5, a6⟩ := assignEach_names E0 h2
    obtain ⟨b1, b2⟩ := store_ok E0 h1
    refine ⟨.cons (fun v s Q hq => wpAny_assign_Name hq) b1 b2 a1, ?_, ?_, .cons (fun v s Q hq => wpAny_bindName hq) b1 b2 a4, ?_, ?_⟩
    · show List.findIdx? (·.1) ((false, assign (.Name x p) env) :: assignEach r env) = none
      rw [List.findIdx?_cons, if_neg (by simp), a2]; rfl
    · show (assignEach r env).length + 1 = r.length + 1
      rw [a3]
    · show (namesOf r).length + 1 = r.length + 1
      rw [a5]
    · simp [a6]
theorem snds_asgT {ts : List Expr} {is : List Nat} {c : Nat} {tp p : Pos} {v : Expr} {e : ME} (O : CxOk X) (E0 : TxOk T env) (h : chkE e T v = true) (hn : chkN T is ts = true) (hv : tupOk v = true) (hd : is.Nodup) :
    SndS X k T env (.Assign [.Tuple ts c tp] v p) (.asgT is e) := fun A hA I J M ρ s Q R S w => by
  have sn := chkE_sound (k := k) O E0 h
  obtain ⟨a1, a2, a3, a4, a5, a6⟩ := assignEach_names (X := X) (A := A) E0 hn
  have hsw : swapsWithSole [.Tuple ts c tp] v p.line env = pure false := by
    show swapsWith v (some (.Tuple ts c tp)) p.line env = pure false
    cases hc : isLComp v with
    | false => exact sn.sw hc _ _ _
    | true => obtain ⟨_, _, _, _, rfl⟩ := list_view hc; rfl
  rcases swapped_cases (env := env) (c := c) (p := tp) hn hv with hs | ⟨hs, h23⟩
  · refine Assign_Tuple (sn.e.go hA S w fun I1 M1 ρ1 s1 w1 av l1 S1 r1 q1 => ?_) hsw hs
    obtain ⟨xs, rfl, hl, q⟩ := q1
    cases r1 with
    | tup hI rr =>
      rename_i a vs cnt
      have hlen := Reps.length rr
      refine wpAny_assign_Tuple hA.handled ⟨_, S1.st.imm _ _ hI, rfl, _, rfl⟩ (by rw [a3, ← a6, ← hl, ← hlen]; simp) a2 fun h' hk => ?_
      have S2 : Sat X T.tbl env I1 J M1 ρ1 { s1 with heap := h' } := S1.ext (t := s1.toks) fun b o e => hk b o (Nat.ne_of_lt (Heap.lt_size e)) e
      refine stores_go E0 a1 S2 (by simpa using rr) fun s3 S3 => ?_
      exact ⟨I1, M1, _, l1, S3, q⟩
  · refine Assign_Tuple_swapped (sn.e.go hA S w fun I1 M1 ρ1 s1 w1 av l1 S1 r1 q1 => ?_) hsw hs
    obtain ⟨xs, rfl, hl, q⟩ := q1
    cases r1 with
    | tup hI rr =>
      rename_i a vs cnt
      have hlen := Reps.length rr
      have hsz : (namesOf ts).length = vs.toArray.size := by rw [a5, ← a6, ← hl, ← hlen]; simp
      rw [hsz]
      refine wpAny_unpackItems_tuple hA.handled ⟨_, S1.st.imm _ _ hI, rfl, _, rfl⟩ fun h' hk => ?_
      have S2 : Sat X T.tbl env I1 J M1 ρ1 { s1 with heap := h' } := S1.ext (t := s1.toks) fun b o e => hk b o (Nat.ne_of_lt (Heap.lt_size e)) e
      rw [List.map_reverse]
      refine stores_go E0 a4.reverse S2 (by simpa using rr.reverse) fun s3 S3 => ?_
      rw [stvs_rev hd hl (by rw [a6]; exact h23)] at S3
      exact ⟨I1, M1, _, l1, S3, q⟩
end
end Mine
namespace Mine
section
variable {X : Cx} {k : Nat} {T : Tx} {env : Env} {tbl : List Str} {I I' J : Imm} {M M' : Mem} {ρ : Env0} {s s' : Shared} {A : Around} {prog : Program} {w : World} {E : Value → Shared → Prop}

theorem setItem_neg {l : Addr} {items : Array Value} {n : Nat} {k : Int} {t : Tok} {v : Value} {Q : Unit → Shared → Prop} (ho : s.heap.get? l = some (lstO items n)) (h0 : k < 0) (h1 : -(items.size : Int) ≤ k) (hfit : -(2 ^ 63) ≤ k)
    (hQ : Q () { s with heap := s.heap.update l (Obj.mapSeq (·.setIfInBounds (k + items.size).toNat v)) }) : wpAny (model prog w) A (setItem (.ref l) (.int k t) v) Q E s := by
  have hl : s.heap.IsList l items := ⟨_, ho, rfl, _, rfl⟩
  unfold setItem
  try with_reducible refine wpAny_holding ?_
  first | refine wpAny_bind (wpAny_pure ?_) | skip
  refine wpAny_bind (wpAny_sequenceKey hl.typeIs (by decide) ?_)
  refine wpAny_bind (wpAny_callSpecial?_slot (name := Str.ofString "__setitem__") hl.typeIs slot_list_setitem
    (wpAny_call_entry slot_list_setitem hl.typeIs entry_list_setitem ?_ (args_list_setitem _ _ _)))
  show wpAny _ _ (Builtin.List.listSubscript? (.int k t) >>= _) _ _ s
  refine wpAny_bind (wpAny_listSubscript_int (fitsIndex_neg h0 hfit) ?_)
  clear hfit
  have hidx := seqIndex_neg h0 h1
  have hlt : (k + items.size).toNat < items.size := by exact lin [_, _] [_] false (.h false true (.a (.v 0) (.l 1)) (.l 0) (.h true true (.c (.v 0)) (.a (.v 0) (.c (.v 1))) (.v 0))) (.a (.v 0) (.l 1)) (.v 1) 1 [1, 1] (Eq.refl true) h0 (Int.toNat_of_nonneg (lin [_] [_] true (.h false true (.g (.c (.v 0))) (.v 0) (.v 0)) (.l 0) (.a (.v 0) (.c (.v 0))) 1 [1] (Eq.refl true) h1))
  have hx : items[(k + items.size).toNat]? = some items[(k + items.size).toNat] := Array.getElem?_eq_getElem hlt
  obtain ⟨j, rfl⟩ : ∃ j : Nat, k = Int.negSucc j := by
    cases k with
    | ofNat n => exact absurd h0 (Int.not_lt.mpr (Int.ofNat_nonneg n))
    | negSucc n => exact ⟨n, rfl⟩
  show wpAny _ _ ((Builtin.List.listItems (.ref l) >>= fun xs => pure ((seqIndex? (Int.negSucc j) xs.size).bind fun i => xs[i]?.map (i, ·))) >>= _) _ _ s
  refine wpAny_bind (wpAny_bind ?_)
  show wpAny _ _ (seqItems? (.ref l) >>= _) _ _ s
  refine wpAny_bind (wpAny_seqItems ho rfl (wpAny_pure (wpAny_pure ?_)))
  rw [hidx]
  simp only [Option.bind_some, hx, Option.map_some]
  show wpAny _ _ (setSeqItemAt l _ v >>= _) _ _ s
  refine wpAny_bind (wpAny_setSeqItemAt ho rfl ?_)
  exact wpAny_pure ⟨.none, rfl, wpAny_pure hQ⟩

theorem reps_setL {v : Value} {x : AV} (h : X.Rep I v x) : ∀ {vs : List Value} {xs : List AV}, X.Reps I vs xs → ∀ i, X.Reps I (vs.set i v) (xs.set i x)
  | _, _, .nil, _ => .nil
  | _, _, .cons _ h2, 0 => .cons h h2
  | _, _, .cons h1 h2, i + 1 => .cons h1 (reps_setL h h2 i)
theorem reps_set {items : Array Value} {xs : List AV} {v : Value} {x : AV} (r : X.Reps I items.toList xs) (h : X.Rep I v x) (i : Nat) : X.Reps I (items.setIfInBounds i v).toList (xs.set i x) := by
  rw [Array.toList_setIfInBounds]; exact reps_setL h r i

theorem store_core {o i v : Value} {ao ai av : AV} {Q : Mem → Env0 → Prop} (S : Sat X tbl env I J M ρ s) (ro : X.Rep I o ao) (ri : X.Rep I i ai) (rv : X.Rep I v av) (w : wStore ao ai av Q M ρ) : wpAny X.mdl A (setItem o i v) (fun _ => PostU X tbl env I J Q) NoE s := by
  cases ao <;> try exact w.elim
  rename_i a
  cases ai <;> try exact w.elim
  · rename_i j
    obtain ⟨t, rfl⟩ := Rep.int_inv ri
    cases ro
    obtain ⟨xs, hm, h0, hlo, hn, q⟩ := w
    obtain ⟨items, n, hc, rr⟩ := ref_obj S hm
    have hz := reps_size rr
    refine setItem_neg hc h0 (by exact lin [items.size, j.natAbs, xs.length] [j] true (.h false false (.v 1) (.v 2) (.h true false (.v 0) (.v 2) (.h false true (.g (.v 0)) (.c (.v 1)) (.v 0)))) (.g (.c (.v 0))) (.v 0) 1 [1, .negSucc 0, 1] (Eq.refl true) hn hz (nab_neg (j))) (by exact lin [] [j] true (.h false true (.a (.g (.l 1000000)) (.l 1)) (.v 0) (.v 0)) (.g (.l 9223372036854775808)) (.v 0) 1 [1] (Eq.refl true) hlo) ?_
    have e : (j + (items.size : Int)).toNat = xs.length - j.natAbs := by exact linE [_, _, _, _, _] [_] false (.h true false (.v 2) (.v 3) (.h true true (.c (.v 0)) (.a (.v 0) (.c (.v 2))) (.h true false (.a (.v 1) (.v 4)) (.v 3) (.h true true (.c (.v 4)) (.g (.v 0)) (.v 0))))) (.v 0) (.v 1) 1 [1, 1, .negSucc 0, 1] 1 [.negSucc 0, .negSucc 0, 1, .negSucc 0] (Eq.refl true) (Eq.refl true) hz (Int.toNat_of_nonneg (lin [_, _, _] [_] true (.h false false (.v 1) (.v 2) (.h true false (.v 0) (.v 2) (.h false true (.g (.v 0)) (.c (.v 1)) (.v 0)))) (.l 0) (.a (.v 0) (.c (.v 0))) 1 [1, .negSucc 0, 1] (Eq.refl true) hn hz (nab_neg (j)))) (Nat.sub_add_cancel (lin [_, _] [] false (.h false false (.v 0) (.v 1) (.v 0)) (.v 0) (.v 1) 1 [1] (Eq.refl true) hn)) (Int.ofNat_natAbs_of_nonpos (lin [] [_] true (.h false true (.a (.v 0) (.l 1)) (.l 0) (.v 0)) (.v 0) (.l 0) 1 [1] (Eq.refl true) h0))
    rw [e]
    exact ⟨I, _, ρ, Le.refl I, S.mapSeq (t := s.toks) hm hc (reps_set rr rv _), q⟩
  · rename_i n
    obtain ⟨hn, t, rfl⟩ := Rep.sy_inv ri
    cases ro
    obtain ⟨x, hm, q⟩ := w
    obtain ⟨xv, hd, _⟩ := dictOf_one (prog := X.prog) (S.st.mu a _ hm)
    refine wpAny_setItem_pairs (knd := strKind X.prog X.w) (k := symAt n) (isStrOf_sym n t) hd (fun h' hd' hs => ?_) (by show 1 ≤ sizeLine; unfold sizeLine; decide)
    have e : stored [(symAt n, xv)] (symAt n) v = [(symAt n, v)] := by unfold stored; simp
    rw [e] at hd'
    exact ⟨I, _, ρ, Le.refl I, S.update (t := s.toks + 1) hm (fun b hb o e => (hs.2 b hb).trans e) (hasMO_one hn hd' rv), q⟩

/-! a slice is stored -/
theorem toNat_max0 (x : Int) : (max 0 x).toNat = x.toNat := by
  rcases Int.le_total 0 x with h | h
  · rw [Int.max_eq_right h]
  · rw [Int.max_eq_left h]; exact (Int.toNat_of_nonpos h).symm
theorem toNat_min (x : Int) (n : Nat) : (min x (n : Int)).toNat = min x.toNat n := by
  rcases Int.le_total x n with h | h
  · rw [Int.min_eq_left h, Nat.min_eq_left (Int.toNat_le.mpr h)]
  · rw [Int.min_eq_right h, Nat.min_eq_right (Int.le_toNat (Int.le_trans (Int.natCast_nonneg n) h) |>.mpr h)]; rfl
theorem clip_i (i : Int) (n : Nat) : (max 0 (min (if i < 0 then i + (n : Int) else i) (n : Int))).toNat = (if i < 0 then (i + (n : Int)).toNat else min i.toNat n) := by
  rw [toNat_max0]
  by_cases h : i < 0
  · rw [if_pos h, if_pos h, Int.min_eq_left (Int.add_le_of_le_sub_right (Int.sub_self _ ▸ Int.le_of_lt h))]
  · rw [if_neg h, if_neg h, toNat_min]
theorem clip_lo : ∀ (lo hi : Option Int) (n : Nat), (sliceBounds lo hi none n).1.toNat = clipN lo 0 n
  | none, _, _ => rfl
  | some i, _, n => clip_i i n
theorem clip_hi' : ∀ (lo hi : Option Int) (n : Nat), (sliceBounds lo hi none n).2.1.toNat = clipN hi n n
  | _, none, _ => rfl
  | _, some i, n => clip_i i n
theorem max_toNat (a b : Int) : (max a b).toNat = max a.toNat b.toNat := by
  rcases Int.le_total a b with h | h
  · rw [Int.max_eq_right h, Nat.max_eq_right (Int.toNat_le_toNat h)]
  · rw [Int.max_eq_left h, Nat.max_eq_left (Int.toNat_le_toNat h)]
theorem clip_hi (lo hi : Option Int) (n : Nat) : (max (sliceBounds lo hi none n).1 (sliceBounds lo hi none n).2.1).toNat = max (clipN lo 0 n) (clipN hi n n) := by
  rw [max_toNat, clip_lo, clip_hi']
theorem slice_size {a b n m z : Nat} (hab : a ≤ b) (h : n + m ≤ z) : min a n - 0 + m + (min n n - b) ≤ z := by
  have e : min a n + (n - b) ≤ n := by
    rcases Nat.le_total b n with q | q
    · exact Nat.le_trans (Nat.add_le_add_right (Nat.le_trans (Nat.min_le_left _ _) hab) _) (Nat.le_of_eq (Nat.add_sub_cancel' q))
    · rw [Nat.sub_eq_zero_of_le q]; exact Nat.min_le_right _ _
  rw [Nat.min_self, Nat.sub_zero, Nat.add_right_comm]
  exact Nat.le_trans (Nat.add_le_add_right e m) h
theorem setItem_slice {l sl la : Addr} {items items2 : Array Value} {n n2 : Nat} {vl vu : Value} {lo hi : Option Int} {Q : Unit → Shared → Prop} (ho : s.heap.get? l = some (lstO items n)) (hs : s.heap.IsSliceOf sl vl vu .none) (pl : IsPart vl lo) (pu : IsPart vu hi)
    (ha : s.heap.get? la = some (lstO items2 n2)) (hne : la ≠ l) (hsz : items.size + items2.size ≤ sizeLine)
    (hQ : Q () { s with heap := s.heap.update l (Obj.mapSeq fun xs => xs.extract 0 (sliceBounds lo hi none items.size).1.toNat ++ items2 ++ xs.extract (max (sliceBounds lo hi none items.size).1 (sliceBounds lo hi none items.size).2.1).toNat xs.size) }) :
    wpAny (model prog w) A (setItem (.ref l) (.ref sl) (.ref la)) Q E s := by
  have hl : s.heap.IsList l items := ⟨_, ho, rfl, _, rfl⟩
  obtain ⟨os, hos, hcs, hds⟩ := id hs
  have hTs : s.TypeIs (.ref sl) "slice" := ⟨os, hos, hcs⟩
  have hTa : s.TypeIs (.ref la) "list" := ⟨_, ha, rfl⟩
  unfold setItem
  try with_reducible refine wpAny_holding ?_
  first | refine wpAny_bind (wpAny_pure ?_) | skip
  refine wpAny_bind (wpAny_sequenceKey hl.typeIs (by decide) ?_)
  refine wpAny_bind (wpAny_callSpecial?_slot (name := Str.ofString "__setitem__") hl.typeIs slot_list_setitem
    (wpAny_call_entry slot_list_setitem hl.typeIs entry_list_setitem ?_ (args_list_setitem _ _ _)))
  show wpAny _ _ (Builtin.List.listSubscript? (.ref sl) >>= _) _ _ s
  refine wpAny_bind ?_
  unfold Builtin.List.listSubscript?
  refine wpAny_bind (wpAny_specialOf hTs slice_no_index ?_)
  simp only [Option.isNone_none, if_true]
  refine wpAny_pure ?_
  show wpAny _ _ (typeOf (.ref sl) >>= _) _ _ s
  refine wpAny_bind (wpAny_typeOf hTs ?_)
  rw [if_neg (by decide)]
  rw [listSliceParts_eq]
  refine wpAny_bind (wpAny_bind (wpAny_field hos hds (x := Value.none) rfl (wpAny_bind (wpAny_listPart .none ?_))))
  rw [if_neg (show ¬ ((rawPart none == rawInt 0) = true) from Bool.false_ne_true)]
  refine wpAny_bind (wpAny_field hos hds (x := vl) rfl (wpAny_bind (wpAny_listPart pl ?_)))
  refine wpAny_bind (wpAny_field hos hds (x := vu) rfl (wpAny_bind (wpAny_listPart pu (wpAny_pure ?_))))
  have hsr : Builtin.List.listSameRef (.ref l) (.ref la) = false := by
    show (l == la) = false
    exact beq_eq_false_iff_ne.mpr (Ne.symm hne)
  rw [hsr, if_neg Bool.false_ne_true]
  refine wpAny_bind ?_
  unfold Builtin.List.listAllItems
  refine wpAny_bind (wpAny_typeOf hTa ?_)
  rw [if_pos (by decide)]
  unfold Builtin.List.listItems
  refine wpAny_bind (wpAny_seqItems ha rfl (wpAny_pure ?_))
  refine wpAny_bind (wpAny_bind (wpAny_seqItems ho rfl (wpAny_pure ?_)))
  refine wpAny_bind (wpAny_of_eq (sliceIndices_raw lo hi none items.size (by simp)) ?_)
  have h1 : (sliceBounds lo hi none items.size).2.2 = 1 := rfl
  rw [h1]
  rw [if_pos (by decide)]
  refine wpAny_bind (wpAny_rule ?_)
  rw [if_neg (by unfold Builtin.List.listTooLong; simpa using hsz)]
  refine wpAny_bind ?_
  show wpAny _ _ (updateSeq l _) _ _ _
  refine wpAny_updateSeq ho rfl ?_ (Nat.le_trans (Nat.le_add_right _ _) hsz) ?_
  · exact wpAny_bind (wpAny_letGo (wpAny_bind (wpAny_pure (wpAny_pure ⟨.none, rfl, wpAny_pure hQ⟩))))
  · simp only [Array.size_append, Array.size_extract]
    exact slice_size (by rw [max_toNat]; exact Nat.le_max_left _ _) (Nat.le_succ_of_le hsz)
theorem storeSl_core {o v vl vu : Value} {sl : Addr} {ao al au av : AV} {Q : Mem → Env0 → Prop} (S : Sat X tbl env I J M ρ s) (hs : s.heap.IsSliceOf sl vl vu .none) (ro : X.Rep I o ao) (rl : X.Rep I vl al) (ru : X.Rep I vu au) (rv : X.Rep I v av) (w : wStoreSl ao al au av Q M ρ) :
    wpAny X.mdl A (setItem o (.ref sl) v) (fun _ => PostU X tbl env I J Q) NoE s := by
  cases ao <;> try exact w.elim
  rename_i a
  cases ro
  obtain ⟨l, h, xs, ys, hl, hh, hm, hy, hne, hlim, q⟩ := w
  obtain ⟨items, n, hc, rr⟩ := ref_obj S hm
  obtain ⟨b, items2, n2, rfl, hb, rr2⟩ := lists_obj S rv hy
  have z1 := reps_size rr
  have z2 := reps_size rr2
  have hba : b ≠ a := by
    rintro rfl
    cases av with
    | ref c => cases rv; exact hne rfl
    | lst zs =>
      cases rv with
      | lst hI _ =>
        have := S.st.im _ _ hm
        rw [hI] at this; cases this
    | _ => cases hy
  refine setItem_slice hc hs (part_of rl hl) (part_of ru hh) hb hba (by rw [z1, z2]; exact Nat.le_trans hlim lim_lt) ?_
  refine ⟨I, _, ρ, Le.refl I, S.mapSeq (t := s.toks) (ys := xs.take (clipN l 0 xs.length) ++ ys ++ xs.drop (max (clipN l 0 xs.length) (clipN h xs.length xs.length))) hm hc ?_, q⟩
  rw [clip_lo, clip_hi, z1, Array.toList_append, Array.toList_append, Array.toList_extract, Array.toList_extract]
  have e1 : List.extract items.toList 0 (clipN l 0 xs.length) = items.toList.take (clipN l 0 xs.length) := by simp [List.extract]
  have e2 : List.extract items.toList (max (clipN l 0 xs.length) (clipN h xs.length xs.length)) xs.length = items.toList.drop (max (clipN l 0 xs.length) (clipN h xs.length xs.length)) := by
    unfold List.extract
    rw [List.take_of_length_le (by simp [z1])]
  rw [e1, e2]
  exact ((rr.take _).append rr2).append (rr.drop _)

theorem snds_asgSub (O : CxOk X) (E0 : TxOk T env) {v o i : Expr} {e a b : ME} {tp p : Pos} (h : chkE e T v = true) (h1 : SndE X k T env o a) (h2 : SndE X k T env i b) : SndS X k T env (.Assign [.Subscript o i tp] v p) (.asgSub a b e) := fun A hA I J M ρ s Q R S w => by
  have hsw : swapsWith v (some (.Subscript o i tp)) p.line env = pure false := by
    cases hc : isLComp v with
    | false => exact (chkE_sound (k := k) O E0 h).sw hc _ _ _
    | true => obtain ⟨_, _, _, _, rfl⟩ := list_view hc; rfl
  refine wpAny_Assign_Subscript ((chkE_sound O E0 h).e.go hA S w fun I1 M1 ρ1 s1 v1 av1 l1 S1 r1 w1 => h1.go hA S1 w1 fun I2 M2 ρ2 s2 v2 av2 l2 S2 r2 w2 => h2.go hA S2 w2 fun I3 M3 ρ3 s3 v3 av3 l3 S3 r3 w3 => ?_) hsw
  exact wpAny_mono (store_core S3 (r2.mono l3) r3 (r1.mono (l2.trans l3)) w3) (fun _ s4 q => PostU.le (l1.trans (l2.trans l3)) q) fun _ _ x => x
theorem snds_asgSlice (O : CxOk X) (E0 : TxOk T env) {v o : Expr} {lo hi : Option Expr} {e a l h' : ME} {sp tp p : Pos} (h : chkE e T v = true) (h1 : SndE X k T env o a) (h2 : SndO X k T env lo l) (h3 : SndO X k T env hi h') :
    SndS X k T env (.Assign [.Subscript o (.Slice lo hi none sp) tp] v p) (.asgSlice a l h' e) := fun A hA I J M ρ s Q R S w => by
  have hsw : swapsWith v (some (.Subscript o (.Slice lo hi none sp) tp)) p.line env = pure false := by
    cases hc : isLComp v with
    | false => exact (chkE_sound (k := k) O E0 h).sw hc _ _ _
    | true => obtain ⟨_, _, _, _, rfl⟩ := list_view hc; rfl
  refine wpAny_Assign_Subscript ((chkE_sound O E0 h).e.go hA S w fun I1 M1 ρ1 s1 v1 av1 l1 S1 r1 w1 => h1.go hA S1 w1 fun I2 M2 ρ2 s2 v2 av2 l2 S2 r2 w2 => wpAny_Slice (h2.go hA S2 w2 fun I3 M3 ρ3 s3 v3 av3 l3 S3 r3 w3 => h3.go hA S3 w3 fun I4 M4 ρ4 s4 v4 av4 l4 S4 r4 w4 => ?_)) hsw
  rw [evalPart_none]
  refine wpAny_pure ?_
  have hs := Heap.IsSliceOf.new s4.heap v3 v4 .none
  have S5 : Sat X T.tbl env I4 J M4 ρ4 { s4 with heap := s4.heap.push { cls := .type "slice", data := .fields #[v3, v4, .none] } } := S4.ext (t := s4.toks) fun _ _ e => Heap.get?_push_of_some _ e
  have L := l1.trans (l2.trans (l3.trans l4))
  exact wpAny_mono (storeSl_core S5 hs (r2.mono (l3.trans l4)) (r3.mono l4) r4 (r1.mono (l2.trans (l3.trans l4))) w4) (fun _ s6 q => PostU.le L q) fun _ _ x => x
end
end Mine
namespace Mine
section
variable {X : Cx} {k : Nat} {T : Tx} {env : Env} {tbl : List Str} {I I' J : Imm} {M M' : Mem} {ρ : Env0} {s s' : Shared} {A : Around} {prog : Program} {w : World} {E : Value → Shared → Prop}

theorem osa_dict0 {K : Frag} {C p d : Addr} {ds : List DictEntry} {n : Nat} {name : Str} {tk : Tok} {v : Value} {R : Result → Shared → Prop} (X : K.In s.heap) (I : InstAt s.heap p (instObj C d) C (some (dictOf ds n))) (D : s.heap.get? d = some (dictOf ds n))
    (hp : plainOver K C = true) (ht : takerIn K C name = some none) (hh : hasDictIn K C = true) (hl : (getL name ds).isSome = true)
    (hz : (putL name (PyData.keyHash w.params name) (.str name s.toks) v ds).length ≤ 1000)
    (h : R (.ok (.ret .none)) { s with heap := s.heap.update d (Obj.putName name (PyData.keyHash w.params name) (.str name s.toks) v), toks := s.toks + 1 }) :
    codeAny (model prog w) A (.call (.builtin "object.__setattr__") ⟨[.ref p, .str name tk, v], []⟩) R s := by
  refine osa_open X I hp ht fun b => ?_
  obtain ⟨cd, hc, hd'⟩ := any_some hh
  have e := putName_dict name (PyData.keyHash w.params name) (.str name s.toks) v ds n
  have D' : (s.heap.update d (Obj.putName name (PyData.keyHash w.params name) (.str name s.toks) v)).get? d = some (dictOf (putL name (PyData.keyHash w.params name) (.str name s.toks) v ds) (putN name ds n)) := by
    rw [← e]
    exact Heap.get?_update_self _ D (by rw [e]; rfl)
  obtain ⟨hx, hcl, hn, -⟩ := I
  refine wpAny_bind (wpAny_pure (wpAny_bind (wpAny_bind (wpAny_loadPart hx (wpAny_bind ((looks_clsIn X hc).here ?_))))))
  rw [hd']
  refine wpAny_pure (a := some d) (wpAny_bind (wpAny_pure (wpAny_bind ?_)))
  unfold nsSet
  refine wpAny_bind (wpAny_bind (wpAny_askSetting (wpAny_pure (wpAny_bind (wpAny_mkText (wpAny_bind (wpAny_loadPart D ?_)))))))
  dsimp only
  have c : (!ds.toArray.any (·.key.isStr name) && ds.toArray.any (·.refKey)) = false := by
    unfold getL at hl
    rw [← Array.any_toList, ← Array.any_toList]
    split at hl
    · rename_i en he
      rw [List.any_eq_true.mpr ⟨en, List.mem_of_find?_eq_some he, List.find?_some he⟩]; rfl
    · split at hl
      · cases hl
      · rename_i z
        rw [Bool.not_eq_true] at z
        show (!ds.any _ && ds.any _) = false
        rw [z, Bool.and_false]
  rw [aRefKeyMayBeTheName_at, c]
  refine wpAny_updatePart D ?_
  refine wpAny_bind (wpAny_lookBehind D' (pastItsLine_dict (by rw [List.size_toArray, sizeLine_eq]; exact lin [(putL name (PyData.keyHash w.params name) (Value.str name s.toks) v ds).length] [] false (.h false false (.v 0) (.l 1000) (.v 0)) (.v 0) (.l 16777217) 1 [1] (Eq.refl true) hz)) ?_)
  exact wpAny_pure h
theorem set_dict0 {K : Frag} {C p d : Addr} {ds : List DictEntry} {n : Nat} {name : Str} {v : Value} {Q : Unit → Shared → Prop} (X : K.In s.heap) (I : InstAt s.heap p (instObj C d) C (some (dictOf ds n))) (D : s.heap.get? d = some (dictOf ds n))
    (hs : findIn K (.ref C) "__setattr__" = some (some (.builtin "object.__setattr__"))) (hp : plainOver K C = true) (ht : takerIn K C name = some none) (hh : hasDictIn K C = true) (hl : (getL name ds).isSome = true)
    (hz : (putL name (PyData.keyHash w.params name) (.str name (s.toks + 1)) v ds).length ≤ 1000)
    (h : Q () { s with heap := s.heap.update d (Obj.putName name (PyData.keyHash w.params name) (.str name (s.toks + 1)) v), toks := s.toks + 2 }) : wpAny (model prog w) A (setAttr (.ref p) name v) Q E s :=
  set_plain X I hs (osa_dict0 (s := { s with toks := s.toks + 1 }) X I D hp ht hh hl hz h)

theorem getL_ok {ds : List DictEntry} {es : List (Nat × AV)} {name : Str} (r : RepE X.w.params X.C I ds es) : (getL name ds).isSome = true := by
  unfold getL
  split
  · rfl
  · rw [noRef_rep r]; rfl
theorem putL_rep {v : Value} {x : AV} {n : Nat} {t : Tok} (hn : n < 7) (h : X.Rep I v x) : ∀ {ds : List DictEntry} {es : List (Nat × AV)}, RepE X.w.params X.C I ds es → RepE X.w.params X.C I (putL (symAt n) (PyData.keyHash X.w.params (symAt n)) (.str (symAt n) t) v ds) (putD es n x)
  | _, _, .nil => .cons hn h .nil
  | _, _, .cons (k := k) (t := t') hk h1 h2 => by
    unfold putL putD
    dsimp only
    rw [isStr_eq, symInj k hk n hn]
    by_cases q : k = n
    · subst q
      rw [if_pos (by simp), if_pos rfl]
      exact .cons hk h h2
    · rw [if_neg (by simpa using q), if_neg q]
      exact .cons hk h1 (putL_rep hn h h2)
theorem putL_len (name : Str) (hsh : Int) (key v : Value) : ∀ ds : List DictEntry, (putL name hsh key v ds).length ≤ ds.length + 1
  | [] => Nat.le_refl _
  | e :: r => by
    unfold putL
    split
    · simp
    · have := putL_len name hsh key v r
      simp only [List.length_cons]; exact lin [(putL name hsh key v r).length, r.length] [] false (.h false false (.v 0) (.a (.v 1) (.l 1)) (.v 0)) (.a (.v 0) (.l 1)) (.a (.a (.v 1) (.l 1)) (.l 1)) 1 [1] (Eq.refl true) this
theorem RepE.length : ∀ {ds : List DictEntry} {es : List (Nat × AV)}, RepE X.w.params X.C I ds es → ds.length = es.length
  | _, _, .nil => rfl
  | _, _, .cons _ _ r => by rw [List.length_cons, List.length_cons, RepE.length r]
theorem setA_core {o v : Value} {ao av : AV} {n : Att} {Q : Mem → Env0 → Prop} (O : CxOk X) (S : Sat X tbl env I J M ρ s) (ro : X.Rep I o ao) (rv : X.Rep I v av) (w : wSetA ao n av Q M ρ) :
    wpAny X.mdl A (setAttr o n.name v) (fun _ => PostU X tbl env I J Q) NoE s := by
  cases ao <;> try exact w.elim
  rename_i d
  obtain ⟨es, hn, hm, hlen, q⟩ := w
  cases ro with
  | piece h1 =>
    rename_i p
    obtain ⟨⟨ds⟩, c, e, rr⟩ := S.st.mu d _ hm
    have hI : InstAt s.heap p (instObj X.C d) X.C (some (dictOf ds c)) := ⟨S.st.imm _ _ h1, rfl, rfl, e⟩
    have hk : n.name = symAt n.key ∧ 4 ≤ n.key ∧ n.key < 7 := by cases n <;> first | exact ⟨rfl, by decide, by decide⟩ | exact absurd hn (by decide)
    rw [hk.1]
    have hl : ds.length = es.length := RepE.length rr
    have ht : takerIn X.K X.C (symAt n.key) = some none := by
      unfold takerIn
      rw [O.cls.own _ hk.2.1 hk.2.2]; rfl
    refine set_dict0 (S.kin O) hI e O.cls.sa O.cls.over ht O.cls.hd (getL_ok rr) (Nat.le_trans (putL_len _ _ _ _ ds) (by exact lin [ds.length, es.length] [] false (.h false false (.v 1) (.l 3) (.h true false (.v 0) (.v 1) (.v 0))) (.a (.v 0) (.l 1)) (.l 1000) 1 [1, 1] (Eq.refl true) hlen hl)) ?_
    have e2 := putName_dict (symAt n.key) (PyData.keyHash X.w.params (symAt n.key)) (.str (symAt n.key) (s.toks + 1)) v ds c
    have D' : (s.heap.update d (Obj.putName (symAt n.key) (PyData.keyHash X.w.params (symAt n.key)) (.str (symAt n.key) (s.toks + 1)) v)).get? d = some (dictOf (putL (symAt n.key) (PyData.keyHash X.w.params (symAt n.key)) (.str (symAt n.key) (s.toks + 1)) v ds) (putN (symAt n.key) ds c)) := by
      rw [← e2]
      exact Heap.get?_update_self _ e (by rw [e2]; rfl)
    exact ⟨I, _, ρ, Le.refl I, S.update (t := s.toks + 2) (mo' := .dict (putD es n.key av)) hm (fun b hb o e => (Heap.get?_update_other _ _ (Ne.symm hb)).trans e) ⟨_, _, D', putL_rep hk.2.2 rv rr⟩, q⟩
theorem snds_asgAtt (O : CxOk X) (E0 : TxOk T env) {v o : Expr} {e a : ME} {m : Att} {tp p : Pos} (h : chkE e T v = true) (h1 : SndE X k T env o a) : SndS X k T env (.Assign [.Attribute o m.name tp] v p) (.asgAtt a m e) := fun A hA I J M ρ s Q R S w => by
  have hsw : swapsWith v (some (.Attribute o m.name tp)) p.line env = pure false := by
    cases hc : isLComp v with
    | false => exact (chkE_sound (k := k) O E0 h).sw hc _ _ _
    | true => obtain ⟨_, _, _, _, rfl⟩ := list_view hc; rfl
  refine plainObj_wpAny_Assign_Attribute ((chkE_sound O E0 h).e.go hA S w fun I1 M1 ρ1 s1 v1 av1 l1 S1 r1 w1 => h1.go hA S1 w1 fun I2 M2 ρ2 s2 v2 av2 l2 S2 r2 w2 => ?_) hsw
  exact wpAny_mono (setA_core O S2 r2 (r1.mono l2) w2) (fun _ s4 q => PostU.le (l1.trans l2) q) fun _ _ x => x
end
end Mine
namespace Mine
section
variable {X : Cx} {k : Nat} {T : Tx} {env : Env} {tbl : List Str} {I I' J : Imm} {M M' : Mem} {ρ : Env0} {s s' : Shared} {A : Around} {prog : Program} {w : World} {E : Value → Shared → Prop}

theorem snds_exp (O : CxOk X) (E0 : TxOk T env) {v : Expr} {e : ME} {p : Pos} (h : chkE e T v = true) (hc : isLComp v = false) : SndS X k T env (.Expr v p) (.exp e) := fun A hA I J M ρ s Q R S w =>
  wpAny_Expr_any ((chkE_sound O E0 h).e.go hA S w fun I1 M1 ρ1 s1 v1 av1 l1 S1 r1 w1 => ⟨I1, M1, ρ1, l1, S1, w1⟩) (by unfold interactive; rw [E0.ok.kind]; rfl) ((chkE_sound (k := k) O E0 h).sw hc _ _ _)
theorem snds_ret {v : Expr} {e : ME} {p : Pos} (h : SndE X k T env v e) : SndS X k T env (.Return (some v) p) (.ret e) := fun A hA I J M ρ s Q R S w =>
  wpAny_Return_some (h.go hA S w fun I1 M1 ρ1 s1 v1 av1 l1 S1 r1 w1 => ⟨I1, M1, ρ1, av1, l1, S1, r1, w1⟩)
theorem snds_retN {p : Pos} : SndS X k T env (.Return none p) .retN := fun A hA I J M ρ s Q R S w =>
  wpAny_Return_none ⟨I, M, ρ, .none, Le.refl I, S, .none, w⟩
theorem snds_if {c : Expr} {a b : List Stmt} {m : ME} {x y : MS} {p : Pos} (h : SndT X k T env c m) (h1 : SndB X k T env a x) (h2 : SndB X k T env b y) : SndS X k T env (.If c a b p) (.ifs m x y) := fun A hA I J M ρ s Q R S w =>
  wpAny_If (h.go hA (Q := fun t M ρ => br t (WS gAV (Spec X k) x Q R M ρ) (WS gAV (Spec X k) y Q R M ρ)) S w fun I1 M1 ρ1 s1 t l1 S1 w1 => by
    rcases br_split w1 with ⟨rfl, w1⟩ | ⟨rfl, w1⟩
    · rw [if_pos rfl]; exact wpAny_mono (h1 A hA I1 J M1 ρ1 s1 Q R S1 w1) (fun f s2 p => p.le l1) fun _ _ x => x
    · rw [if_neg Bool.false_ne_true]; exact wpAny_mono (h2 A hA I1 J M1 ρ1 s1 Q R S1 w1) (fun f s2 p => p.le l1) fun _ _ x => x)
theorem snds_aug (O : CxOk X) (E0 : TxOk T env) {x : Str} {i : Nat} {op : Operator} {o : BOp} {v : Expr} {e : ME} {xp p : Pos} (ho : op = o.py) (hx : T.store x = some i) (h : SndE X k T env v e) : SndS X k T env (.AugAssign (.Name x xp) op v p) (.aug i o e) := fun A hA I J M ρ s Q R S w => by
  obtain ⟨a, hl, w⟩ := w
  obtain ⟨hi, hk⟩ := store_ok E0 hx
  refine wpAny_AugAssign_Name (load_slot E0.ok S hi hl (E0.cls x (List.mem_of_getElem? hi)) fun old ro => ?_)
  obtain ⟨t, rfl⟩ := Rep.int_inv ro
  refine h.go hA S w fun I1 M1 ρ1 s1 v1 av1 l1 S1 r1 w1 => ?_
  obtain ⟨j, rfl, w2⟩ := wI_inv w1
  obtain ⟨u, rfl⟩ := Rep.int_inv r1
  have fin : ∀ r, Q M1 (stv ρ1 i (.int r)) → wpAny X.mdl A (storeName env x (.int r s1.toks)) (fun _ => PostF X T.tbl env I J Q R .next) NoE { s1 with toks := s1.toks + 1 } := fun r q =>
    store_slot E0.ok (S1.tok _) hi hk (.int r _) fun s2 S2 => ⟨I1, M1, _, l1, S2, q⟩
  subst ho
  cases o
  · exact P.iadd_int (fin _ w2)
  · exact P.isub_int (fin _ w2)
  all_goals exact w2.elim

theorem snds_while {c : Expr} {b : List Stmt} {m : ME} {y : MS} {p : Pos} (h : SndT X k T env c m) (h1 : SndB X k T env b y) : SndS X k T env (.While c b [] p) (.whil m y) := fun A hA I J M ρ s Q R S w => by
  obtain ⟨n, w⟩ := w
  refine wpAny_While (codeAny_whileLoop (fun n s => ∃ I' M' ρ', Le I I' ∧ Sat X T.tbl env I' J M' ρ' s ∧ wWhile (fun k' M ρ => WE gAV (Spec X k) m (fun v M ρ => wB v fun t => k' t M ρ) M ρ) (fun k' M ρ => WS gAV (Spec X k) y k' R M ρ) Q n M' ρ') ?_ n ⟨I, M, ρ, Le.refl I, S, w⟩)
  clear w S s n
  rintro n s ⟨I1, M1, ρ1, l1, S1, w⟩
  cases n with
  | zero => exact w.elim
  | succ n =>
    refine noE (h.go hA S1 w fun I2 M2 ρ2 s2 t l2 S2 w2 => ?_)
    rcases br_split w2 with ⟨rfl, w2⟩ | ⟨rfl, w2⟩
    · rw [if_pos rfl]
      refine noE (wpAny_mono (h1 A hA I2 J M2 ρ2 s2 _ R S2 w2) (fun f s3 p => ?_) fun _ _ x => x)
      cases f with
      | next => obtain ⟨I3, M3, ρ3, l3, S3, w3⟩ := p; exact ⟨n, Nat.lt_succ_self n, I3, M3, ρ3, l1.trans (l2.trans l3), S3, w3⟩
      | ret v => exact PostF.le (l1.trans l2) (f := .ret v) p
      | brk => exact p.elim
      | cont => exact p.elim
    · rw [if_neg Bool.false_ne_true]
      exact wpAny_execs_nil ⟨I2, M2, ρ2, l1.trans l2, S2, w2⟩

theorem PostF.drop {It : Addr} {o : Obj} {Q : Mem → Env0 → Prop} {R : AV → Mem → Prop} {v : Value} (jL : J It = none) (p : PostF X tbl env I (upd J It o) Q R (.ret v) s) : PostF X tbl env I J Q R (.ret v) s := by
  obtain ⟨I2, M2, ρ2, av, l, S2, r, q⟩ := p
  exact ⟨I2, M2, ρ2, av, l, (S2.dropJ jL).1, r, q⟩

structure FI (X : Cx) (k : Nat) (T : Tx) (env : Env) (y : MS) (i : Nat) (It : Addr) (av : AV) (xs : List AV) (chk : Mem → Prop) (Q : Mem → Env0 → Prop) (R : AV → Mem → Prop) (I J : Imm) (n : Nat) (s : Shared) (I' : Imm) (M' : Mem) (ρ' : Env0) (o : Obj) (j : Nat) : Prop where
  hn : n + j = xs.length + 1
  l : Le I I'
  S : Sat X T.tbl env I' J M' ρ' s
  ho : s.heap.get? It = some o
  hit : ItOk X I' av j o
  L : Lone T.tbl env I' J M' It
  w : wLoop chk (fun v k' M ρ => WS gAV (Spec X k) y k' R M (stv ρ i v)) Q (xs.drop j) M' ρ'
noncomputable def FInv (X : Cx) (k : Nat) (T : Tx) (env : Env) (y : MS) (i : Nat) (It : Addr) (av : AV) (xs : List AV) (chk : Mem → Prop) (Q : Mem → Env0 → Prop) (R : AV → Mem → Prop) (I J : Imm) (n : Nat) (s : Shared) : Prop := ∃ I' M' ρ' o j, FI X k T env y i It av xs chk Q R I J n s I' M' ρ' o j
/-- after the body -/
theorem for_next {y : MS} {i : Nat} {It : Addr} {av : AV} {xs : List AV} {chk : Mem → Prop} {Q : Mem → Env0 → Prop} {R : AV → Mem → Prop} {n j : Nat} {o o' : Obj} {s6 : Shared} (H : FI X k T env y i It av xs chk Q R I J n s I' M ρ o j) (hj : j < xs.length) (hit' : ItOk X I' av (j + 1) o')
    (p : PostU X T.tbl env I' (upd J It o') (fun M ρ => wLoop chk (fun v k' M ρ => WS gAV (Spec X k) y k' R M (stv ρ i v)) Q (xs.drop (j + 1)) M ρ) s6) : FInv X k T env y i It av xs chk Q R I J (n - 1) s6 := by
  obtain ⟨I3, M3, ρ3, l3, S6, w3⟩ := p
  have p7 := S6.dropJ H.L.j
  exact ⟨I3, M3, ρ3, o', j + 1, (lt_of_inv H.hn hj).2, H.l.trans l3, p7.1, p7.2.1, hit'.mono l3, ⟨p7.2.2.1, H.L.j, p7.2.2.2.1, p7.2.2.2.2⟩, w3⟩
theorem snds_for (O : CxOk X) (E0 : TxOk T env) {x : Str} {i : Nat} {e : Expr} {b : List Stmt} {m : ME} {y : MS} {xp p : Pos} (hx : T.store x = some i) (h : SndE X k T env e m) (hf : ∀ v, foldedSetIterable e env v = pure v) (h1 : SndB X k T env b y) :
    SndS X k T env (.For (.Name x xp) e b [] p) (.fors i m y) := fun A hA I J M ρ s Q R S w => by
  obtain ⟨hi, hk⟩ := store_ok E0 hx
  refine wpAny_For (h.go hA S w fun I1 M1 ρ1 s1 v av l1 S1 r1 ⟨xs, chk, hl, w1⟩ => ?_) hf
  refine iter_make S1 r1 hl fun o hit hchk => ?_
  have L := size_lone S1 (Nat.le_refl _)
  have S1' : Sat X T.tbl env I1 J M1 ρ1 { s1 with heap := s1.heap.push o } := S1.ext (t := s1.toks) fun _ _ e => Heap.get?_push_of_some _ e
  have g1 : (s1.heap.push o).get? s1.heap.objs.size = some o := Heap.get?_push_size _ hit.live
  generalize s1.heap.objs.size = It at L g1 ⊢
  refine codeAny_forLoop (FInv X k T env y i It av xs chk Q R I J) ?_ (xs.length + 1) ⟨I1, M1, ρ1, o, 0, rfl, l1, S1', g1, hit, L, w1⟩
  clear w1 hchk S1' g1 hit L o S1 r1
  rintro n s ⟨I2, M2, ρ2, o, j, H⟩
  have w := H.w
  cases hg : xs[j]? with
  | none =>
    rw [List.drop_eq_nil_of_le (List.getElem?_eq_none_iff.mp hg)] at w
    exact noE (iter_end hA.handled H.S hl w.1 H.ho H.hit hg fun h' hk => wpAny_execs_nil
      ⟨I2, M2, ρ2, H.l, H.S.other (t := s.toks) (a := It) (fun b hb o e => hk b o hb e) H.L.i H.L.j H.L.m H.L.f, w.2⟩)
  | some z =>
    have hj : j < xs.length := (List.getElem?_eq_some_iff.mp hg).1
    rw [drop_at hg] at w
    refine noE (iter_next H.S hl w.1 H.ho H.hit hg fun yv h' o' tk hyr hit' ho' hsb => ?_)
    have S4 := (H.S.other (a := It) (t := tk) (fun b hb o e => (hsb.2 b hb).trans e) H.L.i H.L.j H.L.m H.L.f).addJ ho' H.L.i H.L.j H.L.m H.L.f
    refine noE (wpAny_assign_Name (store_slot E0.ok S4 hi hk hyr fun s5 S5 => ?_))
    refine noE (wpAny_mono (h1 A hA I2 _ M2 _ s5 _ R S5 w.2) (fun f s6 p => ?_) fun _ _ x => x)
    cases f with
    | next => exact ⟨n - 1, (lt_of_inv H.hn hj).1, for_next H hj hit' p⟩
    | ret v => exact (PostF.drop H.L.j p).le H.l
    | brk => exact p.elim
    | cont => exact p.elim
end
end Mine
namespace Mine
section
variable {X : Cx} {k : Nat} {T : Tx} {env : Env} {tbl : List Str} {I I' J : Imm} {M M' : Mem} {ρ : Env0} {s s' : Shared} {A : Around} {prog : Program} {w : World} {E : Value → Shared → Prop}

theorem Sat.lone2 {a c : Addr} {h' : Heap} {t : Tok} (S : Sat X tbl env I J M ρ s) (hs : ∀ b o, b ≠ a → b ≠ c → s.heap.get? b = some o → h'.get? b = some o) (La : Lone tbl env I J M a) (Lc : Lone tbl env I J M c) : Sat X tbl env I J M ρ { s with heap := h', toks := t } := by
  have key : ∀ (f : Imm), f a = none → f c = none → ∀ b o, f b = some o → ∀ o', s.heap.get? b = some o' → h'.get? b = some o' := fun f fa fc b o e o' q =>
    hs b o' (fun z => by rw [z, fa] at e; cases e) (fun z => by rw [z, fc] at e; cases e) q
  refine ⟨⟨⟨fun b o e => key I La.i Lc.i b o e o (S.st.imm b o e), fun b o e => key J La.j Lc.j b o e o (S.st.frm b o e), fun b mo e => (S.st.mu b mo e).mono (Le.refl I) fun o q => hs b o (fun z => by rw [z, La.m] at e; cases e) (fun z => by rw [z, Lc.m] at e; cases e) q, S.st.ij, S.st.im, S.st.jm⟩, S.st.base⟩, ?_, S.gens, S.os⟩
  exact S.fr.ext (Le.refl I) (fun b hb o e => hs b o (ne_fa La.f hb) (ne_fa Lc.f hb) e) S.fr.free
theorem Lone.addJ {a b : Addr} {o : Obj} (L : Lone tbl env I J M a) (h : a ≠ b) : Lone tbl env I (upd J b o) M a := ⟨L.i, by rw [upd_ne h]; exact L.j, L.m, L.f⟩

theorem enum_list {it : Addr} {o : Obj} {M₀ : Mem} {v : AV} {xs : List AV} {chk : Mem → Prop} {j : Nat} (S : Sat X tbl env I J M ρ s) (hx : lists M₀ v = some xs) (hlk : looks M₀ v = some (xs, chk)) (hc : chk M) (ho : s.heap.get? it = some o) (hi : ItOk X I v j o) :
    ∃ l items n, s.heap.IsListIter it l j ∧ s.heap.get? l = some (lstO items n) ∧ X.Reps I items.toList xs ∧ (∀ j' (o' : Obj), o'.cls = .type "list_iterator" → o'.data = .fields #[.ref l, .int (j' : Nat) 0] → ItOk X I v j' o') := by
  cases v with
  | lst ys =>
    obtain ⟨l, vs, n, a, b, c, d⟩ := hi
    exact ⟨l, vs.toArray, n, ⟨o, ho, c, d⟩, S.st.imm _ _ a, Option.some.inj hx ▸ b, fun j' o' c' d' => ⟨l, vs, n, a, b, c', d'⟩⟩
  | ref a =>
    obtain ⟨ys, hm, rfl⟩ := looks_at hlk
    obtain rfl : ys = xs := MO.list.inj (Option.some.inj (hm.symm.trans (lists_at hx)))
    obtain ⟨vs, n, e, rr⟩ := S.st.mu a _ hc
    exact ⟨a, vs, n, ⟨o, ho, hi.1, hi.2⟩, e, rr, fun j' o' c' d' => ⟨c', d'⟩⟩
  | _ => exact nso hx

structure EI (X : Cx) (k : Nat) (T : Tx) (env : Env) (y : MS) (i x : Nat) (It e : Addr) (av : AV) (xs : List AV) (chk : Mem → Prop) (Q : Mem → Env0 → Prop) (R : AV → Mem → Prop) (I J : Imm) (n : Nat) (s : Shared) (I' : Imm) (M' : Mem) (ρ' : Env0) (o : Obj) (old : Value) (j : Nat) : Prop where
  hn : n + j = xs.length + 1
  l : Le I I'
  S : Sat X T.tbl env I' J M' ρ' s
  ho : s.heap.get? It = some o
  hit : ItOk X I' av j o
  en : IsEnum s.heap e It (j : Nat) old
  L : Lone T.tbl env I' J M' It
  Le : Lone T.tbl env I' J M' e
  w : wLoopE chk (fun n v k' M ρ => WS gAV (Spec X k) y k' R M (stv (stv ρ i (.int (n : Nat))) x v)) Q j (xs.drop j) M' ρ'
noncomputable def EInv (X : Cx) (k : Nat) (T : Tx) (env : Env) (y : MS) (i x : Nat) (It e : Addr) (av : AV) (xs : List AV) (chk : Mem → Prop) (Q : Mem → Env0 → Prop) (R : AV → Mem → Prop) (I J : Imm) (n : Nat) (s : Shared) : Prop := ∃ I' M' ρ' o old j, EI X k T env y i x It e av xs chk Q R I J n s I' M' ρ' o old j
section
variable {y : MS} {i x : Nat} {It e : Addr} {av : AV} {xs : List AV} {chk : Mem → Prop} {Q : Mem → Env0 → Prop} {R : AV → Mem → Prop} {n j : Nat} {o o' : Obj} {old : Value}
theorem EI.ck (H : EI X k T env y i x It e av xs chk Q R I J n s I' M ρ o old j) : chk M := by
  have w := H.w
  cases q : xs.drop j with
  | nil => rw [q] at w; exact w.1
  | cons => rw [q] at w; exact w.1
theorem enum_next {s6 : Shared} {zv : Value} (H : EI X k T env y i x It e av xs chk Q R I J n s I' M ρ o old j) (hne : e ≠ It) (hj : j < xs.length) (hit' : ItOk X I' av (j + 1) o') {oe : Obj} (hoe : ∀ h : Heap, h.get? e = some oe → IsEnum h e It ((j + 1 : Nat) : Int) zv)
    (p : PostU X T.tbl env I' (upd (upd J It o') e oe) (fun M ρ => wLoopE chk (fun n v k' M ρ => WS gAV (Spec X k) y k' R M (stv (stv ρ i (.int (n : Nat))) x v)) Q (j + 1) (xs.drop (j + 1)) M ρ) s6) : EInv X k T env y i x It e av xs chk Q R I J (n - 1) s6 := by
  obtain ⟨I3, M3, ρ3, l3, S9, w3⟩ := p
  have p10 := S9.dropJ (by rw [upd_ne hne]; exact H.Le.j)
  have p11 := p10.1.dropJ H.L.j
  exact ⟨I3, M3, ρ3, o', zv, j + 1, (lt_of_inv H.hn hj).2, H.l.trans l3, p11.1, p11.2.1, hit'.mono l3, hoe _ p10.2.1, ⟨p11.2.2.1, H.L.j, p11.2.2.2.1, p11.2.2.2.2⟩, ⟨p10.2.2.1, H.Le.j, p10.2.2.2.1, p10.2.2.2.2⟩, w3⟩
end
theorem enum_loop (E0 : TxOk T env) {xi xv : Str} {i x : Nat} {pi pv tp : Pos} {c : Nat} {b : List Stmt} {y : MS} {e It : Addr} {av : AV} {xs : List AV} {chk : Mem → Prop} {M₀ : Mem} {Q : Mem → Env0 → Prop} {R : AV → Mem → Prop} {RR : Result → Shared → Prop}
    (hA : Room k A) (h1 : SndB X k T env b y) (hxi : T.store xi = some i) (hxv : T.store xv = some x) (hne : e ≠ It) (hx : lists M₀ av = some xs) (hlk : looks M₀ av = some (xs, chk)) (hRR : ∀ f s', PostF X T.tbl env I J Q R f s' → RR (.ok f) s') :
    ∀ (n : Nat) (s : Shared), EInv X k T env y i x It e av xs chk Q R I J n s →
    codeAny X.mdl A (.forLoop (.Tuple [.Name xi pi, .Name xv pv] c tp) (.ref e) b [] env) RR s := by
  intro n s hs
  obtain ⟨ti, ki⟩ := store_ok E0 hxi
  obtain ⟨tv, kv⟩ := store_ok E0 hxv
  refine codeAny_forLoop_any (EInv X k T env y i x It e av xs chk Q R I J) ?_ n hs
  clear hs s n
  rintro n s ⟨I1, M1, ρ1, o, old, j, H⟩
  obtain ⟨l, items, cnt, hli, hl, rr, mk⟩ := enum_list H.S hx hlk H.ck H.ho H.hit
  have hll : s.heap.IsList l items := ⟨_, hl, rfl, _, rfl⟩
  have w := H.w
  cases hg : xs[j]? with
  | none =>
    rw [List.drop_eq_nil_of_le (List.getElem?_eq_none_iff.mp hg)] at w
    refine wpAny_pyNext_enum_end hA.handled H.en hli hll (by rw [← Array.getElem?_toList]; exact Reps.get_none rr j hg) fun h' hk => wpAny_execs_nil ?_
    exact hRR .next _ ⟨I1, M1, ρ1, H.l, H.S.other (t := s.toks) (a := It) (fun b hb o e => hk b o hb e) H.L.i H.L.j H.L.m H.L.f, w.2⟩
  | some z =>
    have hj : j < xs.length := (List.getElem?_eq_some_iff.mp hg).1
    rw [drop_at hg] at w
    obtain ⟨zv, hzv, hzr⟩ := rr.get hg
    refine wpAny_pyNext_enum_item H.en hli hll (x := zv) (by rw [← Array.getElem?_toList]; exact hzv) hne fun h₁ heo hit₁ ht₁ hz₁ hk₁ => ?_
    refine wpAny_letOwnedTupleGo_enum heo fun h₂ he₂ hs₂ => ?_
    replace hs₂ : Heap.SameBut e h₁ h₂ := hs₂
    have ht₂ : h₂.IsTuple s.heap.objs.size #[.int j s.toks, zv] := ⟨_, (hs₂.2 _ (Nat.ne_of_gt (Heap.lt_size H.en))).trans ht₁, rfl, _, rfl⟩
    have hz₂ : h₂.objs.size = s.heap.objs.size + 1 := hs₂.1.trans hz₁
    refine wpAny_assign_Tuple hA.handled ht₂ rfl rfl fun h₃ hx₃ => ?_
    replace hx₃ : Heap.ExtBut h₂.objs.size h₂ h₃ := hx₃
    have S4 : Sat X T.tbl env I1 J M1 ρ1 { s with heap := h₃, toks := s.toks + 1 } := ((H.S.lone2 (t := s.toks + 1) (fun b o h1 h2 q => hk₁ b o h1 h2 q) H.Le H.L).other (t := s.toks + 1) (a := e) (fun b hb o q => (hs₂.2 b hb).trans q) H.Le.i H.Le.j H.Le.m H.Le.f).ext (t := s.toks + 1) fun b o q => hx₃ b o (Nat.ne_of_lt (Heap.lt_size q)) q
    obtain ⟨o', ho', c', d'⟩ := hit₁
    have g1 : h₃.get? It = some o' := hx₃ _ _ (by rw [hz₂]; exact Nat.ne_of_lt (Nat.lt_succ_of_lt (Heap.lt_size H.ho))) ((hs₂.2 It (Ne.symm hne)).trans ho')
    have g2 : h₃.get? e = _ := hx₃ _ _ (by rw [hz₂]; exact Nat.ne_of_lt (Nat.lt_succ_of_lt (Heap.lt_size H.en))) he₂
    have jE : upd J It o' e = none := by rw [upd_ne hne]; exact H.Le.j
    have S6 := (S4.addJ g1 H.L.i H.L.j H.L.m H.L.f).addJ g2 H.Le.i jE H.Le.m H.Le.f
    show wpAny _ A (do holding [zv] (assign (.Name xi pi) env (.int j s.toks)); do holding [] (assign (.Name xv pv) env zv); pure ()) _ _ _
    refine wpAny_bind (wpAny_holding (noE (wpAny_assign_Name (store_slot E0.ok S6 ti ki (.int (j : Nat) _) fun s7 S7 => ?_))))
    refine wpAny_bind (wpAny_holding (noE (wpAny_assign_Name (store_slot E0.ok S7 tv kv hzr fun s8 S8 => wpAny_pure ?_))))
    refine noE (wpAny_mono (h1 A hA I1 _ M1 _ s8 _ R S8 w.2) (fun f s9 p => ?_) fun _ _ x => x)
    cases f with
    | next => exact ⟨n - 1, (lt_of_inv H.hn hj).1, enum_next H hne hj (mk (j + 1) o' c' d') (fun h q => (show ((j + 1 : Nat) : Int) = (j : Int) + 1 from rfl) ▸ q) p⟩
    | ret v => exact hRR (.ret v) _ ((PostF.drop H.L.j (PostF.drop jE p)).le H.l)
    | brk => exact p.elim
    | cont => exact p.elim
end
end Mine
namespace Mine
section
variable {X : Cx} {k : Nat} {T : Tx} {env : Env} {tbl : List Str} {I I' J : Imm} {M M' : Mem} {ρ : Env0} {s s' : Shared} {A : Around} {prog : Program} {w : World} {E : Value → Shared → Prop}

theorem snds_forE (O : CxOk X) (E0 : TxOk T env) {xi xv f : Str} {i x : Nat} {e : Expr} {b : List Stmt} {m : ME} {y : MS} {pi pv tp fp cp p : Pos} {c : Nat} (hg : T.isGlobal f = true) (hf : f = Str.ofString "enumerate") (hxi : T.store xi = some i) (hxv : T.store xv = some x) (h : Snd X k T env e m) (h1 : SndB X k T env b y) :
    SndS X k T env (.For (.Tuple [.Name xi pi, .Name xv pv] c tp) (.Call (.Name f fp) [e] [] cp) b [] p) (.forE i x m y) := fun A hA I J M ρ s Q R S w => by
  subst hf
  have hl : SndL X k T env [e] (.cons m .nil) := .cons h.star h.e h.t .nil
  refine wpAny_For (wpAny_Call_ofName (name_gl O E0 hg (by decide +kernel) O.eok S ?_)) (fun _ => rfl)
  refine call_with (Q := fun vs M ρ => match vs with | [y'] => ∃ xs chk, lists M y' = some xs ∧ looks M y' = some (xs, chk) ∧ wLoopE chk (fun n v k' M ρ => WS gAV (Spec X k) y k' R M (stv (stv ρ i (.int (n : Nat))) x v)) Q 0 xs M ρ | _ => False) O hA (.inr (.inl ⟨_, rfl⟩)) hl S w fun I1 M1 ρ1 s1 vs avs l1 S1 r1 w1 => ?_
  match avs, w1, r1 with
  | [av], w1, r1 =>
  obtain ⟨xs, chk, hx, hlk, w1⟩ := w1
  obtain ⟨v, rfl, rv⟩ := reps1 r1
  obtain ⟨l, items, n, rfl, hl1, rr⟩ := lists_obj S1 rv hx
  refine call_enumerate_1 hl1 fun h' hen hli hsz hk => ?_
  have S2 : Sat X T.tbl env I1 J M1 ρ1 { s1 with heap := h' } := S1.ext (t := s1.toks) hk
  refine wpAny_pyIter_enum hen ?_
  obtain ⟨o, ho, hc, hd⟩ := id hli
  have Li : Lone T.tbl env I1 J M1 s1.heap.objs.size := size_lone S1 (Nat.le_refl _)
  have Le' : Lone T.tbl env I1 J M1 (s1.heap.objs.size + 1) := size_lone S1 (Nat.le_succ _)
  have hit : ItOk X I1 av 0 o := by
    cases rv with
    | lst hI hr =>
      cases hx
      exact ⟨_, _, _, hI, hr, hc, hd⟩
    | ref a => exact ⟨hc, hd⟩
    | _ => cases hx
  exact enum_loop E0 hA h1 hxi hxv (Nat.succ_ne_self _) hx hlk (fun f s' p => p.le (Le.refl I)) (xs.length + 1) _ ⟨I1, M1, ρ1, o, .none, 0, rfl, l1, S2, ho, hit, hen, Li, Le', w1⟩

noncomputable def PSx (X : Cx) (k : Nat) (T : Tx) (env : Env) (m : MS) : Prop := (∀ s : Stmt, chkS m T s = true → SndS X k T env s m) ∧ ∀ l : List Stmt, chkB m T l = true → SndB X k T env l m
theorem ks {m : MS} (hb : ∀ l, chkB m T l = false) (h : ∀ s : Stmt, chkS m T s = true → SndS X k T env s m) : PSx X k T env m := ⟨h, fun l h' => Bool.noConfusion ((hb l).symm.trans h')⟩
theorem ks_seq (a b : MS) (h1 : PSx X k T env a) (h2 : PSx X k T env b) : PSx X k T env (.seq a b) := ⟨fun _ h => ff h, fun l h => by
  obtain ⟨s, r, rfl, g⟩ := onCons_inv h
  exact sndB_cons (h1.1 s (and2 g).1) (h2.2 r (and2 g).2)⟩
theorem ks_skip : PSx X k T env .skip := ⟨fun _ h => ff h, fun l h => by rw [nil_of h]; exact sndB_nil⟩
theorem ks_asg (O : CxOk X) (E0 : TxOk T env) (i : Nat) (e : ME) : PSx X k T env (.asg i e) := ks (fun _ => rfl) fun s h => by
  obtain ⟨t, v, p, rfl, g⟩ := onAsg_inv (f := fun t v => onName t fun x => decide (T.store x = some i) && chkE e T v) h
  obtain ⟨x, q, rfl, g1⟩ := onName_inv g
  exact snds_asg O E0 (and2 g1).2 (of_decide_eq_true (and2 g1).1)
theorem ks_asgT (O : CxOk X) (E0 : TxOk T env) (is : List Nat) (e : ME) : PSx X k T env (.asgT is e) := ks (fun _ => rfl) fun s h => by
  obtain ⟨t, v, p, rfl, g⟩ := onAsg_inv (f := fun t v => onTup t fun ts => tupOk v && (chkN T is ts && (decide is.Nodup && chkE e T v))) h
  obtain ⟨ts, n, q, rfl, g1⟩ := onTup_inv g
  have a := and2 (and2 g1).2
  have b := and2 a.2
  exact snds_asgT O E0 b.2 a.1 (and2 g1).1 (of_decide_eq_true b.1)
theorem ks_asgSub (O : CxOk X) (E0 : TxOk T env) (o i e : ME) : PSx X k T env (.asgSub o i e) := ks (fun _ => rfl) fun s h => by
  obtain ⟨t, v, p, rfl, g⟩ := onAsg_inv (f := fun t v => onSub t fun x y => chkE o T x && (chkE i T y && chkE e T v)) h
  obtain ⟨x, y, q, rfl, g1⟩ := onSub_inv g
  have a := and2 (and2 g1).2
  exact snds_asgSub O E0 a.2 (chkE_sound O E0 (and2 g1).1).e (chkE_sound O E0 a.1).e
theorem ks_asgSlice (O : CxOk X) (E0 : TxOk T env) (o lo hi e : ME) : PSx X k T env (.asgSlice o lo hi e) := ks (fun _ => rfl) fun s h => by
  obtain ⟨t, v, p, rfl, g⟩ := onAsg_inv (f := fun t v => onSub t fun x y => onSlice y fun l h st => st.isNone && (chkE o T x && (onOpt l (isCN lo) (chkE lo T) && (onOpt h (isCN hi) (chkE hi T) && chkE e T v)))) h
  obtain ⟨x, y, q, rfl, g1⟩ := onSub_inv g
  obtain ⟨l, u, st, r, rfl, g2⟩ := onSlice_inv g1
  obtain rfl := Option.isNone_iff_eq_none.mp (and2 g2).1
  have a := and2 (and2 g2).2
  have b := and2 a.2
  have c := and2 b.2
  exact snds_asgSlice O E0 c.2 (chkE_sound O E0 a.1).e (ck_opt (chkE_all O lo) E0 b.1) (ck_opt (chkE_all O hi) E0 c.1)
theorem ks_asgAtt (O : CxOk X) (E0 : TxOk T env) (o : ME) (n : Att) (e : ME) : PSx X k T env (.asgAtt o n e) := ks (fun _ => rfl) fun s h => by
  obtain ⟨t, v, p, rfl, g⟩ := onAsg_inv (f := fun t v => onAtt t fun x a _ => decide (a = n.name) && (chkE o T x && chkE e T v)) h
  obtain ⟨x, y, q, rfl, g1⟩ := onAtt_inv g
  obtain rfl := of_decide_eq_true (and2 g1).1
  have a := and2 (and2 g1).2
  exact snds_asgAtt O E0 a.2 (chkE_sound O E0 a.1).e
theorem ks_aug (O : CxOk X) (E0 : TxOk T env) (i : Nat) (o : BOp) (e : ME) : PSx X k T env (.aug i o e) := ks (fun _ => rfl) fun s h => by
  obtain ⟨t, op, v, p, rfl, g⟩ := onAug_inv (f := fun t op v => onName t fun x => decide (T.store x = some i) && (decide (op = o.py) && chkE e T v)) h
  obtain ⟨x, q, rfl, g1⟩ := onName_inv g
  have a := and2 (and2 g1).2
  exact snds_aug O E0 (of_decide_eq_true a.1) (of_decide_eq_true (and2 g1).1) (chkE_sound O E0 a.2).e
theorem ks_exp (O : CxOk X) (E0 : TxOk T env) (e : ME) : PSx X k T env (.exp e) := ks (fun _ => rfl) fun s h => by
  obtain ⟨v, p, rfl, g⟩ := onExp_inv (f := fun v => !isLComp v && chkE e T v) h
  exact snds_exp O E0 (and2 g).2 (not_of (and2 g).1)
theorem ks_ifs (O : CxOk X) (E0 : TxOk T env) (c : ME) (a b : MS) (h1 : PSx X k T env a) (h2 : PSx X k T env b) : PSx X k T env (.ifs c a b) := ks (fun _ => rfl) fun s h => by
  obtain ⟨v, x, y, p, rfl, g⟩ := onIfs_inv (f := fun x y z => chkE c T x && (chkB a T y && chkB b T z)) h
  have a := and2 (and2 g).2
  exact snds_if (chkE_sound O E0 (and2 g).1).t (h1.2 _ a.1) (h2.2 _ a.2)
theorem ks_fors (O : CxOk X) (E0 : TxOk T env) (i : Nat) (e : ME) (b : MS) (h1 : PSx X k T env b) : PSx X k T env (.fors i e b) := ks (fun _ => rfl) fun s h => by
  obtain ⟨t, v, y, p, rfl, g⟩ := onFor_inv (f := fun t it y => onName t fun x => decide (T.store x = some i) && (chkE e T it && chkB b T y)) h
  obtain ⟨x, q, rfl, g1⟩ := onName_inv g
  have a := and2 (and2 g1).2
  have i := chkE_sound (k := k) O E0 a.1
  exact snds_for O E0 (of_decide_eq_true (and2 g1).1) i.e (fun v => i.set.2 env v) (h1.2 _ a.2)
theorem names1 {x : Nat} {ts : List Expr} (h : chkN T [x] ts = true) : ∃ x1 p1, ts = [.Name x1 p1] ∧ T.store x1 = some x := by
  obtain ⟨t1, r1, rfl, g5⟩ := onCons_inv h
  obtain ⟨x1, p1, rfl, g6⟩ := onName_inv g5
  obtain rfl := nil_of (and2 g6).2
  exact ⟨x1, p1, rfl, of_decide_eq_true (and2 g6).1⟩
theorem names2 {i x : Nat} {ts : List Expr} (h : chkN T [i, x] ts = true) : ∃ x1 p1 x2 p2, ts = [.Name x1 p1, .Name x2 p2] ∧ T.store x1 = some i ∧ T.store x2 = some x := by
  obtain ⟨t1, r1, rfl, g5⟩ := onCons_inv h
  obtain ⟨x1, p1, rfl, g6⟩ := onName_inv g5
  obtain ⟨x2, p2, rfl, s2⟩ := names1 (and2 g6).2
  exact ⟨x1, p1, x2, p2, rfl, of_decide_eq_true (and2 g6).1, s2⟩
theorem ks_forE (O : CxOk X) (E0 : TxOk T env) (i x : Nat) (e : ME) (b : MS) (h1 : PSx X k T env b) : PSx X k T env (.forE i x e b) := ks (fun _ => rfl) fun s h => by
  obtain ⟨t, v, y, p, rfl, g⟩ := onFor_inv (f := fun t it y => onTup t fun ts => onCall it fun g l kw _ => kw.isEmpty && onName g fun f => T.isGlobal f && (decide (f = Str.ofString "enumerate") && (chkN T [i, x] ts && (onOne l (chkE e T) && chkB b T y)))) h
  obtain ⟨ts, n, q, rfl, g1⟩ := onTup_inv g
  obtain ⟨gx, l, kw, cp, rfl, g2⟩ := onCall_inv g1
  obtain rfl := nil_of (and2 g2).1
  obtain ⟨f, fp, rfl, g3⟩ := onName_inv (and2 g2).2
  have a := and2 (and2 g3).2
  have b := and2 a.2
  have c := and2 b.2
  obtain ⟨v, rfl, g4⟩ := onOne_inv c.1
  obtain ⟨x1, p1, x2, p2, rfl, s1, s2⟩ := names2 b.1
  exact snds_forE O E0 (and2 g3).1 (of_decide_eq_true a.1) s1 s2 (chkE_sound O E0 g4) (h1.2 _ c.2)
theorem ks_whil (O : CxOk X) (E0 : TxOk T env) (c : ME) (b : MS) (h1 : PSx X k T env b) : PSx X k T env (.whil c b) := ks (fun _ => rfl) fun s h => by
  obtain ⟨v, y, p, rfl, g⟩ := onWhile_inv (f := fun x y => chkE c T x && chkB b T y) h
  exact snds_while (chkE_sound O E0 (and2 g).1).t (h1.2 _ (and2 g).2)
theorem ks_ret (O : CxOk X) (E0 : TxOk T env) (e : ME) : PSx X k T env (.ret e) := ks (fun _ => rfl) fun s h => by
  obtain ⟨o, p, rfl, g⟩ := onRet_inv (f := fun v => onOpt v false (chkE e T)) h
  obtain ⟨v, rfl, g1⟩ := onOpt_inv g
  exact snds_ret (chkE_sound O E0 g1).e
theorem ks_retN : PSx X k T env .retN := ks (fun _ => rfl) fun s h => by
  obtain ⟨o, p, rfl, g⟩ := onRet_inv (f := fun v => v.isNone) h
  obtain rfl := Option.isNone_iff_eq_none.mp g
  exact snds_retN
theorem chkB_sound (O : CxOk X) (E0 : TxOk T env) {b : List Stmt} {m : MS} (h : chkB m T b = true) : SndB X k T env b m :=
  (@MS.rec (PSx X k T env) ks_skip ks_seq (ks_asg O E0) (ks_asgT O E0) (ks_asgSub O E0) (ks_asgSlice O E0) (ks_asgAtt O E0) (ks_aug O E0) (ks_exp O E0) (ks_ifs O E0) (ks_fors O E0) (ks_forE O E0) (ks_whil O E0) (ks_ret O E0) ks_retN m).2 b h
end
end Mine
namespace Mine

theorem zip_lookup : ∀ {names : List Str} {vals : List Value}, names.Nodup → ∀ {i : Nat} {x : Str} {v : Value}, names[i]? = some x → vals[i]? = some v → (names.zip vals).lookup x = some v
  | [], _, _, _, _, _, h, _ => by simp at h
  | _ :: _, [], _, _, _, _, _, h => by simp at h
  | n :: ns, w :: ws, hd, 0, x, v, h1, h2 => by
    simp only [List.getElem?_cons_zero, Option.some.injEq] at h1 h2
    subst h1 h2
    rw [List.zip_cons_cons, List.lookup_cons, beq_self_eq_true]
  | n :: ns, w :: ws, hd, i + 1, x, v, h1, h2 => by
    simp only [List.getElem?_cons_succ] at h1 h2
    rw [List.nodup_cons] at hd
    have hne : (x == n) = false := beq_eq_false_iff_ne.mpr fun q => hd.1 (q ▸ List.mem_of_getElem? h1)
    rw [List.zip_cons_cons, List.lookup_cons, hne]
    exact zip_lookup hd.2 h1 h2
theorem zip_filterMap {big : List (Str × Value)} : ∀ {names : List Str} {vals : List Value}, vals.length = names.length → (∀ (i : Nat) (x : Str) (v : Value), names[i]? = some x → vals[i]? = some v → big.lookup x = some v) → names.filterMap (fun n => (big.lookup n).map (n, ·)) = names.zip vals
  | [], [], _, _ => rfl
  | n :: ns, w :: ws, hl, h => by
    rw [List.filterMap_cons_some (b := (n, w)) (by rw [h 0 n w rfl rfl]; rfl), List.zip_cons_cons, zip_filterMap (by simpa using hl) fun i x v h1 h2 => h (i + 1) x v h1 h2]
theorem zip_some {big : List (Str × Value)} {names : List Str} {vals : List Value} (hl : vals.length = names.length) (h : ∀ (i : Nat) (x : Str) (v : Value), names[i]? = some x → vals[i]? = some v → big.lookup x = some v) : ∀ x ∈ names, (big.lookup x).isNone = false := fun x hx => by
  obtain ⟨i, hi, rfl⟩ := List.getElem_of_mem hx
  rw [h i _ vals[i] (List.getElem?_eq_getElem hi) (List.getElem?_eq_getElem (hl ▸ hi))]; rfl
theorem seqItems_none : seqItems? .none = pure none := rfl
theorem bind_plain {fd : FuncData} {ar : List Arg} {kd : List (Option Expr)} {df : List Expr} {vals : List Value} (hp : fd.params = ⟨[], ar, none, [], kd, none, df⟩) (h5 : fd.defaults = .none) (hl : vals.length = ar.length) (hn : (ar.map (·.arg)).Nodup) :
    bindArgs fd ⟨vals, []⟩ = pure ((ar.map (·.arg)).zip vals) := by
  unfold bindArgs
  rw [hp, h5, seqItems_none]
  have hg : ¬ (decide (vals.length > (List.map (·.arg) ar).length) && (none : Option Arg).isNone) = true := by simp [hl]
  simp only [List.map_nil, List.nil_append, List.append_nil, List.forIn_nil, pure_bind, Option.getD_none]
  rw [if_neg hg]
  have hl' : vals.length = (ar.map (·.arg)).length := by simpa using hl
  generalize List.map (·.arg) ar = names at hn hl' ⊢
  have hz := fun i x v h1 h2 => zip_lookup hn (vals := vals) (i := i) (x := x) (v := v) h1 h2
  have e1 : ∀ l : List Str, (∀ x ∈ l, x ∈ names) → List.filter (fun n => (List.lookup n (names.zip vals)).isNone) l = [] := fun l hl => List.filter_eq_nil_iff.mpr fun x hx => by rw [zip_some hl' hz x (hl x hx)]; exact Bool.false_ne_true
  rw [e1 _ fun x hx => List.mem_of_mem_take hx]
  simp only [List.isEmpty_nil, Bool.not_true, Bool.false_eq_true, if_false, List.drop_nil, List.zip_nil_right, List.forIn_nil, pure_bind]
  rw [zip_filterMap hl' hz]

/-! a function of K -/
noncomputable def fdIn (K : Frag) (v : Value) : Option FuncData := match v with
  | .ref a => (match K.lookup a with
    | some ⟨_, _, .func fd, _⟩ => some fd
    | _ => none)
  | _ => none
theorem fdIn_inv {K : Frag} {v : Value} {fd : FuncData} (h : fdIn K v = some fd) : ∃ a oc od osl, v = .ref a ∧ K.lookup a = some ⟨oc, od, .func fd, osl⟩ := by
  unfold fdIn at h
  split at h
  · rename_i a
    split at h
    · rename_i oc od fd' osl e
      cases h; exact ⟨a, oc, od, osl, rfl, e⟩
    · cases h
  · cases h
noncomputable def noneV : Value → Bool
  | .none => true
  | _ => false
theorem noneV_inv {v : Value} (h : noneV v = true) : v = .none := by
  cases v <;> first
    | rfl
    | exact ff h
noncomputable def parOk (p : Arguments) (ps : List Str) : Bool := p.posonlyargs.isEmpty && (p.vararg.isNone && (p.kwonlyargs.isEmpty && (p.kwarg.isNone && decide (p.args.map (·.arg) = ps))))
theorem parOk_inv {p : Arguments} {ps : List Str} (h : parOk p ps = true) : ∃ ar kd df, p = ⟨[], ar, none, [], kd, none, df⟩ ∧ ar.map (·.arg) = ps := by
  obtain ⟨a, ar, b, c, kd, d, df⟩ := p
  have h1 := and2 h
  have h2 := and2 h1.2
  have h3 := and2 h2.2
  have h4 := and2 h3.2
  obtain rfl : a = [] := nil_of h1.1
  obtain rfl : b = none := Option.isNone_iff_eq_none.mp h2.1
  obtain rfl : c = [] := nil_of h3.1
  obtain rfl : d = none := Option.isNone_iff_eq_none.mp h4.1
  exact ⟨ar, kd, df, rfl, of_decide_eq_true h4.2⟩
noncomputable def fnChk (K : Frag) (fd : FuncData) (ps tbl : List Str) : Bool :=
  decide (fd.globals = mainGlobals) && (decide (fd.builtins = builtinsNs) && (fd.closure.isEmpty && (decide (fd.scope.kind = .function) && (!fd.scope.isCoroutine && (!fd.scope.isGenerator && (codeIn K fd.code fd.qualname &&
  (decide tbl.Nodup && (tbl.all (fun x => !(x == ("__debug__" : Str)) && !(x == ("__classdict__" : Str))) && decide (tbl.take ps.length = ps)))))))))
structure FnOk (K : Frag) (fd : FuncData) (ps tbl : List Str) : Prop where
  g : fd.globals = mainGlobals
  b : fd.builtins = builtinsNs
  c : fd.closure = []
  k : fd.scope.kind = .function
  co : fd.scope.isCoroutine = false
  ge : fd.scope.isGenerator = false
  code : codeIn K fd.code fd.qualname = true
  nodup : tbl.Nodup
  dbg : ∀ x ∈ tbl, (x == ("__debug__" : Str)) = false
  cls : ∀ x ∈ tbl, (x == ("__classdict__" : Str)) = false
  take : tbl.take ps.length = ps
theorem fnChk_ok {K : Frag} {fd : FuncData} {ps tbl : List Str} (h : fnChk K fd ps tbl = true) : FnOk K fd ps tbl :=
  let h1 := and2 h
  let h2 := and2 h1.2
  let h3 := and2 h2.2
  let h4 := and2 h3.2
  let h5 := and2 h4.2
  let h6 := and2 h5.2
  let h7 := and2 h6.2
  let h8 := and2 h7.2
  let h9 := and2 h8.2
  ⟨of_decide_eq_true h1.1, of_decide_eq_true h2.1, nil_of h3.1, of_decide_eq_true h4.1, not_of h5.1, not_of h6.1, h7.1, of_decide_eq_true h8.1, fun x hx => not_of (and2 (List.all_eq_true.mp h9.1 x hx)).1, fun x hx => not_of (and2 (List.all_eq_true.mp h9.1 x hx)).2, of_decide_eq_true h9.2⟩
noncomputable def onBody (b : FuncBody) (f : List Stmt → Bool) : Bool := match b with
  | .stmts l => f l
  | _ => false
theorem onBody_inv {b : FuncBody} {f : List Stmt → Bool} (h : onBody b f = true) : ∃ l, b = .stmts l ∧ f l = true := match b, h with
  | .stmts l, h => ⟨l, rfl, h⟩
noncomputable def fnCk (K : Frag) (v : Value) (ps tbl : List Str) (m : MS) : Bool := onOpt (fdIn K v) false fun fd => fnChk K fd ps tbl && (noneV fd.defaults && (parOk fd.params ps && (decide (fd.scope.names.map (·.1)).Nodup && (ps.all (fun x => decide (fd.scope.names.lookup x = some .local) || decide (fd.scope.names.lookup x = some .cell)) &&
  onBody fd.body (chkB m ⟨tbl, fd.scope.names⟩)))))

theorem bindL_not {f : Str → Option NameKind} {x : Str} : ∀ {l : List (Str × Value)} {m : Str → Option Value}, x ∉ l.map (·.1) → bindL f l m x = m x
  | [], _, _ => rfl
  | (n, v) :: r, m, h => by
    unfold bindL
    rw [bindL_not fun q => h (List.mem_cons_of_mem _ q)]
    split
    · exact if_neg fun (q : x = n) => h (by rw [q]; exact List.mem_cons_self)
    · rfl
theorem bindC_not {f : Str → Option NameKind} {x : Str} : ∀ {l : List (Str × Value)} {m : Str → Option Value}, x ∉ l.map (·.1) → bindC f l m x = m x
  | [], _, _ => rfl
  | (n, v) :: r, m, h => by
    unfold bindC
    rw [bindC_not fun q => h (List.mem_cons_of_mem _ q)]
    split
    · rfl
    · exact if_neg fun (q : x = n) => h (by rw [q]; exact List.mem_cons_self)
theorem zip_names : ∀ {names : List Str} {vals : List Value} {x : Str}, x ∈ (names.zip vals).map (·.1) → x ∈ names
  | [], _, _, h => by simp at h
  | _ :: _, [], _, h => by simp at h
  | n :: ns, w :: ws, x, h => by
    rw [List.zip_cons_cons, List.map_cons] at h
    rcases List.mem_cons.mp h with h | h
    · exact h ▸ List.mem_cons_self
    · exact List.mem_cons_of_mem _ (zip_names h)
theorem bindL_at {f : Str → Option NameKind} : ∀ {names : List Str} {vals : List Value} {m : Str → Option Value}, names.Nodup → ∀ {i : Nat} {x : Str} {v : Value}, names[i]? = some x → vals[i]? = some v → f x = some .local → bindL f (names.zip vals) m x = some v
  | [], _, _, _, _, _, _, h, _, _ => by simp at h
  | _ :: _, [], _, _, _, _, _, _, h, _ => by simp at h
  | n :: ns, w :: ws, m, hd, 0, x, v, h1, h2, hf => by
    simp only [List.getElem?_cons_zero, Option.some.injEq] at h1 h2
    subst h1 h2
    rw [List.zip_cons_cons]
    unfold bindL
    rw [bindL_not fun q => (List.nodup_cons.mp hd).1 (zip_names q), if_pos hf, if_pos rfl]
  | n :: ns, w :: ws, m, hd, i + 1, x, v, h1, h2, hf => by
    simp only [List.getElem?_cons_succ] at h1 h2
    rw [List.zip_cons_cons]
    unfold bindL
    exact bindL_at (List.nodup_cons.mp hd).2 h1 h2 hf
theorem bindC_at {f : Str → Option NameKind} : ∀ {names : List Str} {vals : List Value} {m : Str → Option Value}, names.Nodup → ∀ {i : Nat} {x : Str} {v : Value}, names[i]? = some x → vals[i]? = some v → f x ≠ some .local → bindC f (names.zip vals) m x = some v
  | [], _, _, _, _, _, _, h, _, _ => by simp at h
  | _ :: _, [], _, _, _, _, _, _, h, _ => by simp at h
  | n :: ns, w :: ws, m, hd, 0, x, v, h1, h2, hf => by
    simp only [List.getElem?_cons_zero, Option.some.injEq] at h1 h2
    subst h1 h2
    rw [List.zip_cons_cons]
    unfold bindC
    rw [bindC_not fun q => (List.nodup_cons.mp hd).1 (zip_names q), if_neg hf, if_pos rfl]
  | n :: ns, w :: ws, m, hd, i + 1, x, v, h1, h2, hf => by
    simp only [List.getElem?_cons_succ] at h1 h2
    rw [List.zip_cons_cons]
    unfold bindC
    exact bindC_at (List.nodup_cons.mp hd).2 h1 h2 hf
theorem cells_keys : ∀ (names : List (Str × NameKind)) (n : Nat) (acc : List (Str × Addr)), (cellsFrom n names acc).map (·.1) = ((names.filter (·.2 == .cell)).map (·.1)).reverse ++ acc.map (·.1)
  | [], _, _ => rfl
  | (name, kind) :: r, n, acc => by
    unfold cellsFrom
    split
    · rename_i h
      rw [cells_keys r, List.filter_cons_of_pos (p := fun x : Str × NameKind => x.2 == NameKind.cell) h]
      simp
    · rename_i h
      rw [cells_keys r, List.filter_cons_of_neg (p := fun x : Str × NameKind => x.2 == NameKind.cell) h]
theorem cells_nodup {names : List (Str × NameKind)} (h : (names.map (·.1)).Nodup) (n : Nat) : ((cellsFrom n names []).map (·.1)).Nodup := by
  rw [cells_keys]
  simp only [List.map_nil, List.append_nil]
  exact List.Perm.nodup (List.reverse_perm _).symm (List.Sublist.nodup (List.Sublist.map _ List.filter_sublist) h)
theorem lookup_nodup {l : List (Str × Addr)} (h : (l.map (·.1)).Nodup) {p : Str × Addr} (hp : p ∈ l) : l.lookup p.1 = some p.2 := by
  induction l with
  | nil => cases hp
  | cons q r ih =>
    obtain ⟨n, a⟩ := q
    rw [List.map_cons, List.nodup_cons] at h
    rcases List.mem_cons.mp hp with rfl | hp
    · rw [List.lookup_cons, beq_self_eq_true]
    · have : (p.1 == n) = false := beq_eq_false_iff_ne.mpr fun z => h.1 (List.mem_map.mpr ⟨p, hp, z⟩)
      rw [List.lookup_cons, this]; exact ih h.2 hp
theorem cells_some {names : List (Str × NameKind)} {x : Str} (n : Nat) (h : names.lookup x = some .cell) : ((cellsFrom n names []).lookup x).isSome = true := by
  have hm : x ∈ (cellsFrom n names []).map (·.1) := by
    rw [cells_keys]
    simp only [List.map_nil, List.append_nil, List.mem_reverse]
    exact List.mem_map.mpr ⟨(x, .cell), List.mem_filter.mpr ⟨mem_of_lookupK h, rfl⟩, rfl⟩
  obtain ⟨p, hp, rfl⟩ := List.mem_map.mp hm
  obtain ⟨c, hc⟩ := lookup_exists (x := p.1) ⟨p.2, hp⟩
  rw [hc]; rfl

section
variable {X : Cx}
/-- what may be frozen at the end: every reading of the one is a reading of the other -/
noncomputable def Gh (X : Cx) (v : AV) (M : Mem) (v' : AV) (M' : Mem) : Prop := ∀ I J h val, St X I J M h → X.Rep I val v → ∃ I', Le I I' ∧ St X I' J M' h ∧ X.Rep I' val v'
theorem Gh.refl {v : AV} {M : Mem} : Gh X v M v M := fun I _ _ _ S r => ⟨I, Le.refl I, S, r⟩
theorem Gh.trans {v v' v'' : AV} {M M' M'' : Mem} (a : Gh X v M v' M') (b : Gh X v' M' v'' M'') : Gh X v M v'' M'' := fun I J h val S r => by
  obtain ⟨I1, l1, S1, r1⟩ := a I J h val S r
  obtain ⟨I2, l2, S2, r2⟩ := b I1 J h val S1 r1
  exact ⟨I2, l1.trans l2, S2, r2⟩

theorem lk_args : ∀ (avs : List AV) (m i : Nat) (av : AV), lk (avs.map some ++ List.replicate m none) i = some av → avs[i]? = some av
  | [], m, i, av, h => by
    exfalso
    rw [List.map_nil, List.nil_append] at h
    induction m generalizing i with
    | zero => cases h
    | succ m ih => cases i with
      | zero => cases h
      | succ i => exact ih i h
  | a :: r, m, 0, av, h => h
  | a :: r, m, i + 1, av, h => lk_args r m i av h

theorem fresh_none {I J : Imm} {M : Mem} {h : Heap} {b : Addr} (S : St X I J M h) (hb : h.objs.size ≤ b) : I b = none ∧ J b = none ∧ M b = none := by
  have nb : h.get? b = none := by
    cases q : h.get? b with
    | none => rfl
    | some o => exact absurd (Heap.lt_size q) (Nat.not_lt.mpr hb)
  refine ⟨?_, ?_, ?_⟩
  · cases q : I b with
    | none => rfl
    | some o => have := S.imm _ _ q; rw [nb] at this; cases this
  · cases q : J b with
    | none => rfl
    | some o => have := S.frm _ _ q; rw [nb] at this; cases this
  · cases q : M b with
    | none => rfl
    | some o => obtain ⟨o', e⟩ := (S.mu _ _ q).get; rw [nb] at e; cases e
theorem fn_entry {k n : Nat} {f : Value} {ps tbl : List Str} {m : MS} {avs : List AV} {M : Mem} {Q : AV → Mem → Prop} (O : CxOk X) (hf : fnVal X n = some f) (ht : fnCk X.K f ps tbl m = true) (hl : avs.length = ps.length)
    (w : WS gAV (Spec X k) m (fun M' _ => ∃ v' M'', Gh X .none M' v' M'' ∧ Q v' M'') (fun v M' => ∃ v' M'', Gh X v M' v' M'' ∧ Q v' M'') M (avs.map some ++ List.replicate (tbl.length - ps.length) none)) : Spec X (k + 1) n avs M Q := by
  obtain ⟨fd, hfd, g0⟩ := onOpt_inv ht
  obtain ⟨a, oc, od, osl, rfl, ho⟩ := fdIn_inv hfd
  have F := fnChk_ok (and2 g0).1
  have g1 := and2 (and2 g0).2
  have c4 := noneV_inv g1.1
  have g2 := and2 g1.2
  obtain ⟨ar, kd, df, e9, e9'⟩ := parOk_inv g2.1
  have g3 := and2 g2.2
  have c13 := of_decide_eq_true g3.1
  have g4 := and2 g3.2
  have c14 := List.all_eq_true.mp g4.1
  obtain ⟨b, hb, ht⟩ := onBody_inv g4.2
  clear g4 g3 g2 g1 g0 hfd
  have hps : ps.Nodup := by
    have := List.Sublist.nodup (List.take_sublist ps.length tbl) F.nodup
    rwa [F.take] at this
  refine ⟨fun A hA I J s f' ws hf' S hg hos hr => ?_⟩
  rw [hf] at hf'; cases hf'
  have hk : X.K.In s.heap := fun b o e => S.heap b o (O.kin b o e)
  have hlen : ws.length = ps.length := (Reps.length hr).trans hl
  have hkindA : ∀ x ∈ ps, fd.scope.names.lookup x = some .local ∨ fd.scope.names.lookup x = some .cell := fun x hx => (Bool.or_eq_true_iff.mp (c14 x hx)).imp of_decide_eq_true of_decide_eq_true
  have hzl : ∀ x ∈ ps.zip ws, x.1 ∈ ps := fun x hx => zip_names (List.mem_map_of_mem hx)
  refine codeAny_call_cells (binds := ps.zip ws) (by have := hA.depth; exact lin [A.depth, recursionLimit, k] [] false (.h false false (.a (.a (.v 0) (.a (.v 2) (.l 1))) (.l 1)) (.v 1) (.v 0)) (.a (.v 0) (.l 1)) (.v 1) 1 [1] (Eq.refl true) this) (hk _ _ ho) rfl (O.lim.keeps S.heap) (codeRec_of hk F.code) hb ?_ F.c (fun x hx => ?_) (fun s₁ x₁ => ?_) F.co F.ge F.k
  · rw [← e9']
    refine bind_plain e9 c4 ?_ ?_
    · rw [hlen, ← e9']; simp
    · rw [e9']; exact hps
  · rcases hkindA x.1 (hzl x hx) with h | h
    · exact .inl h
    · exact .inr ⟨h, cells_some _ h⟩
  · have hsc : (callEnvC fd s.heap.objs.size a).scope = fd.scope := rfl
    have hgl : (callEnvC fd s.heap.objs.size a).globals = mainGlobals := F.g
    have hbi : (callEnvC fd s.heap.objs.size a).builtins = builtinsNs := F.b
    have hce : ∀ x, fd.scope.names.lookup x = some .cell → ((callEnvC fd s.heap.objs.size a).cells.lookup x).isSome = true := fun x h => cells_some _ h
    have hcn : (((callEnvC fd s.heap.objs.size a).cells).map (·.1)).Nodup := cells_nodup c13 _
    generalize callEnvC fd s.heap.objs.size a = env at x₁ hsc hgl hbi hce hcn ⊢
    have E0 : TxOk ⟨tbl, fd.scope.names⟩ env := {
      ok := { kind := by rw [hsc]; exact F.k, gl := hgl, bi := hbi, nodup := F.nodup, apart := x₁.apart, ne := fun p hp => Nat.ne_of_gt (x₁.above p.1 p.2 hp), dbg := F.dbg }
      names := by rw [hsc]
      cls := F.cls
      cells := hce }
    have hko : ∀ x, env.kindOf x = fd.scope.names.lookup x := fun x => by unfold Env.kindOf; rw [hsc]
    have hkeep := x₁.toInCall.keep
    have hfr : ∀ a ∈ FA env, s.heap.objs.size ≤ a := fun a ha => by
      rcases List.mem_cons.mp ha with rfl | ha
      · exact x₁.toInCall.fresh
      · obtain ⟨p, hp, rfl⟩ := List.mem_map.mp ha
        exact Nat.le_trans x₁.toInCall.fresh (Nat.le_of_lt (x₁.above p.1 p.2 hp))
    have S1 : Sat X tbl env I J M (avs.map some ++ List.replicate (tbl.length - ps.length) none) s₁ := by
      obtain ⟨h1, tk, rfl⟩ := x₁.toInCall.same
      refine ⟨S.ext hkeep, ⟨⟨_, x₁.toInCall.ns, fun i x av hx hv => ?_⟩, fun p hp => ⟨_, x₁.cell p.1 p.2 (lookup_nodup hcn hp)⟩, fun b hb => ?_⟩, hg, hos⟩
      · have hav := lk_args _ _ _ _ hv
        have hi : i < ps.length := by rw [← hl]; exact (List.getElem?_eq_some_iff.mp hav).1
        have hpx : ps[i]? = some x := by
          rw [← F.take, List.getElem?_take, if_pos hi]; exact hx
        obtain ⟨v, hv1, hv2⟩ := Reps.get hr hav
        have hxm : x ∈ ps := List.mem_of_getElem? hpx
        rcases hkindA x hxm with hk' | hk'
        · exact .inl ⟨by rw [hko]; exact hk', v, bindL_at hps hpx hv1 (by rw [hko]; exact hk'), hv2⟩
        · obtain ⟨c, hc⟩ := Option.isSome_iff_exists.mp (hce x hk')
          refine .inr ⟨.inl (by rw [hko]; exact hk'), c, v, hc, ?_, hv2⟩
          have := x₁.cell x c hc
          rwa [bindC_at hps hpx hv1 (by rw [hko, hk']; decide)] at this
      · exact fresh_none S (hfr b hb)
    refine wpAny_mono (chkB_sound (T := ⟨tbl, fd.scope.names⟩) O E0 ht (A.deeper env) hA.deeper I J M _ s₁ _ _ S1 w) (fun fl s' p => ?_) fun _ _ x => x.elim
    cases fl with
    | next =>
      obtain ⟨I1, M1, ρ1, l1, S2, v', M'', hgh, q⟩ := p
      obtain ⟨I2, l2, S3, r3⟩ := hgh I1 J s'.heap .none S2.st .none
      exact ⟨I2, M'', v', l1.trans l2, S3, S2.gens, S2.os, r3, q⟩
    | ret v =>
      obtain ⟨I1, M1, ρ1, av, l1, S2, r2, v', M'', hgh, q⟩ := p
      obtain ⟨I2, l2, S3, r3⟩ := hgh I1 J s'.heap v S2.st r2
      exact ⟨I2, M'', v', l1.trans l2, S3, S2.gens, S2.os, r3, q⟩
    | brk => exact p.elim
    | cont => exact p.elim
end
end Mine
section
set_option maxRecDepth 10000
namespace Mine
/-! the program's functions in the small language (printed by P1.lean) -/
/-- place_in [code, first32, first64, many] -/
noncomputable def ms_place_in : MS := (.seq (.ifs (.chn .le .lt (.loc 1) (.loc 0) (.bin .add (.loc 1) (.loc 3))) (.seq (.ret (.tuple (.cons (.bin .sub (.loc 0) (.loc 1)) (.cons (.con (.int (32))) .nil)))) .skip) .skip) (.seq (.ifs (.chn .le .lt (.loc 2) (.loc 0) (.bin .add (.loc 2) (.loc 3))) (.seq (.ret (.tuple (.cons (.bin .sub (.loc 0) (.loc 2)) (.cons (.con (.int (64))) .nil)))) .skip) .skip) (.seq (.ret (.con .none)) .skip)))
noncomputable def ps_place_in : List Str := (["code", "first32", "first64", "many"] : List String).map Str.ofString
noncomputable def tb_place_in : List Str := (["code", "first32", "first64", "many"] : List String).map Str.ofString
/-- narrow_of [code] -/
noncomputable def ms_narrow_of : MS := (.seq (.ifs (.chn .le .lt (.gl 11) (.loc 0) (.gl 12)) (.seq (.ret (.tuple (.cons (.bin .shl (.con (.int (8))) (.bin .sub (.loc 0) (.gl 11))) (.cons (.con (.int (32))) .nil)))) .skip) .skip) (.seq (.ifs (.chn .le .lt (.gl 12) (.loc 0) (.bin .add (.gl 12) (.con (.int (3))))) (.seq (.ret (.tuple (.cons (.bin .shl (.con (.int (8))) (.bin .sub (.loc 0) (.gl 12))) (.cons (.con (.int (64))) .nil)))) .skip) .skip) (.seq (.ret (.ite (.cmp .eq (.loc 0) (.gl 9)) (.tuple (.cons (.con (.int (32))) (.cons (.con (.int (64))) .nil))) (.con .none))) .skip)))
noncomputable def ps_narrow_of : List Str := (["code"] : List String).map Str.ofString
noncomputable def tb_narrow_of : List Str := (["code"] : List String).map Str.ofString
/-- is_unary [code] -/
noncomputable def ms_is_unary : MS := (.seq (.ifs (.mem true (.loc 0) (.tuple (.cons (.gl 0) (.cons (.gl 2) (.cons (.gl 8) (.cons (.gl 10) .nil)))))) (.seq (.ret (.con (.bool true))) .skip) .skip) (.seq (.ret (.bop false (.cons (.isN false (.call 5 (.cons (.loc 0) (.cons (.gl 4) (.cons (.gl 6) (.cons (.bi .len (.cons (.gl 31) .nil)) .nil)))))) (.cons (.isN false (.call 6 (.cons (.loc 0) .nil))) .nil)))) .skip))
noncomputable def ps_is_unary : List Str := (["code"] : List String).map Str.ofString
noncomputable def tb_is_unary : List Str := (["code"] : List String).map Str.ofString
/-- is_binary [code] -/
noncomputable def ms_is_binary : MS := (.seq (.ifs (.isN false (.call 5 (.cons (.loc 0) (.cons (.gl 1) (.cons (.gl 3) (.cons (.bi .len (.cons (.gl 32) .nil)) .nil)))))) (.seq (.ret (.con (.bool true))) .skip) .skip) (.seq (.ret (.isN false (.call 5 (.cons (.loc 0) (.cons (.gl 5) (.cons (.gl 7) (.cons (.bi .len (.cons (.gl 33) .nil)) .nil))))))) .skip))
noncomputable def ps_is_binary : List Str := (["code"] : List String).map Str.ofString
noncomputable def tb_is_binary : List Str := (["code"] : List String).map Str.ofString
/-- can_trap [code, found] -/
noncomputable def ms_can_trap : MS := (.seq (.asg 1 (.call 5 (.cons (.loc 0) (.cons (.gl 5) (.cons (.gl 7) (.cons (.bi .len (.cons (.gl 33) .nil)) .nil)))))) (.seq (.ret (.bop true (.cons (.isN false (.loc 1)) (.cons (.chn .le .le (.gl 13) (.sub (.loc 1) (.con (.int (0)))) (.gl 14)) .nil)))) .skip))
noncomputable def ps_can_trap : List Str := (["code"] : List String).map Str.ofString
noncomputable def tb_can_trap : List Str := (["code", "found"] : List String).map Str.ofString
/-- __init__ [self, plain, first, second] -/
noncomputable def ms___init__ : MS := (.seq (.asgAtt (.loc 0) .plain (.loc 1)) (.seq (.asgAtt (.loc 0) .first (.loc 2)) (.seq (.asgAtt (.loc 0) .second (.loc 3)) .skip)))
noncomputable def ps___init__ : List Str := (["self", "plain", "first", "second"] : List String).map Str.ofString
noncomputable def tb___init__ : List Str := (["self", "plain", "first", "second"] : List String).map Str.ofString
/-- code [self] -/
noncomputable def ms_code : MS := (.seq (.ret (.sub (.att (.loc 0) .plain) (.con (.int (0))))) .skip)
noncomputable def ps_code : List Str := (["self"] : List String).map Str.ofString
noncomputable def tb_code : List Str := (["self"] : List String).map Str.ofString
/-- parts [self, part] -/
noncomputable def ms_parts : MS := (.seq (.ret (.comp [false, false] 1 (.loc 1) (.tuple (.cons (.att (.loc 0) .first) (.cons (.att (.loc 0) .second) .nil))) (.isN false (.loc 1)))) .skip)
noncomputable def ps_parts : List Str := (["self"] : List String).map Str.ofString
noncomputable def tb_parts : List Str := (["self", "part"] : List String).map Str.ofString
/-- labels [self] -/
noncomputable def ms_labels : MS := (.seq (.ret (.ite (.mem true (.att (.loc 0) .code) (.tuple (.cons (.gl 22) (.cons (.gl 23) (.cons (.gl 24) .nil))))) (.slice (.att (.loc 0) .plain) (.con (.int (1))) (.con .none) (.con .none)) (.tuple .nil))) .skip)
noncomputable def ps_labels : List Str := (["self"] : List String).map Str.ofString
noncomputable def tb_labels : List Str := (["self"] : List String).map Str.ofString
/-- pieces_of [body, here, opened, plain, piece] -/
noncomputable def ms_pieces_of : MS := (.seq (.asgT [1, 2] (.tuple (.cons (.list .nil) (.cons (.list .nil) .nil)))) (.seq (.fors 3 (.slice (.loc 0) (.con .none) (.bin .sub (.bi .len (.cons (.loc 0) .nil)) (.con (.int (1)))) (.con .none)) (.seq (.ifs (.mem true (.sub (.loc 3) (.con (.int (0)))) (.tuple (.cons (.gl 17) (.cons (.gl 18) (.cons (.gl 19) .nil))))) (.seq (.asg 4 (.call 0 (.cons (.loc 3) (.cons (.list .nil) .nil)))) (.seq (.exp (.meth .append (.loc 1) (.cons (.loc 4) .nil))) (.seq (.exp (.meth .append (.loc 2) (.cons (.tuple (.cons (.loc 4) (.cons (.loc 1) .nil))) .nil))) (.seq (.asg 1 (.att (.loc 4) .first)) .skip)))) (.seq (.ifs (.cmp .eq (.sub (.loc 3) (.con (.int (0)))) (.gl 20)) (.seq (.asg 4 (.sub (.sub (.loc 2) (.neg (.con (.int (1))))) (.con (.int (0))))) (.seq (.asgAtt (.loc 4) .second (.list .nil)) (.seq (.asg 1 (.att (.loc 4) .second)) .skip))) (.seq (.ifs (.cmp .eq (.sub (.loc 3) (.con (.int (0)))) (.gl 21)) (.seq (.asgT [4, 1] (.meth .pop (.loc 2) .nil)) .skip) (.seq (.exp (.meth .append (.loc 1) (.cons (.call 0 (.cons (.loc 3) .nil)) .nil))) .skip)) .skip)) .skip)) .skip)) (.seq (.ret (.loc 1)) .skip)))
noncomputable def ps_pieces_of : List Str := (["body"] : List String).map Str.ofString
noncomputable def tb_pieces_of : List Str := (["body", "here", "opened", "plain", "piece"] : List String).map Str.ofString
/-- put_pieces [pieces, body, piece] -/
noncomputable def ms_put_pieces : MS := (.seq (.fors 2 (.loc 0) (.seq (.exp (.meth .append (.loc 1) (.cons (.att (.loc 2) .plain) .nil))) (.seq (.ifs (.isN false (.att (.loc 2) .first)) (.seq (.exp (.call 2 (.cons (.att (.loc 2) .first) (.cons (.loc 1) .nil)))) (.seq (.ifs (.isN false (.att (.loc 2) .second)) (.seq (.exp (.meth .append (.loc 1) (.cons (.tuple (.cons (.gl 20) .nil)) .nil))) (.seq (.exp (.call 2 (.cons (.att (.loc 2) .second) (.cons (.loc 1) .nil)))) .skip)) .skip) (.seq (.exp (.meth .append (.loc 1) (.cons (.tuple (.cons (.gl 21) .nil)) .nil))) .skip))) .skip) .skip))) .skip)
noncomputable def ps_put_pieces : List Str := (["pieces", "body"] : List String).map Str.ofString
noncomputable def tb_put_pieces : List Str := (["pieces", "body", "piece"] : List String).map Str.ofString
/-- body_of [pieces, body] -/
noncomputable def ms_body_of : MS := (.seq (.asg 1 (.list .nil)) (.seq (.exp (.call 2 (.cons (.loc 0) (.cons (.loc 1) .nil)))) (.seq (.exp (.meth .append (.loc 1) (.cons (.tuple (.cons (.gl 21) .nil)) .nil))) (.seq (.ret (.loc 1)) .skip))))
noncomputable def ps_body_of : List Str := (["pieces"] : List String).map Str.ofString
noncomputable def tb_body_of : List Str := (["pieces", "body"] : List String).map Str.ofString
/-- is_named [pieces, depth, piece, part] -/
noncomputable def ms_is_named : MS := (.seq (.fors 2 (.loc 0) (.seq (.ifs (.mem true (.loc 1) (.meth .labels (.loc 2) .nil)) (.seq (.ret (.con (.bool true))) .skip) .skip) (.seq (.fors 3 (.meth .parts (.loc 2) .nil) (.seq (.ifs (.call 4 (.cons (.loc 3) (.cons (.bin .add (.loc 1) (.con (.int (1)))) .nil))) (.seq (.ret (.con (.bool true))) .skip) .skip) .skip)) .skip))) (.seq (.ret (.con (.bool false))) .skip))
noncomputable def ps_is_named : List Str := (["pieces", "depth"] : List String).map Str.ofString
noncomputable def tb_is_named : List Str := (["pieces", "depth", "piece", "part"] : List String).map Str.ofString
/-- takes_of [code] -/
noncomputable def ms_takes_of : MS := (.seq (.ifs (.bop false (.cons (.cmp .eq (.loc 0) (.gl 30)) (.cons (.call 7 (.cons (.loc 0) .nil)) .nil))) (.seq (.ret (.con (.int (1)))) .skip) .skip) (.seq (.ifs (.mem true (.loc 0) (.tuple (.cons (.gl 26) (.cons (.gl 27) .nil)))) (.seq (.ret (.con (.int (3)))) .skip) .skip) (.seq (.ret (.ite (.bop true (.cons (.call 8 (.cons (.loc 0) .nil)) (.cons (.not (.call 9 (.cons (.loc 0) .nil))) .nil))) (.con (.int (2))) (.con (.int (0))))) .skip)))
noncomputable def ps_takes_of : List Str := (["code"] : List String).map Str.ofString
noncomputable def tb_takes_of : List Str := (["code"] : List String).map Str.ofString
/-- never_ends [pieces, last] -/
noncomputable def ms_never_ends : MS := (.seq (.ifs (.nil true (.loc 0)) (.seq (.ret (.con (.bool false))) .skip) .skip) (.seq (.asg 1 (.sub (.loc 0) (.neg (.con (.int (1)))))) (.seq (.ret (.bop false (.cons (.mem true (.att (.loc 1) .code) (.gl 34)) (.cons (.call 12 (.cons (.loc 1) .nil)) .nil)))) .skip)))
noncomputable def ps_never_ends : List Str := (["pieces"] : List String).map Str.ofString
noncomputable def tb_never_ends : List Str := (["pieces", "last"] : List String).map Str.ofString
/-- never_goes_on [piece, part] -/
noncomputable def ms_never_goes_on : MS := (.seq (.ifs (.bop false (.cons (.isN true (.att (.loc 0) .first)) (.cons (.not (.call 11 (.cons (.att (.loc 0) .first) .nil))) .nil))) (.seq (.ret (.con (.bool false))) .skip) .skip) (.seq (.ifs (.cmp .eq (.att (.loc 0) .code) (.gl 18)) (.seq (.ret (.con (.bool true))) .skip) .skip) (.seq (.ifs (.bop true (.cons (.cmp .eq (.att (.loc 0) .code) (.gl 19)) (.cons (.bop false (.cons (.isN true (.att (.loc 0) .second)) (.cons (.not (.call 11 (.cons (.att (.loc 0) .second) .nil))) .nil))) .nil))) (.seq (.ret (.con (.bool false))) .skip) .skip) (.seq (.ret (.not (.bi .any (.cons (.comp [false, false] 1 (.call 4 (.cons (.loc 1) (.cons (.con (.int (0))) .nil))) (.meth .parts (.loc 0) .nil) (.con (.bool true))) .nil)))) .skip))))
noncomputable def ps_never_goes_on : List Str := (["piece"] : List String).map Str.ofString
noncomputable def tb_never_goes_on : List Str := (["piece", "part"] : List String).map Str.ofString
/-- cut_dead [pieces, at, piece, part] -/
noncomputable def ms_cut_dead : MS := (.seq (.forE 1 2 (.loc 0) (.seq (.fors 3 (.meth .parts (.loc 2) .nil) (.seq (.exp (.call 13 (.cons (.loc 3) .nil))) .skip)) (.seq (.ifs (.mem true (.att (.loc 2) .code) (.gl 34)) (.seq (.asgSlice (.loc 0) (.bin .add (.loc 1) (.con (.int (1)))) (.con .none) (.list .nil)) (.seq .retN .skip)) .skip) (.seq (.ifs (.bop true (.cons (.cmp .lt (.bin .add (.loc 1) (.con (.int (1)))) (.bi .len (.cons (.loc 0) .nil))) (.cons (.call 12 (.cons (.loc 2) .nil)) .nil))) (.seq (.asgSlice (.loc 0) (.bin .add (.loc 1) (.con (.int (1)))) (.con .none) (.list (.cons (.call 0 (.cons (.tuple (.cons (.gl 15) .nil)) .nil)) .nil))) (.seq .retN .skip)) .skip) .skip)))) .skip)
noncomputable def ps_cut_dead : List Str := (["pieces"] : List String).map Str.ofString
noncomputable def tb_cut_dead : List Str := (["pieces", "at", "piece", "part"] : List String).map Str.ofString
/-- put_drop [found, left, code, takes] -/
noncomputable def ms_put_drop : MS := (.seq (.asg 1 (.con (.int (1)))) (.seq (.whil (.cmp .gt (.loc 1) (.con (.int (0)))) (.seq (.asg 2 (.ite (.nil false (.loc 0)) (.att (.sub (.loc 0) (.neg (.con (.int (1))))) .code) (.gl 16))) (.seq (.asg 3 (.call 10 (.cons (.loc 2) .nil))) (.seq (.ifs (.mem true (.loc 2) (.gl 35)) (.seq (.exp (.meth .pop (.loc 0) .nil)) (.seq (.aug 1 .sub (.con (.int (1)))) .skip)) (.seq (.ifs (.cmp .gt (.loc 3) (.con (.int (0)))) (.seq (.exp (.meth .pop (.loc 0) .nil)) (.seq (.aug 1 .add (.bin .sub (.loc 3) (.con (.int (1))))) .skip)) (.seq (.ifs (.cmp .eq (.loc 2) (.gl 29)) (.seq (.asgSub (.loc 0) (.neg (.con (.int (1)))) (.call 0 (.cons (.tuple (.cons (.gl 28) (.cons (.sub (.att (.sub (.loc 0) (.neg (.con (.int (1))))) .plain) (.con (.int (1)))) .nil))) .nil))) (.seq (.aug 1 .sub (.con (.int (1)))) .skip)) (.seq (.exp (.meth .append (.loc 0) (.cons (.call 0 (.cons (.tuple (.cons (.gl 25) .nil)) .nil)) .nil))) (.seq (.aug 1 .sub (.con (.int (1)))) .skip))) .skip)) .skip)) .skip)))) .skip))
noncomputable def ps_put_drop : List Str := (["found"] : List String).map Str.ofString
noncomputable def tb_put_drop : List Str := (["found", "left", "code", "takes"] : List String).map Str.ofString
/-- cut_drops [pieces, found, piece, part] -/
noncomputable def ms_cut_drops : MS := (.seq (.asg 1 (.list .nil)) (.seq (.fors 2 (.loc 0) (.seq (.fors 3 (.meth .parts (.loc 2) .nil) (.seq (.exp (.call 15 (.cons (.loc 3) .nil))) .skip)) (.seq (.ifs (.cmp .eq (.att (.loc 2) .code) (.gl 25)) (.seq (.exp (.call 14 (.cons (.loc 1) .nil))) .skip) (.seq (.exp (.meth .append (.loc 1) (.cons (.loc 2) .nil))) .skip)) .skip))) (.seq (.asgSlice (.loc 0) (.con .none) (.con .none) (.loc 1)) .skip)))
noncomputable def ps_cut_drops : List Str := (["pieces"] : List String).map Str.ofString
noncomputable def tb_cut_drops : List Str := (["pieces", "found", "piece", "part"] : List String).map Str.ofString
/-- _law_next [tape] -/
noncomputable def ms__law_next : MS := (.seq (.ret (.ite (.nil false (.loc 0)) (.meth .pop (.loc 0) .nil) (.con (.int (0))))) .skip)
noncomputable def ps__law_next : List Str := (["tape"] : List String).map Str.ofString
noncomputable def tb__law_next : List Str := (["tape"] : List String).map Str.ofString
/-- _law_node [tape, state, opened, x, way, inner, first, second, goals, k] -/
noncomputable def ms__law_node : MS := (.seq (.asg 3 (.call 16 (.cons (.loc 0) .nil))) (.seq (.asgT [4, 3] (.tuple (.cons (.bin .mod (.loc 3) (.con (.int (9)))) (.cons (.bin .fdiv (.loc 3) (.con (.int (9)))) .nil)))) (.seq (.ifs (.bop true (.cons (.mem true (.loc 4) (.tuple (.cons (.con (.int (2))) (.cons (.con (.int (3))) (.cons (.con (.int (4))) (.cons (.con (.int (5))) .nil)))))) (.cons (.cmp .lt (.bi .len (.cons (.loc 2) .nil)) (.con (.int (4)))) .nil))) (.seq (.asgSub (.loc 1) (.con (.sy 3)) (.bin .add (.sub (.loc 1) (.con (.sy 3))) (.con (.int (1))))) (.seq (.asg 5 (.bin .add (.loc 2) (.list (.cons (.sub (.loc 1) (.con (.sy 3))) .nil)))) (.seq (.asg 6 (.call 18 (.cons (.loc 0) (.cons (.loc 1) (.cons (.loc 5) (.cons (.bin .mod (.call 16 (.cons (.loc 0) .nil)) (.con (.int (4)))) .nil)))))) (.seq (.asg 7 (.ite (.cmp .eq (.loc 4) (.con (.int (5)))) (.call 18 (.cons (.loc 0) (.cons (.loc 1) (.cons (.loc 5) (.cons (.bin .mod (.call 16 (.cons (.loc 0) .nil)) (.con (.int (4)))) .nil))))) (.con .none))) (.seq (.ret (.tuple (.cons (.con (.sy 2)) (.cons (.bi .min (.cons (.loc 4) (.cons (.con (.int (4))) .nil))) (.cons (.sub (.loc 5) (.neg (.con (.int (1))))) (.cons (.loc 6) (.cons (.loc 7) .nil))))))) .skip))))) .skip) (.seq (.ifs (.mem true (.loc 4) (.tuple (.cons (.con (.int (6))) (.cons (.con (.int (7))) .nil)))) (.seq (.asg 8 (.comp [false, false, true, true, false, false, false, false, false, false] 9 (.sub (.slice (.loc 2) (.con .none) (.con .none) (.neg (.con (.int (1))))) (.bin .mod (.bin .fdiv (.loc 3) (.bin .pow (.con (.int (5))) (.loc 9))) (.bi .len (.cons (.loc 2) .nil)))) (.bi .range (.cons (.ite (.bop true (.cons (.cmp .eq (.bin .mod (.bin .fdiv (.loc 3) (.con (.int (4)))) (.con (.int (2)))) (.con (.int (1)))) (.cons (.cmp .eq (.loc 4) (.con (.int (7)))) .nil))) (.bin .add (.con (.int (1))) (.bin .mod (.loc 3) (.con (.int (3))))) (.con (.int (1)))) .nil)) (.con (.bool true)))) (.seq (.ret (.tuple (.cons (.con (.sy 1)) (.cons (.ite (.cmp .eq (.loc 4) (.con (.int (6)))) (.con (.int (13))) (.ite (.cmp .eq (.bin .mod (.bin .fdiv (.loc 3) (.con (.int (4)))) (.con (.int (2)))) (.con (.int (0)))) (.con (.int (12))) (.con (.int (14))))) (.cons (.loc 8) .nil))))) .skip)) .skip) (.seq (.ifs (.cmp .eq (.loc 4) (.con (.int (8)))) (.seq (.ret (.tuple (.cons (.con (.sy 0)) (.cons (.sub (.list (.cons (.tuple (.cons (.con (.int (0))) .nil)) (.cons (.tuple (.cons (.con (.int (15))) .nil)) (.cons (.tuple (.cons (.con (.int (18))) (.cons (.con (.int (0))) .nil))) (.cons (.tuple (.cons (.con (.int (19))) (.cons (.con (.int (0))) (.cons (.con (.int (0))) .nil)))) .nil))))) (.bin .mod (.loc 3) (.con (.int (4))))) .nil)))) .skip) .skip) (.seq (.ret (.tuple (.cons (.con (.sy 0)) (.cons (.sub (.list (.cons (.tuple (.cons (.con (.int (1))) .nil)) (.cons (.tuple (.cons (.con (.int (33))) (.cons (.con (.int (0))) .nil))) (.cons (.tuple (.cons (.con (.int (16))) (.cons (.con (.int (0))) .nil))) (.cons (.tuple (.cons (.con (.int (65))) (.cons (.con (.int (1))) .nil))) .nil))))) (.bin .mod (.loc 3) (.con (.int (4))))) .nil)))) .skip))))))
noncomputable def ps__law_node : List Str := (["tape", "state", "opened"] : List String).map Str.ofString
noncomputable def tb__law_node : List Str := (["tape", "state", "opened", "x", "way", "inner", "first", "second", "goals", "k"] : List String).map Str.ofString
/-- _law_nodes [tape, state, opened, many, turn] -/
noncomputable def ms__law_nodes : MS := (.seq (.ret (.comp [true, true, true, false, false] 4 (.call 17 (.cons (.loc 0) (.cons (.loc 1) (.cons (.loc 2) .nil)))) (.bi .range (.cons (.loc 3) .nil)) (.con (.bool true)))) .skip)
noncomputable def ps__law_nodes : List Str := (["tape", "state", "opened", "many"] : List String).map Str.ofString
noncomputable def tb__law_nodes : List Str := (["tape", "state", "opened", "many", "turn"] : List String).map Str.ofString
/-- _law_flat [nodes, opened, body, node, inner, goal] -/
noncomputable def ms__law_flat : MS := (.seq (.asg 2 (.list .nil)) (.seq (.fors 3 (.loc 0) (.seq (.ifs (.cmp .eq (.sub (.loc 3) (.con (.int (0)))) (.con (.sy 0))) (.seq (.exp (.meth .append (.loc 2) (.cons (.sub (.loc 3) (.con (.int (1)))) .nil))) .skip) (.seq (.ifs (.cmp .eq (.sub (.loc 3) (.con (.int (0)))) (.con (.sy 1))) (.seq (.exp (.meth .append (.loc 2) (.cons (.bi .tuple (.cons (.bin .add (.list (.cons (.sub (.loc 3) (.con (.int (1)))) .nil)) (.comp [false, true, false, false, false, false] 5 (.meth .index (.slice (.loc 1) (.con .none) (.con .none) (.neg (.con (.int (1))))) (.cons (.loc 5) .nil)) (.sub (.loc 3) (.con (.int (2)))) (.con (.bool true)))) .nil)) .nil))) .skip) (.seq (.asg 4 (.bin .add (.loc 1) (.list (.cons (.sub (.loc 3) (.con (.int (2)))) .nil)))) (.seq (.asg 2 (.bin .add (.bin .add (.loc 2) (.list (.cons (.tuple (.cons (.sub (.loc 3) (.con (.int (1)))) (.cons (.neg (.con (.int (64)))) .nil))) .nil))) (.call 19 (.cons (.sub (.loc 3) (.con (.int (3)))) (.cons (.loc 4) .nil))))) (.seq (.asg 2 (.bin .add (.bin .add (.loc 2) (.ite (.isN true (.sub (.loc 3) (.con (.int (4))))) (.list .nil) (.bin .add (.list (.cons (.tuple (.cons (.con (.int (5))) .nil)) .nil)) (.call 19 (.cons (.sub (.loc 3) (.con (.int (4)))) (.cons (.loc 4) .nil)))))) (.list (.cons (.tuple (.cons (.con (.int (11))) .nil)) .nil)))) .skip)))) .skip)) .skip)) (.seq (.ret (.loc 2)) .skip)))
noncomputable def ps__law_flat : List Str := (["nodes", "opened"] : List String).map Str.ofString
noncomputable def tb__law_flat : List Str := (["nodes", "opened", "body", "node", "inner", "goal"] : List String).map Str.ofString
/-- _law_come_to [nodes, kept, goals, at, node, goes_on, told, first, near, second, is_far, far] -/
noncomputable def ms__law_come_to : MS := (.seq (.asgT [1, 2] (.tuple (.cons (.list .nil) (.cons (.list .nil) .nil)))) (.seq (.forE 3 4 (.loc 0) (.seq (.asgT [5, 6] (.tuple (.cons (.con (.bool true)) (.cons (.loc 4) .nil)))) (.seq (.ifs (.cmp .eq (.sub (.loc 4) (.con (.int (0)))) (.con (.sy 0))) (.seq (.asg 5 (.mem false (.sub (.sub (.loc 4) (.con (.int (1)))) (.con (.int (0)))) (.tuple (.cons (.con (.int (0))) (.cons (.con (.int (15))) (.cons (.con (.int (18))) (.cons (.con (.int (19))) .nil))))))) .skip) (.seq (.ifs (.cmp .eq (.sub (.loc 4) (.con (.int (0)))) (.con (.sy 1))) (.seq (.exp (.meth .extend (.loc 2) (.cons (.sub (.loc 4) (.con (.int (2)))) .nil))) (.seq (.asg 5 (.cmp .eq (.sub (.loc 4) (.con (.int (1)))) (.con (.int (13))))) .skip)) (.seq (.asgT [7, 5, 8] (.call 20 (.cons (.sub (.loc 4) (.con (.int (3)))) .nil))) (.seq (.asgT [9, 10, 11] (.ite (.isN false (.sub (.loc 4) (.con (.int (4))))) (.call 20 (.cons (.sub (.loc 4) (.con (.int (4)))) .nil)) (.tuple (.cons (.con .none) (.cons (.con (.bool false)) (.cons (.list .nil) .nil)))))) (.seq (.ifs (.cmp .eq (.sub (.loc 4) (.con (.int (1)))) (.con (.int (4)))) (.seq (.asg 5 (.bop false (.cons (.loc 5) (.cons (.loc 10) (.cons (.isN true (.sub (.loc 4) (.con (.int (4))))) .nil))))) .skip) .skip) (.seq (.asg 5 (.bop false (.cons (.loc 5) (.cons (.bop true (.cons (.cmp .ne (.sub (.loc 4) (.con (.int (1)))) (.con (.int (3)))) (.cons (.mem true (.sub (.loc 4) (.con (.int (2)))) (.bin .add (.loc 8) (.loc 11))) .nil))) .nil)))) (.seq (.asgT [2, 6] (.tuple (.cons (.bin .add (.bin .add (.loc 2) (.loc 8)) (.loc 11)) (.cons (.tuple (.cons (.sub (.loc 4) (.con (.int (0)))) (.cons (.sub (.loc 4) (.con (.int (1)))) (.cons (.sub (.loc 4) (.con (.int (2)))) (.cons (.loc 7) (.cons (.loc 9) .nil)))))) .nil)))) .skip)))))) .skip)) (.seq (.exp (.meth .append (.loc 1) (.cons (.loc 6) .nil))) (.seq (.ifs (.not (.loc 5)) (.seq (.ifs (.bop true (.cons (.cmp .eq (.sub (.loc 4) (.con (.int (0)))) (.con (.sy 2))) (.cons (.cmp .lt (.bin .add (.loc 3) (.con (.int (1)))) (.bi .len (.cons (.loc 0) .nil))) .nil))) (.seq (.exp (.meth .append (.loc 1) (.cons (.tuple (.cons (.con (.sy 0)) (.cons (.tuple (.cons (.con (.int (0))) .nil)) .nil))) .nil))) .skip) .skip) (.seq (.ret (.tuple (.cons (.loc 1) (.cons (.con (.bool false)) (.cons (.loc 2) .nil))))) .skip)) .skip) .skip))))) (.seq (.ret (.tuple (.cons (.loc 1) (.cons (.con (.bool true)) (.cons (.loc 2) .nil))))) .skip)))
noncomputable def ps__law_come_to : List Str := (["nodes"] : List String).map Str.ofString
noncomputable def tb__law_come_to : List Str := (["nodes", "kept", "goals", "at", "node", "goes_on", "told", "first", "near", "second", "is_far", "far"] : List String).map Str.ofString
/-- _law_is_cut_right [body, due, is_dead, kept, some, pieces] -/
noncomputable def ms__law_is_cut_right : MS := (.seq (.asg 3 (.bi .list (.cons (.loc 0) .nil))) (.seq (.fors 4 (.tuple (.cons (.loc 0) (.cons (.loc 1) .nil))) (.seq (.asg 5 (.call 1 (.cons (.loc 4) .nil))) (.seq (.ifs (.loc 2) (.seq (.exp (.call 13 (.cons (.loc 5) .nil))) .skip) (.seq (.exp (.call 15 (.cons (.loc 5) .nil))) .skip)) (.seq (.ifs (.cmp .ne (.call 3 (.cons (.loc 5) .nil)) (.loc 1)) (.seq (.ret (.con (.bool false))) .skip) .skip) .skip)))) (.seq (.ret (.cmp .eq (.loc 0) (.loc 3))) .skip)))
noncomputable def ps__law_is_cut_right : List Str := (["body", "due", "is_dead"] : List String).map Str.ofString
noncomputable def tb__law_is_cut_right : List Str := (["body", "due", "is_dead", "kept", "some", "pieces"] : List String).map Str.ofString
/-- _law_pure [code, place] -/
noncomputable def ms__law_pure : MS := (.seq (.ifs (.mem true (.loc 0) (.tuple (.cons (.con (.int (32))) (.cons (.con (.int (35))) (.cons (.con (.int (63))) (.cons (.con (.int (65))) (.cons (.con (.int (66))) (.cons (.con (.int (208))) (.cons (.con (.int (210))) (.cons (.con (.int (64528))) .nil)))))))))) (.seq (.ret (.con (.int (0)))) .skip) .skip) (.seq (.ifs (.bop false (.cons (.mem true (.loc 0) (.tuple (.cons (.con (.int (69))) (.cons (.con (.int (80))) (.cons (.con (.int (167))) (.cons (.con (.int (172))) (.cons (.con (.int (173))) (.cons (.con (.int (209))) .nil)))))))) (.cons (.chn .le .le (.con (.int (103))) (.loc 0) (.con (.int (105)))) (.cons (.chn .le .le (.con (.int (121))) (.loc 0) (.con (.int (123)))) (.cons (.chn .le .le (.con (.int (192))) (.loc 0) (.con (.int (196)))) .nil))))) (.seq (.ret (.con (.int (1)))) .skip) .skip) (.seq (.ifs (.mem true (.loc 0) (.tuple (.cons (.con (.int (27))) (.cons (.con (.int (28))) .nil)))) (.seq (.ret (.con (.int (3)))) .skip) .skip) (.seq (.ifs (.bop false (.cons (.chn .le .le (.con (.int (70))) (.loc 0) (.con (.int (79)))) (.cons (.chn .le .le (.con (.int (81))) (.loc 0) (.con (.int (90)))) .nil))) (.seq (.ret (.con (.int (2)))) .skip) .skip) (.seq (.asg 1 (.ite (.chn .le .le (.con (.int (106))) (.loc 0) (.con (.int (120)))) (.bin .sub (.loc 0) (.con (.int (106)))) (.ite (.chn .le .le (.con (.int (124))) (.loc 0) (.con (.int (138)))) (.bin .sub (.loc 0) (.con (.int (124)))) (.con (.int (3)))))) (.seq (.ret (.ite (.chn .le .le (.con (.int (3))) (.loc 1) (.con (.int (6)))) (.con .none) (.con (.int (2))))) .skip))))))
noncomputable def ps__law_pure : List Str := (["code"] : List String).map Str.ofString
noncomputable def tb__law_pure : List Str := (["code", "place"] : List String).map Str.ofString
/-- _law_numbers [codes, code] -/
noncomputable def ms__law_numbers : MS := (.seq (.asg 0 (.bin .add (.bin .add (.bi .list (.cons (.bi .range (.cons (.con (.int (69))) (.cons (.con (.int (91))) .nil))) .nil)) (.bi .list (.cons (.bi .range (.cons (.con (.int (103))) (.cons (.con (.int (139))) .nil))) .nil))) (.list (.cons (.con (.int (167))) (.cons (.con (.int (172))) (.cons (.con (.int (173))) (.cons (.con (.int (192))) (.cons (.con (.int (193))) (.cons (.con (.int (194))) (.cons (.con (.int (195))) (.cons (.con (.int (196))) (.cons (.con (.int (209))) .nil)))))))))))) (.seq (.ret (.comp [false, false] 1 (.tuple (.cons (.loc 1) .nil)) (.loc 0) (.con (.bool true)))) .skip))
noncomputable def ps__law_numbers : List Str := ([] : List String).map Str.ofString
noncomputable def tb__law_numbers : List Str := (["codes", "code"] : List String).map Str.ofString
/-- _law_others [x, rows] -/
noncomputable def ms__law_others : MS := (.seq (.asg 1 (.list (.cons (.tuple (.cons (.con (.int (32))) (.cons (.loc 0) .nil))) (.cons (.tuple (.cons (.con (.int (33))) (.cons (.loc 0) .nil))) (.cons (.tuple (.cons (.con (.int (34))) (.cons (.loc 0) .nil))) (.cons (.tuple (.cons (.con (.int (35))) (.cons (.loc 0) .nil))) (.cons (.tuple (.cons (.con (.int (36))) (.cons (.loc 0) .nil))) (.cons (.tuple (.cons (.con (.int (65))) (.cons (.loc 0) .nil))) (.cons (.tuple (.cons (.con (.int (66))) (.cons (.loc 0) .nil))) (.cons (.tuple (.cons (.con (.int (27))) .nil)) (.cons (.tuple (.cons (.con (.int (28))) (.cons (.neg (.con (.int (1)))) .nil))) (.cons (.tuple (.cons (.con (.int (63))) .nil)) .nil)))))))))))) (.seq (.asg 1 (.bin .add (.loc 1) (.list (.cons (.tuple (.cons (.con (.int (64))) .nil)) (.cons (.tuple (.cons (.con (.int (208))) (.cons (.neg (.con (.int (16)))) .nil))) (.cons (.tuple (.cons (.con (.int (210))) (.cons (.loc 0) .nil))) (.cons (.tuple (.cons (.con (.int (64528))) (.cons (.con (.int (0))) .nil))) (.cons (.tuple (.cons (.con (.int (64527))) (.cons (.con (.int (0))) .nil))) (.cons (.tuple (.cons (.con (.int (37))) (.cons (.con (.int (0))) .nil))) (.cons (.tuple (.cons (.con (.int (38))) (.cons (.con (.int (0))) .nil))) (.cons (.tuple (.cons (.con (.int (40))) (.cons (.con (.int (2))) (.cons (.loc 0) .nil)))) .nil))))))))))) (.seq (.ret (.bin .add (.loc 1) (.list (.cons (.tuple (.cons (.con (.int (54))) (.cons (.con (.int (2))) (.cons (.loc 0) .nil)))) (.cons (.tuple (.cons (.con (.int (16))) (.cons (.loc 0) .nil))) (.cons (.tuple (.cons (.con (.int (17))) (.cons (.con (.int (0))) (.cons (.con (.int (0))) .nil)))) (.cons (.tuple (.cons (.con (.int (13))) (.cons (.con (.int (0))) .nil))) (.cons (.tuple (.cons (.con (.int (1))) .nil)) (.cons (.tuple (.cons (.con (.int (18))) (.cons (.loc 0) .nil))) (.cons (.tuple (.cons (.con (.int (64522))) .nil)) (.cons (.tuple (.cons (.con (.int (32))) (.cons (.loc 0) .nil))) (.cons (.tuple (.cons (.con (.int (34))) (.cons (.loc 0) .nil))) .nil)))))))))))) .skip)))
noncomputable def ps__law_others : List Str := (["x"] : List String).map Str.ofString
noncomputable def tb__law_others : List Str := (["x", "rows"] : List String).map Str.ofString
/-- _law_drops [tape, body, opened, x, way] -/
noncomputable def ms__law_drops : MS := (.seq (.asg 1 (.list (.cons (.tuple (.cons (.con (.int (32))) (.cons (.con (.int (0))) .nil))) (.cons (.tuple (.cons (.con (.int (34))) (.cons (.con (.int (1))) .nil))) (.cons (.tuple (.cons (.con (.int (26))) .nil)) (.cons (.tuple (.cons (.con (.int (32))) (.cons (.con (.int (0))) .nil))) (.cons (.tuple (.cons (.con (.int (65))) (.cons (.con (.int (0))) .nil))) (.cons (.tuple (.cons (.con (.int (109))) .nil)) (.cons (.tuple (.cons (.con (.int (26))) .nil)) (.cons (.tuple (.cons (.con (.int (16))) (.cons (.con (.int (0))) .nil))) (.cons (.tuple (.cons (.con (.int (65))) (.cons (.con (.int (3))) .nil))) (.cons (.tuple (.cons (.con (.int (106))) .nil)) (.cons (.tuple (.cons (.con (.int (26))) .nil)) .nil))))))))))))) (.seq (.exp (.meth .extend (.loc 1) (.cons (.list (.cons (.tuple (.cons (.con (.int (65))) (.cons (.con (.int (1))) .nil))) (.cons (.tuple (.cons (.con (.int (35))) (.cons (.con (.int (0))) .nil))) (.cons (.tuple (.cons (.con (.int (16))) (.cons (.con (.int (0))) .nil))) (.cons (.tuple (.cons (.con (.int (27))) .nil)) (.cons (.tuple (.cons (.con (.int (26))) .nil)) (.cons (.tuple (.cons (.con (.int (26))) .nil)) (.cons (.tuple (.cons (.con (.int (1))) .nil)) (.cons (.tuple (.cons (.con (.int (26))) .nil)) .nil))))))))) .nil))) (.seq (.asg 2 (.list .nil)) (.seq (.whil (.bop true (.cons (.nil false (.loc 0)) (.cons (.cmp .lt (.bi .len (.cons (.loc 1) .nil)) (.con (.int (60)))) .nil))) (.seq (.asg 3 (.call 16 (.cons (.loc 0) .nil))) (.seq (.asgT [4, 3] (.tuple (.cons (.bin .mod (.loc 3) (.con (.int (8)))) (.cons (.bin .fdiv (.loc 3) (.con (.int (8)))) .nil)))) (.seq (.ifs (.cmp .lt (.loc 4) (.con (.int (3)))) (.seq (.exp (.meth .append (.loc 1) (.cons (.tuple (.cons (.con (.int (26))) .nil)) .nil))) .skip) (.seq (.ifs (.cmp .eq (.loc 4) (.con (.int (3)))) (.seq (.exp (.meth .append (.loc 1) (.cons (.sub (.call 23 .nil) (.bin .mod (.loc 3) (.con (.int (67))))) .nil))) .skip) (.seq (.ifs (.cmp .lt (.loc 4) (.con (.int (7)))) (.seq (.exp (.meth .append (.loc 1) (.cons (.sub (.call 24 (.cons (.bin .mod (.bin .fdiv (.loc 3) (.con (.int (27)))) (.con (.int (3)))) .nil)) (.bin .mod (.loc 3) (.con (.int (27))))) .nil))) .skip) (.seq (.ifs (.bop true (.cons (.cmp .lt (.bin .mod (.loc 3) (.con (.int (3)))) (.con (.int (2)))) (.cons (.cmp .lt (.bi .len (.cons (.loc 2) .nil)) (.con (.int (3)))) .nil))) (.seq (.exp (.meth .append (.loc 2) (.cons (.sub (.tuple (.cons (.con (.int (2))) (.cons (.con (.int (3))) (.cons (.con (.int (4))) .nil)))) (.bin .mod (.bin .fdiv (.loc 3) (.con (.int (3)))) (.con (.int (3))))) .nil))) (.seq (.exp (.meth .append (.loc 1) (.cons (.tuple (.cons (.sub (.loc 2) (.neg (.con (.int (1))))) (.cons (.neg (.con (.int (64)))) .nil))) .nil))) .skip)) (.seq (.ifs (.bop true (.cons (.nil false (.loc 2)) (.cons (.cmp .eq (.sub (.loc 2) (.neg (.con (.int (1))))) (.con (.int (4)))) (.cons (.cmp .eq (.bin .mod (.bin .fdiv (.loc 3) (.con (.int (3)))) (.con (.int (2)))) (.con (.int (0)))) .nil)))) (.seq (.asgSub (.loc 2) (.neg (.con (.int (1)))) (.con (.int (5)))) (.seq (.exp (.meth .append (.loc 1) (.cons (.tuple (.cons (.con (.int (5))) .nil)) .nil))) .skip)) (.seq (.ifs (.nil false (.loc 2)) (.seq (.exp (.meth .pop (.loc 2) .nil)) (.seq (.exp (.meth .append (.loc 1) (.cons (.tuple (.cons (.con (.int (11))) .nil)) .nil))) .skip)) .skip) .skip)) .skip)) .skip)) .skip)) .skip)) .skip)))) (.seq (.ret (.bin .add (.loc 1) (.bin .mul (.list (.cons (.tuple (.cons (.con (.int (11))) .nil)) .nil)) (.bin .add (.bi .len (.cons (.loc 2) .nil)) (.con (.int (1))))))) .skip)))))
noncomputable def ps__law_drops : List Str := (["tape"] : List String).map Str.ofString
noncomputable def tb__law_drops : List Str := (["tape", "body", "opened", "x", "way"] : List String).map Str.ofString
/-- _law_dropped [body, at, many] -/
noncomputable def ms__law_dropped : MS := (.seq (.asgT [0, 1] (.tuple (.cons (.bi .list (.cons (.loc 0) .nil)) (.cons (.con (.int (0))) .nil)))) (.seq (.whil (.cmp .lt (.bin .add (.loc 1) (.con (.int (1)))) (.bi .len (.cons (.loc 0) .nil))) (.seq (.asg 2 (.ite (.cmp .eq (.sub (.loc 0) (.bin .add (.loc 1) (.con (.int (1))))) (.tuple (.cons (.con (.int (26))) .nil))) (.call 22 (.cons (.sub (.sub (.loc 0) (.loc 1)) (.con (.int (0)))) .nil)) (.con .none))) (.seq (.ifs (.bop true (.cons (.cmp .eq (.sub (.loc 0) (.bin .add (.loc 1) (.con (.int (1))))) (.tuple (.cons (.con (.int (26))) .nil))) (.cons (.cmp .eq (.sub (.sub (.loc 0) (.loc 1)) (.con (.int (0)))) (.con (.int (34)))) .nil))) (.seq (.asgSlice (.loc 0) (.loc 1) (.bin .add (.loc 1) (.con (.int (2)))) (.list (.cons (.tuple (.cons (.con (.int (33))) (.cons (.sub (.sub (.loc 0) (.loc 1)) (.con (.int (1)))) .nil))) .nil))) .skip) (.seq (.ifs (.isN false (.loc 2)) (.seq (.asgSlice (.loc 0) (.loc 1) (.bin .add (.loc 1) (.con (.int (2)))) (.bin .mul (.list (.cons (.tuple (.cons (.con (.int (26))) .nil)) .nil)) (.loc 2))) (.seq (.asg 1 (.bi .max (.cons (.con (.int (0))) (.cons (.bin .sub (.loc 1) (.con (.int (1)))) .nil)))) .skip)) (.seq (.asg 1 (.bin .add (.loc 1) (.con (.int (1))))) .skip)) .skip)) .skip))) (.seq (.ret (.loc 0)) .skip)))
noncomputable def ps__law_dropped : List Str := (["body"] : List String).map Str.ofString
noncomputable def tb__law_dropped : List Str := (["body", "at", "many"] : List String).map Str.ofString
/-- law [script, tape, other, nodes, body, first, rows, row] -/
noncomputable def ms_law : MS := (.seq (.asgT [1, 2] (.tuple (.cons (.slice (.slice (.loc 0) (.con (.int (1))) (.con .none) (.con (.int (2)))) (.con .none) (.con .none) (.neg (.con (.int (1))))) (.cons (.slice (.slice (.loc 0) (.con (.int (0))) (.con .none) (.con (.int (2)))) (.con .none) (.con .none) (.neg (.con (.int (1))))) .nil)))) (.seq (.asg 3 (.call 18 (.cons (.loc 1) (.cons (.dict 3 (.con (.int (0)))) (.cons (.list (.cons (.con (.int (0))) .nil)) (.cons (.bin .add (.con (.int (3))) (.bin .mod (.call 16 (.cons (.loc 1) .nil)) (.con (.int (5))))) .nil)))))) (.seq (.asg 4 (.bin .add (.call 19 (.cons (.loc 3) (.cons (.list (.cons (.con (.int (0))) .nil)) .nil))) (.list (.cons (.tuple (.cons (.con (.int (11))) .nil)) .nil)))) (.seq (.ifs (.not (.call 21 (.cons (.loc 4) (.cons (.bin .add (.call 19 (.cons (.sub (.call 20 (.cons (.loc 3) .nil)) (.con (.int (0)))) (.cons (.list (.cons (.con (.int (0))) .nil)) .nil))) (.list (.cons (.tuple (.cons (.con (.int (11))) .nil)) .nil))) (.cons (.con (.bool true)) .nil))))) (.seq (.ret (.con (.bool false))) .skip) .skip) (.seq (.asg 4 (.call 25 (.cons (.loc 2) .nil))) (.seq (.ifs (.not (.call 21 (.cons (.loc 4) (.cons (.call 26 (.cons (.loc 4) .nil)) (.cons (.con (.bool false)) .nil))))) (.seq (.ret (.con (.bool false))) .skip) .skip) (.seq (.asg 5 (.bin .mod (.bi .sum (.cons (.loc 0) .nil)) (.con (.int (3))))) (.seq (.asg 6 (.slice (.bin .add (.call 23 .nil) (.call 24 (.cons (.loc 5) .nil))) (.loc 5) (.con .none) (.con (.int (3))))) (.seq (.ret (.bi .all (.cons (.comp [false, false, false, false, false, false, false, false] 7 (.call 21 (.cons (.list (.cons (.loc 7) (.cons (.tuple (.cons (.con (.int (26))) .nil)) (.cons (.tuple (.cons (.con (.int (11))) .nil)) .nil)))) (.cons (.call 26 (.cons (.list (.cons (.loc 7) (.cons (.tuple (.cons (.con (.int (26))) .nil)) (.cons (.tuple (.cons (.con (.int (11))) .nil)) .nil)))) .nil)) (.cons (.con (.bool false)) .nil)))) (.loc 6) (.con (.bool true))) .nil))) .skip)))))))))
noncomputable def ps_law : List Str := (["script"] : List String).map Str.ofString
noncomputable def tb_law : List Str := (["script", "tape", "other", "nodes", "body", "first", "rows", "row"] : List String).map Str.ofString
end Mine
end
namespace Mine

noncomputable def iniCk (K : Frag) (v : Value) (ps : List Str) (m : MS) : Bool := onOpt (fdIn K v) false fun fd => fnChk K fd ps ps && (fd.scope.names.all (fun x => !(x.2 == .cell)) && (ps.all (fun x => decide (fd.scope.names.lookup x = some .local)) && onBody fd.body (chkB m ⟨ps, fd.scope.names⟩)))
structure IniOk (X : Cx) : Prop where
  makes : makesIn X.K X.C = true
  pc : fnVal X 0 = some (.ref X.C)
  ini : ∃ f fd, findIn X.K (.ref X.C) "__init__" = some (some (.ref f)) ∧ typeIn X.K (.ref f) = some (.type "function") ∧ fdIn X.K (.ref f) = some fd ∧ iniCk X.K (.ref f) ps___init__ ms___init__ = true ∧
    (∀ S v1 v2, peek X.K S (bindArgs fd ⟨[v1, v2], []⟩) = some (ps___init__.zip [v1, v2, .none, .none])) ∧ (∀ S v1 v2 v3, peek X.K S (bindArgs fd ⟨[v1, v2, v3], []⟩) = some (ps___init__.zip [v1, v2, v3, .none]))

section
variable {X : Cx}
theorem zip_rev {names : List Str} {vals : List Value} (hn : names.Nodup) {i : Nat} {x : Str} {v : Value} (h1 : names[i]? = some x) (h2 : vals[i]? = some v) : (names.zip vals).reverse.lookup x = some v := by
  have hz : (names.zip vals)[i]? = some (x, v) := by
    rw [List.getElem?_zip_eq_some]; exact ⟨h1, h2⟩
  have hm : (x, v) ∈ (names.zip vals).reverse := List.mem_reverse.mpr (List.mem_of_getElem? hz)
  have hk : (((names.zip vals).reverse).map (·.1)).Nodup := by
    rw [List.map_reverse]
    refine List.Perm.nodup (List.reverse_perm _).symm ?_
    have : (names.zip vals).map (·.1) = names.take (min names.length vals.length) := by
      clear hn h1 h2 hz hm
      induction names generalizing vals with
      | nil => simp
      | cons a r ih => cases vals with
        | nil => simp
        | cons b t => simp [ih]
    rw [this]
    exact List.Sublist.nodup (List.take_sublist _ _) hn
  have aux : ∀ (l : List (Str × Value)), (l.map (·.1)).Nodup → (x, v) ∈ l → l.lookup x = some v := by
    intro l
    induction l with
    | nil => intro _ h; cases h
    | cons q r ih =>
      intro hd h
      obtain ⟨n, a⟩ := q
      rw [List.map_cons, List.nodup_cons] at hd
      rcases List.mem_cons.mp h with h | h
      · cases h; rw [List.lookup_cons, beq_self_eq_true]
      · have : (x == n) = false := beq_eq_false_iff_ne.mpr fun z => hd.1 (List.mem_map.mpr ⟨_, h, z⟩)
        rw [List.lookup_cons, this]; exact ih hd.2 h
  exact aux _ hk hm

theorem init_run {k : Nat} {f : Addr} {fd : FuncData} {A : Around} {I J : Imm} {M : Mem} {s : Shared} {args : Args} {ws : List Value} {d : Addr} {p q r : AV} (O : CxOk X) (hfd : fdIn X.K (.ref f) = some fd) (ht : iniCk X.K (.ref f) ps___init__ ms___init__ = true)
    (hb : BindsTo s fd args (ps___init__.zip ws)) (hA : RoomS (k + 1) A) (S : St X I J M s.heap) (hg : s.gens = #[]) (ho : s.os = X.os) (hr : X.Reps I ws [.piece d, p, q, r]) (hm : M d = some (.dict [])) :
    codeAny X.mdl A (.call (.ref f) args) (fun rr s' => match rr with
      | .ok (.ret v) => v = .none ∧ ∃ I', Le I I' ∧ St X I' J (upd M d (.dict [(4, p), (5, q), (6, r)])) s'.heap ∧ s'.gens = #[] ∧ s'.os = X.os
      | _ => False) s := by
  have hk : X.K.In s.heap := fun b o e => S.heap b o (O.kin b o e)
  obtain ⟨fd', hfd', g0⟩ := onOpt_inv ht
  obtain rfl : fd = fd' := Option.some.inj (hfd.symm.trans hfd')
  obtain ⟨f', oc, od, osl, ef, hob⟩ := fdIn_inv hfd
  obtain rfl : f = f' := Value.ref.inj ef
  have F := fnChk_ok (and2 g0).1
  have g1 := and2 (and2 g0).2
  have g2 := and2 g1.2
  have hloc : ∀ x ∈ ps___init__, fd.scope.names.lookup x = some .local := fun x hx => of_decide_eq_true (List.all_eq_true.mp g2.1 x hx)
  have hnc : ∀ x ∈ fd.scope.names, x.2 ≠ .cell := fun x hx => ne_of_beq_false (not_of (List.all_eq_true.mp g1.1 x hx))
  obtain ⟨b, hbody, ht⟩ := onBody_inv g2.2
  clear g2 g1 g0
  refine codeAny_call_def (by have := hA.depth; exact lin [A.depth, recursionLimit, k] [] false (.h false false (.a (.a (.v 0) (.a (.v 2) (.l 1))) (.l 1)) (.v 1) (.v 0)) (.a (.v 0) (.l 1)) (.v 1) 1 [1] (Eq.refl true) this) (hk _ _ hob) rfl (O.lim.keeps S.heap) (codeRec_of hk F.code) hbody hb hnc (fun x hx => hloc _ (zip_names (List.mem_map_of_mem hx))) (fun h₀ hns hkeep => ?_) F.co F.ge F.k
  have hsc : (callEnv fd s.heap.objs.size f).scope = fd.scope := rfl
  have hgl : (callEnv fd s.heap.objs.size f).globals = mainGlobals := F.g
  have hbi : (callEnv fd s.heap.objs.size f).builtins = builtinsNs := F.b
  have hce : (callEnv fd s.heap.objs.size f).cells = [] := F.c
  have hlo : (callEnv fd s.heap.objs.size f).locals = s.heap.objs.size := rfl
  generalize callEnv fd s.heap.objs.size f = env at hsc hgl hbi hce hlo ⊢
  have hnocell : ∀ x, fd.scope.names.lookup x = some .cell → False := fun x h => hnc _ (mem_of_lookupK h) rfl
  have E0 : TxOk ⟨ps___init__, fd.scope.names⟩ env := {
    ok := { kind := by rw [hsc]; exact F.k, gl := hgl, bi := hbi, nodup := F.nodup, apart := (by rw [hce]; exact List.Pairwise.nil), ne := (by rw [hce]; intro p hp; cases hp), dbg := F.dbg }
    names := by rw [hsc]
    cls := F.cls
    cells := fun x h => (hnocell x h).elim }
  have hko : ∀ x, env.kindOf x = fd.scope.names.lookup x := fun x => by unfold Env.kindOf; rw [hsc]
  have S1 : Sat X ps___init__ env I J M ([.piece d, p, q, r].map some) { s with heap := h₀, toks := s.toks + (ps___init__.zip ws).length } := by
    refine ⟨S.ext hkeep, ⟨⟨_, by rw [hlo]; exact hns, fun i x av hx hv => ?_⟩, (by rw [hce]; intro p hp; cases hp), fun b hb => ?_⟩, hg, ho⟩
    · have hav : [AV.piece d, p, q, r][i]? = some av := by
        have := lk_args [.piece d, p, q, r] 0 i av (by simpa using hv)
        exact this
      obtain ⟨v, hv1, hv2⟩ := Reps.get hr hav
      exact .inl ⟨by rw [hko]; exact hloc x (List.mem_of_getElem? hx), v, zip_rev F.nodup hx hv1, hv2⟩
    · have hb' : b = s.heap.objs.size := by
        unfold FA at hb
        rw [hce, hlo] at hb
        simpa using hb
      subst hb'
      have z := S.size_none
      exact ⟨z.1, z.2.1, z.2.2⟩
  have w : WS gAV (Spec X k) ms___init__ (fun M' _ => M' = upd M d (.dict [(4, p), (5, q), (6, r)])) (fun _ _ => False) M ([.piece d, p, q, r].map some) := by
    refine ⟨[], by decide, hm, by decide, ?_⟩
    refine ⟨[(4, p)], by decide, upd_self, by simp, ?_⟩
    refine ⟨[(4, p), (5, q)], by decide, upd_self, by simp, ?_⟩
    show upd (upd (upd M d (.dict [(4, p)])) d (.dict [(4, p), (5, q)])) d (.dict [(4, p), (5, q), (6, r)]) = _
    funext b
    unfold upd
    by_cases hb : b = d <;> simp [hb]
  refine wpAny_mono (chkB_sound (T := ⟨ps___init__, fd.scope.names⟩) O E0 ht (A.deeper env) hA.deeper I J M _ _ _ _ S1 w) (fun fl s' pp => ?_) fun _ _ x => x.elim
  cases fl with
  | next =>
    obtain ⟨I1, M1, ρ1, l1, S2, rfl⟩ := pp
    exact ⟨rfl, I1, l1, S2.st, S2.gens, S2.os⟩
  | ret v => obtain ⟨_, _, _, _, _, _, _, f⟩ := pp; exact f.elim
  | brk => exact pp.elim
  | cont => exact pp.elim

theorem upd_upd {M : Mem} {d : Addr} {a b : MO} : upd (upd M d a) d b = upd M d b := by
  funext x
  unfold upd
  by_cases h : x = d <;> simp [h]
theorem piece_core {k : Nat} {A : Around} {I J : Imm} {M : Mem} {s : Shared} {ws ws' : List Value} {pl q : AV} {R : Result → Shared → Prop} (O : CxOk X) (P : IniOk X) (hA : RoomS (k + 2) A) (S : St X I J M s.heap) (hg : s.gens = #[]) (ho : s.os = X.os)
    (hb : ∀ fd, (∀ S v1 v2, peek X.K S (bindArgs fd ⟨[v1, v2], []⟩) = some (ps___init__.zip [v1, v2, .none, .none])) → (∀ S v1 v2 v3, peek X.K S (bindArgs fd ⟨[v1, v2, v3], []⟩) = some (ps___init__.zip [v1, v2, v3, .none])) →
      ∀ S v, peek X.K S (bindArgs fd ⟨v :: ws, []⟩) = some (ps___init__.zip (v :: ws'))) (hr : X.Reps I ws' [pl, q, .none])
    (hR : ∀ I' s' d p, Le I I' → M d = none → I' p = some (instObj X.C d) → St X I' J (upd M d (.dict [(4, pl), (5, q), (6, .none)])) s'.heap → s'.gens = #[] → s'.os = X.os → R (.ok (.ret (.ref p))) s') :
    codeAny X.mdl A (.call (.ref X.C) ⟨ws, []⟩) R s := by
  have hk : X.K.In s.heap := fun b o e => S.heap b o (O.kin b o e)
  obtain ⟨f, fd, h1, h2, h3, h4, h5, h6⟩ := P.ini
  have z := S.size_none
  have S1 : St X I J (upd M s.heap.objs.size (.dict [])) (s.heap.push emptyDict) := S.allocM (mo := .dict []) ⟨#[], 0, Heap.get?_push_size _ rfl, .nil⟩
  have S2 := S1.allocI (o := instObj X.C s.heap.objs.size) rfl
  rw [Heap.size_push] at S2
  obtain ⟨hh, g, dr, t, os⟩ := s
  refine make_core (makes_of hk P.makes) (looks_findIn hk h1) (fun self => bind_fn hk self h2) (.inl rfl) ?_
  have hk2 : X.K.In ((hh.push emptyDict).push (instObj X.C hh.objs.size)) := fun b o e => S2.heap b o (O.kin b o e)
  have le1 : Le I (upd I (hh.objs.size + 1) (instObj X.C hh.objs.size)) := by
    have := S1.size_none.1
    rw [Heap.size_push] at this
    exact Le.upd this
  refine codeAny_mono (init_run (k := k) (f := f) (fd := fd) (I := upd I (hh.objs.size + 1) (instObj X.C hh.objs.size)) (J := J) (M := upd M hh.objs.size (.dict [])) (ws := .ref (hh.objs.size + 1) :: ws') (d := hh.objs.size) (p := pl) (q := q) (r := .none) O h3 h4 (kp_binds hk2 fun S => hb fd h5 h6 S _) ?_ S2 hg ho
    (.cons (.piece upd_self) (hr.mono le1)) upd_self) fun rr s' hp => ?_
  · refine ⟨?_, ?_, hA.handled⟩
    · have := hA.depth
      show A.depth + 1 + (k + 1) < _
      exact lin [A.depth, k, recursionLimit] [] false (.h false false (.a (.a (.v 0) (.a (.v 1) (.l 2))) (.l 1)) (.v 2) (.v 0)) (.a (.a (.a (.v 0) (.l 1)) (.a (.v 1) (.l 1))) (.l 1)) (.v 2) 1 [1] (Eq.refl true) this
    · have := hA.units
      show A.units + 1 + 8 * (k + 1) + 196 < _
      exact lin [A.units, k, cLine] [] false (.h false false (.a (.a (.a (.v 0) (.m 8 (.a (.v 1) (.l 2)))) (.l 196)) (.l 1)) (.v 2) (.v 0)) (.a (.a (.a (.a (.v 0) (.l 1)) (.m 8 (.a (.v 1) (.l 1)))) (.l 196)) (.l 1)) (.v 2) 1 [1] (Eq.refl true) this
  · cases rr with
    | error e => exact hp.elim
    | ok fl =>
    cases fl with
    | next => exact hp.elim
    | brk => exact hp.elim
    | cont => exact hp.elim
    | ret v =>
    obtain ⟨rfl, I', l, S3, g3, o3⟩ := hp
    rw [upd_upd] at S3
    exact ⟨rfl, hR I' s' hh.objs.size (hh.objs.size + 1) (le1.trans l) z.2.2 (l _ _ upd_self) S3 g3 o3⟩

theorem piece2 {k : Nat} {pl : AV} {q : AV} {M : Mem} {Q : AV → Mem → Prop} (O : CxOk X) (P : IniOk X) (h : ∀ d, M d = none → Q (.piece d) (upd M d (.dict [(4, pl), (5, q), (6, .none)]))) : Spec X (k + 2) 0 [pl, q] M Q :=
  ⟨fun A hA I J s f ws hf S g o r => by
    rw [P.pc] at hf; cases hf
    obtain ⟨v, w, rfl, r1, r2⟩ := reps2 r
    exact piece_core (k := k) (ws' := [v, w, .none]) O P hA S g o (fun fd _ h3 S x => h3 S x v w) (.cons r1 (.cons r2 (.cons .none .nil))) fun I' s' d p l hd hp S' g' o' => ⟨I', _, .piece d, l, S', g', o', .piece hp, h d hd⟩⟩
theorem piece1 {k : Nat} {pl : AV} {M : Mem} {Q : AV → Mem → Prop} (O : CxOk X) (P : IniOk X) (h : Q (.inst pl .none .none) M) : Spec X (k + 2) 0 [pl] M Q :=
  ⟨fun A hA I J s f ws hf S g o r => by
    rw [P.pc] at hf; cases hf
    obtain ⟨v, rfl, r1⟩ := reps1 r
    refine piece_core (k := k) (ws' := [v, .none, .none]) O P hA S g o (fun fd h2 _ S x => h2 S x v) (.cons r1 (.cons .none (.cons .none .nil))) fun I' s' d p l hd hp S' g' o' => ?_
    obtain ⟨ds, n, e, rr⟩ := S'.mu d _ upd_self
    have iL := S'.im d _ upd_self
    have jL := S'.jm d _ upd_self
    have S2 : St X I' J M s'.heap := S'.less fun b mo q => by
      by_cases hb : b = d
      · subst hb; rw [hd] at q; cases q
      · rw [upd_ne hb]; exact q
    have le : Le I' (upd I' d (dicO ds n)) := Le.upd iL
    exact ⟨_, M, .inst pl .none .none, l.trans le, S2.toI e iL jL hd, g', o', .inst (es := ds.toList) (n := n) (le _ _ hp) upd_self (rr.mono le), h⟩⟩

/-! ghost steps at the end of a function -/
theorem Gh.drop {v : AV} {M M' : Mem} (h : ∀ a mo, M' a = some mo → M a = some mo) : Gh X v M v M' := fun I _ _ _ S r => ⟨I, Le.refl I, S.less h, r⟩
/-- the list that is handed back is changed no more -/
theorem Gh.frz {a : Addr} {M : Mem} {xs : List AV} (h : M a = some (.list xs)) : Gh X (.ref a) M (.lst xs) (del M a) := fun I J hp val S r => by
  obtain ⟨vs, n, e, rr⟩ := S.mu a _ h
  have iL := S.im a _ h
  have jL := S.jm a _ h
  have le : Le I (upd I a (lstO vs n)) := Le.upd iL
  refine ⟨_, le, (S.less (M' := del M a) del_le).toI e iL jL del_self, ?_⟩
  cases r
  exact .lst (vs := vs.toList) (n := n) upd_self (rr.mono le)
end
end Mine
section
set_option maxRecDepth 100000
namespace Mine
noncomputable def refOf : Option (Option Value) → Addr
  | some (some (.ref a)) => a
  | _ => 0
noncomputable def fstRef : Option (List Value) → Addr
  | some (.ref a :: _) => a
  | _ => 0
noncomputable def tlOf : Option (List Value) → List Value
  | some (_ :: r) => r
  | _ => []
noncomputable def clsOf (K : Frag) : Addr := refOf (some (gl K (fnAt 0)))
noncomputable def metOf (K : Frag) (x : Str) : Addr := refOf (findIn K (.ref (clsOf K)) x)

/-! constants -/
noncomputable def intV (v : Value) (j : Int) : Bool := match v with
  | .int i _ => i == j
  | _ => false
theorem intV_inv {v : Value} {j : Int} (h : intV v j = true) : ∃ t, v = .int j t := by
  cases v <;> first
    | exact ff h
    | exact ⟨_, congrArg (fun i => Value.int i _) (eq_of_beq h)⟩
noncomputable def onTupV (K : Frag) (v : Value) (f : List Value → Bool) : Bool := match v with
  | .ref a => (match K.lookup a with
    | some ⟨.type ty, none, .seq vs _, sl⟩ => ty == "tuple" && (sl.isEmpty && f vs.toList)
    | _ => false)
  | _ => false
theorem onTupV_inv {K : Frag} {v : Value} {f : List Value → Bool} (h : onTupV K v f = true) : ∃ a vs n, v = .ref a ∧ K.lookup a = some ⟨.type "tuple", none, .seq vs n, #[]⟩ ∧ f vs.toList = true := by
  cases v <;> first
    | exact ff h
    | skip
  rename_i a
  unfold onTupV at h
  dsimp only at h
  split at h
  · rename_i ty vs n sl ho
    have h1 := and2 h
    have h2 := and2 h1.2
    obtain rfl : ty = "tuple" := eq_of_beq h1.1
    obtain rfl : sl = #[] := Array.isEmpty_iff.mp h2.1
    exact ⟨a, vs, n, rfl, ho, h2.2⟩
  · cases h
mutual
noncomputable def repB (K : Frag) : AV → Value → Bool
  | .int j, v => intV v j
  | .any, _ => true
  | .tup xs, v => onTupV K v fun vs => repBs K xs vs
  | _, _ => false
noncomputable def repBs (K : Frag) : List AV → List Value → Bool
  | [], vs => vs.isEmpty
  | x :: xs, vs => onCons vs fun v vs => repB K x v && repBs K xs vs
end
mutual
theorem repB_ok {K : Frag} {P : Params} {C : Addr} {I : Imm} (hI : ∀ a o, K.lookup a = some o → I a = some o) : ∀ (x : AV) {v : Value}, repB K x v = true → Mine.Rep P C I v x
  | .any, v, _ => .any v
  | .int j, v, h => by
    obtain ⟨t, rfl⟩ := intV_inv h
    exact .int j t
  | .tup xs, v, h => by
    obtain ⟨a, vs, n, rfl, ho, h⟩ := onTupV_inv h
    exact .tup (vs := vs.toList) (n := n) (hI _ _ ho) (repBs_ok hI xs h)
  | .none, v, h => ff h
  | .bool _, v, h => ff h
  | .sy _, v, h => ff h
  | .ref _, v, h => ff h
  | .lst _, v, h => ff h
  | .inst _ _ _, v, h => ff h
  | .piece _, v, h => ff h
  | .rng _ _, v, h => ff h
theorem repBs_ok {K : Frag} {P : Params} {C : Addr} {I : Imm} (hI : ∀ a o, K.lookup a = some o → I a = some o) : ∀ (xs : List AV) {vs : List Value}, repBs K xs vs = true → Mine.Reps P C I vs xs
  | [], vs, h => by rw [nil_of h]; exact .nil
  | x :: xs, vs, h => by
    obtain ⟨v, vs, rfl, g⟩ := onCons_inv h
    exact .cons (repB_ok hI x (and2 g).1) (repBs_ok hI xs (and2 g).2)
end
noncomputable def gChk (K : Frag) : Bool := (List.range 36).all fun n => match gl K (gAt n) with
  | some v => repB K (gAV n) v
  | none => false
noncomputable def fChk (K : Frag) : Bool := (List.range 28).all fun n => match gl K (fnAt n) with
  | some v => keepIn K v
  | none => false
noncomputable def trOf (K : Frag) (n : Nat) (ps tbl : List Str) (m : MS) : Bool := onOpt (fnV K (clsOf K) n) false fun f => fnCk K f ps tbl m
noncomputable def trTab : List (Nat × List Str × List Str × MS) := [(1, ps_pieces_of, tb_pieces_of, ms_pieces_of), (2, ps_put_pieces, tb_put_pieces, ms_put_pieces), (3, ps_body_of, tb_body_of, ms_body_of), (4, ps_is_named, tb_is_named, ms_is_named), (5, ps_place_in, tb_place_in, ms_place_in), (6, ps_narrow_of, tb_narrow_of, ms_narrow_of), (7, ps_is_unary, tb_is_unary, ms_is_unary), (8, ps_is_binary, tb_is_binary, ms_is_binary), (9, ps_can_trap, tb_can_trap, ms_can_trap), (10, ps_takes_of, tb_takes_of, ms_takes_of), (11, ps_never_ends, tb_never_ends, ms_never_ends), (12, ps_never_goes_on, tb_never_goes_on, ms_never_goes_on), (13, ps_cut_dead, tb_cut_dead, ms_cut_dead), (14, ps_put_drop, tb_put_drop, ms_put_drop), (15, ps_cut_drops, tb_cut_drops, ms_cut_drops), (16, ps__law_next, tb__law_next, ms__law_next), (17, ps__law_node, tb__law_node, ms__law_node), (18, ps__law_nodes, tb__law_nodes, ms__law_nodes), (19, ps__law_flat, tb__law_flat, ms__law_flat), (20, ps__law_come_to, tb__law_come_to, ms__law_come_to), (21, ps__law_is_cut_right, tb__law_is_cut_right, ms__law_is_cut_right), (22, ps__law_pure, tb__law_pure, ms__law_pure), (23, ps__law_numbers, tb__law_numbers, ms__law_numbers), (24, ps__law_others, tb__law_others, ms__law_others), (25, ps__law_drops, tb__law_drops, ms__law_drops), (26, ps__law_dropped, tb__law_dropped, ms__law_dropped), (27, ps_law, tb_law, ms_law), (100, ps_code, tb_code, ms_code), (101, ps_parts, tb_parts, ms_parts), (102, ps_labels, tb_labels, ms_labels)]
noncomputable def iniRef (K : Frag) : Addr := refOf (findIn K (.ref (clsOf K)) "__init__")
noncomputable def fd0 : FuncData := default
noncomputable def iniFd (K : Frag) : FuncData := (fdIn K (.ref (iniRef K))).getD fd0
noncomputable def metTab : List Str := [Str.ofString "parts", Str.ofString "labels"]
noncomputable def propA (K : Frag) : Addr := metOf K (Str.ofString "code")
/-- what is to be seen of the written heap, each by evaluation -/
structure KOk (K : Frag) : Prop where
  g : gChk K = true
  f : fChk K = true
  en : gl K (Str.ofString "enumerate") = some (.type "enumerate")
  bo : biTab.map (fun b => gl K b.name) = biTab.map fun b => some (biVal b)
  me : metTab.map (fun x => (findIn K (.ref (clsOf K)) x, typeIn K (.ref (metOf K x)), keepIn K (.ref (metOf K x)))) = metTab.map fun x => (some (some (.ref (metOf K x))), some (.type "function"), true)
  p1 : findIn K (.ref (clsOf K)) (Str.ofString "code") = some (some (.ref (propA K)))
  p2 : specialIn K (.ref (propA K)) "__get__" = some (some (.builtin "property.__get__"))
  p3 : takesIn K (.ref (propA K)) = some true
  p4 : recIn K (propA K) "property" = some (.ref (fstRef (recIn K (propA K) "property")) :: tlOf (recIn K (propA K) "property"))
  ga : findIn K (.ref (clsOf K)) "__getattribute__" = some (some (.builtin "object.__getattribute__"))
  gt : findIn K (.ref (clsOf K)) "__getattr__" = some none
  hd : hasDictIn K (clsOf K) = true
  sa : findIn K (.ref (clsOf K)) "__setattr__" = some (some (.builtin "object.__setattr__"))
  over : plainOver K (clsOf K) = true
  own : [4, 5, 6].map (fun n => findIn K (.ref (clsOf K)) (symAt n)) = [4, 5, 6].map fun _ => some none
  tr : (trTab.all fun e => trOf K e.1 e.2.1 e.2.2.1 e.2.2.2) = true
  i1 : makesIn K (clsOf K) = true
  i2 : fnV K (clsOf K) 0 = some (.ref (clsOf K))
  i3 : findIn K (.ref (clsOf K)) "__init__" = some (some (.ref (iniRef K)))
  i4 : typeIn K (.ref (iniRef K)) = some (.type "function")
  i5 : fdIn K (.ref (iniRef K)) = some (iniFd K)
  i6 : iniCk K (.ref (iniRef K)) ps___init__ ms___init__ = true
  i7 : ∀ (S : Setting) (v1 v2 : Value), peek K S (bindArgs (iniFd K) ⟨[v1, v2], []⟩) = some (ps___init__.zip [v1, v2, .none, .none])
  i8 : ∀ (S : Setting) (v1 v2 v3 : Value), peek K S (bindArgs (iniFd K) ⟨[v1, v2, v3], []⟩) = some (ps___init__.zip [v1, v2, v3, .none])
  law : nsIn K mainGlobals (fnAt 27) = some (some (.ref (refOf (nsIn K mainGlobals (fnAt 27)))))
theorem KOk.trs {K : Frag} (h : KOk K) {i n : Nat} {ps tb : List Str} {m : MS} (e : trTab[i]? = some (n, ps, tb, m)) : trOf K n ps tb m = true := List.all_eq_true.mp h.tr _ (List.mem_of_getElem? e)
theorem tr_pieces_of (K : Frag) (h : KOk K) : trOf K 1 ps_pieces_of tb_pieces_of ms_pieces_of = true := h.trs (i := 0) rfl
theorem tr_put_pieces (K : Frag) (h : KOk K) : trOf K 2 ps_put_pieces tb_put_pieces ms_put_pieces = true := h.trs (i := 1) rfl
theorem tr_body_of (K : Frag) (h : KOk K) : trOf K 3 ps_body_of tb_body_of ms_body_of = true := h.trs (i := 2) rfl
theorem tr_is_named (K : Frag) (h : KOk K) : trOf K 4 ps_is_named tb_is_named ms_is_named = true := h.trs (i := 3) rfl
theorem tr_place_in (K : Frag) (h : KOk K) : trOf K 5 ps_place_in tb_place_in ms_place_in = true := h.trs (i := 4) rfl
theorem tr_narrow_of (K : Frag) (h : KOk K) : trOf K 6 ps_narrow_of tb_narrow_of ms_narrow_of = true := h.trs (i := 5) rfl
theorem tr_is_unary (K : Frag) (h : KOk K) : trOf K 7 ps_is_unary tb_is_unary ms_is_unary = true := h.trs (i := 6) rfl
theorem tr_is_binary (K : Frag) (h : KOk K) : trOf K 8 ps_is_binary tb_is_binary ms_is_binary = true := h.trs (i := 7) rfl
theorem tr_can_trap (K : Frag) (h : KOk K) : trOf K 9 ps_can_trap tb_can_trap ms_can_trap = true := h.trs (i := 8) rfl
theorem tr_takes_of (K : Frag) (h : KOk K) : trOf K 10 ps_takes_of tb_takes_of ms_takes_of = true := h.trs (i := 9) rfl
theorem tr_never_ends (K : Frag) (h : KOk K) : trOf K 11 ps_never_ends tb_never_ends ms_never_ends = true := h.trs (i := 10) rfl
theorem tr_never_goes_on (K : Frag) (h : KOk K) : trOf K 12 ps_never_goes_on tb_never_goes_on ms_never_goes_on = true := h.trs (i := 11) rfl
theorem tr_cut_dead (K : Frag) (h : KOk K) : trOf K 13 ps_cut_dead tb_cut_dead ms_cut_dead = true := h.trs (i := 12) rfl
theorem tr_put_drop (K : Frag) (h : KOk K) : trOf K 14 ps_put_drop tb_put_drop ms_put_drop = true := h.trs (i := 13) rfl
theorem tr_cut_drops (K : Frag) (h : KOk K) : trOf K 15 ps_cut_drops tb_cut_drops ms_cut_drops = true := h.trs (i := 14) rfl
theorem tr_law_next (K : Frag) (h : KOk K) : trOf K 16 ps__law_next tb__law_next ms__law_next = true := h.trs (i := 15) rfl
theorem tr_law_node (K : Frag) (h : KOk K) : trOf K 17 ps__law_node tb__law_node ms__law_node = true := h.trs (i := 16) rfl
theorem tr_law_nodes (K : Frag) (h : KOk K) : trOf K 18 ps__law_nodes tb__law_nodes ms__law_nodes = true := h.trs (i := 17) rfl
theorem tr_law_flat (K : Frag) (h : KOk K) : trOf K 19 ps__law_flat tb__law_flat ms__law_flat = true := h.trs (i := 18) rfl
theorem tr_law_come_to (K : Frag) (h : KOk K) : trOf K 20 ps__law_come_to tb__law_come_to ms__law_come_to = true := h.trs (i := 19) rfl
theorem tr_law_is_cut_right (K : Frag) (h : KOk K) : trOf K 21 ps__law_is_cut_right tb__law_is_cut_right ms__law_is_cut_right = true := h.trs (i := 20) rfl
theorem tr_law_pure (K : Frag) (h : KOk K) : trOf K 22 ps__law_pure tb__law_pure ms__law_pure = true := h.trs (i := 21) rfl
theorem tr_law_numbers (K : Frag) (h : KOk K) : trOf K 23 ps__law_numbers tb__law_numbers ms__law_numbers = true := h.trs (i := 22) rfl
theorem tr_law_others (K : Frag) (h : KOk K) : trOf K 24 ps__law_others tb__law_others ms__law_others = true := h.trs (i := 23) rfl
theorem tr_law_drops (K : Frag) (h : KOk K) : trOf K 25 ps__law_drops tb__law_drops ms__law_drops = true := h.trs (i := 24) rfl
theorem tr_law_dropped (K : Frag) (h : KOk K) : trOf K 26 ps__law_dropped tb__law_dropped ms__law_dropped = true := h.trs (i := 25) rfl
theorem tr_law (K : Frag) (h : KOk K) : trOf K 27 ps_law tb_law ms_law = true := h.trs (i := 26) rfl
theorem tr_code (K : Frag) (h : KOk K) : trOf K 100 ps_code tb_code ms_code = true := h.trs (i := 27) rfl
theorem tr_parts (K : Frag) (h : KOk K) : trOf K 101 ps_parts tb_parts ms_parts = true := h.trs (i := 28) rfl
theorem tr_labels (K : Frag) (h : KOk K) : trOf K 102 ps_labels tb_labels ms_labels = true := h.trs (i := 29) rfl
end Mine
end
section
set_option maxRecDepth 100000
namespace Mine
/-- what a context of ours is -/
structure Std (X : Cx) : Prop where
  ok : KOk X.K
  C : X.C = clsOf X.K
  kin : X.K.In X.h₀
  lim : X.h₀.NoLimit
  bns : ∃ mb, X.h₀.Ns builtinsNs mb ∧ ∀ x : Str, x ≠ "__name__" → mb x = bootBuiltins x
section
variable {X : Cx}
theorem biAll : ∀ b : BI, b ∈ biTab := fun b => by cases b <;> (repeat first | exact .head _ | apply List.Mem.tail)
theorem Std.cx (H : Std X) : CxOk X where
  cls := {
    ga := by rw [H.C]; exact H.ok.ga
    gt := by rw [H.C]; exact H.ok.gt
    hd := by rw [H.C]; exact H.ok.hd
    sa := by rw [H.C]; exact H.ok.sa
    over := by rw [H.C]; exact H.ok.over
    own := fun n h4 h7 => by
      rw [H.C]
      exact List.map_inj_left.mp H.ok.own n (by have : n = 4 ∨ n = 5 ∨ n = 6 := by omega
                                                rcases this with rfl | rfl | rfl <;> decide)
    meth := fun x hx => by
      rw [H.C]
      have h := List.map_inj_left.mp H.ok.me x (by rcases hx with rfl | rfl <;> simp [metTab])
      simp only [Prod.mk.injEq] at h
      exact ⟨_, h⟩
    prop := by
      rw [H.C]
      exact ⟨_, _, _, H.ok.p1, H.ok.p2, H.ok.p3, H.ok.p4⟩ }
  kin := H.kin
  lim := H.lim
  bns := H.bns
  bok := fun b => List.map_inj_left.mp H.ok.bo b (biAll b)
  eok := H.ok.en
  fok := fun n hn => by
    have := List.all_eq_true.mp H.ok.f n (List.mem_range.mpr hn)
    try dsimp only at this
    cases q : gl X.K (fnAt n) with
    | none => rw [q] at this; cases this
    | some v => rw [q] at this; exact ⟨v, rfl, this⟩
  gok := fun n hn => by
    have := List.all_eq_true.mp H.ok.g n (List.mem_range.mpr hn)
    try dsimp only at this
    cases q : gl X.K (gAt n) with
    | none => rw [q] at this; cases this
    | some v => rw [q] at this; exact ⟨v, rfl, fun I hI => repB_ok hI _ this⟩
theorem Std.ini (H : Std X) : IniOk X where
  makes := by rw [H.C]; exact H.ok.i1
  pc := by show fnV X.K X.C 0 = _; rw [H.C]; exact H.ok.i2
  ini := by
    rw [H.C]
    exact ⟨_, _, H.ok.i3, H.ok.i4, H.ok.i5, H.ok.i6, H.ok.i7, H.ok.i8⟩
/-- what is handed back, when a ghost step may still be taken -/
noncomputable def Ret (X : Cx) (Q : AV → Mem → Prop) (v : AV) (M : Mem) : Prop := ∃ v' M'', Gh X v M v' M'' ∧ Q v' M''
theorem Ret.now {Q : AV → Mem → Prop} {v : AV} {M : Mem} (h : Q v M) : Ret X Q v M := ⟨v, M, Gh.refl, h⟩
theorem Ret.by {Q : AV → Mem → Prop} {v v' : AV} {M M' : Mem} (g : Gh X v M v' M') (h : Ret X Q v' M') : Ret X Q v M := let ⟨a, b, c, d⟩ := h; ⟨a, b, g.trans c, d⟩
theorem Spec.up {k k' n : Nat} {vs : List AV} {M : Mem} {Q : AV → Mem → Prop} (h : k ≤ k') (sp : Spec X k n vs M Q) : Spec X k' n vs M Q :=
  ⟨fun A hA => sp.run A ⟨by have := hA.depth; exact lin [A.depth, k, recursionLimit, k'] [] false (.h false false (.v 1) (.v 3) (.h false false (.a (.a (.v 0) (.v 3)) (.l 1)) (.v 2) (.v 0))) (.a (.a (.v 0) (.v 1)) (.l 1)) (.v 2) 1 [1, 1] (Eq.refl true) h this, by have := hA.units; exact lin [A.units, k, cLine, k'] [] false (.h false false (.v 1) (.v 3) (.h false false (.a (.a (.a (.v 0) (.m 8 (.v 3))) (.l 196)) (.l 1)) (.v 2) (.v 0))) (.a (.a (.a (.v 0) (.m 8 (.v 1))) (.l 196)) (.l 1)) (.v 2) 1 [8, 1] (Eq.refl true) h this, hA.handled⟩⟩
theorem Std.fn (H : Std X) {k n : Nat} {ps tbl : List Str} {m : MS} {avs : List AV} {M : Mem} {Q : AV → Mem → Prop} (ht : ∀ K, KOk K → trOf K n ps tbl m = true) (hl : avs.length = ps.length)
    (w : WS gAV (Spec X k) m (fun M' _ => Ret X Q .none M') (fun v M' => Ret X Q v M') M (avs.map some ++ List.replicate (tbl.length - ps.length) none)) : Spec X (k + 1) n avs M Q := by
  obtain ⟨f, h1, h2⟩ := onOpt_inv (ht X.K H.ok)
  exact fn_entry H.cx (show fnV X.K X.C n = _ by rw [H.C]; exact h1) h2 hl w
end
end Mine
end
section
set_option maxRecDepth 100000
namespace Mine
noncomputable def fstS : MS → MS
  | .seq a _ => a
  | s => s
noncomputable def sndS : MS → MS
  | .seq _ b => b
  | s => s
section
variable {X : Cx} {k : Nat} {M : Mem} {Q : AV → Mem → Prop}
theorem br_intro {b : Bool} {P R : Prop} (h1 : b = true → P) (h2 : b = false → R) : br b P R := by cases b <;> first | exact h1 rfl | exact h2 rfl
theorem br_eq {b : Bool} {P : Bool → Prop} (h : P b) : br b (P true) (P false) := by cases b <;> exact h
noncomputable def rg (a c b : Int) : Bool := cmpI .le a c && cmpI .lt c b
noncomputable def rge (a c b : Int) : Bool := cmpI .le a c && cmpI .le c b
theorem br_rg {a c b : Int} {P R : Prop} (h : br (rg a c b) P R) : br (cmpI .le a c) (br (cmpI .lt c b) P R) R := by
  unfold rg at h
  cases h1 : cmpI .le a c <;> rw [h1] at h <;> exact h
theorem br_rge {a c b : Int} {P R : Prop} (h : br (rge a c b) P R) : br (cmpI .le a c) (br (cmpI .le c b) P R) R := by
  unfold rge at h
  cases h1 : cmpI .le a c <;> rw [h1] at h <;> exact h
noncomputable def placeIn (c a b n : Int) : AV := if rg a c (a + n) then .tup [.int (c - a), .int 32] else if rg b c (b + n) then .tup [.int (c - b), .int 64] else .none
theorem br_if {b : Bool} {P : AV → Prop} {x y : AV} (h : P (if b then x else y)) : br b (P x) (P y) := by cases b <;> exact h
theorem place_in_spec (H : Std X) {c a b n : Int} (h : Q (placeIn c a b n) M) : Spec X (k + 1) 5 [.int c, .int a, .int b, .int n] M Q := by
  refine H.fn tr_place_in rfl ?_
  have l : 2 ≤ lim := Nat.le_of_ble_eq_true rfl
  unfold placeIn at h
  refine br_rg ?_
  cases h1 : rg a c (a + n) with
  | true => rw [h1] at h; exact ⟨l, .now h⟩
  | false =>
    rw [h1] at h
    refine br_rg ?_
    cases h2 : rg b c (b + n) with
    | true => rw [h2] at h; exact ⟨l, .now h⟩
    | false => rw [h2] at h; exact .now h
noncomputable def placeB (c a b n : Int) : Bool := rg a c (a + n) || rg b c (b + n)
theorem place_isN {c a b n : Int} {P : Bool → Prop} (h : P (placeB c a b n)) : wIsN false (placeIn c a b n) P := by
  unfold placeB at h
  unfold placeIn
  cases h1 : rg a c (a + n) <;> rw [h1] at h
  · cases h2 : rg b c (b + n) <;> rw [h2] at h <;> exact h
  · exact h
noncomputable def narrowB (c : Int) : Bool := rg 192 c 194 || (rg 194 c (194 + 3) || cmpI .eq c 172)
theorem rg_iff {a c b : Int} (h : rg a c b = true) : a ≤ c ∧ c < b := ⟨of_decide_eq_true (Bool.and_eq_true_iff.mp h).1, of_decide_eq_true (Bool.and_eq_true_iff.mp h).2⟩
theorem narrow_of_spec (H : Std X) {c : Int} (h : ∀ v, (∀ P : Bool → Prop, P (narrowB c) → wIsN false v P) → Q v M) : Spec X (k + 1) 6 [.int c] M Q := by
  refine H.fn tr_narrow_of rfl ?_
  have l : 2 ≤ lim := Nat.le_of_ble_eq_true rfl
  have third : (∀ v, (∀ P : Bool → Prop, P (cmpI .eq c 172) → wIsN false v P) → Q v M) → WS gAV (Spec X k) (sndS (sndS ms_narrow_of)) (fun M' _ => Ret X Q .none M') (fun v M' => Ret X Q v M') M [some (.int c)] := fun h => by
    refine br_intro (fun h3 => ⟨l, .now (h _ fun P p => ?_)⟩) fun h3 => .now (h _ fun P p => ?_)
    · have h3 : cmpI .eq c 172 = true := h3
      rw [h3] at p; exact p
    · have h3 : cmpI .eq c 172 = false := h3
      rw [h3] at p; exact p
  unfold narrowB at h
  refine br_rg (a := 192) (b := 194) ?_
  cases h1 : rg 192 c 194 with
  | true =>
    rw [h1] at h
    have r := rg_iff h1
    exact ⟨by decide, by decide, by show 0 ≤ c - 192; exact lin [] [c] true (.h false true (.l 192) (.v 0) (.v 0)) (.l 0) (.s (.v 0) (.l 192)) 1 [1] (Eq.refl true) r.1, by show c - 192 ≤ 8; exact lin [] [c] true (.h false true (.a (.v 0) (.l 1)) (.l 194) (.v 0)) (.s (.v 0) (.l 192)) (.l 8) 1 [1] (Eq.refl true) r.2, l, .now (h _ fun P p => p)⟩
  | false =>
    rw [h1] at h
    refine br_rg (a := 194) (b := 194 + 3) ?_
    cases h2 : rg 194 c (194 + 3) with
    | true =>
      rw [h2] at h
      have r := rg_iff h2
      exact ⟨by decide, by decide, by show 0 ≤ c - 194; exact lin [] [c] true (.h false true (.l 194) (.v 0) (.v 0)) (.l 0) (.s (.v 0) (.l 194)) 1 [1] (Eq.refl true) r.1, by show c - 194 ≤ 8; exact lin [] [c] true (.h false true (.a (.v 0) (.l 1)) (.l 197) (.v 0)) (.s (.v 0) (.l 194)) (.l 8) 1 [1] (Eq.refl true) r.2, l, .now (h _ fun P p => p)⟩
    | false => rw [h2] at h; exact third h
noncomputable def unary (c : Int) : Bool := decide (c ∈ [(69 : Int), 80, 167, 173]) || (placeB c 103 121 3 || narrowB c)
theorem is_unary_spec (H : Std X) {c : Int} (h : Q (.bool (unary c)) M) : Spec X (k + 2) 7 [.int c] M Q := by
  refine H.fn tr_is_unary rfl ?_
  unfold unary at h
  refine ⟨Nat.le_of_ble_eq_true rfl, _, _, rfl, rfl, ?_⟩
  show br (decide (c ∈ [(69 : Int), 80, 167, 173])) _ _
  cases h1 : decide (c ∈ [(69 : Int), 80, 167, 173]) with
  | true => rw [h1] at h; exact .now h
  | false =>
    rw [h1] at h
    refine ⟨_, rfl, by decide, place_in_spec H (place_isN ?_)⟩
    show br (placeB c 103 121 3 == false) _ _
    cases h2 : placeB c 103 121 3 with
    | true =>
      show Ret X Q (.bool (placeB c 103 121 3)) M
      rw [h2] at h ⊢
      exact .now h
    | false =>
      rw [h2] at h
      exact narrow_of_spec H fun v hv => hv _ (.now h)
noncomputable def binary (c : Int) : Bool := placeB c 70 81 10 || placeB c 106 124 15
theorem is_binary_spec (H : Std X) {c : Int} (h : Q (.bool (binary c)) M) : Spec X (k + 2) 8 [.int c] M Q := by
  refine H.fn tr_is_binary rfl ?_
  unfold binary at h
  refine ⟨_, rfl, by decide, place_in_spec H (place_isN ?_)⟩
  show br (placeB c 70 81 10) _ _
  cases h1 : placeB c 70 81 10 with
  | true => rw [h1] at h; exact .now h
  | false =>
    rw [h1] at h
    exact ⟨_, rfl, by decide, place_in_spec H (place_isN (.now h))⟩
noncomputable def trap (c : Int) : Bool := if rg 106 c 121 then rge 3 (c - 106) 6 else rg 124 c 139 && rge 3 (c - 124) 6
theorem can_trap_spec (H : Std X) {c : Int} (h : Q (.bool (trap c)) M) : Spec X (k + 2) 9 [.int c] M Q := by
  refine H.fn tr_can_trap rfl ?_
  refine ⟨_, rfl, by decide, place_in_spec H ?_⟩
  unfold placeIn
  show WS gAV (Spec X (k + 1)) _ _ _ M [some (.int c), some (if rg 106 c 121 then .tup [.int (c - 106), .int 32] else if rg 124 c 139 then .tup [.int (c - 124), .int 64] else .none)]
  have go : ∀ x y : Int, Q (.bool (rge 3 x 6)) M → WS gAV (Spec X (k + 1)) (sndS ms_can_trap) (fun M' _ => Ret X Q .none M') (fun v M' => Ret X Q v M') M [some (.int c), some (.tup [.int x, .int y])] := fun x y q => by
    refine ⟨_, _, rfl, rfl, by decide, by decide, ?_⟩
    show br (cmpI .le 3 x) _ _
    refine br_intro (fun p => .now ?_) fun p => .now ?_
    · have e : rge 3 x 6 = cmpI .le x 6 := (congrArg (· && cmpI .le x 6) p).trans rfl
      rw [e] at q; exact q
    · have e : rge 3 x 6 = false := (congrArg (· && cmpI .le x 6) p).trans rfl
      rw [e] at q; exact q
  unfold trap at h
  cases h1 : rg 106 c 121 with
  | true => rw [h1] at h; exact go _ _ h
  | false =>
    rw [h1] at h
    cases h2 : rg 124 c 139 with
    | true => rw [h2] at h; exact go _ _ h
    | false => rw [h2] at h; exact .now h
noncomputable def takes (c : Int) : Int := if cmpI .eq c 209 || unary c then 1 else if decide (c ∈ [(27 : Int), 28]) then 3 else if binary c && !trap c then 2 else 0
theorem takes_of_spec (H : Std X) {c : Int} (h : Q (.int (takes c)) M) : Spec X (k + 3) 10 [.int c] M Q := by
  refine H.fn tr_takes_of rfl ?_
  unfold takes at h
  have rest : Q (.int (if decide (c ∈ [(27 : Int), 28]) then 3 else if binary c && !trap c then 2 else 0)) M → WS gAV (Spec X (k + 2)) (sndS ms_takes_of) (fun M' _ => Ret X Q .none M') (fun v M' => Ret X Q v M') M [some (.int c)] := fun h => by
    refine ⟨Nat.le_of_ble_eq_true rfl, _, _, rfl, rfl, ?_⟩
    show br (decide (c ∈ [(27 : Int), 28])) _ _
    cases h1 : decide (c ∈ [(27 : Int), 28]) with
    | true => rw [h1] at h; exact .now h
    | false =>
      rw [h1] at h
      refine is_binary_spec H ?_
      show br (binary c == true) _ _
      cases h2 : binary c with
      | false => rw [h2] at h; exact .now h
      | true =>
        rw [h2] at h
        refine can_trap_spec H ?_
        show br (!trap c) _ _
        cases h3 : trap c <;> rw [h3] at h <;> exact .now h
  show br (cmpI .eq c 209 == false) _ _
  cases h1 : cmpI .eq c 209 with
  | true => rw [h1] at h; exact .now h
  | false =>
    rw [h1] at h
    refine is_unary_spec H ?_
    show br (unary c) _ _
    cases h2 : unary c with
    | true => rw [h2] at h; exact .now h
    | false => rw [h2] at h; exact rest h
noncomputable def pl (c : Int) : Int := if rge 106 c 120 then c - 106 else if rge 124 c 138 then c - 124 else 3
noncomputable def pure5 (p : Int) : Option Int := if rge 3 p 6 then none else some 2
noncomputable def pure4 (c : Int) : Option Int := if rge 70 c 79 || rge 81 c 90 then some 2 else pure5 (pl c)
noncomputable def pure3 (c : Int) : Option Int := if decide (c ∈ [(27 : Int), 28]) then some 3 else pure4 c
noncomputable def pure2 (c : Int) : Option Int := if decide (c ∈ [(69 : Int), 80, 167, 172, 173, 209]) || (rge 103 c 105 || (rge 121 c 123 || rge 192 c 196)) then some 1 else pure3 c
noncomputable def pureN (c : Int) : Option Int := if decide (c ∈ [(32 : Int), 35, 63, 65, 66, 208, 210, 64528]) then some 0 else pure2 c
noncomputable def oI : Option Int → AV
  | none => .none
  | some i => .int i
theorem br_chn {a c b : Int} {P : Bool → Prop} (h : P (rge a c b)) : br (cmpI .le a c) (P (cmpI .le c b)) (P false) := by
  unfold rge at h
  cases h1 : cmpI .le a c <;> rw [h1] at h <;> exact h
theorem br_or {b : Bool} {P : Bool → Prop} {R : Prop} (h : b = true → P true) (h' : b = false → R) : br (b == false) R (P b) := by cases b <;> first | exact h rfl | exact h' rfl
theorem oI_if {b : Bool} {x y : Option Int} {P : AV → Prop} (h : P (oI (if b then x else y))) : br b (P (oI x)) (P (oI y)) := by cases b <;> exact h
noncomputable abbrev PW (X : Cx) (k : Nat) (Q : AV → Mem → Prop) (M : Mem) (c : Int) (m : MS) : Prop := WS gAV (Spec X k) m (fun M' _ => Ret X Q .none M') (fun v M' => Ret X Q v M') M [some (.int c), none]
theorem pure_5 {c : Int} (h : Q (oI (pure5 (pl c))) M) : PW X k Q M c (sndS (sndS (sndS (sndS ms__law_pure)))) := by
  have ret : ∀ p, Q (oI (pure5 p)) M → WS gAV (Spec X k) (sndS (sndS (sndS (sndS (sndS ms__law_pure))))) (fun M' _ => Ret X Q .none M') (fun v M' => Ret X Q v M') M [some (.int c), some (.int p)] := fun p h =>
    br_rge (oI_if (P := fun v => Ret X Q v M) (.now h))
  unfold pl at h
  refine br_rge ?_
  cases h1 : rge 106 c 120 with
  | true => rw [h1] at h; exact ret _ h
  | false =>
    rw [h1] at h
    refine (br_rge (a := 124) (c := c) (b := 138) ?_ : br (cmpI .le 124 c) _ _)
    cases h2 : rge 124 c 138 with
    | true => rw [h2] at h; exact ret _ h
    | false => rw [h2] at h; exact ret _ h
theorem pure_4 {c : Int} (h : Q (oI (pure4 c)) M) : PW X k Q M c (sndS (sndS (sndS ms__law_pure))) := by
  unfold pure4 at h
  refine br_chn (P := fun t => br (t == false) _ (br t _ _)) ?_
  cases h1 : rge 70 c 79 with
  | true => rw [h1] at h; exact .now h
  | false =>
    rw [h1] at h
    refine (br_chn (a := 81) (c := c) (b := 90) (P := fun t => br t _ _) ?_ : br (cmpI .le 81 c) _ _)
    cases h2 : rge 81 c 90 with
    | true => rw [h2] at h; exact .now h
    | false => rw [h2] at h; exact pure_5 h
theorem pure_3 {c : Int} (h : Q (oI (pure3 c)) M) : PW X k Q M c (sndS (sndS ms__law_pure)) := by
  unfold pure3 at h
  refine ⟨Nat.le_of_ble_eq_true rfl, _, _, rfl, rfl, ?_⟩
  show br (decide (c ∈ [(27 : Int), 28])) _ _
  cases h1 : decide (c ∈ [(27 : Int), 28]) with
  | true => rw [h1] at h; exact .now h
  | false => rw [h1] at h; exact pure_4 h
theorem pure_2 {c : Int} (h : Q (oI (pure2 c)) M) : PW X k Q M c (sndS ms__law_pure) := by
  unfold pure2 at h
  have four : ∀ t, Q (oI (if t then some 1 else pure3 c)) M → br t (Ret X Q (.int 1) M) (PW X k Q M c (sndS (sndS ms__law_pure))) := fun t h => by
    cases t with
    | true => exact .now h
    | false => exact pure_3 h
  refine ⟨Nat.le_of_ble_eq_true rfl, _, _, rfl, rfl, ?_⟩
  show br (decide (c ∈ [(69 : Int), 80, 167, 172, 173, 209]) == false) _ (br (decide (c ∈ [(69 : Int), 80, 167, 172, 173, 209])) _ _)
  cases h1 : decide (c ∈ [(69 : Int), 80, 167, 172, 173, 209]) with
  | true => rw [h1] at h; exact four true h
  | false =>
    rw [h1] at h
    refine (br_chn (a := 103) (c := c) (b := 105) (P := fun t => br (t == false) _ (br t _ _)) ?_ : br (cmpI .le 103 c) _ _)
    cases h2 : rge 103 c 105 with
    | true => rw [h2] at h; exact four true h
    | false =>
      rw [h2] at h
      refine (br_chn (a := 121) (c := c) (b := 123) (P := fun t => br (t == false) _ (br t _ _)) ?_ : br (cmpI .le 121 c) _ _)
      cases h3 : rge 121 c 123 with
      | true => rw [h3] at h; exact four true h
      | false =>
        rw [h3] at h
        exact (br_chn (a := 192) (c := c) (b := 196) (P := fun t => br t _ _) (four _ h) : br (cmpI .le 192 c) _ _)
theorem law_pure_spec (H : Std X) {c : Int} (h : Q (oI (pureN c)) M) : Spec X (k + 1) 22 [.int c] M Q := by
  refine H.fn tr_law_pure rfl ?_
  unfold pureN at h
  refine ⟨Nat.le_of_ble_eq_true rfl, _, _, rfl, rfl, ?_⟩
  show br (decide (c ∈ [(32 : Int), 35, 63, 65, 66, 208, 210, 64528])) _ _
  cases h1 : decide (c ∈ [(32 : Int), 35, 63, 65, 66, 208, 210, 64528]) with
  | true => rw [h1] at h; exact .now h
  | false => rw [h1] at h; exact pure_2 h
end
end Mine
end
section
set_option maxRecDepth 100000
namespace Mine
/-! pieces as data -/
mutual
inductive PT where
  | mk (c : Int) (r : List Int) (f s : PO)
inductive PO where
  | none
  | some (ps : PL)
inductive PL where
  | nil
  | cons (p : PT) (ps : PL)
end
noncomputable def tI (r : List Int) : AV := .tup (r.map .int)
mutual
noncomputable def PV (M : Mem) : PT → AV → List Addr → Prop
  | .mk c r f s, v, F => ∃ fv sv F1 F2, v = .inst (tI (c :: r)) fv sv ∧ OV M f fv F1 ∧ OV M s sv F2 ∧ F = F1 ++ F2
noncomputable def OV (M : Mem) : PO → AV → List Addr → Prop
  | .none, v, F => v = .none ∧ F = []
  | .some ps, v, F => ∃ a vs F', v = .ref a ∧ M a = some (.list vs) ∧ LV M ps vs F' ∧ F = a :: F'
noncomputable def LV (M : Mem) : PL → List AV → List Addr → Prop
  | .nil, vs, F => vs = [] ∧ F = []
  | .cons p ps, vs, F => ∃ v vs' F1 F2, vs = v :: vs' ∧ PV M p v F1 ∧ LV M ps vs' F2 ∧ F = F1 ++ F2
end
mutual
theorem PV.frame {M M' : Mem} : ∀ {p : PT} {v : AV} {F : List Addr}, (∀ b ∈ F, M' b = M b) → PV M p v F → PV M' p v F
  | .mk c r f s, v, F, h, x => by
    obtain ⟨fv, sv, F1, F2, e, h1, h2, rfl⟩ := x
    exact ⟨fv, sv, F1, F2, e, OV.frame (fun b hb => h b (List.mem_append_left _ hb)) h1, OV.frame (fun b hb => h b (List.mem_append_right _ hb)) h2, rfl⟩
theorem OV.frame {M M' : Mem} : ∀ {p : PO} {v : AV} {F : List Addr}, (∀ b ∈ F, M' b = M b) → OV M p v F → OV M' p v F
  | .none, v, F, h, x => x
  | .some ps, v, F, h, x => by
    obtain ⟨a, vs, F', e, hm, h1, rfl⟩ := x
    exact ⟨a, vs, F', e, (h a List.mem_cons_self).trans hm, LV.frame (fun b hb => h b (List.mem_cons_of_mem _ hb)) h1, rfl⟩
theorem LV.frame {M M' : Mem} : ∀ {p : PL} {v : List AV} {F : List Addr}, (∀ b ∈ F, M' b = M b) → LV M p v F → LV M' p v F
  | .nil, v, F, h, x => x
  | .cons p ps, vs, F, h, x => by
    obtain ⟨v, vs', F1, F2, e, h1, h2, rfl⟩ := x
    exact ⟨v, vs', F1, F2, e, PV.frame (fun b hb => h b (List.mem_append_left _ hb)) h1, LV.frame (fun b hb => h b (List.mem_append_right _ hb)) h2, rfl⟩
end
mutual
theorem PV.dom {M : Mem} {z : Addr} : ∀ {p : PT} {v : AV} {F : List Addr}, PV M p v F → z ∈ F → M z ≠ none
  | .mk c r f s, v, F, x, hz => by
    obtain ⟨fv, sv, F1, F2, e, h1, h2, rfl⟩ := x
    rcases List.mem_append.mp hz with h | h
    · exact OV.dom h1 h
    · exact OV.dom h2 h
theorem OV.dom {M : Mem} {z : Addr} : ∀ {p : PO} {v : AV} {F : List Addr}, OV M p v F → z ∈ F → M z ≠ none
  | .none, v, F, x, hz => by rw [x.2] at hz; cases hz
  | .some ps, v, F, x, hz => by
    obtain ⟨a, vs, F', e, hm, h1, rfl⟩ := x
    rcases List.mem_cons.mp hz with rfl | h
    · rw [hm]; exact fun q => by cases q
    · exact LV.dom h1 h
theorem LV.dom {M : Mem} {z : Addr} : ∀ {p : PL} {v : List AV} {F : List Addr}, LV M p v F → z ∈ F → M z ≠ none
  | .nil, v, F, x, hz => by rw [x.2] at hz; cases hz
  | .cons p ps, vs, F, x, hz => by
    obtain ⟨v, vs', F1, F2, e, h1, h2, rfl⟩ := x
    rcases List.mem_append.mp hz with h | h
    · exact PV.dom h1 h
    · exact LV.dom h2 h
end
noncomputable def opn : PO → List (List Int) → List (List Int) → List (List Int)
  | .none, _, _ => []
  | .some _, b, e => b ++ (e ++ [[11]])
mutual
noncomputable def flP : PT → List (List Int)
  | .mk c r f s => (c :: r) :: opn f (flB f) (flE s)
noncomputable def flB : PO → List (List Int)
  | .none => []
  | .some ps => flL ps
noncomputable def flE : PO → List (List Int)
  | .none => []
  | .some ps => [5] :: flL ps
noncomputable def flL : PL → List (List Int)
  | .nil => []
  | .cons p ps => flP p ++ flL ps
end
mutual
noncomputable def dpP : PT → Nat
  | .mk _ _ f s => max (dpO f) (dpO s)
noncomputable def dpO : PO → Nat
  | .none => 0
  | .some ps => dpL ps + 1
noncomputable def dpL : PL → Nat
  | .nil => 0
  | .cons p ps => max (dpP p) (dpL ps)
end
section
variable {X : Cx} {k : Nat} {M : Mem} {Q : AV → Mem → Prop}
theorem code_spec (H : Std X) {c : Int} {r : List Int} {f s : AV} (h : Q (.int c) M) : Spec X (k + 1) 100 [.inst (tI (c :: r)) f s] M Q := by
  refine H.fn tr_code rfl ?_
  exact ⟨rfl, _, _, rfl, rfl, by decide, by decide, .now h⟩
noncomputable def optL : AV → List AV
  | .none => []
  | v => [v]
noncomputable def isON : AV → Bool
  | .none => true
  | .ref _ => true
  | _ => false
theorem on_cases {f : AV} (h : isON f = true) : f = .none ∨ ∃ a, f = .ref a := by
  cases f <;> first | exact .inl rfl | exact .inr ⟨_, rfl⟩ | cases h
theorem parts_spec (H : Std X) {pl f s : AV} (hf : isON f = true) (hs : isON s = true) (h : Q (.lst (optL f ++ optL s)) M) : Spec X (k + 1) 101 [.inst pl f s] M Q := by
  have l {n : Nat} (h : Nat.ble n lim = true) : n ≤ lim := Nat.le_of_ble_eq_true h
  refine H.fn tr_parts rfl ?_
  rcases on_cases hf with rfl | ⟨a, rfl⟩ <;> rcases on_cases hs with rfl | ⟨b, rfl⟩
  · exact ⟨rfl, rfl, l rfl, _, _, rfl, l rfl, trivial, rfl, trivial, rfl, trivial, l rfl, .inl (.now h)⟩
  · exact ⟨rfl, rfl, l rfl, _, _, rfl, l rfl, trivial, rfl, trivial, rfl, rfl, trivial, l rfl, .inl (.now h)⟩
  · exact ⟨rfl, rfl, l rfl, _, _, rfl, l rfl, trivial, rfl, rfl, trivial, rfl, trivial, l rfl, .inl (.now h)⟩
  · exact ⟨rfl, rfl, l rfl, _, _, rfl, l rfl, trivial, rfl, rfl, trivial, rfl, rfl, trivial, l rfl, .inl (.now h)⟩
theorem labels_spec (H : Std X) {c : Int} {r : List Int} {f s : AV} (hr : r.length < 1000) (h : Q (tI (if c = 12 ∨ c = 13 ∨ c = 14 then r else [])) M) : Spec X (k + 2) 102 [.inst (tI (c :: r)) f s] M Q := by
  refine H.fn tr_labels rfl ?_
  refine ⟨rfl, code_spec H ⟨rfl, Nat.le_of_ble_eq_true rfl, _, _, rfl, rfl, br_intro (fun h1 => ?_) (fun h1 => ?_)⟩⟩
  · have h1 : c ∈ [(12 : Int), 13, 14] := of_decide_eq_true h1
    rw [if_pos (by simpa using h1)] at h
    have hlen : (tI (c :: r)) = .tup (.int c :: r.map .int) := rfl
    refine ⟨rfl, _, _, _, rfl, rfl, rfl, (fun q => by cases q), 1, rfl, rfl, rfl, Nat.le_refl 1, Nat.succ_le_succ (Nat.zero_le _), ?_, .now h⟩
    show ((c :: r).map AV.int).length ≤ lim
    rw [List.length_map]
    exact Nat.le_trans hr (Nat.le_of_ble_eq_true rfl)
  · have h1 : ¬ c ∈ [(12 : Int), 13, 14] := of_decide_eq_false h1
    rw [if_neg (by simpa using h1)] at h
    exact ⟨Nat.le_of_ble_eq_true rfl, .now h⟩
end
end Mine
end
section
set_option maxRecDepth 100000
namespace Mine
section
variable {X : Cx} {k : Nat} {M : Mem} {Q : AV → Mem → Prop}
theorem look_ref {a : Addr} {vs : List AV} (h : M a = some (.list vs)) : looks M (.ref a) = some (vs, fun M => M a = some (.list vs)) := by
  simp only [looks, h]
theorem lists_ref {a : Addr} {vs : List AV} (h : M a = some (.list vs)) : lists M (.ref a) = some vs := by
  simp only [lists, h]
theorem seqs_ref {a : Addr} {vs : List AV} (h : M a = some (.list vs)) : seqs M (.ref a) = some vs := by
  simp only [seqs, h]

/-- the flat form -/
noncomputable abbrev rows (l : List (List Int)) : List AV := l.map tI
noncomputable def PutOk (X : Cx) (k : Nat) (ps : PL) : Prop := ∀ (M : Mem) (Q : AV → Mem → Prop) (a b : Addr) (vs xs : List AV) (F : List Addr), M a = some (.list vs) → LV M ps vs F → b ∉ a :: F → M b = some (.list xs) → xs.length + (flL ps).length ≤ lim →
  Q .none (upd M b (.list (xs ++ rows (flL ps)))) → Spec X k 2 [.ref a, .ref b] M Q

noncomputable def putBody : MS := (.seq (.exp (.meth .append (.loc 1) (.cons (.att (.loc 2) .plain) .nil))) (.seq (.ifs (.isN false (.att (.loc 2) .first)) (.seq (.exp (.call 2 (.cons (.att (.loc 2) .first) (.cons (.loc 1) .nil)))) (.seq (.ifs (.isN false (.att (.loc 2) .second)) (.seq (.exp (.meth .append (.loc 1) (.cons (.tuple (.cons (.gl 20) .nil)) .nil))) (.seq (.exp (.call 2 (.cons (.att (.loc 2) .second) (.cons (.loc 1) .nil)))) .skip)) .skip) (.seq (.exp (.meth .append (.loc 1) (.cons (.tuple (.cons (.gl 21) .nil)) .nil))) .skip))) .skip) .skip))

theorem put_one {R : AV → Mem → Prop} {K : Mem → Env0 → Prop} {a b : Addr} {p : PT} {v : AV} {xs : List AV} {F : List Addr} {d : Nat} (ih : ∀ ps, dpL ps + 1 ≤ d → PutOk X k ps) (hd : dpP p ≤ d) (hv : PV M p v F) (hb : b ∉ F) (hm : M b = some (.list xs)) (hl : xs.length + (flP p).length ≤ lim)
    (hK : K (upd M b (.list (xs ++ rows (flP p)))) [some (.ref a), some (.ref b), some v]) : WS gAV (Spec X k) putBody K R M [some (.ref a), some (.ref b), some v] := by
  cases p with
  | mk c r f s =>
    obtain ⟨fv, sv, F1, F2, rfl, h1, h2, rfl⟩ := hv
    rw [List.mem_append, not_or] at hb
    simp only [flP, List.length_cons] at hl
    refine ⟨⟨xs, lists_ref hm⟩, rfl, xs, hm, by exact lin [xs.length, lim, (opn f (flB f) (flE s)).length] [] false (.h false false (.a (.v 0) (.a (.v 2) (.l 1))) (.v 1) (.v 0)) (.a (.v 0) (.l 1)) (.v 1) 1 [1] (Eq.refl true) hl, ?_⟩
    cases f with
    | none =>
      obtain ⟨rfl, rfl⟩ := h1
      refine ⟨rfl, ?_⟩
      exact hK
    | some ps =>
      obtain ⟨a1, vs1, F1', rfl, hm1, hl1, rfl⟩ := h1
      refine ⟨rfl, rfl, ?_⟩
      simp only [List.mem_cons, not_or] at hb
      have hab : b ≠ a1 := hb.1.1
      simp only [flB, opn, List.length_append, List.length_cons, List.length_nil] at hl
      simp only [dpP, dpO] at hd
      have fr1 : ∀ z, z ≠ b → upd M b (.list (xs ++ [tI (c :: r)])) z = M z := fun z hz => upd_ne hz
      refine ih ps (by exact lin [dpL ps, d, max (dpL ps + 1) (dpO s)] [] false (.h false false (.v 2) (.v 1) (.h false false (.a (.v 0) (.l 1)) (.v 2) (.v 0))) (.a (.v 0) (.l 1)) (.v 1) 1 [1, 1] (Eq.refl true) hd (Nat.le_max_left (dpL ps + 1) (dpO s))) _ _ a1 b vs1 (xs ++ [tI (c :: r)]) F1' ((fr1 _ (Ne.symm hab)).trans hm1) (hl1.frame fun z hz => fr1 z fun q => hb.1.2 (q ▸ hz)) ?_ upd_self (by simp; exact lin [xs.length, (flL ps).length, lim, (flE s).length] [] false (.h false false (.a (.v 0) (.a (.a (.v 1) (.a (.v 3) (.l 1))) (.l 1))) (.v 2) (.v 0)) (.a (.a (.v 0) (.l 1)) (.v 1)) (.v 2) 1 [1] (Eq.refl true) hl) ?_
      · simp only [List.mem_cons, not_or]; exact ⟨hab, hb.1.2⟩
      rw [upd_upd]
      have fr2 : ∀ z, z ≠ b → upd M b (.list (xs ++ [tI (c :: r)] ++ rows (flL ps))) z = M z := fun z hz => upd_ne hz
      cases s with
      | none =>
        obtain ⟨rfl, rfl⟩ := h2
        refine ⟨rfl, ⟨_, lists_ref upd_self⟩, Nat.le_of_ble_eq_true rfl, _, upd_self, by simp [rows]; simp [flE] at hl; exact lin [xs.length, (flL ps).length, lim] [] false (.h false false (.a (.v 0) (.a (.a (.v 1) (.l 1)) (.l 1))) (.v 2) (.v 0)) (.a (.a (.v 0) (.a (.v 1) (.l 1))) (.l 1)) (.v 2) 1 [1] (Eq.refl true) hl, ?_⟩
        rw [upd_upd]
        have e : xs ++ rows (flP (.mk c r (.some ps) .none)) = xs ++ [tI (c :: r)] ++ rows (flL ps) ++ [tI [11]] := by simp [flP, opn, flB, flE]
        rw [e] at hK
        exact hK
      | some qs =>
        obtain ⟨a2, vs2, F2', rfl, hm2, hl2, rfl⟩ := h2
        simp only [List.mem_cons, not_or] at hb
        simp only [flE, List.length_cons] at hl
        simp only [dpO] at hd
        refine ⟨rfl, ⟨_, lists_ref upd_self⟩, Nat.le_of_ble_eq_true rfl, _, upd_self, by simp [rows]; exact lin [xs.length, (flL ps).length, lim, (flL qs).length] [] false (.h false false (.a (.v 0) (.a (.a (.v 1) (.a (.a (.v 3) (.l 1)) (.l 1))) (.l 1))) (.v 2) (.v 0)) (.a (.a (.v 0) (.a (.v 1) (.l 1))) (.l 1)) (.v 2) 1 [1] (Eq.refl true) hl, rfl, ?_⟩
        rw [upd_upd]
        have fr3 : ∀ z, z ≠ b → upd M b (.list (xs ++ [tI (c :: r)] ++ rows (flL ps) ++ [.tup [.int 5]])) z = M z := fun z hz => upd_ne hz
        refine ih qs (by exact lin [dpL qs, d, max (dpL ps + 1) (dpL qs + 1)] [] false (.h false false (.v 2) (.v 1) (.h false false (.a (.v 0) (.l 1)) (.v 2) (.v 0))) (.a (.v 0) (.l 1)) (.v 1) 1 [1, 1] (Eq.refl true) hd (Nat.le_max_right (dpL ps + 1) (dpL qs + 1))) _ _ a2 b vs2 _ F2' ((fr3 _ (Ne.symm hb.2.1)).trans hm2) (hl2.frame fun z hz => fr3 z fun q => hb.2.2 (q ▸ hz)) ?_ upd_self (by simp [rows]; exact lin [xs.length, (flL ps).length, (flL qs).length, lim] [] false (.h false false (.a (.v 0) (.a (.a (.v 1) (.a (.a (.v 2) (.l 1)) (.l 1))) (.l 1))) (.v 3) (.v 0)) (.a (.a (.v 0) (.a (.a (.v 1) (.l 1)) (.l 1))) (.v 2)) (.v 3) 1 [1] (Eq.refl true) hl) ?_
        · simp only [List.mem_cons, not_or]; exact ⟨hb.2.1, hb.2.2⟩
        rw [upd_upd]
        refine ⟨⟨_, lists_ref upd_self⟩, Nat.le_of_ble_eq_true rfl, _, upd_self, by simp [rows]; exact lin [xs.length, (flL ps).length, (flL qs).length, lim] [] false (.h false false (.a (.v 0) (.a (.a (.v 1) (.a (.a (.v 2) (.l 1)) (.l 1))) (.l 1))) (.v 3) (.v 0)) (.a (.a (.v 0) (.a (.a (.v 1) (.a (.v 2) (.l 1))) (.l 1))) (.l 1)) (.v 3) 1 [1] (Eq.refl true) hl, ?_⟩
        rw [upd_upd]
        have e : xs ++ rows (flP (.mk c r (.some ps) (.some qs))) = xs ++ [tI (c :: r)] ++ rows (flL ps) ++ [tI [5]] ++ rows (flL qs) ++ [tI [11]] := by simp [flP, opn, flB, flE]
        rw [e] at hK
        exact hK

theorem put_loop {R : AV → Mem → Prop} {K : Mem → Env0 → Prop} {a b : Addr} {vs0 : List AV} {d : Nat} (hab : b ≠ a) (ih : ∀ ps, dpL ps + 1 ≤ d → PutOk X k ps) : ∀ (ps : PL) {vs xs : List AV} {F : List Addr} {M : Mem} {x : Option AV}, dpL ps ≤ d → M a = some (.list vs0) → LV M ps vs F → b ∉ F → M b = some (.list xs) → xs.length + (flL ps).length ≤ lim →
    (∀ x, K (upd M b (.list (xs ++ rows (flL ps)))) [some (.ref a), some (.ref b), x]) → wLoop (fun M => M a = some (.list vs0)) (fun v k' M ρ => WS gAV (Spec X k) putBody k' R M (stv ρ 2 v)) K vs M [some (.ref a), some (.ref b), x]
  | .nil, vs, xs, F, M, x, _, ha, hv, _, hm, _, hK => by
    obtain ⟨rfl, rfl⟩ := hv
    refine ⟨ha, ?_⟩
    have e : upd M b (.list (xs ++ rows (flL .nil))) = M := by
      funext z
      unfold upd
      by_cases h : z = b <;> simp [h, flL, rows, hm]
    have := hK x
    rwa [e] at this
  | .cons p ps, vs, xs, F, M, x, hd, ha, hv, hb, hm, hl, hK => by
    obtain ⟨v, vs', F1, F2, rfl, h1, h2, rfl⟩ := hv
    rw [List.mem_append, not_or] at hb
    simp only [dpL] at hd
    simp only [flL, List.length_append] at hl
    have fr : ∀ z, z ≠ b → upd M b (.list (xs ++ rows (flP p))) z = M z := fun z hz => upd_ne hz
    refine ⟨ha, put_one ih (by exact lin [dpP p, d, max (dpP p) (dpL ps)] [] false (.h false false (.v 2) (.v 1) (.h false false (.v 0) (.v 2) (.v 0))) (.v 0) (.v 1) 1 [1, 1] (Eq.refl true) hd (Nat.le_max_left (dpP p) (dpL ps))) h1 hb.1 hm (by exact lin [xs.length, (flP p).length, lim, (flL ps).length] [] false (.h false false (.a (.v 0) (.a (.v 1) (.v 3))) (.v 2) (.v 0)) (.a (.v 0) (.v 1)) (.v 2) 1 [1] (Eq.refl true) hl) ?_⟩
    refine put_loop hab ih ps (F := F2) (by exact lin [dpL ps, d, max (dpP p) (dpL ps)] [] false (.h false false (.v 2) (.v 1) (.h false false (.v 0) (.v 2) (.v 0))) (.v 0) (.v 1) 1 [1, 1] (Eq.refl true) hd (Nat.le_max_right (dpP p) (dpL ps))) ((fr a (Ne.symm hab)).trans ha) (h2.frame fun z hz => fr z fun q => hb.2 (q ▸ hz)) hb.2 upd_self (by simp [rows]; exact lin [xs.length, (flP p).length, (flL ps).length, lim] [] false (.h false false (.a (.v 0) (.a (.v 1) (.v 2))) (.v 3) (.v 0)) (.a (.a (.v 0) (.v 1)) (.v 2)) (.v 3) 1 [1] (Eq.refl true) hl) fun x => ?_
    rw [upd_upd]
    have := hK x
    simpa [flL, rows] using this
theorem put_spec (H : Std X) : ∀ (d : Nat) (ps : PL), dpL ps ≤ d → PutOk X (k + d + 1) ps := by
  intro d
  induction d with
  | zero =>
    intro ps hd M Q a b vs xs F ha hv hb hm hl hQ
    simp only [List.mem_cons, not_or] at hb
    refine H.fn tr_put_pieces rfl ?_
    refine ⟨_, _, look_ref ha, ?_⟩
    exact put_loop (d := 0) hb.1 (fun _ h => nomatch h) ps hd ha hv hb.2 hm hl fun x => .now hQ
  | succ d ih =>
    intro ps hd M Q a b vs xs F ha hv hb hm hl hQ
    simp only [List.mem_cons, not_or] at hb
    refine H.fn tr_put_pieces rfl ?_
    refine ⟨_, _, look_ref ha, ?_⟩
    exact put_loop (d := d + 1) hb.1 (fun ps h => ih ps (by exact lin [dpL ps, d] [] false (.h false false (.a (.v 0) (.l 1)) (.a (.v 1) (.l 1)) (.v 0)) (.v 0) (.v 1) 1 [1] (Eq.refl true) h)) ps hd ha hv hb.2 hm hl fun x => .now hQ
theorem Gh.frzM {a : Addr} {M : Mem} {xs : List AV} (hM : M a = none) : Gh X (.ref a) (upd M a (.list xs)) (.lst xs) M :=
  (Gh.frz upd_self).trans (Gh.drop fun b mo h => by
    by_cases hb : b = a
    · subst hb; rw [hM] at h; cases h
    · rw [del_ne hb, upd_ne hb]; exact h)
theorem body_of_spec (H : Std X) {ps : PL} {a : Addr} {vs : List AV} {F : List Addr} (ha : M a = some (.list vs)) (hv : LV M ps vs F) (hl : (flL ps).length < lim) (h : Q (.lst (rows (flL ps ++ [[11]]))) M) : Spec X (k + dpL ps + 2) 3 [.ref a] M Q := by
  refine H.fn tr_body_of rfl ?_
  refine ⟨Nat.zero_le _, .inr fun b hb => ?_⟩
  have hne : ∀ z, M z ≠ none → z ≠ b := fun z hz q => hz (q ▸ hb)
  have hF : ∀ z ∈ F, M z ≠ none := fun z => hv.dom
  have hab : b ≠ a := fun q => by rw [← q, hb] at ha; cases ha
  have fr : ∀ z, z ≠ b → upd M b (.list []) z = M z := fun z hz => upd_ne hz
  refine put_spec H (dpL ps) ps (Nat.le_refl _) _ _ a b vs [] F ((fr a (Ne.symm hab)).trans ha) (hv.frame fun z hz => fr z (hne z (hF z hz))) ?_ upd_self (by simp; exact lin [(flL ps).length, lim] [] false (.h false false (.a (.v 0) (.l 1)) (.v 1) (.v 0)) (.v 0) (.v 1) 1 [1] (Eq.refl true) hl) ?_
  · simp only [List.mem_cons, not_or]
    exact ⟨hab, fun hm => hne b (hF b hm) rfl⟩
  rw [upd_upd]
  refine ⟨⟨_, lists_ref upd_self⟩, Nat.le_of_ble_eq_true rfl, _, upd_self, by simp [rows]; exact lin [(flL ps).length, lim] [] false (.h false false (.a (.v 0) (.l 1)) (.v 1) (.v 0)) (.a (.v 0) (.l 1)) (.v 1) 1 [1] (Eq.refl true) hl, ?_⟩
  rw [upd_upd]
  refine .by (Gh.frzM hb) (.now ?_)
  have e : rows (flL ps ++ [[11]]) = [] ++ rows (flL ps) ++ [tI [11]] := by simp
  rw [e] at h
  exact h
end
end Mine
end
section
set_option maxRecDepth 100000
namespace Mine
noncomputable def lab (c : Int) (r : List Int) : List Int := if c = 12 ∨ c = 13 ∨ c = 14 then r else []
mutual
noncomputable def nmP (d : Int) : PT → Bool
  | .mk c r f s => decide (d ∈ lab c r) || (nmO (d + 1) f || nmO (d + 1) s)
noncomputable def nmO (d : Int) : PO → Bool
  | .none => false
  | .some ps => nmL d ps
noncomputable def nmL (d : Int) : PL → Bool
  | .nil => false
  | .cons p ps => nmP d p || nmL d ps
end
noncomputable def sOk : PO → PO → Prop
  | .none, .some _ => False
  | _, _ => True
mutual
noncomputable def okP : PT → Prop
  | .mk _ r f s => (r.length < 1000 ∧ sOk f s) ∧ okO f ∧ okO s
noncomputable def okO : PO → Prop
  | .none => True
  | .some ps => okL ps
noncomputable def okL : PL → Prop
  | .nil => True
  | .cons p ps => okP p ∧ okL ps
end
theorem toInts_map : ∀ r : List Int, toInts (r.map .int) = some r
  | [] => rfl
  | a :: r => by rw [List.map_cons, toInts, toInts_map r]; rfl
section
variable {X : Cx} {k : Nat} {M : Mem} {Q : AV → Mem → Prop}
noncomputable def NamOk (X : Cx) (k : Nat) (ps : PL) : Prop := ∀ (M : Mem) (Q : AV → Mem → Prop) (a : Addr) (d : Int) (vs : List AV) (F : List Addr), M a = some (.list vs) → LV M ps vs F → okL ps → Q (.bool (nmL d ps)) M → Spec X k 4 [.ref a, .int d] M Q
noncomputable def namBody : MS := (.seq (.ifs (.mem true (.loc 1) (.meth .labels (.loc 2) .nil)) (.seq (.ret (.con (.bool true))) .skip) .skip) (.seq (.fors 3 (.meth .parts (.loc 2) .nil) (.seq (.ifs (.call 4 (.cons (.loc 3) (.cons (.bin .add (.loc 1) (.con (.int (1)))) .nil))) (.seq (.ret (.con (.bool true))) .skip) .skip) .skip)) .skip))
theorem OV.ison {v : AV} {F : List Addr} : ∀ {p : PO}, OV M p v F → isON v = true
  | .none, h => by rw [h.1]; rfl
  | .some ps, h => by obtain ⟨a, vs, F', rfl, _⟩ := h; rfl
/-- the parts that are there -/
noncomputable def POs : PO → List PL
  | .none => []
  | .some ps => [ps]
noncomputable abbrev namIn : MS := (.seq (.ifs (.call 4 (.cons (.loc 3) (.cons (.bin .add (.loc 1) (.con (.int (1)))) .nil))) (.seq (.ret (.con (.bool true))) .skip) .skip) .skip)
theorem nam_part {R : AV → Mem → Prop} {K : Mem → Env0 → Prop} {d : Int} {x0 x2 : Option AV} {p : PO} {v : AV} {F : List Addr} {n : Nat} {rest : List AV} (ih : ∀ ps, dpL ps + 1 ≤ n → NamOk X k ps) (hd : dpO p ≤ n) (hv : OV M p v F) (ho : okO p) (hT : nmO (d + 1) p = true → R (.bool true) M)
    (hK : nmO (d + 1) p = false → ∀ y, wLoop (fun _ => True) (fun v k' M ρ => WS gAV (Spec X k) namIn k' R M (stv ρ 3 v)) K rest M [x0, some (.int d), x2, y]) (y : Option AV) : wLoop (fun _ => True) (fun v k' M ρ => WS gAV (Spec X k) namIn k' R M (stv ρ 3 v)) K (optL v ++ rest) M [x0, some (.int d), x2, y] := by
  cases p with
  | none =>
    rw [hv.1]
    exact hK rfl y
  | some ps =>
    obtain ⟨b, ws, F', rfl, hm, hl, _⟩ := hv
    exact ⟨trivial, ih ps hd _ _ b (d + 1) ws F' hm hl ho (br_intro hT fun h => hK h _)⟩
theorem nam_one (H : Std X) {R : AV → Mem → Prop} {K : Mem → Env0 → Prop} {a : Addr} {d : Int} {p : PT} {v : AV} {y : Option AV} {F : List Addr} {n : Nat} (ih : ∀ ps, dpL ps + 1 ≤ n → NamOk X (k + 2) ps) (hd : dpP p ≤ n) (hv : PV M p v F) (ho : okP p)
    (hT : nmP d p = true → R (.bool true) M) (hK : nmP d p = false → ∀ y, K M [some (.ref a), some (.int d), some v, y]) : WS gAV (Spec X (k + 2)) namBody K R M [some (.ref a), some (.int d), some v, y] := by
  obtain ⟨c, r, f, s⟩ := p
  obtain ⟨fv, sv, F1, F2, rfl, h1, h2, rfl⟩ := hv
  have hd := Nat.max_le.mp hd
  have e : nmP d (.mk c r f s) = (decide (d ∈ lab c r) || (nmO (d + 1) f || nmO (d + 1) s)) := rfl
  rw [e] at hT hK
  refine ⟨rfl, rfl, labels_spec H ho.1.1 ⟨_, _, rfl, toInts_map _, br_intro (fun h => ?_) (fun h => ?_)⟩⟩
  · have h : decide (d ∈ lab c r) = true := h
    rw [h] at hT; exact hT rfl
  · have h : decide (d ∈ lab c r) = false := h
    rw [h] at hT hK
    refine ⟨rfl, rfl, parts_spec (k := k + 1) H h1.ison h2.ison ⟨_, _, rfl, ?_⟩⟩
    refine nam_part ih hd.1 h1 ho.2.1 (fun q => hT (by rw [q]; rfl)) (fun q1 => ?_) y
    rw [q1] at hT hK
    have := nam_part (K := fun M ρ => K M ρ) (R := R) (rest := []) ih hd.2 h2 ho.2.2 hT fun q2 y => ⟨trivial, hK q2 y⟩
    rw [List.append_nil] at this
    exact this
theorem nam_loop (H : Std X) {R : AV → Mem → Prop} {K : Mem → Env0 → Prop} {a : Addr} {d : Int} {vs0 : List AV} {n : Nat} (ih : ∀ ps, dpL ps + 1 ≤ n → NamOk X (k + 2) ps) (ha : M a = some (.list vs0)) : ∀ (ps : PL) {vs : List AV} {F : List Addr} {x y : Option AV}, dpL ps ≤ n → LV M ps vs F → okL ps →
    (nmL d ps = true → R (.bool true) M) → (nmL d ps = false → ∀ x y, K M [some (.ref a), some (.int d), x, y]) → wLoop (fun M => M a = some (.list vs0)) (fun v k' M ρ => WS gAV (Spec X (k + 2)) namBody k' R M (stv ρ 2 v)) K vs M [some (.ref a), some (.int d), x, y]
  | .nil, vs, F, x, y, _, hv, _, _, hK => by
    obtain ⟨rfl, rfl⟩ := hv
    exact ⟨ha, hK rfl _ _⟩
  | .cons p ps, vs, F, x, y, hd, hv, ho, hT, hK => by
    obtain ⟨v, vs', F1, F2, rfl, h1, h2, rfl⟩ := hv
    simp only [dpL] at hd
    refine ⟨ha, nam_one H ih (by exact lin [dpP p, n, max (dpP p) (dpL ps)] [] false (.h false false (.v 2) (.v 1) (.h false false (.v 0) (.v 2) (.v 0))) (.v 0) (.v 1) 1 [1, 1] (Eq.refl true) hd (Nat.le_max_left (dpP p) (dpL ps))) h1 ho.1 (fun h => hT (by simp [nmL, h])) fun h y => ?_⟩
    exact nam_loop H ih ha ps (by exact lin [dpL ps, n, max (dpP p) (dpL ps)] [] false (.h false false (.v 2) (.v 1) (.h false false (.v 0) (.v 2) (.v 0))) (.v 0) (.v 1) 1 [1, 1] (Eq.refl true) hd (Nat.le_max_right (dpP p) (dpL ps))) h2 ho.2 (fun h' => hT (by simp [nmL, h'])) fun h' x y => hK (by simp [nmL, h, h']) x y
theorem nam_spec (H : Std X) : ∀ (n : Nat) (ps : PL), dpL ps ≤ n → NamOk X (k + n + 3) ps := by
  intro n
  induction n with
  | zero =>
    intro ps hd M Q a d vs F ha hv ho hQ
    refine H.fn tr_is_named rfl ?_
    refine ⟨_, _, look_ref ha, ?_⟩
    exact nam_loop H (n := 0) (fun _ h => nomatch h) ha ps hd hv ho (fun h => .now (h ▸ hQ)) fun h x y => .now (h ▸ hQ)
  | succ n ih =>
    intro ps hd M Q a d vs F ha hv ho hQ
    refine H.fn tr_is_named rfl ?_
    refine ⟨_, _, look_ref ha, ?_⟩
    refine nam_loop H (k := k + n + 1) (n := n + 1) (fun ps h => ?_) ha ps hd hv ho (fun h => .now (h ▸ hQ)) fun h x y => .now (h ▸ hQ)
    exact ih ps (by exact lin [dpL ps, n] [] false (.h false false (.a (.v 0) (.l 1)) (.a (.v 1) (.l 1)) (.v 0)) (.v 0) (.v 1) 1 [1] (Eq.refl true) h)
end
end Mine
end
section
set_option maxRecDepth 100000
namespace Mine
noncomputable def isLast (c : Int) : Bool := decide (c ∈ [(0 : Int), 12, 14, 15, 18, 19])
noncomputable def codeP : PT → Int
  | .mk c _ _ _ => c
noncomputable def lastL : PL → Option PT
  | .nil => none
  | .cons p ps => match ps with
    | .nil => some p
    | ps => lastL ps
noncomputable def ngW (c : Int) (f s : PO) (ef es : Bool) : Bool := match f with
  | .none => false
  | .some _ => ef && (c == 3 || (!(c == 4 && !es) && !(nmO 0 f || nmO 0 s)))
mutual
noncomputable def ngP : PT → Bool
  | .mk c _ f s => ngW c f s (neO f) (neO s)
noncomputable def neO : PO → Bool
  | .none => false
  | .some ps => neL ps
noncomputable def neL : PL → Bool
  | .nil => false
  | .cons p ps => match ps with
    | .nil => isLast (codeP p) || ngP p
    | ps => neL ps
end
theorem neL_last : ∀ {ps : PL} {q : PT}, lastL ps = some q → neL ps = (isLast (codeP q) || ngP q)
  | .cons p .nil, q, h => by cases h; rfl
  | .cons p (.cons p' ps), q, h => by
    show neL (.cons p' ps) = _
    exact neL_last h
theorem lv_last {M : Mem} : ∀ {ps : PL} {vs : List AV} {F : List Addr}, LV M ps vs F → okL ps → (ps = .nil ∧ vs = []) ∨ ∃ q v F', vs.getLast? = some v ∧ lastL ps = some q ∧ PV M q v F' ∧ okP q ∧ dpP q ≤ dpL ps ∧ vs ≠ []
  | .nil, vs, F, h, _ => .inl ⟨rfl, h.1⟩
  | .cons p .nil, vs, F, h, ho => by
    obtain ⟨v, vs', F1, F2, rfl, h1, ⟨rfl, rfl⟩, rfl⟩ := h
    exact .inr ⟨p, v, F1, rfl, rfl, h1, ho.1, by simp [dpL], by simp⟩
  | .cons p (.cons p' ps), vs, F, h, ho => by
    obtain ⟨v, vs', F1, F2, rfl, h1, h2, rfl⟩ := h
    rcases lv_last h2 ho.2 with ⟨h, _⟩ | ⟨q, v', F', e1, e2, e3, e4, e5, e6⟩
    · cases h
    · refine .inr ⟨q, v', F', ?_, e2, e3, e4, ?_, by simp⟩
      · rw [List.getLast?_cons_of_ne_nil e6]; exact e1
      · have : dpL (.cons p (.cons p' ps)) = max (dpP p) (dpL (.cons p' ps)) := rfl
        exact lin [dpP q, dpL (PL.cons p (PL.cons p' ps)), dpL (PL.cons p' ps), max (dpP p) (dpL (PL.cons p' ps))] [] false (.h false false (.v 0) (.v 2) (.h true false (.v 1) (.v 3) (.h false false (.v 2) (.v 3) (.v 0)))) (.v 0) (.v 1) 1 [1, .negSucc 0, 1] (Eq.refl true) e5 this (Nat.le_max_right (dpP p) (dpL (PL.cons p' ps)))
theorem getI_last {vs : List AV} {v : AV} (h : vs.getLast? = some v) : getI vs (-1) = some v := by
  unfold getI
  rw [if_neg (by decide)]
  have hne : vs ≠ [] := by rintro rfl; cases h
  have : (1 : Nat) ≤ vs.length := List.length_pos_iff.mpr hne
  rw [if_pos (show (-1 : Int).natAbs ≤ vs.length from this)]
  rw [List.getLast?_eq_getElem?] at h
  exact h
section
variable {X : Cx} {k : Nat} {M : Mem} {Q : AV → Mem → Prop}
noncomputable def NeOk (X : Cx) (k : Nat) (ps : PL) : Prop := ∀ (M : Mem) (Q : AV → Mem → Prop) (a : Addr) (vs : List AV) (F : List Addr), M a = some (.list vs) → LV M ps vs F → okL ps → Q (.bool (neL ps)) M → Spec X k 11 [.ref a] M Q
noncomputable def NgOk (X : Cx) (k : Nat) (p : PT) : Prop := ∀ (M : Mem) (Q : AV → Mem → Prop) (v : AV) (F : List Addr), PV M p v F → okP p → Q (.bool (ngP p)) M → Spec X k 12 [v] M Q
theorem ne_of (H : Std X) {n : Nat} (ih : ∀ p, dpP p ≤ n → NgOk X (k + 1) p) {ps : PL} (hd : dpL ps ≤ n) : NeOk X (k + 2) ps := fun M Q a vs F ha hv ho hQ => by
  refine H.fn tr_never_ends rfl ?_
  refine ⟨vs, lists_ref ha, ?_⟩
  rcases lv_last hv ho with ⟨rfl, rfl⟩ | ⟨q, v, F', e1, e2, e3, e4, e5, e6⟩
  · exact .now hQ
  · have he : vs.isEmpty = false := by cases vs <;> first | rfl | exact absurd rfl e6
    rw [he]
    refine ⟨vs, v, seqs_ref ha, getI_last e1, by decide, by decide, ?_⟩
    obtain ⟨c, r, f, s⟩ := q
    have hn := neL_last e2
    have e3' := e3
    obtain ⟨fv, sv, F1, F2, rfl, h1, h2, rfl⟩ := e3
    refine ⟨rfl, code_spec H ⟨rfl, _, _, rfl, rfl, br_intro (fun h => ?_) (fun h => ?_)⟩⟩
    · refine ih _ (Nat.le_trans e5 hd) _ _ _ _ e3' e4 (.now ?_)
      have h2 : (isLast c == false) = true := h
      have : isLast c = false := by cases q : isLast c <;> rw [q] at h2 <;> first | rfl | cases h2
      rw [hn, codeP, this, Bool.false_or] at hQ
      exact hQ
    · have h2 : (isLast c == false) = false := h
      have : isLast c = true := by cases q : isLast c <;> rw [q] at h2 <;> first | rfl | cases h2
      rw [hn, codeP, this, Bool.true_or] at hQ
      show Ret X Q (.bool (isLast c)) M
      rw [this]; exact .now hQ
/-- a part that is not there, or goes on -/
theorem ne_opt {n : Nat} (ihE : ∀ ps, dpL ps + 1 ≤ n → NeOk X k ps) {f : PO} {fv : AV} {F : List Addr} (hf : OV M f fv F) (ok : okO f) (hd : dpO f ≤ n) {P : Bool → Mem → Prop} (h : P (!neO f) M) :
    noAny fv = true ∧ wIsN true fv fun b => br (b == false) (noAny fv = true ∧ Spec X k 11 [fv] M fun v M => wB v fun b => P (!b) M) (P b M) := by
  cases f with
  | none => rw [hf.1]; exact ⟨rfl, h⟩
  | some ps =>
    obtain ⟨b, ws, F', rfl, hm, hl, _⟩ := hf
    exact ⟨rfl, rfl, ihE ps hd _ _ b ws F' hm hl ok h⟩
noncomputable def accB : PO → List Bool
  | .none => []
  | .some ps => [nmL 0 ps]
theorem acc_any (f s : PO) : (accB f ++ accB s).any id = (nmO 0 f || nmO 0 s) := by
  cases f <;> cases s
  · rfl
  · exact Bool.or_false _
  · exact (Bool.or_false _).trans (Bool.or_false _).symm
  · exact congrArg (_ || ·) (Bool.or_false _)
theorem acc_len (f : PO) : (accB f).length ≤ 1 := by cases f <;> first | exact Nat.zero_le _ | exact Nat.le_refl _
theorem toB_map : ∀ l : List Bool, toBools (l.map .bool) = some l
  | [] => rfl
  | b :: l => by rw [List.map_cons, toBools, toB_map l]; rfl
noncomputable abbrev namStep (X : Cx) (k : Nat) : AV → (Option AV → Mem → Prop) → Mem → Prop := fun v k' M => [none, some v] = [none, some v] ∧ Spec X k 4 [v, .int 0] M fun r M => [none, some v] = [none, some v] ∧ k' (some r) M
theorem nam_comp {chk : Mem → Prop} {K : List AV → Mem → Prop} {n : Nat} (hc : ∀ M, chk M) (ih : ∀ ps, dpL ps + 1 ≤ n → NamOk X k ps) {p : PO} {v : AV} {F : List Addr} {rest : List AV} {acc : List Bool} (hd : dpO p ≤ n) (hv : OV M p v F) (ho : okO p)
    (hK : wComp chk (namStep X k) K rest ((acc ++ accB p).map .bool) M) : wComp chk (namStep X k) K (optL v ++ rest) (acc.map .bool) M := by
  cases p with
  | none =>
    rw [hv.1]
    rw [accB, List.append_nil] at hK
    exact hK
  | some ps =>
    obtain ⟨b, ws, F', rfl, hm, hl, _⟩ := hv
    rw [List.map_append] at hK
    exact ⟨hc M, rfl, ih ps hd _ _ b 0 ws F' hm hl ho ⟨rfl, hK⟩⟩
theorem ng_any (H : Std X) {n : Nat} (ihN : ∀ ps, dpL ps + 1 ≤ n → NamOk X (k + 2) ps) {pl fv sv : AV} {f s : PO} {F1 F2 : List Addr} (h1 : OV M f fv F1) (h2 : OV M s sv F2) (o1 : okO f) (o2 : okO s) (d1 : dpO f ≤ n) (d2 : dpO s ≤ n) (hQ : Q (.bool (!(nmO 0 f || nmO 0 s))) M) :
    WS gAV (Spec X (k + 2)) (sndS (sndS (sndS ms_never_goes_on))) (fun M' _ => Ret X Q .none M') (fun v M' => Ret X Q v M') M [some (.inst pl fv sv), none] := by
  have l {n : Nat} (h : Nat.ble n lim = true) : n ≤ lim := Nat.le_of_ble_eq_true h
  have hl : (optL fv ++ optL sv).length ≤ 2 := by
    have : ∀ v : AV, (optL v).length ≤ 1 := fun v => by cases v <;> first | exact Nat.zero_le _ | exact Nat.le_refl _
    rw [List.length_append]
    exact Nat.add_le_add (this fv) (this sv)
  refine ⟨rfl, rfl, parts_spec (k := k + 1) H h1.ison h2.ison ⟨_, _, rfl, Nat.le_trans hl (l rfl), ?_⟩⟩
  refine nam_comp (acc := []) (fun _ => trivial) ihN d1 h1 o1 ?_
  rw [← List.append_nil (optL sv)]
  refine nam_comp (fun _ => trivial) ihN d2 h2 o2 ⟨trivial, ?_, .inl ⟨_, _, rfl, toB_map _, ?_, ?_⟩⟩
  · rw [List.length_map, List.nil_append, List.length_append]; exact Nat.le_trans (Nat.add_le_add (acc_len f) (acc_len s)) (l rfl)
  · rw [List.nil_append, List.length_append]; exact Nat.le_trans (Nat.add_le_add (acc_len f) (acc_len s)) (l rfl)
  rw [List.nil_append, acc_any]
  exact .now hQ
noncomputable abbrev NgW (X : Cx) (k : Nat) (Q : AV → Mem → Prop) (M : Mem) (m : MS) (v : AV) : Prop := WS gAV (Spec X (k + 2)) m (fun M' _ => Ret X Q .none M') (fun v M' => Ret X Q v M') M [some v, none]
theorem ng_of (H : Std X) {n : Nat} (ihE : ∀ ps, dpL ps + 1 ≤ n → NeOk X (k + 2) ps) (ihN : ∀ ps, dpL ps + 1 ≤ n → NamOk X (k + 2) ps) {p : PT} (hd : dpP p ≤ n) : NgOk X (k + 3) p := fun M Q v F hv ho hQ => by
  obtain ⟨c, r, f, s⟩ := p
  obtain ⟨fv, sv, F1, F2, rfl, h1, h2, rfl⟩ := hv
  have hd := Nat.max_le.mp hd
  refine H.fn tr_never_goes_on rfl ?_
  have hq : ngP (.mk c r f s) = (neO f && (c == 3 || (!(c == 4 && !neO s) && !(nmO 0 f || nmO 0 s)))) := by
    cases f with
    | none => rfl
    | some ps => rfl
  rw [hq] at hQ
  refine ne_opt (P := fun t M => br t (Ret X Q (.bool false) M) (NgW X k Q M (sndS ms_never_goes_on) (.inst (tI (c :: r)) fv sv))) ihE h1 ho.2.1 hd.1 ?_
  cases he : neO f with
  | false => rw [he] at hQ; exact .now hQ
  | true =>
    rw [he, Bool.true_and] at hQ
    refine ⟨rfl, code_spec H ⟨rfl, br_intro (fun h3 => ?_) (fun h3 => ?_)⟩⟩
    · have h3 : (c == 3) = true := h3
      rw [h3] at hQ; exact .now hQ
    · have h3 : (c == 3) = false := h3
      rw [h3, Bool.false_or] at hQ
      have fin : Q (.bool (!(nmO 0 f || nmO 0 s))) M → WS gAV (Spec X (k + 2)) (sndS (sndS (sndS ms_never_goes_on))) (fun M' _ => Ret X Q .none M') (fun v M' => Ret X Q v M') M [some (.inst (tI (c :: r)) fv sv), none] := ng_any H ihN h1 h2 ho.2.1 ho.2.2 hd.1 hd.2
      refine ⟨rfl, code_spec H ⟨rfl, br_intro (fun h4 => ?_) fun h4 => br_intro (fun h4' => ?_) fun _ => ?_⟩⟩
      · have h4 : (c == 4) = true := (beq_true _).symm.trans h4
        rw [h4] at hQ
        refine ne_opt (P := fun t M => br t (Ret X Q (.bool false) M) (NgW X k Q M (sndS (sndS (sndS ms_never_goes_on))) (.inst (tI (c :: r)) fv sv))) ihE h2 ho.2.2 hd.2 ?_
        cases he2 : neO s with
        | false => rw [he2] at hQ; exact .now hQ
        | true => rw [he2] at hQ; exact fin hQ
      · have h4' : cmpI .eq c 4 = true := h4'
        rw [h4'] at h4; cases h4
      · have h4 : (c == 4) = false := by cases q : (c == 4) <;> first | rfl | (exfalso; have q : cmpI .eq c 4 = true := q; rw [q] at h4; cases h4)
        rw [h4] at hQ; exact fin hQ
theorem ends_spec (H : Std X) : ∀ (n : Nat), (∀ p, dpP p ≤ n → NgOk X (k + 2 * n + 4) p) ∧ ∀ ps, dpL ps ≤ n → NeOk X (k + 2 * n + 5) ps := by
  intro n
  induction n with
  | zero =>
    have h1 : ∀ p, dpP p ≤ 0 → NgOk X (k + 4) p := fun p hp => ng_of (k := k + 1) H (n := 0) (fun _ h => nomatch h) (fun _ h => nomatch h) hp
    exact ⟨h1, fun ps hps => ne_of (k := k + 3) H h1 hps⟩
  | succ n ih =>
    have h1 : ∀ p, dpP p ≤ n + 1 → NgOk X (k + 2 * n + 6) p := fun p hp => by
      refine ng_of (k := k + 2 * n + 3) H (n := n + 1) (fun ps h => ih.2 ps (by exact lin [dpL ps, n] [] false (.h false false (.a (.v 0) (.l 1)) (.a (.v 1) (.l 1)) (.v 0)) (.v 0) (.v 1) 1 [1] (Eq.refl true) h)) (fun ps h => ?_) hp
      have := nam_spec (k := k + n + 2) H n ps (by exact lin [dpL ps, n] [] false (.h false false (.a (.v 0) (.l 1)) (.a (.v 1) (.l 1)) (.v 0)) (.v 0) (.v 1) 1 [1] (Eq.refl true) h)
      have e : k + n + 2 + n + 3 = k + 2 * n + 3 + 2 := by exact linE [k, n] [] false (.v 0) (.a (.a (.a (.a (.v 0) (.v 1)) (.l 2)) (.v 1)) (.l 3)) (.a (.a (.a (.v 0) (.m 2 (.v 1))) (.l 3)) (.l 2)) 1 [] 1 [] (Eq.refl true) (Eq.refl true)
      rwa [e] at this
    have e1 : k + 2 * (n + 1) + 4 = k + 2 * n + 6 := by exact linE [k, n] [] false (.v 0) (.a (.a (.v 0) (.m 2 (.a (.v 1) (.l 1)))) (.l 4)) (.a (.a (.v 0) (.m 2 (.v 1))) (.l 6)) 1 [] 1 [] (Eq.refl true) (Eq.refl true)
    have e2 : k + 2 * (n + 1) + 5 = k + 2 * n + 7 := by exact linE [k, n] [] false (.v 0) (.a (.a (.v 0) (.m 2 (.a (.v 1) (.l 1)))) (.l 5)) (.a (.a (.v 0) (.m 2 (.v 1))) (.l 7)) 1 [] 1 [] (Eq.refl true) (Eq.refl true)
    rw [e1, e2]
    exact ⟨h1, fun ps hps => ne_of (k := k + 2 * n + 5) H h1 hps⟩
end
end Mine
end
section
set_option maxRecDepth 100000
namespace Mine
noncomputable def unr : PT := .mk 0 [] .none .none
noncomputable def isNilP : PL → Bool
  | .nil => true
  | _ => false
noncomputable def cutW (p : PT) (rest : PL) (last : Bool) (q : PL) : PL :=
  if isLast (codeP p) then .cons p .nil else if !last && ngP p then .cons p (.cons unr .nil) else .cons p q
mutual
noncomputable def cdP : PT → PT
  | .mk c r f s => .mk c r (cdO f) (cdO s)
noncomputable def cdO : PO → PO
  | .none => .none
  | .some ps => .some (cdL ps)
noncomputable def cdL : PL → PL
  | .nil => .nil
  | .cons p ps => cutW (cdP p) ps (isNilP ps) (cdL ps)
end
noncomputable def appL : PL → PL → PL
  | .nil, q => q
  | .cons p ps, q => .cons p (appL ps q)
theorem appL_cons (p : PT) (q : PL) : ∀ d : PL, appL d (.cons p q) = appL (appL d (.cons p .nil)) q
  | .nil => rfl
  | .cons x d => by rw [appL, appL, appL, appL_cons p q d]
theorem LV.app {M : Mem} : ∀ {p q : PL} {v w : List AV} {F G : List Addr}, LV M p v F → LV M q w G → LV M (appL p q) (v ++ w) (F ++ G)
  | .nil, q, v, w, F, G, h, h' => by obtain ⟨rfl, rfl⟩ := h; exact h'
  | .cons p ps, q, v, w, F, G, h, h' => by
    obtain ⟨x, vs', F1, F2, rfl, h1, h2, rfl⟩ := h
    exact ⟨x, vs' ++ w, F1, F2 ++ G, rfl, h1, LV.app h2 h', by rw [List.append_assoc]⟩
theorem LV.len {M : Mem} : ∀ {p : PL} {v : List AV} {F : List Addr}, LV M p v F → v.length ≤ (flL p).length
  | .nil, v, F, h => by rw [h.1]; exact Nat.zero_le _
  | .cons (.mk c r f s) ps, v, F, h => by
    obtain ⟨x, vs', F1, F2, rfl, h1, h2, rfl⟩ := h
    have := LV.len h2
    simp only [flL, flP, List.length_append, List.length_cons]
    exact lin [vs'.length, (opn f (flB f) (flE s)).length, (flL ps).length] [] false (.h false false (.v 0) (.v 2) (.v 0)) (.a (.v 0) (.l 1)) (.a (.a (.v 1) (.l 1)) (.v 2)) 1 [1] (Eq.refl true) this
mutual
theorem dp_cdP : ∀ p : PT, dpP (cdP p) ≤ dpP p
  | .mk c r f s => Nat.max_le.mpr ⟨Nat.le_trans (dp_cdO f) (Nat.le_max_left _ _), Nat.le_trans (dp_cdO s) (Nat.le_max_right _ _)⟩
theorem dp_cdO : ∀ p : PO, dpO (cdO p) ≤ dpO p
  | .none => Nat.le_refl _
  | .some ps => Nat.succ_le_succ (dp_cdL ps)
theorem dp_cdL : ∀ p : PL, dpL (cdL p) ≤ dpL p
  | .nil => Nat.le_refl _
  | .cons p ps => by
    have h1 := Nat.le_trans (dp_cdP p) (Nat.le_max_left (dpP p) (dpL ps))
    unfold cdL cutW
    split
    · exact Nat.max_le.mpr ⟨h1, Nat.zero_le _⟩
    · split
      · exact Nat.max_le.mpr ⟨h1, Nat.zero_le _⟩
      · exact Nat.max_le.mpr ⟨h1, Nat.le_trans (dp_cdL ps) (Nat.le_max_right _ _)⟩
end
mutual
theorem ok_cdP : ∀ p : PT, okP p → okP (cdP p)
  | .mk c r f s, h => ⟨⟨h.1.1, by cases f <;> cases s <;> first | trivial | exact h.1.2.elim⟩, ok_cdO f h.2.1, ok_cdO s h.2.2⟩
theorem ok_cdO : ∀ p : PO, okO p → okO (cdO p)
  | .none, h => h
  | .some ps, h => ok_cdL ps h
theorem ok_cdL : ∀ p : PL, okL p → okL (cdL p)
  | .nil, h => h
  | .cons p ps, h => by
    have h1 := ok_cdP p h.1
    have h2 := ok_cdL ps h.2
    unfold cdL cutW
    split
    · exact ⟨h1, trivial⟩
    · split
      · exact ⟨h1, ⟨⟨Nat.zero_lt_succ _, trivial⟩, trivial, trivial⟩, trivial⟩
      · exact ⟨h1, h2⟩
end
section
variable {X : Cx} {k : Nat} {M : Mem} {Q : AV → Mem → Prop}
/-- one call over a list of pieces -/
noncomputable def PassOk (X : Cx) (k n : Nat) (ps ps' : PL) : Prop := ∀ (M : Mem) (Q : AV → Mem → Prop) (a : Addr) (vs : List AV) (F : List Addr), M a = some (.list vs) → LV M ps vs F → (a :: F).Nodup →
  (∀ M' vs' F', M' a = some (.list vs') → LV M' ps' vs' F' → F'.Sublist F → (∀ b, b ∉ a :: F → M' b = M b) → Q .none M') → Spec X k n [.ref a] M Q
noncomputable def PassO (X : Cx) (k n : Nat) : PO → PO → Prop
  | .none, p' => p' = .none
  | .some ps, p' => ∃ ps', p' = .some ps' ∧ PassOk X k n ps ps'
noncomputable def partsLoop (n : Nat) : MS := .fors 3 (.meth .parts (.loc 2) .nil) (.seq (.exp (.call n (.cons (.loc 3) .nil))) .skip)
theorem pass_part {R : AV → Mem → Prop} {K : Mem → Env0 → Prop} {x0 x1 x2 : Option AV} {p p' : PO} {v : AV} {F : List Addr} {n : Nat} {rest : List AV} (hp : PassO X k n p p') (hv : OV M p v F) (hF : F.Nodup)
    (hK : ∀ M' F' y, OV M' p' v F' → F'.Sublist F → (∀ b, b ∉ F → M' b = M b) → wLoop (fun _ => True) (fun v k' M ρ => WS gAV (Spec X k) (.seq (.exp (.call n (.cons (.loc 3) .nil))) .skip) k' R M (stv ρ 3 v)) K rest M' [x0, x1, x2, y]) (y : Option AV) :
    wLoop (fun _ => True) (fun v k' M ρ => WS gAV (Spec X k) (.seq (.exp (.call n (.cons (.loc 3) .nil))) .skip) k' R M (stv ρ 3 v)) K (optL v ++ rest) M [x0, x1, x2, y] := by
  cases p with
  | none =>
    obtain ⟨rfl, rfl⟩ := hv
    rw [show p' = .none from hp] at hK
    exact hK M [] y ⟨rfl, rfl⟩ (List.Sublist.refl _) fun _ _ => rfl
  | some ps =>
    obtain ⟨ps', rfl, hp⟩ := hp
    obtain ⟨b, ws, F', rfl, hm, hl, rfl⟩ := hv
    exact ⟨trivial, hp _ _ b ws F' hm hl hF fun M1 ws1 F1 g1 g2 g3 g4 => hK M1 (b :: F1) _ ⟨b, ws1, F1, rfl, g1, g2, rfl⟩ (g3.cons₂ b) g4⟩
theorem pass_parts (H : Std X) {R : AV → Mem → Prop} {K : Mem → Env0 → Prop} {x0 x1 y : Option AV} {c : Int} {r : List Int} {f s f' s' : PO} {v : AV} {F : List Addr} {n : Nat} (hf : PassO X (k + 1) n f f') (hs : PassO X (k + 1) n s s') (hv : PV M (.mk c r f s) v F) (hF : F.Nodup)
    (hK : ∀ M' F' y, PV M' (.mk c r f' s') v F' → F'.Sublist F → (∀ b, b ∉ F → M' b = M b) → K M' [x0, x1, some v, y]) : WS gAV (Spec X (k + 1)) (partsLoop n) K R M [x0, x1, some v, y] := by
  obtain ⟨fv, sv, F1, F2, rfl, h1, h2, rfl⟩ := hv
  have hFd := List.nodup_append.mp hF
  refine ⟨rfl, rfl, parts_spec (k := k) H h1.ison h2.ison ⟨_, _, rfl, ?_⟩⟩
  refine pass_part hf h1 hFd.1 (fun M1 G1 y g1 g2 g3 => ?_) y
  have disj : ∀ z, z ∈ F1 → z ∉ F2 := fun z h1 h2 => hFd.2.2 z h1 z h2 rfl
  have := pass_part (R := R) (K := K) (rest := []) (x0 := x0) (x1 := x1) (x2 := some (.inst (tI (c :: r)) fv sv)) hs (h2.frame fun z hz => g3 z fun q => disj z q hz) hFd.2.1 (fun M2 G2 y g4 g5 g6 => ⟨trivial, hK M2 (G1 ++ G2) y ⟨fv, sv, G1, G2, rfl, g1.frame fun z hz => g6 z (disj z (g2.subset hz)), g4, rfl⟩ (g2.append g5) fun z hz => ?_⟩) y
  · rw [List.append_nil] at this
    exact this
  · rw [List.mem_append, not_or] at hz
    exact (g6 z hz.2).trans (g3 z hz.1)

noncomputable def CutOk (X : Cx) (k : Nat) (ps : PL) : Prop := okL ps → (flL ps).length < lim → PassOk X k 13 ps (cdL ps)
noncomputable def cdTail : MS := .seq (.ifs (.mem true (.att (.loc 2) .code) (.gl 34)) (.seq (.asgSlice (.loc 0) (.bin .add (.loc 1) (.con (.int (1)))) (.con .none) (.list .nil)) (.seq .retN .skip)) .skip) (.seq (.ifs (.bop true (.cons (.cmp .lt (.bin .add (.loc 1) (.con (.int (1)))) (.bi .len (.cons (.loc 0) .nil))) (.cons (.call 12 (.cons (.loc 2) .nil)) .nil))) (.seq (.asgSlice (.loc 0) (.bin .add (.loc 1) (.con (.int (1)))) (.con .none) (.list (.cons (.call 0 (.cons (.tuple (.cons (.gl 15) .nil)) .nil)) .nil))) (.seq .retN .skip)) .skip) .skip)
noncomputable def cdBody : MS := .seq (partsLoop 13) cdTail
theorem clip1 {i n : Nat} (h : i < n) : clipN (some ((i : Int) + 1)) 0 n = i + 1 := by
  unfold clipN
  dsimp only
  rw [if_neg (by exact Int.not_lt.mpr (lin [i] [] true (.v 0) (.l 0) (.a (.c (.v 0)) (.l 1)) 1 [] (Eq.refl true)))]
  exact linE [_, _, _] [] false (.h true true (.c (.v 2)) (.a (.c (.v 1)) (.l 1)) (.h true false (.v 0) (.v 2) (.v 0))) (.v 0) (.a (.v 1) (.l 1)) 1 [1, 1] 1 [.negSucc 0, .negSucc 0] (Eq.refl true) (Eq.refl true) (Int.toNat_of_nonneg (lin [_] [] true (.v 0) (.l 0) (.a (.c (.v 0)) (.l 1)) 1 [] (Eq.refl true))) (Nat.min_eq_left (lin [_, _, _] [] false (.h false false (.a (.v 2) (.l 1)) (.v 1) (.h true true (.c (.v 0)) (.a (.c (.v 2)) (.l 1)) (.v 0))) (.v 0) (.v 1) 1 [1, 1] (Eq.refl true) h (Int.toNat_of_nonneg (lin [_] [] true (.v 0) (.l 0) (.a (.c (.v 0)) (.l 1)) 1 [] (Eq.refl true)))))
theorem slice_tail {pre vs' ys : List AV} {v : AV} : (pre ++ v :: vs').take (clipN (some ((pre.length : Nat) + 1 : Int)) 0 (pre ++ v :: vs').length) ++ ys ++ (pre ++ v :: vs').drop (max (clipN (some ((pre.length : Nat) + 1 : Int)) 0 (pre ++ v :: vs').length) (clipN none (pre ++ v :: vs').length (pre ++ v :: vs').length)) = pre ++ v :: ys := by
  have h : pre.length < (pre ++ v :: vs').length := by rw [List.length_append, List.length_cons]; exact lin [pre.length, vs'.length] [] false (.v 0) (.a (.v 0) (.l 1)) (.a (.v 0) (.a (.v 1) (.l 1))) 1 [] (Eq.refl true)
  rw [clip1 h]
  have : max (pre.length + 1) (clipN none (pre ++ v :: vs').length (pre ++ v :: vs').length) = (pre ++ v :: vs').length := Nat.max_eq_right h
  rw [this, List.drop_length, List.append_nil, List.append_cons, List.take_left' (by rw [List.length_append]; rfl), List.append_assoc]
  rfl
theorem codeP_cd (p : PT) : codeP (cdP p) = codeP p := by cases p; rfl
theorem cut_tail (H : Std X) {n : Nat} {R : AV → Mem → Prop} {K : Mem → Env0 → Prop} {a : Addr} {q : PT} {v : AV} {y : Option AV} {F : List Addr} {pre vs' : List AV} (hm : M a = some (.list (pre ++ v :: vs'))) (hl : (pre ++ v :: vs').length < lim) (hv : PV M q v F) (ok : okP q) (hd : dpP q ≤ n)
    (hR : ∀ tvs, (isLast (codeP q) = true ∧ tvs = []) ∨ (isLast (codeP q) = false ∧ vs' ≠ [] ∧ ngP q = true ∧ tvs = [.inst (tI [0]) .none .none]) → R .none (upd M a (.list (pre ++ v :: tvs))))
    (hK : isLast (codeP q) = false → (vs' = [] ∨ ngP q = false) → K M [some (.ref a), some (.int (pre.length : Nat)), some v, y]) : WS gAV (Spec X (k + 2 * n + 4)) cdTail K R M [some (.ref a), some (.int (pre.length : Nat)), some v, y] := by
  have hlim : lim = 1048576 := by decide
  have hv' := hv
  obtain ⟨c, r, f, s⟩ := q
  obtain ⟨fv, sv, F1, F2, rfl, _, _, _⟩ := hv
  have cut : ∀ tvs, tvs.length ≤ 1 → R .none (upd M a (.list (pre ++ .inst (tI (c :: r)) fv sv :: tvs))) → wStoreSl (.ref a) (.int ((pre.length : Nat) + 1)) .none (.lst tvs) (fun M _ => R .none M) M [some (.ref a), some (.int (pre.length : Nat)), some (.inst (tI (c :: r)) fv sv), y] := fun tvs ht h => by
    refine ⟨_, _, _, _, rfl, rfl, hm, rfl, (fun q => by cases q), by exact lin [(pre ++ (tI (c :: r)).inst fv sv :: vs').length, tvs.length, lim] [] false (.h false false (.a (.v 0) (.l 1)) (.v 2) (.h false false (.v 1) (.l 1) (.v 0))) (.a (.v 0) (.v 1)) (.v 2) 1 [1, 1] (Eq.refl true) hl ht, ?_⟩
    rw [slice_tail]
    exact h
  refine ⟨rfl, code_spec (k := k + 2 * n + 3) H ⟨rfl, _, _, rfl, rfl, br_intro (fun h => ⟨Nat.zero_le _, .inl (cut [] (Nat.zero_le _) (hR [] (.inl ⟨h, rfl⟩)))⟩) fun h => ⟨_, seqs_ref hm, by exact lin [(pre ++ (tI (c :: r)).inst fv sv :: vs').length, lim] [] false (.h true false (.v 1) (.l 1048576) (.h false false (.a (.v 0) (.l 1)) (.v 1) (.v 0))) (.v 0) (.l 1000000000) 1 [1, 1] (Eq.refl true) hlim hl, ?_⟩⟩⟩
  have hl2 : (pre ++ AV.inst (tI (c :: r)) fv sv :: vs').length = pre.length + 1 + vs'.length := by rw [List.length_append, List.length_cons]; exact linE [pre.length, vs'.length] [] false (.v 0) (.a (.v 0) (.a (.v 1) (.l 1))) (.a (.a (.v 0) (.l 1)) (.v 1)) 1 [] 1 [] (Eq.refl true) (Eq.refl true)
  have go : vs' = [] ∨ ngP (.mk c r f s) = false → K M [some (.ref a), some (.int (pre.length : Nat)), some (.inst (tI (c :: r)) fv sv), y] := hK h
  refine br_intro (fun h1 => (ends_spec H n).1 _ hd _ _ _ _ hv' ok ?_) fun h1 => br_intro (fun h2 => ?_) fun h2 => go (.inl ?_)
  · refine br_intro (fun hg => ⟨Nat.le_of_ble_eq_true rfl, piece1 (k := k + 2 * n + 2) H.cx H.ini ⟨Nat.le_of_ble_eq_true rfl, .inl (cut _ (Nat.le_refl 1) (hR _ (.inr ⟨h, ?_, hg, rfl⟩)))⟩⟩) fun hg => go (.inr hg)
    rintro rfl
    have h1 : ((pre.length : Nat) : Int) + 1 < ((pre ++ [AV.inst (tI (c :: r)) fv sv]).length : Nat) := of_decide_eq_true ((beq_true _).symm.trans h1)
    rw [hl2, List.length_nil] at h1
    exact linF [pre.length] [] (.h false true (.a (.a (.c (.v 0)) (.l 1)) (.l 1)) (.c (.a (.a (.v 0) (.l 1)) (.l 0))) (.v 0)) [1] (Eq.refl true) h1
  · have h2 : cmpI .lt ((pre.length : Nat) + 1) ((pre ++ AV.inst (tI (c :: r)) fv sv :: vs').length : Nat) = true := h2
    rw [h2] at h1; cases h1
  · have h2 : ¬ ((pre.length : Nat) : Int) + 1 < ((pre ++ AV.inst (tI (c :: r)) fv sv :: vs').length : Nat) := of_decide_eq_false h2
    rw [hl2] at h2
    exact List.eq_nil_of_length_eq_zero (by exact linE [vs'.length, pre.length] [] false (.h false true (.c (.a (.a (.v 1) (.l 1)) (.v 0))) (.a (.c (.v 1)) (.l 1)) (.v 0)) (.v 0) (.l 0) 1 [1] 1 [0] (Eq.refl true) (Eq.refl true) (Int.not_lt.mp h2))
theorem appL_nil : ∀ p : PL, appL p .nil = p
  | .nil => rfl
  | .cons p ps => by rw [appL, appL_nil ps]
theorem LV.isNil {M : Mem} : ∀ {p : PL} {v : List AV} {F : List Addr}, LV M p v F → isNilP p = v.isEmpty
  | .nil, v, F, h => by rw [h.1]; rfl
  | .cons p ps, v, F, h => by obtain ⟨x, vs', F1, F2, rfl, _⟩ := h; rfl
theorem cut_passO {n : Nat} (ih : ∀ ps, dpL ps + 1 ≤ n → CutOk X k ps) {f : PO} (hd : dpO f ≤ n) (ok : okO f) (hz : (flB f).length < lim) : PassO X k 13 f (cdO f) := by
  cases f with
  | none => rfl
  | some ps => exact ⟨_, rfl, ih ps hd ok hz⟩
theorem fl_parts (c : Int) (r : List Int) (f s : PO) (ok : sOk f s) : (flB f).length < (flP (.mk c r f s)).length ∧ (flB s).length < (flP (.mk c r f s)).length := by
  cases f with
  | none =>
    cases s with
    | none => exact ⟨Nat.zero_lt_one, Nat.zero_lt_one⟩
    | some q => exact ok.elim
  | some ps =>
    have e : (flP (.mk c r (.some ps) s)).length = (flL ps).length + ((flE s).length + 1) + 1 := by simp [flP, opn, flB]
    rw [e]
    refine ⟨show (flL ps).length < _ by exact lin [(flL ps).length, (flE s).length] [] false (.v 0) (.a (.v 0) (.l 1)) (.a (.a (.v 0) (.a (.v 1) (.l 1))) (.l 1)) 1 [] (Eq.refl true), ?_⟩
    cases s with
    | none => exact Nat.zero_lt_succ _
    | some q => show (flL q).length < (flL ps).length + ((flL q).length + 1 + 1) + 1; exact lin [(flL q).length, (flL ps).length] [] false (.v 0) (.a (.v 0) (.l 1)) (.a (.a (.v 1) (.a (.a (.v 0) (.l 1)) (.l 1))) (.l 1)) 1 [] (Eq.refl true)
theorem cut_loop (H : Std X) {R : AV → Mem → Prop} {K : Mem → Env0 → Prop} {a : Addr} {n : Nat} {vs0 : List AV} (ih : ∀ ps, dpL ps + 1 ≤ n → CutOk X (k + 2 * n + 4) ps) (hlen : vs0.length < lim) : ∀ (ps : PL) {done : PL} {pre vs' : List AV} {Fp Fr : List Addr} {M : Mem} {x1 x2 x3 : Option AV}, dpL ps ≤ n → vs0 = pre ++ vs' → M a = some (.list vs0) →
    LV M done pre Fp → LV M ps vs' Fr → (a :: (Fp ++ Fr)).Nodup → okL ps → (flL ps).length < lim →
    (∀ M' vs'' F', M' a = some (.list vs'') → LV M' (appL done (cdL ps)) vs'' F' → F'.Sublist (Fp ++ Fr) → (∀ b, b ∉ a :: (Fp ++ Fr) → M' b = M b) → R .none M' ∧ ∀ ρ, K M' ρ) →
    wLoopE (fun M => M a = some (.list vs0)) (fun n' v k' M ρ => WS gAV (Spec X (k + 2 * n + 4)) cdBody k' R M (stv (stv ρ 1 (.int (n' : Nat))) 2 v)) K pre.length vs' M [some (.ref a), x1, x2, x3]
  | .nil, done, pre, vs', Fp, Fr, M, x1, x2, x3, _, he, ha, hp, hv, hn, _, _, hQ => by
    obtain ⟨rfl, rfl⟩ := hv
    exact ⟨ha, (hQ M _ Fp ha (by rw [cdL, appL_nil, he, List.append_nil]; exact hp) (List.sublist_append_left _ _) fun _ _ => rfl).2 _⟩
  | .cons p ps, done, pre, vs', Fp, Fr, M, x1, x2, x3, hd, he, ha, hp, hv, hn, ho, hz, hQ => by
    obtain ⟨v, vs'', F1, F2, rfl, h1, h2, rfl⟩ := hv
    have hd := Nat.max_le.mp hd
    have hz : (flP p ++ flL ps).length < lim := hz
    rw [List.length_append] at hz
    have hn0 := List.nodup_cons.mp hn
    rw [List.mem_append, List.mem_append, not_or, not_or] at hn0
    obtain ⟨⟨na1, na2, na3⟩, hn0⟩ := hn0
    have hn1 := List.nodup_append.mp hn0
    have hn2 := List.nodup_append.mp hn1.2.1
    have dPF : ∀ z, z ∈ Fp → z ∉ F1 := fun z hz hz' => hn1.2.2 z hz z (List.mem_append_left _ hz') rfl
    have dF12 : ∀ z, z ∈ F2 → z ∉ F1 := fun z hz hz' => hn2.2.2 z hz' z hz rfl
    have hnil := h2.isNil
    have hok := ok_cdP p ho.1
    have hdp := Nat.le_trans (dp_cdP p) hd.1
    have hcd : ∀ last q, cutW (cdP p) ps last q = if isLast (codeP (cdP p)) then .cons (cdP p) .nil else if !last && ngP (cdP p) then .cons (cdP p) (.cons unr .nil) else .cons (cdP p) q := fun _ _ => rfl
    have ecd : cdL (.cons p ps) = cutW (cdP p) ps (isNilP ps) (cdL ps) := rfl
    rw [ecd, hcd, hnil] at hQ
    obtain ⟨c, r, f, s⟩ := p
    have hm := Nat.max_le.mp hd.1
    have hf := fl_parts c r f s ho.1.1.2
    have hp1 : PassO X (k + 2 * n + 4) 13 f (cdO f) := cut_passO ih hm.1 ho.1.2.1 (Nat.lt_trans hf.1 (by exact lin [(flP (PT.mk c r f s)).length, lim, (flL ps).length] [] false (.h false false (.a (.a (.v 0) (.v 2)) (.l 1)) (.v 1) (.v 0)) (.a (.v 0) (.l 1)) (.v 1) 1 [1] (Eq.refl true) hz))
    have hp2 : PassO X (k + 2 * n + 4) 13 s (cdO s) := cut_passO ih hm.2 ho.1.2.2 (Nat.lt_trans hf.2 (by exact lin [(flP (PT.mk c r f s)).length, lim, (flL ps).length] [] false (.h false false (.a (.a (.v 0) (.v 2)) (.l 1)) (.v 1) (.v 0)) (.a (.v 0) (.l 1)) (.v 1) 1 [1] (Eq.refl true) hz))
    refine ⟨ha, pass_parts (k := k + 2 * n + 3) H hp1 hp2 h1 hn2.1 fun M1 F' y hv' hs' hk' => ?_⟩
    have ha1 := (hk' a na2).trans ha
    rw [he] at ha1 hlen
    have hp1 : LV M1 done pre Fp := hp.frame fun z hz => hk' z (dPF z hz)
    refine cut_tail (q := cdP (.mk c r f s)) H ha1 hlen hv' hok hdp (fun tvs ht => ?_) fun l0 g0 => ?_
    · have fin : ∀ T, LV (upd M1 a (.list (pre ++ v :: tvs))) T tvs [] → (if isLast (codeP (cdP (.mk c r f s))) then PL.cons (cdP (.mk c r f s)) .nil else if !vs''.isEmpty && ngP (cdP (.mk c r f s)) then .cons (cdP (.mk c r f s)) (.cons unr .nil) else .cons (cdP (.mk c r f s)) (cdL ps)) = .cons (cdP (.mk c r f s)) T → R .none (upd M1 a (.list (pre ++ v :: tvs))) := fun T hT e => by
        rw [e] at hQ
        refine (hQ _ _ (Fp ++ F') upd_self ((hp1.frame fun z hz => upd_ne fun (q : z = a) => na1 (q ▸ hz)).app ⟨v, tvs, F', [], rfl, hv'.frame fun z hz => upd_ne fun (q : z = a) => na2 (q ▸ hs'.subset hz), hT, (List.append_nil F').symm⟩) ((List.Sublist.refl Fp).append (hs'.trans (List.sublist_append_left F1 F2))) fun z hz => ?_).1
        rw [List.mem_cons, List.mem_append, List.mem_append, not_or, not_or, not_or] at hz
        exact (upd_ne hz.1).trans (hk' z hz.2.2.1)
      rcases ht with ⟨l1, rfl⟩ | ⟨l1, l2, l3, rfl⟩
      · exact fin .nil ⟨rfl, rfl⟩ (if_pos l1)
      · have l2 : vs''.isEmpty = false := by cases vs'' <;> first | rfl | exact absurd rfl l2
        exact fin (.cons unr .nil) ⟨_, [], [], [], rfl, ⟨.none, .none, [], [], rfl, ⟨rfl, rfl⟩, ⟨rfl, rfl⟩, rfl⟩, ⟨rfl, rfl⟩, rfl⟩ (by rw [if_neg (by rw [l1]; exact Bool.false_ne_true), l2, l3]; rfl)
    · have e : (if isLast (codeP (cdP (.mk c r f s))) then PL.cons (cdP (.mk c r f s)) .nil else if !vs''.isEmpty && ngP (cdP (.mk c r f s)) then .cons (cdP (.mk c r f s)) (.cons unr .nil) else .cons (cdP (.mk c r f s)) (cdL ps)) = .cons (cdP (.mk c r f s)) (cdL ps) := by
        rw [if_neg (by rw [show isLast (codeP (cdP (.mk c r f s))) = false from l0]; exact Bool.false_ne_true), if_neg]
        rcases g0 with rfl | g0
        · exact Bool.false_ne_true
        · rw [show ngP (cdP (.mk c r f s)) = false from g0, Bool.and_false]; exact Bool.false_ne_true
      rw [e] at hQ
      have hsub : (Fp ++ F' ++ F2).Sublist (Fp ++ (F1 ++ F2)) := by
        rw [List.append_assoc]
        exact (List.Sublist.refl Fp).append (hs'.append (List.Sublist.refl F2))
      have z := cut_loop H ih (vs0 := vs0) (by rw [he]; exact hlen) ps (done := appL done (.cons (cdP (.mk c r f s)) .nil)) (pre := pre ++ [v]) (Fp := Fp ++ F') (Fr := F2) (M := M1) (x1 := some (.int pre.length)) (x2 := some v) (x3 := y) (R := R) (K := K) hd.2 (by rw [he, List.append_cons]) (by rw [he]; exact ha1) (hp1.app ⟨v, [], F', [], rfl, hv', ⟨rfl, rfl⟩, (List.append_nil F').symm⟩) (h2.frame fun z hz => hk' z (dF12 z hz))
        ((hsub.cons₂ a).nodup hn) ho.2 (by exact lin [(flL ps).length, lim, (flP (PT.mk c r f s)).length] [] false (.h false false (.a (.a (.v 2) (.v 0)) (.l 1)) (.v 1) (.v 0)) (.a (.v 0) (.l 1)) (.v 1) 1 [1] (Eq.refl true) hz) (fun M'' vs3 F3 q1 q2 q3 q4 => hQ M'' vs3 F3 q1 (by rw [appL_cons]; exact q2) (q3.trans hsub) fun b hb => ?_)
      · rw [List.length_append] at z
        exact z
      · have hb' : b ∉ a :: (Fp ++ F' ++ F2) := fun h => hb ((hsub.cons₂ a).subset h)
        rw [List.mem_cons, List.mem_append, List.mem_append, not_or, not_or, not_or] at hb
        exact (q4 b hb').trans (hk' b hb.2.2.1)
theorem cut_spec (H : Std X) : ∀ (n : Nat) (ps : PL), dpL ps ≤ n → CutOk X (k + 2 * n + 5) ps := by
  have go : ∀ (n : Nat), (∀ ps, dpL ps + 1 ≤ n → CutOk X (k + 2 * n + 4) ps) → ∀ ps, dpL ps ≤ n → CutOk X (k + 2 * n + 5) ps := fun n ih ps hd ho hz M Q a vs F ha hv hn hQ => by
    refine H.fn tr_cut_dead rfl ?_
    refine ⟨_, _, lists_ref ha, look_ref ha, ?_⟩
    exact cut_loop H ih (Nat.lt_of_le_of_lt hv.len hz) ps (done := .nil) (pre := []) (Fp := []) hd rfl ha ⟨rfl, rfl⟩ hv hn ho hz fun M' vs'' F' q1 q2 q3 q4 => ⟨.now (hQ M' vs'' F' q1 q2 q3 q4), fun _ => .now (hQ M' vs'' F' q1 q2 q3 q4)⟩
  intro n
  induction n with
  | zero => exact go 0 fun ps h => absurd h (Nat.not_succ_le_zero _)
  | succ n ih => exact go (n + 1) fun ps h ho hz M Q a vs F b1 b2 b3 b4 => (ih ps (Nat.le_of_succ_le_succ h) ho hz M Q a vs F b1 b2 b3 b4).up (by exact lin [k, n] [] false (.v 0) (.a (.a (.v 0) (.m 2 (.v 1))) (.l 5)) (.a (.a (.v 0) (.m 2 (.a (.v 1) (.l 1)))) (.l 4)) 1 [] (Eq.refl true))
end
end Mine
end
section
set_option maxRecDepth 100000
namespace Mine
noncomputable def toL : PL → List PT
  | .nil => []
  | .cons p ps => p :: toL ps
noncomputable def LW (M : Mem) : List PT → List AV → List Addr → Prop
  | [], vs, F => vs = [] ∧ F = []
  | p :: ps, vs, F => ∃ v vs' F1 F2, vs = v :: vs' ∧ PV M p v F1 ∧ LW M ps vs' F2 ∧ F = F1 ++ F2
theorem LV.toW {M : Mem} : ∀ {ps : PL} {vs : List AV} {F : List Addr}, LV M ps vs F ↔ LW M (toL ps) vs F
  | .nil, _, _ => Iff.rfl
  | .cons p ps, vs, F => by
    constructor
    · rintro ⟨v, vs', F1, F2, e, h1, h2, e2⟩; exact ⟨v, vs', F1, F2, e, h1, LV.toW.mp h2, e2⟩
    · rintro ⟨v, vs', F1, F2, e, h1, h2, e2⟩; exact ⟨v, vs', F1, F2, e, h1, LV.toW.mpr h2, e2⟩
theorem LW.frame {M M' : Mem} : ∀ {p : List PT} {v : List AV} {F : List Addr}, (∀ b ∈ F, M' b = M b) → LW M p v F → LW M' p v F
  | [], v, F, h, x => x
  | p :: ps, vs, F, h, x => by
    obtain ⟨v, vs', F1, F2, e, h1, h2, rfl⟩ := x
    exact ⟨v, vs', F1, F2, e, PV.frame (fun b hb => h b (List.mem_append_left _ hb)) h1, LW.frame (fun b hb => h b (List.mem_append_right _ hb)) h2, rfl⟩
theorem LW.app {M : Mem} : ∀ {p q : List PT} {v w : List AV} {F G : List Addr}, LW M p v F → LW M q w G → LW M (p ++ q) (v ++ w) (F ++ G)
  | [], q, v, w, F, G, h, h' => by obtain ⟨rfl, rfl⟩ := h; exact h'
  | p :: ps, q, v, w, F, G, h, h' => by
    obtain ⟨x, vs', F1, F2, rfl, h1, h2, rfl⟩ := h
    exact ⟨x, vs' ++ w, F1, F2 ++ G, rfl, h1, LW.app h2 h', by rw [List.append_assoc]⟩
theorem LW.snoc {M : Mem} : ∀ {p : List PT} {q : PT} {vs : List AV} {F : List Addr}, LW M (p ++ [q]) vs F → ∃ vs' v F1 F2, vs = vs' ++ [v] ∧ LW M p vs' F1 ∧ PV M q v F2 ∧ F = F1 ++ F2
  | [], q, vs, F, h => by
    obtain ⟨v, vs', F1, F2, rfl, h1, ⟨rfl, rfl⟩, rfl⟩ := h
    exact ⟨[], v, [], F1, rfl, ⟨rfl, rfl⟩, h1, by simp⟩
  | p :: ps, q, vs, F, h => by
    obtain ⟨x, vs', F1, F2, rfl, h1, h2, rfl⟩ := h
    obtain ⟨ws, v, G1, G2, rfl, h3, h4, rfl⟩ := LW.snoc h2
    exact ⟨x :: ws, v, F1 ++ G1, G2, rfl, ⟨x, ws, F1, G1, rfl, h1, h3, rfl⟩, h4, by rw [List.append_assoc]⟩
theorem LW.len {M : Mem} : ∀ {p : List PT} {v : List AV} {F : List Addr}, LW M p v F → v.length = p.length
  | [], v, F, h => by rw [h.1]; rfl
  | p :: ps, v, F, h => by
    obtain ⟨x, vs', F1, F2, rfl, h1, h2, rfl⟩ := h
    rw [List.length_cons, List.length_cons, LW.len h2]

/-! one drop put behind what was found -/
noncomputable def isPut (c : Int) : Bool := decide (c ∈ [(32 : Int), 35, 65, 66, 63, 64528, 208, 210])
noncomputable def leaf (c : Int) (r : List Int) : PT := .mk c r .none .none
noncomputable def pd : List PT → Nat → List PT
  | [], n => List.replicate n (leaf 26 [])
  | .mk c r f s :: rest, n => if n = 0 then .mk c r f s :: rest
    else if isPut c then pd rest (n - 1)
    else if 0 < takes c then pd rest (n + (takes c).toNat - 1)
    else if c = 34 then List.replicate (n - 1) (leaf 26 []) ++ leaf 33 (r.take 1) :: rest
    else List.replicate n (leaf 26 []) ++ .mk c r f s :: rest
noncomputable def okD : PT → Prop
  | .mk c r _ _ => c = 34 → r ≠ []
section
variable {X : Cx} {k : Nat} {M : Mem} {Q : AV → Mem → Prop}
noncomputable def pdTst : ME := .cmp .gt (.loc 1) (.con (.int 0))
noncomputable def pdBody : MS := (.seq (.asg 2 (.ite (.nil false (.loc 0)) (.att (.sub (.loc 0) (.neg (.con (.int (1))))) .code) (.gl 16))) (.seq (.asg 3 (.call 10 (.cons (.loc 2) .nil))) (.seq (.ifs (.mem true (.loc 2) (.gl 35)) (.seq (.exp (.meth .pop (.loc 0) .nil)) (.seq (.aug 1 .sub (.con (.int (1)))) .skip)) (.seq (.ifs (.cmp .gt (.loc 3) (.con (.int (0)))) (.seq (.exp (.meth .pop (.loc 0) .nil)) (.seq (.aug 1 .add (.bin .sub (.loc 3) (.con (.int (1))))) .skip)) (.seq (.ifs (.cmp .eq (.loc 2) (.gl 29)) (.seq (.asgSub (.loc 0) (.neg (.con (.int (1)))) (.call 0 (.cons (.tuple (.cons (.gl 28) (.cons (.sub (.att (.sub (.loc 0) (.neg (.con (.int (1))))) .plain) (.con (.int (1)))) .nil))) .nil))) (.seq (.aug 1 .sub (.con (.int (1)))) .skip)) (.seq (.exp (.meth .append (.loc 0) (.cons (.call 0 (.cons (.tuple (.cons (.gl 25) .nil)) .nil)) .nil))) (.seq (.aug 1 .sub (.con (.int (1)))) .skip))) .skip)) .skip)) .skip)))
theorem sub_1 {c : Int} {r : List Int} {Q : QE} {M : Mem} {ρ : Env0} (hr : r ≠ []) (h : ∀ r0, r.take 1 = [r0] → Q (.int r0) M ρ) : wSub (tI (c :: r)) (.int 1) Q M ρ := by
  cases r with
  | nil => exact absurd rfl hr
  | cons r0 r1 => exact ⟨_, _, rfl, rfl, by decide, by decide, h r0 rfl⟩
theorem pd_set {b : Addr} {ys : List AV} {v w : AV} {Q : Mem → Env0 → Prop} {ρ : Env0} (hm : M b = some (.list (ys ++ [v]))) (h : Q (upd M b (.list (ys ++ [w]))) ρ) : wStore (.ref b) (.int (-1)) w Q M ρ := by
  refine ⟨_, hm, by decide, by decide, ?_, ?_⟩
  · rw [List.length_append]; exact Nat.le_add_left _ _
  have e : (ys ++ [v]).set ((ys ++ [v]).length - (-1 : Int).natAbs) w = ys ++ [w] := by
    rw [List.length_append]
    exact (List.set_append_right _ _ (Nat.le_refl _)).trans (by rw [Nat.sub_self]; rfl)
  rw [e]; exact h
theorem pd_nil (H : Std X) {R : AV → Mem → Prop} {K : Mem → Env0 → Prop} {b : Addr} {j : Int} {x2 x3 : Option AV} (hm : M b = some (.list [])) (h : ∀ x y, K (upd M b (.list [.inst (tI [26]) .none .none])) [some (.ref b), some (.int (j - 1)), x, y]) :
    WS gAV (Spec X (k + 3)) pdBody K R M [some (.ref b), some (.int j), x2, x3] := by
  exact ⟨_, lists_ref hm, takes_of_spec H ⟨_, _, rfl, rfl, ⟨_, lists_ref hm⟩, Nat.le_of_ble_eq_true rfl, piece1 (k := k + 1) H.cx H.ini ⟨_, hm, Nat.lt_of_lt_of_le Nat.zero_lt_one (Nat.le_of_ble_eq_true rfl), _, rfl, h _ _⟩⟩⟩
/-- one turn, from what lies last -/
theorem pd_cons (H : Std X) {R : AV → Mem → Prop} {K : Mem → Env0 → Prop} {b : Addr} {ys : List AV} {j : Int} {x2 x3 : Option AV} {c : Int} {r : List Int} {fv sv : AV} (hm : M b = some (.list (ys ++ [.inst (tI (c :: r)) fv sv]))) (hlen : ys.length + 1 < lim) (h34 : c = 34 → r ≠ [])
    (h1 : ∀ x y, isPut c = true → K (upd M b (.list ys)) [some (.ref b), some (.int (j - 1)), x, y])
    (h2 : ∀ x y, isPut c = false → 0 < takes c → K (upd M b (.list ys)) [some (.ref b), some (.int (j + (takes c - 1))), x, y])
    (h3 : ∀ x y, isPut c = false → ¬ 0 < takes c → c = 34 → K (upd M b (.list (ys ++ [.inst (tI (33 :: r.take 1)) .none .none]))) [some (.ref b), some (.int (j - 1)), x, y])
    (h4 : ∀ x y, isPut c = false → ¬ 0 < takes c → c ≠ 34 → K (upd M b (.list (ys ++ [.inst (tI (c :: r)) fv sv] ++ [.inst (tI [26]) .none .none]))) [some (.ref b), some (.int (j - 1)), x, y]) :
    WS gAV (Spec X (k + 3)) pdBody K R M [some (.ref b), some (.int j), x2, x3] := by
  have he : (ys ++ [AV.inst (tI (c :: r)) fv sv]).isEmpty = false := by cases ys <;> rfl
  have hlast := getI_last (v := .inst (tI (c :: r)) fv sv) (List.getLast?_concat (l := ys))
  have hl : (ys ++ [AV.inst (tI (c :: r)) fv sv]).length < lim := by rw [List.length_append]; exact hlen
  refine ⟨_, lists_ref hm, ?_⟩
  rw [he]
  refine ⟨_, _, seqs_ref hm, hlast, by decide, by decide, rfl, code_spec H ⟨rfl, takes_of_spec H ⟨_, _, rfl, rfl, ?_⟩⟩⟩
  refine br_intro (fun hp => ⟨⟨_, lists_ref hm⟩, ys, _, hm, Nat.lt_of_succ_lt hlen, _, rfl, h1 _ _ hp⟩) fun hp => br_intro (fun ht => ⟨⟨_, lists_ref hm⟩, ys, _, hm, Nat.lt_of_succ_lt hlen, _, rfl, h2 _ _ hp (of_decide_eq_true ht)⟩) fun ht => br_intro (fun h5 => ?_) fun h5 => ?_
  · refine ⟨_, _, seqs_ref hm, hlast, by decide, by decide, rfl, sub_1 (h34 (of_decide_eq_true h5)) fun r0 e => ⟨Nat.le_of_ble_eq_true rfl, piece1 (k := k + 1) H.cx H.ini (pd_set hm ⟨_, rfl, ?_⟩)⟩⟩
    have h3 := fun x y => h3 x y hp (of_decide_eq_false ht) (of_decide_eq_true h5)
    rw [e] at h3
    exact h3 _ _
  · exact ⟨⟨_, lists_ref hm⟩, Nat.le_of_ble_eq_true rfl, piece1 (k := k + 1) H.cx H.ini ⟨_, hm, hl, _, rfl, h4 _ _ hp (of_decide_eq_false ht) (of_decide_eq_false h5)⟩⟩

noncomputable abbrev pdW (X : Cx) (k : Nat) (R : AV → Mem → Prop) (K : Mem → Env0 → Prop) : Nat → Mem → Env0 → Prop :=
  wWhile (fun k' M ρ => WE gAV (Spec X (k + 3)) pdTst (fun v M ρ => wB v fun t => k' t M ρ) M ρ) (fun k' M ρ => WS gAV (Spec X (k + 3)) pdBody k' R M ρ) K
theorem pdW_go {R : AV → Mem → Prop} {K : Mem → Env0 → Prop} {m n : Nat} {r0 x2 x3 : Option AV} (h : WS gAV (Spec X (k + 3)) pdBody (pdW X k R K m) R M [r0, some (.int ((n : Int) + 1)), x2, x3]) : pdW X k R K (m + 1) M [r0, some (.int ((n : Int) + 1)), x2, x3] := by
  show br (cmpI .gt ((n : Int) + 1) 0) _ _
  have : cmpI .gt ((n : Int) + 1) 0 = true := decide_eq_true (by exact lin [n] [] true (.v 0) (.a (.l 0) (.l 1)) (.a (.c (.v 0)) (.l 1)) 1 [] (Eq.refl true))
  rw [this]; exact h
theorem pdW_end {R : AV → Mem → Prop} {K : Mem → Env0 → Prop} {m : Nat} {r0 x2 x3 : Option AV} (h : K M [r0, some (.int 0), x2, x3]) : pdW X k R K (m + 1) M [r0, some (.int 0), x2, x3] := h
noncomputable def dull (c : Int) : Prop := isPut c = false ∧ ¬ 0 < takes c ∧ c ≠ 34
theorem dull26 : dull 26 := ⟨by decide, by decide, by decide⟩
theorem dull33 : dull 33 := ⟨by decide, by decide, by decide⟩
theorem dull1 : dull 1 := ⟨by decide, by decide, by decide⟩
theorem PV.leaf {M : Mem} {c : Int} {r : List Int} : PV M (leaf c r) (.inst (tI (c :: r)) .none .none) [] := ⟨.none, .none, [], [], rfl, ⟨rfl, rfl⟩, ⟨rfl, rfl⟩, rfl⟩
theorem LW.put {M M' : Mem} {b : Addr} {l : List PT} {xs : List AV} {F : List Addr} {c : Int} {r : List Int} (hv : LW M l xs F) (hb : b ∉ F) (fr : ∀ z, z ≠ b → M' z = M z) : LW M' (l ++ [leaf c r]) (xs ++ [.inst (tI (c :: r)) .none .none]) F := by
  have := (hv.frame fun z hz => fr z fun q => hb (q ▸ hz)).app (q := [leaf c r]) (w := [.inst (tI (c :: r)) .none .none]) (G := []) ⟨_, [], [], [], rfl, PV.leaf, ⟨rfl, rfl⟩, rfl⟩
  rwa [List.append_nil] at this
noncomputable abbrev PdTo (X : Cx) (k : Nat) (R : AV → Mem → Prop) (K : Mem → Env0 → Prop) (b : Addr) (M : Mem) (n : Nat) : Prop := ∃ m, ∀ x2 x3, pdW X k R K m M [some (.ref b), some (.int (n : Nat)), x2, x3]
theorem PdTo.step {R : AV → Mem → Prop} {K : Mem → Env0 → Prop} {b : Addr} {M : Mem} {n : Nat} (h : ∃ m, ∀ x2 x3, WS gAV (Spec X (k + 3)) pdBody (pdW X k R K m) R M [some (.ref b), some (.int ((n : Int) + 1)), x2, x3]) : PdTo X k R K b M (n + 1) :=
  let ⟨m, h⟩ := h; ⟨m + 1, fun x2 x3 => pdW_go (h x2 x3)⟩
noncomputable abbrev DrTo (K : Mem → Env0 → Prop) (b : Addr) (M : Mem) (l : List PT) (F : List Addr) : Prop := ∀ M' xs' x y, M' b = some (.list xs') → LW M' l xs' F → (∀ z, z ≠ b → M' z = M z) → K M' [some (.ref b), some (.int 0), x, y]
theorem drop_run (H : Std X) {R : AV → Mem → Prop} {K : Mem → Env0 → Prop} {b : Addr} : ∀ (n : Nat) {c : Int} {l : List PT} {ys : List AV} {r : List Int} {fv sv : AV} {F : List Addr} {M : Mem}, dull c → M b = some (.list (ys ++ [.inst (tI (c :: r)) fv sv])) → b ∉ F → LW M l (ys ++ [.inst (tI (c :: r)) fv sv]) F → ys.length + 1 + n < lim →
    DrTo K b M (l ++ List.replicate n (leaf 26 [])) F → PdTo X k R K b M n
  | 0, c, l, ys, r, fv, sv, F, M, _, hm, hb, hv, _, hK => ⟨1, fun _ _ => pdW_end (hK M _ _ _ hm (by rw [List.replicate_zero, List.append_nil]; exact hv) fun _ _ => rfl)⟩
  | n + 1, c, l, ys, r, fv, sv, F, M, hd, hm, hb, hv, hl, hK => by
    have fr : ∀ z, z ≠ b → upd M b (.list (ys ++ [.inst (tI (c :: r)) fv sv] ++ [.inst (tI [26]) .none .none])) z = M z := fun z hz => upd_ne hz
    obtain ⟨m, key⟩ := drop_run H (R := R) (K := K) n (c := 26) (l := l ++ [leaf 26 []]) (F := F) dull26 (upd_self (f := M)) hb (hv.put hb fr) (by rw [List.length_append]; show _ + 1 + 1 + n < lim; exact lin [ys.length, n, lim] [] false (.h false false (.a (.a (.a (.v 0) (.l 1)) (.a (.v 1) (.l 1))) (.l 1)) (.v 2) (.v 0)) (.a (.a (.a (.a (.v 0) (.l 1)) (.l 1)) (.v 1)) (.l 1)) (.v 2) 1 [1] (Eq.refl true) hl) fun M' xs' x y q1 q2 q3 => hK M' xs' x y q1 (by
        rw [List.replicate_succ, List.append_cons]; exact q2) fun z hz => (q3 z hz).trans (fr z hz)
    refine .step ⟨m, fun x2 x3 => pd_cons H hm (Nat.lt_of_le_of_lt (Nat.le_add_right _ _) hl) (fun q => absurd q hd.2.2) (fun x y hp => ?_) (fun x y _ ht => absurd ht hd.2.1) (fun x y _ _ h34 => absurd h34 hd.2.2) fun x y _ _ _ => ?_⟩
    · rw [hd.1] at hp; cases hp
    · rw [Int.add_sub_cancel]; exact key x y
theorem pd_zero : ∀ rev : List PT, pd rev 0 = rev
  | [] => rfl
  | .mk c r f s :: rest => by unfold pd; rw [if_pos rfl]
theorem takes_le (c : Int) : takes c ≤ 3 ∧ 0 ≤ takes c := by
  unfold takes
  split
  · omega
  · split
    · omega
    · split <;> omega
theorem pd_run (H : Std X) {R : AV → Mem → Prop} {K : Mem → Env0 → Prop} {b : Addr} : ∀ (rev : List PT) (n : Nat) {xs : List AV} {F : List Addr} {M : Mem}, (∀ p ∈ rev, okD p) → M b = some (.list xs) → b ∉ F → LW M rev.reverse xs F → 3 * xs.length + n < lim →
    (∀ M' xs' F' x y, M' b = some (.list xs') → LW M' (pd rev n).reverse xs' F' → F'.Sublist F → (∀ z, z ≠ b → M' z = M z) → K M' [some (.ref b), some (.int 0), x, y]) → PdTo X k R K b M n
  | rev, 0, xs, F, M, _, hm, hb, hv, _, hK => ⟨1, fun _ _ => pdW_end (hK M xs F _ _ hm (by rw [pd_zero]; exact hv) (List.Sublist.refl _) fun _ _ => rfl)⟩
  | [], n + 1, xs, F, M, _, hm, hb, hv, hl, hK => by
    obtain ⟨rfl, rfl⟩ := hv
    have fr : ∀ z, z ≠ b → upd M b (.list ([] ++ [.inst (tI [26]) .none .none])) z = M z := fun z hz => upd_ne hz
    obtain ⟨m, key⟩ := drop_run H (R := R) (K := K) n (c := 26) (l := [leaf 26 []]) (F := []) dull26 (upd_self (f := M)) hb (LW.put (l := []) ⟨rfl, rfl⟩ hb fr) (by rw [List.length_nil] at hl ⊢; exact lin [n, lim] [] false (.h false false (.a (.a (.l 0) (.a (.v 0) (.l 1))) (.l 1)) (.v 1) (.v 0)) (.a (.a (.l 1) (.v 0)) (.l 1)) (.v 1) 1 [1] (Eq.refl true) hl) fun M' xs' x y q1 q2 q3 => hK M' xs' [] x y q1 (by
      rw [pd, List.reverse_replicate, List.replicate_succ]; exact q2) (List.Sublist.refl _) fun z hz => (q3 z hz).trans (fr z hz)
    exact .step ⟨m, fun x2 x3 => pd_nil H hm fun x y => by rw [Int.add_sub_cancel]; exact key x y⟩
  | .mk c r f s :: rest, n + 1, xs, F, M, ho, hm, hb, hv, hl, hK => by
    have hv0 := hv
    rw [List.reverse_cons] at hv
    obtain ⟨ys, v, F1, F2, rfl, h1, h2, rfl⟩ := hv.snoc
    obtain ⟨fv, sv, G1, G2, rfl, h3, h4, rfl⟩ := h2
    have hl : 3 * ys.length + 3 + (n + 1) < lim := by rw [List.length_append] at hl; exact hl
    have tl := takes_le c
    have h34 : c = 34 → r ≠ [] := ho _ List.mem_cons_self
    have hlen : ys.length + 1 < lim := by exact lin [ys.length, lim, n] [] false (.h false false (.a (.a (.a (.m 3 (.v 0)) (.l 3)) (.a (.v 2) (.l 1))) (.l 1)) (.v 1) (.v 0)) (.a (.a (.v 0) (.l 1)) (.l 1)) (.v 1) 1 [1] (Eq.refl true) hl
    have sub1 : F1.Sublist (F1 ++ (G1 ++ G2)) := List.sublist_append_left _ _
    have hb1 : b ∉ F1 := fun h => hb (sub1.subset h)
    have fr : ∀ zs z, z ≠ b → upd M b (.list zs) z = M z := fun zs z hz => upd_ne hz
    have pop : ∀ t : Nat, (pd (.mk c r f s :: rest) (n + 1)) = pd rest t → 3 * ys.length + t < lim → PdTo X k R K b (upd M b (.list ys)) t := fun t ht hlt =>
      pd_run H rest t (F := F1) (fun p hp => ho p (List.mem_cons_of_mem _ hp)) upd_self hb1 (h1.frame fun z hz => fr ys z fun q => hb1 (q ▸ hz)) hlt fun M' xs' F' x y q1 q2 q3 q4 => hK M' xs' F' x y q1 (by rw [ht]; exact q2) (q3.trans sub1) fun z hz => (q4 z hz).trans (fr ys z hz)
    rw [pd, if_neg (Nat.succ_ne_zero n)] at hK pop
    cases hp : isPut c with
    | true =>
      rw [hp, if_pos rfl] at pop
      obtain ⟨m, hmm⟩ := pop n rfl (by exact lin [ys.length, n, lim] [] false (.h false false (.a (.a (.a (.m 3 (.v 0)) (.l 3)) (.a (.v 1) (.l 1))) (.l 1)) (.v 2) (.v 0)) (.a (.a (.m 3 (.v 0)) (.v 1)) (.l 1)) (.v 2) 1 [1] (Eq.refl true) hl)
      refine .step ⟨m, fun x2 x3 => pd_cons H hm hlen h34 (fun x y _ => ?_) (fun x y hq => ?_) (fun x y hq => ?_) fun x y hq => ?_⟩
      · rw [Int.add_sub_cancel]; exact hmm x y
      all_goals (rw [hp] at hq; cases hq)
    | false =>
      rw [hp, if_neg Bool.false_ne_true] at hK pop
      by_cases ht : 0 < takes c
      · rw [if_pos ht] at pop
        obtain ⟨m, hmm⟩ := pop _ rfl (by exact lin [ys.length, n + 1 + (takes c).toNat - 1, lim, n, (takes c).toNat] [takes c] false (.h false false (.a (.a (.a (.m 3 (.v 0)) (.l 3)) (.a (.v 3) (.l 1))) (.l 1)) (.v 2) (.h false true (.v 0) (.l 3) (.h false false (.v 1) (.a (.a (.v 3) (.l 1)) (.v 4)) (.h true true (.c (.v 4)) (.v 0) (.v 0))))) (.a (.a (.m 3 (.v 0)) (.v 1)) (.l 1)) (.v 2) 1 [1, 1, 1, 1] (Eq.refl true) hl tl.1 (Nat.sub_le (n + 1 + (takes c).toNat) (1)) (Int.toNat_of_nonneg (lin [] [takes c] true (.h false true (.l 0) (.v 0) (.v 0)) (.l 0) (.v 0) 1 [1] (Eq.refl true) tl.2)))
        refine .step ⟨m, fun x2 x3 => pd_cons H hm hlen h34 (fun x y hq => ?_) (fun x y _ _ => ?_) (fun x y _ hq => absurd ht hq) fun x y _ hq => absurd ht hq⟩
        · rw [hp] at hq; cases hq
        · have e2 : (n : Int) + 1 + (takes c - 1) = ((n + 1 + (takes c).toNat - 1 : Nat) : Int) := by exact linE [n, n + 1 + (takes c).toNat - 1, (takes c).toNat] [takes c] true (.h true false (.a (.v 1) (.l 1)) (.a (.a (.v 0) (.l 1)) (.v 2)) (.h true true (.c (.v 2)) (.v 0) (.v 0))) (.a (.a (.c (.v 0)) (.l 1)) (.s (.v 0) (.l 1))) (.c (.v 1)) 1 [.negSucc 0, .negSucc 0] 1 [1, 1] (Eq.refl true) (Eq.refl true) (Nat.sub_add_cancel (lin [n, (takes c).toNat] [] false (.v 0) (.l 1) (.a (.a (.v 0) (.l 1)) (.v 1)) 1 [] (Eq.refl true))) (Int.toNat_of_nonneg (lin [] [takes c] true (.h false true (.l 0) (.v 0) (.v 0)) (.l 0) (.v 0) 1 [1] (Eq.refl true) tl.2))
          rw [e2]; exact hmm x y
      · rw [if_neg ht] at hK
        by_cases h5 : c = 34
        · rw [if_pos h5, List.reverse_append, List.reverse_cons, List.reverse_replicate] at hK
          obtain ⟨m, hmm⟩ := drop_run H (k := k) (R := R) (K := K) n (c := 33) (F := F1) dull33 (upd_self (f := M)) hb1 (LW.put (r := r.take 1) h1 hb1 (fr _)) (by exact lin [ys.length, n, lim] [] false (.h false false (.a (.a (.a (.m 3 (.v 0)) (.l 3)) (.a (.v 1) (.l 1))) (.l 1)) (.v 2) (.v 0)) (.a (.a (.a (.v 0) (.l 1)) (.v 1)) (.l 1)) (.v 2) 1 [1] (Eq.refl true) hl) fun M' xs' x y q1 q2 q3 => hK M' xs' F1 x y q1 q2 sub1 fun z hz => (q3 z hz).trans (fr _ z hz)
          refine .step ⟨m, fun x2 x3 => pd_cons H hm hlen h34 (fun x y hq => ?_) (fun x y _ hq => absurd hq ht) (fun x y _ _ _ => ?_) fun x y _ _ hq => absurd h5 hq⟩
          · rw [hp] at hq; cases hq
          · rw [Int.add_sub_cancel]; exact hmm x y
        · rw [if_neg h5, List.reverse_append, List.reverse_cons, List.reverse_replicate] at hK
          exact drop_run H (n + 1) ⟨hp, ht, h5⟩ hm hb hv (by exact lin [ys.length, n, lim] [] false (.h false false (.a (.a (.a (.m 3 (.v 0)) (.l 3)) (.a (.v 1) (.l 1))) (.l 1)) (.v 2) (.v 0)) (.a (.a (.a (.v 0) (.l 1)) (.a (.v 1) (.l 1))) (.l 1)) (.v 2) 1 [1] (Eq.refl true) hl) fun M' xs' x y q1 q2 q3 => hK M' xs' _ x y q1 q2 (List.Sublist.refl _) q3
theorem put_drop_spec (H : Std X) {b : Addr} {l : List PT} {xs : List AV} {F : List Addr} (ho : ∀ p ∈ l, okD p) (hm : M b = some (.list xs)) (hb : b ∉ F) (hv : LW M l xs F) (hl : 3 * xs.length + 1 < lim)
    (hQ : ∀ M' xs' F', M' b = some (.list xs') → LW M' (pd l.reverse 1).reverse xs' F' → F'.Sublist F → (∀ z, z ≠ b → M' z = M z) → Q .none M') : Spec X (k + 4) 14 [.ref b] M Q := by
  refine H.fn tr_put_drop rfl ?_
  obtain ⟨m, h⟩ := pd_run H (k := k) (R := fun v M' => Ret X Q v M') (K := fun M' _ => Ret X Q .none M') (b := b) l.reverse 1 (xs := xs) (F := F) (M := M) (fun p hp => ho p (List.mem_reverse.mp hp)) hm hb (by rw [List.reverse_reverse]; exact hv) hl fun M' xs' F' x y q1 q2 q3 q4 => .now (hQ M' xs' F' q1 q2 q3 q4)
  exact ⟨m, h none none⟩
end
end Mine
end
section
set_option maxRecDepth 100000
namespace Mine
noncomputable def ofL : List PT → PL
  | [] => .nil
  | p :: ps => .cons p (ofL ps)
theorem toL_ofL : ∀ l : List PT, toL (ofL l) = l
  | [] => rfl
  | p :: ps => by rw [ofL, toL, toL_ofL ps]
mutual
noncomputable def drP : PT → PT
  | .mk c r f s => .mk c r (drO f) (drO s)
noncomputable def drO : PO → PO
  | .none => .none
  | .some ps => .some (ofL (drA ps []).reverse)
noncomputable def drA : PL → List PT → List PT
  | .nil, acc => acc
  | .cons p ps, acc => if codeP p = 26 then drA ps (pd acc 1) else drA ps (drP p :: acc)
end
noncomputable def drL (ps : PL) : PL := ofL (drA ps []).reverse
mutual
noncomputable def okQP : PT → Prop
  | .mk c r f s => ((c = 34 → r ≠ []) ∧ sOk f s) ∧ okQO f ∧ okQO s
noncomputable def okQO : PO → Prop
  | .none => True
  | .some ps => okQL ps
noncomputable def okQL : PL → Prop
  | .nil => True
  | .cons p ps => okQP p ∧ okQL ps
end
theorem pd_ok : ∀ (rev : List PT) (n : Nat), (∀ p ∈ rev, okD p) → ∀ p ∈ pd rev n, okD p
  | [], n, h, p, hp => by
    rw [pd] at hp
    rw [List.eq_of_mem_replicate hp]; exact fun q => absurd q (by decide)
  | .mk c r f s :: rest, n, h, p, hp => by
    have hr : ∀ p ∈ rest, okD p := fun p hp => h p (List.mem_cons_of_mem _ hp)
    have h26 : ∀ m, p ∈ List.replicate m (leaf 26 []) → okD p := fun m hm => by rw [List.eq_of_mem_replicate hm]; exact fun q => absurd q (by decide)
    rw [pd] at hp
    split at hp
    · exact h p hp
    · split at hp
      · exact pd_ok rest _ hr p hp
      · split at hp
        · exact pd_ok rest _ hr p hp
        · split at hp
          · rcases List.mem_append.mp hp with hp | hp
            · exact h26 _ hp
            · rcases List.mem_cons.mp hp with rfl | hp
              · exact fun q => absurd q (by decide)
              · exact hr p hp
          · rcases List.mem_append.mp hp with hp | hp
            · exact h26 _ hp
            · exact h p hp
noncomputable def wt (p : PT) : Nat := if codeP p = 26 then 1 else 3
noncomputable def wts (l : List PT) : Nat := (l.map wt).sum
theorem wts_cons (p : PT) (l : List PT) : wts (p :: l) = wt p + wts l := by simp [wts]
theorem wts_app (l l' : List PT) : wts (l ++ l') = wts l + wts l' := by simp [wts]
theorem wts_rep : ∀ n : Nat, wts (List.replicate n (leaf 26 [])) = n
  | 0 => rfl
  | n + 1 => by
    rw [List.replicate_succ, wts_cons, wts_rep n]
    show 1 + n = n + 1
    exact linE [n] [] false (.v 0) (.a (.l 1) (.v 0)) (.a (.v 0) (.l 1)) 1 [] 1 [] (Eq.refl true) (Eq.refl true)
theorem len_wts : ∀ l : List PT, l.length ≤ wts l
  | [] => Nat.le_refl _
  | p :: l => by
    have := len_wts l
    rw [wts_cons, List.length_cons]
    have : 1 ≤ wt p := by unfold wt; split <;> omega
    omega
theorem pd_wts : ∀ (rev : List PT) (n : Nat), wts (pd rev n) ≤ wts rev + n
  | [], n => by rw [pd, wts_rep]; exact lin [n, wts []] [] false (.v 0) (.v 0) (.a (.v 1) (.v 0)) 1 [] (Eq.refl true)
  | .mk c r f s :: rest, n => by
    have tl := takes_le c
    rw [pd]
    split
    · exact lin [wts (PT.mk c r f s :: rest), n] [] false (.v 0) (.v 0) (.a (.v 0) (.v 1)) 1 [] (Eq.refl true)
    · split
      · rename_i hp
        have := pd_wts rest (n - 1)
        rw [wts_cons]; exact lin [wts (pd rest (n - 1)), wt (PT.mk c r f s), wts rest, n, n - 1] [] false (.h false false (.v 0) (.a (.v 2) (.v 4)) (.h false false (.v 4) (.v 3) (.v 0))) (.v 0) (.a (.a (.v 1) (.v 2)) (.v 3)) 1 [1, 1] (Eq.refl true) this (Nat.sub_le (n) (1))
      · split
        · rename_i h1 h2 h3
          have := pd_wts rest (n + (takes c).toNat - 1)
          have hw : wt (.mk c r f s) = 3 := by
            unfold wt
            rw [if_neg]
            intro (q : c = 26)
            subst q
            exact absurd h3 (by decide)
          rw [wts_cons, hw]; exact lin [wts (pd rest (n + (takes c).toNat - 1)), wts rest, n, n + (takes c).toNat - 1, (takes c).toNat] [takes c] false (.h false true (.v 0) (.l 3) (.h false false (.v 0) (.a (.v 1) (.v 3)) (.h false false (.v 3) (.a (.v 2) (.v 4)) (.h true true (.c (.v 4)) (.v 0) (.v 0))))) (.v 0) (.a (.a (.l 3) (.v 1)) (.v 2)) 1 [1, 1, 1, 1] (Eq.refl true) tl.1 this (Nat.sub_le (n + (takes c).toNat) (1)) (Int.toNat_of_nonneg (lin [] [takes c] true (.h false true (.l 0) (.v 0) (.v 0)) (.l 0) (.v 0) 1 [1] (Eq.refl true) tl.2))
        · split
          · rename_i h1 h2 h3 h4
            have hw : wt (.mk c r f s) = 3 := by
              unfold wt
              rw [if_neg]
              intro (q : c = 26)
              rw [h4] at q; cases q
            have hw2 : wt (leaf 33 (r.take 1)) = 3 := by unfold wt; rw [if_neg]; intro (q : (33 : Int) = 26); cases q
            rw [wts_app, wts_rep, wts_cons, wts_cons, hw, hw2]; exact lin [n - 1, wts rest, n] [] false (.h false false (.v 0) (.v 2) (.v 0)) (.a (.v 0) (.a (.l 3) (.v 1))) (.a (.a (.l 3) (.v 1)) (.v 2)) 1 [1] (Eq.refl true) (Nat.sub_le (n) (1))
          · rw [wts_app, wts_rep]; exact lin [n, wts (PT.mk c r f s :: rest)] [] false (.v 0) (.a (.v 0) (.v 1)) (.a (.v 1) (.v 0)) 1 [] (Eq.refl true)
section
variable {X : Cx} {k : Nat} {M : Mem} {Q : AV → Mem → Prop}
noncomputable def DrOk (X : Cx) (k : Nat) (ps : PL) : Prop := okQL ps → (flL ps).length < 100000 → PassOk X k 15 ps (drL ps)
noncomputable def drTail : MS := .seq (.ifs (.cmp .eq (.att (.loc 2) .code) (.gl 25)) (.seq (.exp (.call 14 (.cons (.loc 1) .nil))) .skip) (.seq (.exp (.meth .append (.loc 1) (.cons (.loc 2) .nil))) .skip)) .skip
noncomputable def drBody : MS := .seq (partsLoop 15) drTail
theorem codeP_dr (p : PT) : codeP (drP p) = codeP p := by cases p; rfl
theorem flP_pos (p : PT) : 1 ≤ (flP p).length := by
  obtain ⟨c, r, f, s⟩ := p
  exact Nat.succ_le_succ (Nat.zero_le _)
theorem dr_passO {n : Nat} (ih : ∀ ps, dpL ps + 1 ≤ n → DrOk X k ps) {f : PO} (hd : dpO f ≤ n) (ok : okQO f) (hz : (flB f).length < 100000) : PassO X k 15 f (drO f) := by
  cases f with
  | none => rfl
  | some ps => exact ⟨_, rfl, ih ps hd ok hz⟩
theorem dr_tail (H : Std X) {R : AV → Mem → Prop} {K : Mem → Env0 → Prop} {a b : Addr} {q : PT} {acc : List PT} {xs : List AV} {v : AV} {y : Option AV} {Fx F : List Addr} (hm : M b = some (.list xs)) (hp : LW M acc.reverse xs Fx) (hb : b ∉ Fx) (hv : PV M q v F) (hbF : b ∉ F) (hok : ∀ p ∈ acc, okD p) (hw : wts acc ≤ 300000)
    (h1 : codeP q = 26 → ∀ M' xs' F', M' b = some (.list xs') → LW M' (pd acc 1).reverse xs' F' → F'.Sublist Fx → (∀ z, z ≠ b → M' z = M z) → K M' [some (.ref a), some (.ref b), some v, y])
    (h2 : codeP q ≠ 26 → ∀ M', M' b = some (.list (xs ++ [v])) → LW M' (q :: acc).reverse (xs ++ [v]) (Fx ++ F) → (∀ z, z ≠ b → M' z = M z) → K M' [some (.ref a), some (.ref b), some v, y]) :
    WS gAV (Spec X (k + 4)) drTail K R M [some (.ref a), some (.ref b), some v, y] := by
  have hlim : lim = 1048576 := by decide
  have hxl : xs.length ≤ wts acc := by
    rw [hp.len, List.length_reverse]; exact len_wts acc
  have hv' := hv
  obtain ⟨c, r, f, s⟩ := q
  obtain ⟨fv, sv, G1, G2, rfl, _, _, _⟩ := hv
  refine ⟨rfl, code_spec (k := k + 3) H ⟨rfl, br_intro (fun h => ?_) (fun h => ?_)⟩⟩
  · refine put_drop_spec H (l := acc.reverse) (fun p hp => hok p (List.mem_reverse.mp hp)) hm hb hp (by exact lin [xs.length, lim, wts acc] [] false (.h false false (.v 2) (.l 300000) (.h true false (.v 1) (.l 1048576) (.h false false (.v 0) (.v 2) (.v 0)))) (.a (.a (.m 3 (.v 0)) (.l 1)) (.l 1)) (.v 1) 1 [3, .negSucc 0, 3] (Eq.refl true) hw hlim hxl) fun M2 xs2 Fx2 q1 q2 q3 q4 => ?_
    rw [List.reverse_reverse] at q2
    exact h1 (of_decide_eq_true h) M2 xs2 Fx2 q1 q2 q3 q4
  · have fr : ∀ z, z ≠ b → upd M b (.list (xs ++ [.inst (tI (c :: r)) fv sv])) z = M z := fun z hz => upd_ne hz
    refine ⟨⟨xs, lists_ref hm⟩, xs, hm, by exact lin [xs.length, lim, wts acc] [] false (.h false false (.v 2) (.l 300000) (.h true false (.v 1) (.l 1048576) (.h false false (.v 0) (.v 2) (.v 0)))) (.a (.v 0) (.l 1)) (.v 1) 1 [1, .negSucc 0, 1] (Eq.refl true) hw hlim hxl, h2 (of_decide_eq_false h) _ upd_self ?_ fr⟩
    rw [List.reverse_cons]
    exact (hp.frame fun z hz => fr z fun q => hb (q ▸ hz)).app ⟨_, [], F, [], rfl, hv'.frame fun z hz => fr z fun q => hbF (q ▸ hz), ⟨rfl, rfl⟩, (List.append_nil F).symm⟩
theorem dr_loop (H : Std X) {R : AV → Mem → Prop} {K : Mem → Env0 → Prop} {a b : Addr} {n : Nat} {vs0 : List AV} (ih : ∀ ps, dpL ps + 1 ≤ n → DrOk X (k + 4) ps) : ∀ (ps : PL) {acc : List PT} {xs vs' : List AV} {Fx Fr : List Addr} {M : Mem} {x2 x3 : Option AV}, dpL ps ≤ n → M a = some (.list vs0) → M b = some (.list xs) →
    LW M acc.reverse xs Fx → LV M ps vs' Fr → (a :: b :: (Fx ++ Fr)).Nodup → (∀ p ∈ acc, okD p) → okQL ps → wts acc + 3 * (flL ps).length < 300000 →
    (∀ M' xs' F' x y, M' a = some (.list vs0) → M' b = some (.list xs') → LW M' (drA ps acc).reverse xs' F' → F'.Sublist (Fx ++ Fr) → (∀ z, z ∉ a :: b :: (Fx ++ Fr) → M' z = M z) → wts (drA ps acc) < 300000 → K M' [some (.ref a), some (.ref b), x, y]) →
    wLoop (fun M => M a = some (.list vs0)) (fun v k' M ρ => WS gAV (Spec X (k + 4)) drBody k' R M (stv ρ 2 v)) K vs' M [some (.ref a), some (.ref b), x2, x3]
  | .nil, acc, xs, vs', Fx, Fr, M, x2, x3, _, ha, hm, hp, hv, hn, hok, _, hz, hK => by
    obtain ⟨rfl, rfl⟩ := hv
    exact ⟨ha, hK M xs Fx _ _ ha hm hp (List.sublist_append_left _ _) (fun _ _ => rfl) hz⟩
  | .cons p ps, acc, xs, vs', Fx, Fr, M, x2, x3, hd, ha, hm, hp, hv, hn, hok, ho, hz, hK => by
    obtain ⟨v, vs'', F1, F2, rfl, h1, h2, rfl⟩ := hv
    have hd := Nat.max_le.mp hd
    have hz : wts acc + 3 * (flP p ++ flL ps).length < 300000 := hz
    rw [List.length_append] at hz
    have hf := flP_pos p
    have hn0 := List.nodup_cons.mp hn
    have hn1 := List.nodup_cons.mp hn0.2
    rw [List.mem_cons, List.mem_append, List.mem_append, not_or, not_or, not_or] at hn0
    obtain ⟨⟨nab, na1, na2, na3⟩, _⟩ := hn0
    rw [List.mem_append, List.mem_append, not_or, not_or] at hn1
    obtain ⟨⟨nb1, nb2, nb3⟩, hn1⟩ := hn1
    have hn2 := List.nodup_append.mp hn1
    have hn3 := List.nodup_append.mp hn2.2.1
    have dXF : ∀ z, z ∈ Fx → z ∉ F1 := fun z hz hz' => hn2.2.2 z hz z (List.mem_append_left _ hz') rfl
    have d21 : ∀ z, z ∈ F2 → z ∉ F1 := fun z hz hz' => hn3.2.2 z hz' z hz rfl
    have hcd := codeP_dr p
    have eA : drA (.cons p ps) acc = if codeP p = 26 then drA ps (pd acc 1) else drA ps (drP p :: acc) := by rw [drA]
    have hwt : wt (drP p) ≤ 3 := by unfold wt; split <;> decide
    have hokd : okD (drP p) := by obtain ⟨c, r, f, s⟩ := p; exact ho.1.1.1
    have hw1 := pd_wts acc 1
    have hbody : ∀ K', (∀ M' F' y, PV M' (drP p) v F' → F'.Sublist F1 → (∀ b, b ∉ F1 → M' b = M b) → K' M' [some (.ref a), some (.ref b), some v, y]) → WS gAV (Spec X (k + 4)) (partsLoop 15) K' R M [some (.ref a), some (.ref b), some v, x3] := fun K' hK' => by
      obtain ⟨c, r, f, s⟩ := p
      have hm := Nat.max_le.mp hd.1
      have hf := fl_parts c r f s ho.1.1.2
      exact pass_parts (k := k + 3) H (dr_passO ih hm.1 ho.1.2.1 (Nat.lt_trans hf.1 (by exact lin [(flP (PT.mk c r f s)).length, wts acc, (flL ps).length] [] false (.h false false (.a (.a (.v 1) (.m 3 (.a (.v 0) (.v 2)))) (.l 1)) (.l 300000) (.v 0)) (.a (.v 0) (.l 1)) (.l 100000) 3 [1] (Eq.refl true) hz))) (dr_passO ih hm.2 ho.1.2.2 (Nat.lt_trans hf.2 (by exact lin [(flP (PT.mk c r f s)).length, wts acc, (flL ps).length] [] false (.h false false (.a (.a (.v 1) (.m 3 (.a (.v 0) (.v 2)))) (.l 1)) (.l 300000) (.v 0)) (.a (.v 0) (.l 1)) (.l 100000) 3 [1] (Eq.refl true) hz))) h1 hn3.1 hK'
    refine ⟨ha, hbody _ fun M1 G y hv1 hs1 hk1 => ?_⟩
    have hm1 : M1 b = some (.list xs) := (hk1 b nb2).trans hm
    have ha1 : M1 a = some (.list vs0) := (hk1 a na2).trans ha
    have hp1 : LW M1 acc.reverse xs Fx := hp.frame fun z hz => hk1 z (dXF z hz)
    have h21 : LV M1 ps vs'' F2 := h2.frame fun z hz => hk1 z (d21 z hz)
    have next : ∀ {acc' : List PT} {xs' : List AV} {F' : List Addr} {M2 : Mem}, drA (.cons p ps) acc = drA ps acc' → (∀ p ∈ acc', okD p) → wts acc' ≤ wts acc + 3 → F'.Sublist (Fx ++ F1) → M2 b = some (.list xs') → LW M2 acc'.reverse xs' F' → (∀ z, z ≠ b → M2 z = M1 z) →
        wLoop (fun M => M a = some (.list vs0)) (fun v k' M ρ => WS gAV (Spec X (k + 4)) drBody k' R M (stv ρ 2 v)) K vs'' M2 [some (.ref a), some (.ref b), some v, y] := fun {acc' xs' F' M2} e ok w s q1 q2 q4 => by
      have hsub : (F' ++ F2).Sublist (Fx ++ (F1 ++ F2)) := by
        rw [← List.append_assoc]
        exact s.append (List.Sublist.refl F2)
      refine dr_loop H ih ps (acc := acc') (xs := xs') (Fx := F') (Fr := F2) hd.2 ((q4 a nab).trans ha1) q1 q2 (h21.frame fun z hz => q4 z fun q => nb3 (q ▸ hz)) (((hsub.cons₂ b).cons₂ a).nodup hn) ok ho.2 (by exact lin [wts acc', (flL ps).length, wts acc, (flP p).length] [] false (.h false false (.a (.a (.v 2) (.m 3 (.a (.v 3) (.v 1)))) (.l 1)) (.l 300000) (.h false false (.l 1) (.v 3) (.h false false (.v 0) (.a (.v 2) (.l 3)) (.v 0)))) (.a (.a (.v 0) (.m 3 (.v 1))) (.l 1)) (.l 300000) 1 [1, 3, 1] (Eq.refl true) hz hf w) fun M' xs' F' x y w1 w2 w3 w4 w5 w6 => hK M' xs' F' x y w1 w2 (by rw [e]; exact w3) (w4.trans hsub) (fun z hz => ?_) (by rw [e]; exact w6)
      have hz' : z ∉ a :: b :: (_ ++ F2) := fun h' => hz (((hsub.cons₂ b).cons₂ a).subset h')
      rw [List.mem_cons, List.mem_cons, List.mem_append, List.mem_append, not_or, not_or, not_or, not_or] at hz
      exact (w5 z hz').trans ((q4 z hz.2.1).trans (hk1 z hz.2.2.2.1))
    refine dr_tail H hm1 hp1 nb1 hv1 (fun h => nb2 (hs1.subset h)) hok (by exact lin [wts acc, (flP p).length, (flL ps).length] [] false (.h false false (.a (.a (.v 0) (.m 3 (.a (.v 1) (.v 2)))) (.l 1)) (.l 300000) (.v 0)) (.v 0) (.l 300000) 1 [1] (Eq.refl true) hz) (fun hc M2 xs2 Fx2 q1 q2 q3 q4 => next (by rw [eA, if_pos (hcd.symm.trans hc)]) (pd_ok acc 1 hok) (by exact lin [wts (pd acc 1), wts acc] [] false (.h false false (.v 0) (.a (.v 1) (.l 1)) (.v 0)) (.v 0) (.a (.v 1) (.l 3)) 1 [1] (Eq.refl true) hw1) (q3.trans (List.sublist_append_left _ _)) q1 q2 q4) fun hc M2 q1 q2 q4 => next (by rw [eA, if_neg fun q => hc (hcd.trans q)]) (fun p' hp' => ?_) (by rw [wts_cons]; exact lin [wt (drP p), wts acc] [] false (.h false false (.v 0) (.l 3) (.v 0)) (.a (.v 0) (.v 1)) (.a (.v 1) (.l 3)) 1 [1] (Eq.refl true) hwt) ((List.Sublist.refl Fx).append hs1) q1 q2 q4
    rcases List.mem_cons.mp hp' with rfl | hp'
    · exact hokd
    · exact hok p' hp'
theorem slice_all {xs ys : List AV} : xs.take (clipN none 0 xs.length) ++ ys ++ xs.drop (max (clipN none 0 xs.length) (clipN none xs.length xs.length)) = ys := by
  show xs.take 0 ++ ys ++ xs.drop (max 0 xs.length) = ys
  rw [Nat.max_eq_right (Nat.zero_le _), List.drop_length, List.take_zero, List.append_nil, List.nil_append]
theorem dr_of (H : Std X) {n : Nat} (ih : ∀ ps, dpL ps + 1 ≤ n → DrOk X (k + 4) ps) {ps : PL} (hd : dpL ps ≤ n) : DrOk X (k + 5) ps := fun ho hz M Q a vs F ha hv hn hQ => by
  refine H.fn tr_cut_drops rfl ?_
  refine ⟨Nat.zero_le _, .inr fun b hb => ?_⟩
  have hab : a ≠ b := fun q => by rw [q, hb] at ha; cases ha
  have hbF : b ∉ F := fun h => hv.dom h hb
  have fr : ∀ z, z ≠ b → upd M b (.list []) z = M z := fun z hz => upd_ne hz
  have hn0 := List.nodup_cons.mp hn
  have hlim : lim = 1048576 := by decide
  have hvl := hv.len
  have nd : (a :: b :: ([] ++ F)).Nodup := List.nodup_cons.mpr ⟨by rw [List.mem_cons, not_or]; exact ⟨hab, hn0.1⟩, List.nodup_cons.mpr ⟨hbF, hn0.2⟩⟩
  refine ⟨vs, _, look_ref ((fr a hab).trans ha), dr_loop H ih ps (acc := []) (xs := []) (Fx := []) (Fr := F) (a := a) (b := b) (x2 := none) (x3 := none) hd ((fr a hab).trans ha) upd_self ⟨rfl, rfl⟩ (hv.frame fun z hz => fr z fun q => hbF (q ▸ hz)) nd (fun p hp => by cases hp) ho (by show 0 + _ < _; exact lin [(flL ps).length] [] false (.h false false (.a (.v 0) (.l 1)) (.l 100000) (.v 0)) (.a (.a (.l 0) (.m 3 (.v 0))) (.l 1)) (.l 300000) 1 [3] (Eq.refl true) hz) fun M' xs' F' x y w1 w2 w3 w4 w5 w6 => ?_⟩
  rw [List.nil_append] at w4 w5
  have hxl : xs'.length ≤ 300000 := by
    have := len_wts (drA ps [])
    rw [w3.len, List.length_reverse]; exact lin [(drA ps []).length, wts (drA ps [])] [] false (.h false false (.a (.v 1) (.l 1)) (.l 300000) (.h false false (.v 0) (.v 1) (.v 0))) (.v 0) (.l 300000) 1 [1, 1] (Eq.refl true) w6 this
  refine ⟨none, none, vs, xs', rfl, rfl, w1, lists_ref w2, (fun q => hab (AV.ref.inj q).symm), by exact lin [vs.length, xs'.length, lim, (flL ps).length] [] false (.h false false (.a (.v 3) (.l 1)) (.l 100000) (.h true false (.v 2) (.l 1048576) (.h false false (.v 0) (.v 3) (.h false false (.v 1) (.l 300000) (.v 0))))) (.a (.v 0) (.v 1)) (.v 2) 1 [1, .negSucc 0, 1, 1] (Eq.refl true) hz hlim hvl hxl, ?_⟩
  rw [slice_all]
  have hF' : ∀ z ∈ F', z ≠ a ∧ z ≠ b := fun z hz => ⟨fun q => hn0.1 (q ▸ w4.subset hz), fun q => hbF (q ▸ w4.subset hz)⟩
  have h2 : LV M' (drL ps) xs' F' := LV.toW.mpr (by unfold drL; rw [toL_ofL]; exact w3)
  refine .by (Gh.drop (M' := del (upd M' a (.list xs')) b) del_le) (.now (hQ _ xs' F' ((del_ne hab).trans upd_self) (h2.frame fun z hz => (del_ne (hF' z hz).2).trans (upd_ne (hF' z hz).1)) w4 fun z hz => ?_))
  by_cases hzb : z = b
  · rw [hzb, del_self, hb]
  · rw [List.mem_cons, not_or] at hz
    rw [del_ne hzb, upd_ne hz.1, w5 z (by rw [List.mem_cons, List.mem_cons, not_or, not_or]; exact ⟨hz.1, hzb, hz.2⟩), fr z hzb]
theorem drops_spec (H : Std X) : ∀ (n : Nat) (ps : PL), dpL ps ≤ n → DrOk X (k + n + 5) ps := by
  intro n
  induction n with
  | zero => exact fun ps hd => dr_of H (n := 0) (fun ps h => absurd h (Nat.not_succ_le_zero _)) hd
  | succ n ih =>
    intro ps hd
    have e : k + (n + 1) + 5 = k + n + 1 + 5 := by exact linE [k, n] [] false (.v 0) (.a (.a (.v 0) (.a (.v 1) (.l 1))) (.l 5)) (.a (.a (.a (.v 0) (.v 1)) (.l 1)) (.l 5)) 1 [] 1 [] (Eq.refl true) (Eq.refl true)
    rw [e]
    refine dr_of (k := k + n + 1) H (n := n + 1) (fun ps h => ?_) hd
    have := ih ps (Nat.le_of_succ_le_succ h)
    have e2 : k + n + 5 = k + n + 1 + 4 := by exact linE [k, n] [] false (.v 0) (.a (.a (.v 0) (.v 1)) (.l 5)) (.a (.a (.a (.v 0) (.v 1)) (.l 1)) (.l 4)) 1 [] 1 [] (Eq.refl true) (Eq.refl true)
    rwa [e2] at this
end
end Mine
end
section
set_option maxRecDepth 100000
namespace Mine
/-! the freezing of all pieces at once -/
noncomputable abbrev Sg := Addr → Option (AV × AV × AV)
noncomputable def sb (σ : Sg) : AV → AV
  | .piece d => match σ d with
    | some (a, b, c) => .inst a b c
    | none => .piece d
  | v => v
noncomputable def sbM (σ : Sg) (L : List Addr) (M : Mem) : Mem := fun a => match σ a with
  | some _ => none
  | none => if a ∈ L then (match M a with
    | some (.list xs) => some (.list (xs.map (sb σ)))
    | r => r) else M a
section
variable {X : Cx}
theorem Gh.frzAll {σ : Sg} {L : List Addr} {v : AV} {M : Mem} (hσ : ∀ d a b c, σ d = some (a, b, c) → M d = some (.dict [(4, a), (5, b), (6, c)])) : Gh X v M (sb σ v) (sbM σ L M) := fun I J h val S r => by
  let I' : Imm := fun a => match σ a with
    | some _ => h.get? a
    | none => I a
  have hI1 : ∀ a x, σ a = some x → I' a = h.get? a ∧ I a = none ∧ J a = none := fun a x e => by
    obtain ⟨p, q, w⟩ := x
    have hm := hσ a p q w e
    exact ⟨by show (match σ a with | some _ => h.get? a | none => I a) = _; rw [e], S.im a _ hm, S.jm a _ hm⟩
  have hI0 : ∀ a, σ a = none → I' a = I a := fun a e => by show (match σ a with | some _ => h.get? a | none => I a) = _; rw [e]
  have le : Le I I' := fun a o e => by
    cases q : σ a with
    | none => rw [hI0 a q]; exact e
    | some x => rw [(hI1 a x q).2.1] at e; cases e
  have hsM0 : ∀ a mo, sbM σ L M a = some mo → σ a = none ∧ ∃ mo', M a = some mo' ∧ (mo' = mo ∨ ∃ xs, mo' = .list xs ∧ mo = .list (xs.map (sb σ))) := fun a mo e => by
    unfold sbM at e
    cases q : σ a with
    | some x => rw [q] at e; cases e
    | none =>
      rw [q] at e
      dsimp only at e
      split at e
      · split at e
        · rename_i xs hm; cases e; exact ⟨rfl, _, hm, .inr ⟨xs, rfl, rfl⟩⟩
        · exact ⟨rfl, _, e, .inl rfl⟩
      · exact ⟨rfl, _, e, .inl rfl⟩
  have rep : ∀ {w : Value} {x : AV}, X.Rep I w x → X.Rep I' w (sb σ x) := fun {w x} hr => by
    cases hr with
    | piece hp =>
      rename_i p d
      unfold sb
      dsimp only
      cases q : σ d with
      | none => exact .piece (le _ _ hp)
      | some y =>
        obtain ⟨a, b, c⟩ := y
        obtain ⟨ds, n, e, rr⟩ := S.mu d _ (hσ d a b c q)
        exact .inst (es := ds.toList) (n := n) (le _ _ hp) ((hI1 d _ q).1.trans e) (rr.mono le)
    | none => exact .none
    | bool b => exact .bool b
    | int i t => exact .int i t
    | sy n t hn => exact .sy n t hn
    | ref a => exact .ref a
    | tup h1 h2 => exact .tup (le _ _ h1) (h2.mono le)
    | lst h1 h2 => exact .lst (le _ _ h1) (h2.mono le)
    | inst h1 h2 h3 => exact .inst (le _ _ h1) (le _ _ h2) (h3.mono le)
    | rng h1 h2 h3 => exact .rng h1 h2 (le _ _ h3)
    | any => exact .any _
  have reps : ∀ {ws : List Value} {xs : List AV}, X.Reps I ws xs → X.Reps I' ws (xs.map (sb σ)) := by
    intro ws
    induction ws with
    | nil => intro xs hr; cases hr; exact .nil
    | cons w ws ih =>
      intro xs hr
      cases hr with
      | cons h1 h2 => exact .cons (rep h1) (ih h2)
  refine ⟨I', le, ⟨⟨fun a o e => ?_, S.frm, fun a mo e => ?_, fun a o e => ?_, fun a mo e => ?_, fun a mo e => ?_⟩, fun a o e => le _ _ (S.base a o e)⟩, rep r⟩
  · cases q : σ a with
    | none => rw [hI0 a q] at e; exact S.imm a o e
    | some x => rw [(hI1 a x q).1] at e; exact e
  · obtain ⟨_, mo', hm, rfl | ⟨xs, rfl, rfl⟩⟩ := hsM0 a mo e
    · exact (S.mu a _ hm).mono le fun _ x => x
    · obtain ⟨vs, n, e1, rr⟩ := S.mu a _ hm; exact ⟨vs, n, e1, reps rr⟩
  · cases q : σ a with
    | none => rw [hI0 a q] at e; exact S.ij a o e
    | some x => exact (hI1 a x q).2.2
  · obtain ⟨q, mo', hm, _⟩ := hsM0 a mo e
    rw [hI0 a q]; exact S.im a _ hm
  · obtain ⟨q, mo', hm, _⟩ := hsM0 a mo e
    exact S.jm a _ hm
end
end Mine
end
section
set_option maxRecDepth 100000
namespace Mine
mutual
noncomputable def PVm (M : Mem) : PT → AV → List Addr → Prop
  | .mk c r .none s, v, F => s = .none ∧ v = .inst (tI (c :: r)) .none .none ∧ F = []
  | .mk c r (.some ps) s, v, F => ∃ d l vs sv F1 F2, v = .piece d ∧ M d = some (.dict [(4, tI (c :: r)), (5, .ref l), (6, sv)]) ∧ M l = some (.list vs) ∧ LVm M ps vs F1 ∧ OVm M s sv F2 ∧ F = d :: l :: (F1 ++ F2)
noncomputable def OVm (M : Mem) : PO → AV → List Addr → Prop
  | .none, v, F => v = .none ∧ F = []
  | .some ps, v, F => ∃ a vs F', v = .ref a ∧ M a = some (.list vs) ∧ LVm M ps vs F' ∧ F = a :: F'
noncomputable def LVm (M : Mem) : PL → List AV → List Addr → Prop
  | .nil, vs, F => vs = [] ∧ F = []
  | .cons p ps, vs, F => ∃ v vs' F1 F2, vs = v :: vs' ∧ PVm M p v F1 ∧ LVm M ps vs' F2 ∧ F = F1 ++ F2
end
mutual
theorem PVm.frame {M M' : Mem} : ∀ {p : PT} {v : AV} {F : List Addr}, (∀ b ∈ F, M' b = M b) → PVm M p v F → PVm M' p v F
  | .mk c r .none s, v, F, h, x => x
  | .mk c r (.some ps) s, v, F, h, x => by
    obtain ⟨d, l, vs, sv, F1, F2, e, hd, hl, h1, h2, rfl⟩ := x
    refine ⟨d, l, vs, sv, F1, F2, e, (h d List.mem_cons_self).trans hd, (h l (List.mem_cons_of_mem _ List.mem_cons_self)).trans hl, LVm.frame (fun b hb => h b ?_) h1, OVm.frame (fun b hb => h b ?_) h2, rfl⟩
    · exact List.mem_cons_of_mem _ (List.mem_cons_of_mem _ (List.mem_append_left _ hb))
    · exact List.mem_cons_of_mem _ (List.mem_cons_of_mem _ (List.mem_append_right _ hb))
theorem OVm.frame {M M' : Mem} : ∀ {p : PO} {v : AV} {F : List Addr}, (∀ b ∈ F, M' b = M b) → OVm M p v F → OVm M' p v F
  | .none, v, F, h, x => x
  | .some ps, v, F, h, x => by
    obtain ⟨a, vs, F', e, hm, h1, rfl⟩ := x
    exact ⟨a, vs, F', e, (h a List.mem_cons_self).trans hm, LVm.frame (fun b hb => h b (List.mem_cons_of_mem _ hb)) h1, rfl⟩
theorem LVm.frame {M M' : Mem} : ∀ {p : PL} {v : List AV} {F : List Addr}, (∀ b ∈ F, M' b = M b) → LVm M p v F → LVm M' p v F
  | .nil, v, F, h, x => x
  | .cons p ps, vs, F, h, x => by
    obtain ⟨v, vs', F1, F2, e, h1, h2, rfl⟩ := x
    exact ⟨v, vs', F1, F2, e, PVm.frame (fun b hb => h b (List.mem_append_left _ hb)) h1, LVm.frame (fun b hb => h b (List.mem_append_right _ hb)) h2, rfl⟩
end
open Classical in
/-- the freezing of a footprint -/
noncomputable def sgOf (M : Mem) (F : List Addr) : Sg := fun a => if h : a ∈ F ∧ ∃ t : AV × AV × AV, M a = some (.dict [(4, t.1), (5, t.2.1), (6, t.2.2)]) then some h.2.choose else none
theorem sgOf_ok {M : Mem} {F : List Addr} : ∀ d a b c, sgOf M F d = some (a, b, c) → M d = some (.dict [(4, a), (5, b), (6, c)]) := fun d a b c h => by
  have ⟨q, e⟩ := Option.dite_none_right_eq_some.mp h
  have := q.2.choose_spec
  rwa [Option.some.inj e] at this
theorem sgOf_dict {M : Mem} {F : List Addr} {d : Addr} {a b c : AV} (h : d ∈ F) (hm : M d = some (.dict [(4, a), (5, b), (6, c)])) : sgOf M F d = some (a, b, c) := by
  have q : d ∈ F ∧ ∃ t : AV × AV × AV, M d = some (.dict [(4, t.1), (5, t.2.1), (6, t.2.2)]) := ⟨h, (a, b, c), hm⟩
  refine (dif_pos q).trans (congrArg some ?_)
  have e := MO.dict.inj (Option.some.inj (q.2.choose_spec.symm.trans hm))
  have e1 := List.cons.inj e
  have e2 := List.cons.inj e1.2
  exact Prod.ext (Prod.mk.inj e1.1).2 (Prod.ext (Prod.mk.inj e2.1).2 (Prod.mk.inj (List.cons.inj e2.2).1).2)
theorem sgOf_list {M : Mem} {F : List Addr} {d : Addr} {xs : List AV} (hm : M d = some (.list xs)) : sgOf M F d = none :=
  dif_neg fun h => h.2.elim fun t e => nomatch hm.symm.trans e
theorem sbM_list {M : Mem} {σ : Sg} {F : List Addr} {a : Addr} {xs : List AV} (hs : σ a = none) (h : a ∈ F) (hm : M a = some (.list xs)) : sbM σ F M a = some (.list (xs.map (sb σ))) := by
  unfold sbM; rw [hs]; dsimp only; rw [if_pos h, hm]
theorem sbM_out {M : Mem} {F : List Addr} {a : Addr} (h : a ∉ F) : sbM (sgOf M F) F M a = M a := by
  unfold sbM
  have : sgOf M F a = none := dif_neg fun q => h q.1
  rw [this]; dsimp only; rw [if_neg h]
mutual
theorem PVm.frz {M : Mem} {F : List Addr} : ∀ {p : PT} {v : AV} {G : List Addr}, (∀ b ∈ G, b ∈ F) → PVm M p v G → ∃ G', PV (sbM (sgOf M F) F M) p (sb (sgOf M F) v) G' ∧ G'.Sublist G
  | .mk c r .none s, v, G, h, x => by
    obtain ⟨rfl, rfl, rfl⟩ := x
    exact ⟨[], ⟨.none, .none, [], [], rfl, ⟨rfl, rfl⟩, ⟨rfl, rfl⟩, rfl⟩, List.Sublist.refl _⟩
  | .mk c r (.some ps) s, v, G, h, x => by
    obtain ⟨d, l, vs, sv, F1, F2, rfl, hd, hl, h1, h2, rfl⟩ := x
    obtain ⟨G1, q1, s1⟩ := LVm.frz (F := F) (fun b hb => h b (List.mem_cons_of_mem _ (List.mem_cons_of_mem _ (List.mem_append_left _ hb)))) h1
    obtain ⟨G2, q2, s2⟩ := OVm.frz (F := F) (fun b hb => h b (List.mem_cons_of_mem _ (List.mem_cons_of_mem _ (List.mem_append_right _ hb)))) h2
    have hs := sgOf_dict (h d List.mem_cons_self) hd
    refine ⟨(l :: G1) ++ G2, ⟨.ref l, sv, l :: G1, G2, ?_, ⟨l, _, G1, rfl, sbM_list (sgOf_list hl) (h l (List.mem_cons_of_mem _ List.mem_cons_self)) hl, q1, rfl⟩, q2, rfl⟩, ?_⟩
    · unfold sb; dsimp only; rw [hs]
    · exact List.Sublist.cons _ ((s1.cons₂ l).append s2)
theorem OVm.frz {M : Mem} {F : List Addr} : ∀ {p : PO} {v : AV} {G : List Addr}, (∀ b ∈ G, b ∈ F) → OVm M p v G → ∃ G', OV (sbM (sgOf M F) F M) p v G' ∧ G'.Sublist G
  | .none, v, G, h, x => ⟨[], ⟨x.1, rfl⟩, by rw [x.2]; exact List.Sublist.refl _⟩
  | .some ps, v, G, h, x => by
    obtain ⟨a, vs, F', rfl, hm, h1, rfl⟩ := x
    obtain ⟨G1, q1, s1⟩ := LVm.frz (F := F) (fun b hb => h b (List.mem_cons_of_mem _ hb)) h1
    exact ⟨a :: G1, ⟨a, _, G1, rfl, sbM_list (sgOf_list hm) (h a List.mem_cons_self) hm, q1, rfl⟩, s1.cons₂ a⟩
theorem LVm.frz {M : Mem} {F : List Addr} : ∀ {p : PL} {v : List AV} {G : List Addr}, (∀ b ∈ G, b ∈ F) → LVm M p v G → ∃ G', LV (sbM (sgOf M F) F M) p (v.map (sb (sgOf M F))) G' ∧ G'.Sublist G
  | .nil, v, G, h, x => by
    obtain ⟨rfl, rfl⟩ := x
    exact ⟨[], ⟨rfl, rfl⟩, List.Sublist.refl _⟩
  | .cons p ps, vs, G, h, x => by
    obtain ⟨v, vs', F1, F2, rfl, h1, h2, rfl⟩ := x
    obtain ⟨G1, q1, s1⟩ := PVm.frz (F := F) (fun b hb => h b (List.mem_append_left _ hb)) h1
    obtain ⟨G2, q2, s2⟩ := LVm.frz (F := F) (fun b hb => h b (List.mem_append_right _ hb)) h2
    exact ⟨G1 ++ G2, ⟨_, _, G1, G2, rfl, q1, q2, rfl⟩, s1.append s2⟩
end
end Mine
end
section
set_option maxRecDepth 100000
namespace Mine
section
variable {X : Cx} {k : Nat} {M : Mem} {Q : AV → Mem → Prop}
noncomputable def poBody : MS := (.seq (.ifs (.mem true (.sub (.loc 3) (.con (.int (0)))) (.tuple (.cons (.gl 17) (.cons (.gl 18) (.cons (.gl 19) .nil))))) (.seq (.asg 4 (.call 0 (.cons (.loc 3) (.cons (.list .nil) .nil)))) (.seq (.exp (.meth .append (.loc 1) (.cons (.loc 4) .nil))) (.seq (.exp (.meth .append (.loc 2) (.cons (.tuple (.cons (.loc 4) (.cons (.loc 1) .nil))) .nil))) (.seq (.asg 1 (.att (.loc 4) .first)) .skip)))) (.seq (.ifs (.cmp .eq (.sub (.loc 3) (.con (.int (0)))) (.gl 20)) (.seq (.asg 4 (.sub (.sub (.loc 2) (.neg (.con (.int (1))))) (.con (.int (0))))) (.seq (.asgAtt (.loc 4) .second (.list .nil)) (.seq (.asg 1 (.att (.loc 4) .second)) .skip))) (.seq (.ifs (.cmp .eq (.sub (.loc 3) (.con (.int (0)))) (.gl 21)) (.seq (.asgT [4, 1] (.meth .pop (.loc 2) .nil)) .skip) (.seq (.exp (.meth .append (.loc 1) (.cons (.call 0 (.cons (.loc 3) .nil)) .nil))) .skip)) .skip)) .skip)) .skip)
theorem step_leaf (H : Std X) {R : AV → Mem → Prop} {K : Mem → Env0 → Prop} {h : Addr} {x0 x2 x4 : Option AV} {xs : List AV} {c : Int} {r : List Int} (hc : c ≠ 2 ∧ c ≠ 3 ∧ c ≠ 4 ∧ c ≠ 5 ∧ c ≠ 11) (hm : M h = some (.list xs)) (hl : xs.length < lim)
    (hK : K (upd M h (.list (xs ++ [.inst (tI (c :: r)) .none .none]))) [x0, some (.ref h), x2, some (tI (c :: r)), x4]) : WS gAV (Spec X (k + 2)) poBody K R M [x0, some (.ref h), x2, some (tI (c :: r)), x4] := by
  have n : ¬ c ∈ [(2 : Int), 3, 4] := by
    rw [List.mem_cons, List.mem_cons, List.mem_singleton, not_or, not_or]
    exact ⟨hc.1, hc.2.1, hc.2.2.1⟩
  refine ⟨_, _, rfl, rfl, by decide, by decide, Nat.le_of_ble_eq_true rfl, _, _, rfl, rfl, br_intro (fun h1 => absurd (of_decide_eq_true h1) n) fun _ => ?_⟩
  refine ⟨_, _, rfl, rfl, by decide, by decide, br_intro (fun h1 => absurd (of_decide_eq_true h1) hc.2.2.2.1) fun _ => ?_⟩
  refine ⟨_, _, rfl, rfl, by decide, by decide, br_intro (fun h1 => absurd (of_decide_eq_true h1) hc.2.2.2.2) fun _ => ?_⟩
  exact ⟨⟨xs, lists_ref hm⟩, piece1 (k := k) H.cx H.ini ⟨xs, hm, hl, hK⟩⟩
theorem step_end (H : Std X) {R : AV → Mem → Prop} {K : Mem → Env0 → Prop} {h' o : Addr} {x0 x1 x4 : Option AV} {os : List AV} {w : AV} (hm : M o = some (.list (os ++ [.tup [w, .ref h']]))) (hl : os.length < lim)
    (hK : K (upd M o (.list os)) [x0, some (.ref h'), some (.ref o), some (tI [11]), some w]) : WS gAV (Spec X (k + 2)) poBody K R M [x0, x1, some (.ref o), some (tI [11]), x4] := by
  refine ⟨_, _, rfl, rfl, by decide, by decide, Nat.le_of_ble_eq_true rfl, _, _, rfl, rfl, ?_⟩
  refine ⟨_, _, rfl, rfl, by decide, by decide, ?_⟩
  refine ⟨_, _, rfl, rfl, by decide, by decide, ?_⟩
  exact ⟨⟨_, lists_ref hm⟩, os, _, hm, hl, _, rfl, rfl, hK⟩
theorem step_else (H : Std X) {R : AV → Mem → Prop} {K : Mem → Env0 → Prop} {o d : Addr} {x0 x1 x4 : Option AV} {os : List AV} {w a b : AV} (hm : M o = some (.list (os ++ [.tup [.piece d, w]]))) (hd : M d = some (.dict [(4, a), (5, b), (6, .none)]))
    (hK : ∀ l, M l = none → K (upd (upd M l (.list [])) d (.dict [(4, a), (5, b), (6, .ref l)])) [x0, some (.ref l), some (.ref o), some (tI [5]), some (.piece d)]) : WS gAV (Spec X (k + 2)) poBody K R M [x0, x1, some (.ref o), some (tI [5]), x4] := by
  refine ⟨_, _, rfl, rfl, by decide, by decide, Nat.le_of_ble_eq_true rfl, _, _, rfl, rfl, ?_⟩
  refine ⟨_, _, rfl, rfl, by decide, by decide, ?_⟩
  refine ⟨_, _, seqs_ref hm, getI_last (v := .tup [.piece d, w]) List.getLast?_concat, by decide, by decide, _, _, rfl, rfl, by decide, by decide, Nat.zero_le _, .inr fun l hl => ?_⟩
  have hdl : d ≠ l := fun q => by rw [q, hl] at hd; cases hd
  refine ⟨_, by decide, (upd_ne hdl).trans hd, Nat.le_refl 3, ?_⟩
  refine ⟨_, _, upd_self, rfl, rfl, ?_⟩
  exact hK l hl
theorem step_open (H : Std X) {R : AV → Mem → Prop} {K : Mem → Env0 → Prop} {h o : Addr} {x0 x4 : Option AV} {xs os : List AV} {c : Int} {r : List Int} (hc : c = 2 ∨ c = 3 ∨ c = 4) (hm : M h = some (.list xs)) (ho : M o = some (.list os)) (hne : h ≠ o) (hl : xs.length < lim) (hl2 : os.length < lim)
    (hK : ∀ l d, M l = none → M d = none → d ≠ l → K (upd (upd (upd (upd M l (.list [])) d (.dict [(4, tI (c :: r)), (5, .ref l), (6, .none)])) h (.list (xs ++ [.piece d]))) o (.list (os ++ [.tup [.piece d, .ref h]]))) [x0, some (.ref l), some (.ref o), some (tI (c :: r)), some (.piece d)]) :
    WS gAV (Spec X (k + 2)) poBody K R M [x0, some (.ref h), some (.ref o), some (tI (c :: r)), x4] := by
  have mem : c ∈ [(2 : Int), 3, 4] := by rcases hc with rfl | rfl | rfl <;> decide
  refine ⟨_, _, rfl, rfl, by decide, by decide, Nat.le_of_ble_eq_true rfl, _, _, rfl, rfl, br_intro (fun _ => ?_) fun h1 => absurd mem (of_decide_eq_false h1)⟩
  refine ⟨Nat.zero_le _, .inr fun l hl0 => piece2 (k := k) H.cx H.ini fun d hd0 => ?_⟩
  have hdl : d ≠ l := fun q => by rw [q, upd_self] at hd0; cases hd0
  have hdM : M d = none := by rwa [upd_ne hdl] at hd0
  have hhl : h ≠ l := fun q => by rw [q, hl0] at hm; cases hm
  have hhd : h ≠ d := fun q => by rw [q, hdM] at hm; cases hm
  have hol : o ≠ l := fun q => by rw [q, hl0] at ho; cases ho
  have hod : o ≠ d := fun q => by rw [q, hdM] at ho; cases ho
  have e1 : upd (upd M l (.list [])) d (.dict [(4, tI (c :: r)), (5, .ref l), (6, .none)]) h = some (.list xs) := by rw [upd_ne hhd, upd_ne hhl]; exact hm
  refine ⟨⟨xs, lists_ref e1⟩, xs, e1, hl, ?_⟩
  have e2 : upd (upd (upd M l (.list [])) d (.dict [(4, tI (c :: r)), (5, .ref l), (6, .none)])) h (.list (xs ++ [.piece d])) o = some (.list os) := by rw [upd_ne (Ne.symm hne), upd_ne hod, upd_ne hol]; exact ho
  refine ⟨⟨os, lists_ref e2⟩, Nat.le_of_ble_eq_true rfl, os, e2, hl2, ?_⟩
  refine ⟨_, _, by rw [upd_ne (Ne.symm hod), upd_ne (Ne.symm hhd), upd_self], rfl, rfl, ?_⟩
  exact hK l d hl0 hdM hdl
end
end Mine
end
section
set_option maxRecDepth 100000
namespace Mine
mutual
noncomputable def wfP : PT → Prop
  | .mk c _ .none s => s = .none ∧ c ≠ 2 ∧ c ≠ 3 ∧ c ≠ 4 ∧ c ≠ 5 ∧ c ≠ 11
  | .mk c _ (.some ps) s => (c = 2 ∨ c = 3 ∨ c = 4) ∧ wfL ps ∧ wfO s
noncomputable def wfO : PO → Prop
  | .none => True
  | .some ps => wfL ps
noncomputable def wfL : PL → Prop
  | .nil => True
  | .cons p ps => wfP p ∧ wfL ps
end
mutual
theorem PVm.dom {M : Mem} {z : Addr} : ∀ {p : PT} {v : AV} {F : List Addr}, PVm M p v F → z ∈ F → M z ≠ none
  | .mk c r .none s, v, F, x, hz => by rw [x.2.2] at hz; cases hz
  | .mk c r (.some ps) s, v, F, x, hz => by
    obtain ⟨d, l, vs, sv, F1, F2, e, hd, hl, h1, h2, rfl⟩ := x
    rcases List.mem_cons.mp hz with rfl | hz
    · rw [hd]; exact fun q => by cases q
    rcases List.mem_cons.mp hz with rfl | hz
    · rw [hl]; exact fun q => by cases q
    rcases List.mem_append.mp hz with hz | hz
    · exact LVm.dom h1 hz
    · exact OVm.dom h2 hz
theorem OVm.dom {M : Mem} {z : Addr} : ∀ {p : PO} {v : AV} {F : List Addr}, OVm M p v F → z ∈ F → M z ≠ none
  | .none, v, F, x, hz => by rw [x.2] at hz; cases hz
  | .some ps, v, F, x, hz => by
    obtain ⟨a, vs, F', e, hm, h1, rfl⟩ := x
    rcases List.mem_cons.mp hz with rfl | h
    · rw [hm]; exact fun q => by cases q
    · exact LVm.dom h1 h
theorem LVm.dom {M : Mem} {z : Addr} : ∀ {p : PL} {v : List AV} {F : List Addr}, LVm M p v F → z ∈ F → M z ≠ none
  | .nil, v, F, x, hz => by rw [x.2] at hz; cases hz
  | .cons p ps, vs, F, x, hz => by
    obtain ⟨v, vs', F1, F2, e, h1, h2, rfl⟩ := x
    rcases List.mem_append.mp hz with h | h
    · exact PVm.dom h1 h
    · exact LVm.dom h2 h
end
/-- from one memory to the next: h is changed, F is new -/
structure New (M M' : Mem) (h : Addr) (F : List Addr) : Prop where
  nd : F.Nodup
  fresh : ∀ z ∈ F, M z = none
  same : ∀ z, M z ≠ none → z ≠ h → M' z = M z
  rest : ∀ z, M z = none → z ∉ F → M' z = none
theorem New.trans {M M' M'' : Mem} {h : Addr} {F G : List Addr} (a : New M M' h F) (b : New M' M'' h G) (hh : M h ≠ none) (hh' : M' h ≠ none) (hF : ∀ z ∈ F, M' z ≠ none) : New M M'' h (F ++ G) := by
  have key : ∀ z, M' z = none → M z = none := fun z hz => by
    cases q : M z with
    | none => rfl
    | some o =>
      by_cases e : z = h
      · subst e; exact absurd hz hh'
      · rw [a.same z (by rw [q]; exact fun h => by cases h) e, q] at hz; cases hz
  refine ⟨List.nodup_append.mpr ⟨a.nd, b.nd, fun z h1 w h2 e => hF z h1 (e ▸ b.fresh w h2)⟩, fun z hz => ?_, fun z hz hne => ?_, fun z hz hne => ?_⟩
  · rcases List.mem_append.mp hz with h1 | h1
    · exact a.fresh z h1
    · exact key z (b.fresh z h1)
  · have := a.same z hz hne
    rw [b.same z (by rw [this]; exact hz) hne, this]
  · rw [List.mem_append, not_or] at hne
    exact b.rest z (a.rest z hz hne.1) hne.2
section
variable {X : Cx} {k : Nat}
noncomputable abbrev poW (X : Cx) (k : Nat) (R : AV → Mem → Prop) (K : Mem → Env0 → Prop) : List AV → Mem → Env0 → Prop :=
  wLoop (fun _ => True) (fun v k' M ρ => WS gAV (Spec X (k + 2)) poBody k' R M (stv ρ 3 v)) K
noncomputable def ParP (X : Cx) (k : Nat) (R : AV → Mem → Prop) (K : Mem → Env0 → Prop) (x0 : Option AV) (p : PT) : Prop := ∀ (M : Mem) (h o : Addr) (xs os rest : List AV) (x3 x4 : Option AV), M h = some (.list xs) → M o = some (.list os) → h ≠ o → xs.length + (flP p).length < lim → os.length + dpP p < lim →
  (∀ M' v F x3 x4, M' h = some (.list (xs ++ [v])) → PVm M' p v F → New M M' h F → poW X k R K rest M' [x0, some (.ref h), some (.ref o), x3, x4]) → poW X k R K (rows (flP p) ++ rest) M [x0, some (.ref h), some (.ref o), x3, x4]
noncomputable def ParL (X : Cx) (k : Nat) (R : AV → Mem → Prop) (K : Mem → Env0 → Prop) (x0 : Option AV) (ps : PL) : Prop := ∀ (M : Mem) (h o : Addr) (xs os rest : List AV) (x3 x4 : Option AV), M h = some (.list xs) → M o = some (.list os) → h ≠ o → xs.length + (flL ps).length < lim → os.length + dpL ps < lim →
  (∀ M' vs F x3 x4, M' h = some (.list (xs ++ vs)) → LVm M' ps vs F → New M M' h F → poW X k R K rest M' [x0, some (.ref h), some (.ref o), x3, x4]) → poW X k R K (rows (flL ps) ++ rest) M [x0, some (.ref h), some (.ref o), x3, x4]
theorem sn {α : Type} {a : Option α} {x : α} (h : a = some x) : a ≠ none := by rw [h]; exact fun q => by cases q
mutual
theorem par_P (H : Std X) {R : AV → Mem → Prop} {K : Mem → Env0 → Prop} {x0 : Option AV} : ∀ p : PT, wfP p → ParP X k R K x0 p
  | .mk c r .none s, hw, M, h, o, xs, os, rest, x3, x4, hm, ho, hne, hl, hl2, hK => by
    obtain ⟨rfl, hc⟩ := hw
    refine ⟨trivial, step_leaf H hc hm (by exact lin [xs.length, lim, (flP (PT.mk c r PO.none PO.none)).length] [] false (.h false false (.a (.a (.v 0) (.v 2)) (.l 1)) (.v 1) (.v 0)) (.a (.v 0) (.l 1)) (.v 1) 1 [1] (Eq.refl true) hl) ?_⟩
    refine hK _ (.inst (tI (c :: r)) .none .none) [] _ _ upd_self ⟨rfl, rfl, rfl⟩ ⟨List.nodup_nil, fun z hz => (by cases hz), fun z _ hz => upd_ne hz, fun z hz _ => ?_⟩
    rw [upd_ne (fun q => by rw [q, hm] at hz; cases hz)]; exact hz
  | .mk c r (.some ps) s, hw, M, h, o, xs, os, rest, x3, x4, hm, ho, hne, hl, hl2, hK => by
    obtain ⟨hc, hw1, hw2⟩ := hw
    simp only [flP, opn, flB, List.length_cons, List.length_append, List.length_nil] at hl
    simp only [dpP, dpO] at hl2
    have e : rows (flP (.mk c r (.some ps) s)) ++ rest = tI (c :: r) :: (rows (flL ps) ++ (rows (flE s ++ [[11]]) ++ rest)) := by simp [flP, opn, flB, rows]
    rw [e]
    refine ⟨trivial, step_open H hc hm ho hne (by exact lin [xs.length, lim, (flL ps).length, (flE s).length] [] false (.h false false (.a (.a (.v 0) (.a (.a (.v 2) (.a (.v 3) (.l 1))) (.l 1))) (.l 1)) (.v 1) (.v 0)) (.a (.v 0) (.l 1)) (.v 1) 1 [1] (Eq.refl true) hl) (by exact lin [os.length, lim, max (dpL ps + 1) (dpO s)] [] false (.h false false (.a (.a (.v 0) (.v 2)) (.l 1)) (.v 1) (.v 0)) (.a (.v 0) (.l 1)) (.v 1) 1 [1] (Eq.refl true) hl2) fun l d hl0 hd0 hdl => ?_⟩
    have hlh : l ≠ h := fun q => by rw [q, hm] at hl0; cases hl0
    have hlo : l ≠ o := fun q => by rw [q, ho] at hl0; cases hl0
    have hdh : d ≠ h := fun q => by rw [q, hm] at hd0; cases hd0
    have hdo : d ≠ o := fun q => by rw [q, ho] at hd0; cases hd0
    generalize hM1 : upd (upd (upd (upd M l (.list [])) d (.dict [(4, tI (c :: r)), (5, .ref l), (6, .none)])) h (.list (xs ++ [.piece d]))) o (.list (os ++ [.tup [.piece d, .ref h]])) = M1
    have m1o : M1 o = some (.list (os ++ [.tup [.piece d, .ref h]])) := by rw [← hM1, upd_self]
    have m1h : M1 h = some (.list (xs ++ [.piece d])) := by rw [← hM1, upd_ne hne, upd_self]
    have m1d : M1 d = some (.dict [(4, tI (c :: r)), (5, .ref l), (6, .none)]) := by rw [← hM1, upd_ne hdo, upd_ne hdh, upd_self]
    have m1l : M1 l = some (.list []) := by rw [← hM1, upd_ne hlo, upd_ne hlh, upd_ne (Ne.symm hdl), upd_self]
    have m1z : ∀ z, z ≠ o → z ≠ h → z ≠ d → z ≠ l → M1 z = M z := fun z h1 h2 h3 h4 => by rw [← hM1, upd_ne h1, upd_ne h2, upd_ne h3, upd_ne h4]
    clear hM1
    refine par_L H ps hw1 M1 l o [] (os ++ [.tup [.piece d, .ref h]]) _ _ _ m1l m1o hlo (by simp; exact lin [(flL ps).length, lim, xs.length, (flE s).length] [] false (.h false false (.a (.a (.v 2) (.a (.a (.v 0) (.a (.v 3) (.l 1))) (.l 1))) (.l 1)) (.v 1) (.v 0)) (.a (.v 0) (.l 1)) (.v 1) 1 [1] (Eq.refl true) hl) (by simp; exact lin [os.length, dpL ps, lim, max (dpL ps + 1) (dpO s)] [] false (.h false false (.a (.a (.v 0) (.v 3)) (.l 1)) (.v 2) (.h false false (.a (.v 1) (.l 1)) (.v 3) (.v 0))) (.a (.a (.a (.v 0) (.l 1)) (.v 1)) (.l 1)) (.v 2) 1 [1, 1] (Eq.refl true) hl2 (Nat.le_max_left (dpL ps + 1) (dpO s))) fun M2 vs F1 y3 y4 p1 p2 p3 => ?_
    rw [List.nil_append] at p1
    have m2o := (p3.same o (sn m1o) (Ne.symm hlo)).trans m1o
    have m2h := (p3.same h (sn m1h) (Ne.symm hlh)).trans m1h
    have m2d := (p3.same d (sn m1d) hdl).trans m1d
    have f1 : ∀ z ∈ F1, z ≠ o ∧ z ≠ h ∧ z ≠ d ∧ z ≠ l := fun z hz => by
      have hn := p3.fresh z hz
      exact ⟨fun q => (by rw [q, m1o] at hn; cases hn), fun q => (by rw [q, m1h] at hn; cases hn), fun q => (by rw [q, m1d] at hn; cases hn), fun q => (by rw [q, m1l] at hn; cases hn)⟩
    have f1M : ∀ z ∈ F1, M z = none := fun z hz => by
      obtain ⟨h1, h2, h3, h4⟩ := f1 z hz
      rw [← m1z z h1 h2 h3 h4]; exact p3.fresh z hz
    have m2z : ∀ z, M z ≠ none → z ≠ o → z ≠ h → M2 z = M z := fun z hz h1 h2 => by
      have h3 : z ≠ d := fun q => hz (q ▸ hd0)
      have h4 : z ≠ l := fun q => hz (q ▸ hl0)
      have h5 := m1z z h1 h2 h3 h4
      rw [p3.same z (by rw [h5]; exact hz) h4, h5]
    have m2n : ∀ z, M z = none → z ≠ d → z ≠ l → z ∉ F1 → M2 z = none := fun z hz h3 h4 h5 => by
      have h1 : z ≠ o := fun q => by rw [q, ho] at hz; cases hz
      have h2 : z ≠ h := fun q => by rw [q, hm] at hz; cases hz
      exact p3.rest z ((m1z z h1 h2 h3 h4).trans hz) h5
    have hlim : lim = 1048576 := by decide
    cases s with
    | none =>
      refine ⟨trivial, step_end H m2o (by exact lin [os.length, lim, max (dpL ps + 1) (dpO PO.none)] [] false (.h false false (.a (.a (.v 0) (.v 2)) (.l 1)) (.v 1) (.v 0)) (.a (.v 0) (.l 1)) (.v 1) 1 [1] (Eq.refl true) hl2) ?_⟩
      have fr : ∀ z, z ≠ o → upd M2 o (.list os) z = M2 z := fun z hz => upd_ne hz
      refine hK _ (.piece d) (d :: l :: (F1 ++ [])) _ _ ((fr h hne).trans m2h) ⟨d, l, vs, .none, F1, [], rfl, (fr d hdo).trans m2d, (fr l hlo).trans p1, p2.frame fun z hz => fr z (f1 z hz).1, ⟨rfl, rfl⟩, rfl⟩ ?_
      rw [List.append_nil]
      refine ⟨?_, fun z hz => ?_, fun z hz hzh => ?_, fun z hz hzF => ?_⟩
      · rw [List.nodup_cons, List.nodup_cons]
        refine ⟨?_, fun q => (f1 l q).2.2.2 rfl, p3.nd⟩
        rw [List.mem_cons, not_or]
        exact ⟨hdl, fun q => (f1 d q).2.2.1 rfl⟩
      · rcases List.mem_cons.mp hz with rfl | hz
        · exact hd0
        rcases List.mem_cons.mp hz with rfl | hz
        · exact hl0
        · exact f1M z hz
      · by_cases hzo : z = o
        · rw [hzo, upd_self, ho]
        · rw [fr z hzo]; exact m2z z hz hzo hzh
      · simp only [List.mem_cons, not_or] at hzF
        rw [fr z (fun q => by rw [q, ho] at hz; cases hz)]
        exact m2n z hz hzF.1 hzF.2.1 hzF.2.2
    | some qs =>
      simp only [flE, List.length_cons] at hl
      simp only [dpO] at hl2
      have e2 : rows (flE (.some qs) ++ [[11]]) ++ rest = tI [5] :: (rows (flL qs) ++ (rows [[11]] ++ rest)) := by simp [flE, rows]
      rw [e2]
      refine ⟨trivial, step_else H m2o m2d fun l2 hl2n => ?_⟩
      have l2o : l2 ≠ o := fun q => by rw [q, m2o] at hl2n; cases hl2n
      have l2h : l2 ≠ h := fun q => by rw [q, m2h] at hl2n; cases hl2n
      have l2d : l2 ≠ d := fun q => by rw [q, m2d] at hl2n; cases hl2n
      have l2l : l2 ≠ l := fun q => by rw [q, p1] at hl2n; cases hl2n
      have l2F : l2 ∉ F1 := fun q => p2.dom q hl2n
      have l2M : M l2 = none := by
        cases q : M l2 with
        | none => rfl
        | some w => rw [m2z l2 (sn q) l2o l2h, q] at hl2n; cases hl2n
      generalize hM3 : upd (upd M2 l2 (.list [])) d (.dict [(4, tI (c :: r)), (5, .ref l), (6, .ref l2)]) = M3
      have m3d : M3 d = some (.dict [(4, tI (c :: r)), (5, .ref l), (6, .ref l2)]) := by rw [← hM3, upd_self]
      have m3l2 : M3 l2 = some (.list []) := by rw [← hM3, upd_ne l2d, upd_self]
      have m3z : ∀ z, z ≠ d → z ≠ l2 → M3 z = M2 z := fun z h1 h2 => by rw [← hM3, upd_ne h1, upd_ne h2]
      clear hM3
      have m3o := (m3z o (Ne.symm hdo) (Ne.symm l2o)).trans m2o
      refine par_L H qs hw2 M3 l2 o [] (os ++ [.tup [.piece d, .ref h]]) _ _ _ m3l2 m3o l2o (by simp; exact lin [(flL qs).length, lim, xs.length, (flL ps).length] [] false (.h false false (.a (.a (.v 2) (.a (.a (.v 3) (.a (.a (.v 0) (.l 1)) (.l 1))) (.l 1))) (.l 1)) (.v 1) (.v 0)) (.a (.v 0) (.l 1)) (.v 1) 1 [1] (Eq.refl true) hl) (by simp; exact lin [os.length, dpL qs, lim, max (dpL ps + 1) (dpL qs + 1)] [] false (.h false false (.a (.a (.v 0) (.v 3)) (.l 1)) (.v 2) (.h false false (.a (.v 1) (.l 1)) (.v 3) (.v 0))) (.a (.a (.a (.v 0) (.l 1)) (.v 1)) (.l 1)) (.v 2) 1 [1, 1] (Eq.refl true) hl2 (Nat.le_max_right (dpL ps + 1) (dpL qs + 1))) fun M4 vs2 F2 y3 y4 q1 q2 q3 => ?_
      rw [List.nil_append] at q1
      have m4o := (q3.same o (sn m3o) (Ne.symm l2o)).trans m3o
      have m4d := (q3.same d (sn m3d) (Ne.symm l2d)).trans m3d
      have k3 : ∀ z w, M2 z = some w → z ≠ d → z ≠ l2 → M4 z = some w := fun z w hz h1 h2 => by
        have := (m3z z h1 h2).trans hz
        rw [q3.same z (sn this) h2, this]
      have f2 : ∀ z ∈ F2, z ≠ o ∧ z ≠ h ∧ z ≠ d ∧ z ≠ l ∧ z ≠ l2 ∧ z ∉ F1 := fun z hz => by
        have hn := q3.fresh z hz
        have h3 : z ≠ d := fun q => by rw [q, m3d] at hn; cases hn
        have h4 : z ≠ l2 := fun q => by rw [q, m3l2] at hn; cases hn
        rw [m3z z h3 h4] at hn
        exact ⟨fun q => (by rw [q, m2o] at hn; cases hn), fun q => (by rw [q, m2h] at hn; cases hn), h3, fun q => (by rw [q, p1] at hn; cases hn), h4, fun q => p2.dom q hn⟩
      have f2M : ∀ z ∈ F2, M z = none := fun z hz => by
        obtain ⟨h1, h2, h3, h4, h5, h6⟩ := f2 z hz
        have hn := q3.fresh z hz
        rw [m3z z h3 h5] at hn
        cases q : M z with
        | none => rfl
        | some w => rw [m2z z (sn q) h1 h2, q] at hn; cases hn
      refine ⟨trivial, step_end H m4o (by exact lin [os.length, lim, max (dpL ps + 1) (dpL qs + 1)] [] false (.h false false (.a (.a (.v 0) (.v 2)) (.l 1)) (.v 1) (.v 0)) (.a (.v 0) (.l 1)) (.v 1) 1 [1] (Eq.refl true) hl2) ?_⟩
      have fr : ∀ z, z ≠ o → upd M4 o (.list os) z = M4 z := fun z hz => upd_ne hz
      refine hK _ (.piece d) (d :: l :: (F1 ++ (l2 :: F2))) _ _ ((fr h hne).trans (k3 h _ m2h (Ne.symm hdh) (Ne.symm l2h))) ⟨d, l, vs, .ref l2, F1, l2 :: F2, rfl, (fr d hdo).trans m4d, (fr l hlo).trans (k3 l _ p1 (Ne.symm hdl) (Ne.symm l2l)), p2.frame fun z hz => ?_, ⟨l2, vs2, F2, rfl, (fr l2 l2o).trans q1, q2.frame fun z hz => fr z (f2 z hz).1, rfl⟩, rfl⟩ ?_
      · obtain ⟨h1, h2, h3, h4⟩ := f1 z hz
        rw [fr z h1]
        cases q : M2 z with
        | none => exact absurd q (p2.dom hz)
        | some w => exact k3 z w q h3 fun q => l2F (q ▸ hz)
      refine ⟨?_, fun z hz => ?_, fun z hz hzh => ?_, fun z hz hzF => ?_⟩
      · rw [List.nodup_cons, List.nodup_cons, List.nodup_append, List.nodup_cons]
        refine ⟨?_, ?_, p3.nd, ⟨fun q => (f2 l2 q).2.2.2.2.1 rfl, q3.nd⟩, fun z hz w hw e => ?_⟩
        · simp only [List.mem_cons, List.mem_append, not_or]
          exact ⟨hdl, fun q => (f1 d q).2.2.1 rfl, Ne.symm l2d, fun q => (f2 d q).2.2.1 rfl⟩
        · simp only [List.mem_cons, List.mem_append, not_or]
          exact ⟨fun q => (f1 l q).2.2.2 rfl, Ne.symm l2l, fun q => (f2 l q).2.2.2.1 rfl⟩
        · subst e
          rcases List.mem_cons.mp hw with rfl | hw
          · exact l2F hz
          · exact (f2 z hw).2.2.2.2.2 hz
      · simp only [List.mem_cons, List.mem_append] at hz
        rcases hz with rfl | rfl | hz | rfl | hz
        · exact hd0
        · exact hl0
        · exact f1M z hz
        · exact l2M
        · exact f2M z hz
      · by_cases hzo : z = o
        · rw [hzo, upd_self, ho]
        · rw [fr z hzo]
          have h2 := m2z z hz hzo hzh
          cases q : M z with
          | none => exact absurd q hz
          | some w =>
            rw [q] at h2
            exact k3 z w h2 (fun e => by rw [e, hd0] at q; cases q) (fun e => by rw [e, l2M] at q; cases q)
      · simp only [List.mem_cons, List.mem_append, not_or] at hzF
        obtain ⟨g1, g2, g3, g4, g5⟩ := hzF
        rw [fr z (fun q => by rw [q, ho] at hz; cases hz)]
        exact q3.rest z ((m3z z g1 g4).trans (m2n z hz g1 g2 g3)) g5
theorem par_L (H : Std X) {R : AV → Mem → Prop} {K : Mem → Env0 → Prop} {x0 : Option AV} : ∀ ps : PL, wfL ps → ParL X k R K x0 ps
  | .nil, hw, M, h, o, xs, os, rest, x3, x4, hm, ho, hne, hl, hl2, hK => by
    exact hK M [] [] x3 x4 (by rw [List.append_nil]; exact hm) ⟨rfl, rfl⟩ ⟨List.nodup_nil, fun z hz => (by cases hz), fun z _ _ => rfl, fun z hz _ => hz⟩
  | .cons p ps, hw, M, h, o, xs, os, rest, x3, x4, hm, ho, hne, hl, hl2, hK => by
    simp only [flL, List.length_append] at hl
    simp only [dpL] at hl2
    have e : rows (flL (.cons p ps)) ++ rest = rows (flP p) ++ (rows (flL ps) ++ rest) := by simp [flL, rows]
    rw [e]
    have hfp := flP_pos p
    refine par_P H p hw.1 M h o xs os _ x3 x4 hm ho hne (by exact lin [xs.length, (flP p).length, lim, (flL ps).length] [] false (.h false false (.a (.a (.v 0) (.a (.v 1) (.v 3))) (.l 1)) (.v 2) (.v 0)) (.a (.a (.v 0) (.v 1)) (.l 1)) (.v 2) 1 [1] (Eq.refl true) hl) (by exact lin [os.length, dpP p, lim, max (dpP p) (dpL ps)] [] false (.h false false (.a (.a (.v 0) (.v 3)) (.l 1)) (.v 2) (.h false false (.v 1) (.v 3) (.v 0))) (.a (.a (.v 0) (.v 1)) (.l 1)) (.v 2) 1 [1, 1] (Eq.refl true) hl2 (Nat.le_max_left (dpP p) (dpL ps))) fun M1 v F1 y3 y4 q1 q2 q3 => ?_
    have ho1 : M1 o = some (.list os) := (q3.same o (sn ho) (Ne.symm hne)).trans ho
    refine par_L H ps hw.2 M1 h o (xs ++ [v]) os rest y3 y4 q1 ho1 hne (by simp; exact lin [xs.length, (flL ps).length, lim, (flP p).length] [] false (.h false false (.a (.a (.v 0) (.a (.v 3) (.v 1))) (.l 1)) (.v 2) (.h false false (.l 1) (.v 3) (.v 0))) (.a (.a (.a (.v 0) (.l 1)) (.v 1)) (.l 1)) (.v 2) 1 [1, 1] (Eq.refl true) hl hfp) (by exact lin [os.length, dpL ps, lim, max (dpP p) (dpL ps)] [] false (.h false false (.a (.a (.v 0) (.v 3)) (.l 1)) (.v 2) (.h false false (.v 1) (.v 3) (.v 0))) (.a (.a (.v 0) (.v 1)) (.l 1)) (.v 2) 1 [1, 1] (Eq.refl true) hl2 (Nat.le_max_right (dpP p) (dpL ps))) fun M2 vs F2 z3 z4 w1 w2 w3 => ?_
    refine hK M2 (v :: vs) (F1 ++ F2) z3 z4 (by rw [w1]; simp) ⟨v, vs, F1, F2, rfl, q2.frame fun z hz => w3.same z (q2.dom hz) (fun q => ?_), w2, rfl⟩ (q3.trans w3 (sn hm) (sn q1) fun z hz => q2.dom hz)
    have := q3.fresh z hz
    rw [q, hm] at this; cases this
end
end
end Mine
end
section
set_option maxRecDepth 100000
namespace Mine
theorem pick_all (xs : List AV) (a k : Nat) : ((List.range k).map (a + ·)).filterMap (xs[·]?) = (xs.drop a).take k := by
  have := pick_run xs.toArray a k
  simpa using this
theorem pick_take {xs : List AV} {n : Nat} (h : n ≤ xs.length) : pickL xs none (some (n : Int)) none = xs.take n := by
  unfold pickL
  rw [sliceBounds_plain]
  simp only [Option.elim, clipAt_nat, sliceRange_one, pick_all, Nat.min_eq_left h, List.drop_zero, Nat.sub_zero]
theorem pick_init (l : List AV) (x : AV) : pickL (l ++ [x]) none (some (((l ++ [x]).length : Nat) - 1 : Int)) none = l := by
  have e : (((l ++ [x]).length : Nat) - 1 : Int) = ((l.length : Nat) : Int) := by rw [List.length_append, List.length_singleton]; exact linE [l.length] [] true (.v 0) (.s (.c (.a (.v 0) (.l 1))) (.l 1)) (.c (.v 0)) 1 [] 1 [] (Eq.refl true) (Eq.refl true)
  rw [e, pick_take (by simp), List.take_left]
section
variable {X : Cx} {k : Nat} {M : Mem} {Q : AV → Mem → Prop}
theorem pieces_end {M M' : Mem} {h : Addr} {ps : PL} {vs : List AV} {F : List Addr} (q1 : M' h = some (.list vs)) (q2 : LVm M' ps vs F) (hF : h ∉ F) (nd : F.Nodup) (hn : ∀ z ∈ F, M z = none) (hh : M h = none) (hs : ∀ z, M z ≠ none → M' z = M z)
    (hQ : ∀ M' a vs F, M' a = some (.list vs) → LV M' ps vs F → (a :: F).Nodup → (∀ z ∈ a :: F, M z = none) → (∀ z, M z ≠ none → M' z = M z) → Q (.ref a) M') : Ret X Q (.ref h) M' := by
  obtain ⟨G, p1, p2⟩ := LVm.frz (F := h :: F) (fun b hb => List.mem_cons_of_mem _ hb) q2
  refine .by (Gh.frzAll (sgOf_ok (M := M') (F := h :: F)) (L := h :: F)) (.now (hQ _ h _ G (sbM_list (sgOf_list q1) List.mem_cons_self q1) p1 ?_ (fun z hz => ?_) fun z hz => ?_))
  · exact List.nodup_cons.mpr ⟨fun q => hF (p2.subset q), p2.nodup nd⟩
  · rcases List.mem_cons.mp hz with rfl | q
    · exact hh
    · exact hn z (p2.subset q)
  · refine (sbM_out fun q => ?_).trans (hs z hz)
    rcases List.mem_cons.mp q with rfl | q
    · exact hz hh
    · exact hz (hn z q)
theorem pieces_of_spec (H : Std X) {ps : PL} (hw : wfL ps) (hl : (flL ps).length + 10 < lim) (hd : dpL ps + 10 < lim)
    (hQ : ∀ M' a vs F, M' a = some (.list vs) → LV M' ps vs F → (a :: F).Nodup → (∀ z ∈ a :: F, M z = none) → (∀ z, M z ≠ none → M' z = M z) → Q (.ref a) M') : Spec X (k + 3) 1 [.lst (rows (flL ps ++ [[11]]))] M Q := by
  refine H.fn tr_pieces_of rfl ?_
  refine ⟨Nat.zero_le _, .inr fun h hh => ⟨Nat.zero_le _, .inr fun o ho => ⟨Nat.le_of_ble_eq_true rfl, _, rfl, rfl, ?_⟩⟩⟩
  have hoh : o ≠ h := fun q => by rw [q, upd_self] at ho; cases ho
  rw [upd_ne hoh] at ho
  have e : rows (flL ps ++ [[11]]) = rows (flL ps) ++ [tI [11]] := by simp [rows]
  have el : (rows (flL ps)).length = (flL ps).length := List.length_map ..
  have hlim : lim = 1048576 := by decide
  rw [e]
  have el2 : (rows (flL ps) ++ [tI [11]]).length = (flL ps).length + 1 := by rw [List.length_append, el]; rfl
  refine ⟨_, rfl, by exact lin [(rows (flL ps) ++ [tI [11]]).length, (flL ps).length, lim] [] false (.h false false (.a (.a (.v 1) (.l 10)) (.l 1)) (.v 2) (.h true false (.v 2) (.l 1048576) (.h true false (.v 0) (.a (.v 1) (.l 1)) (.v 0)))) (.v 0) (.l 1000000000) 1 [1, 1, 1] (Eq.refl true) hl hlim el2, _, _, _, rfl, rfl, rfl, (fun q => by cases q), _, rfl, by exact lin [(rows (flL ps) ++ [tI [11]]).length, lim, (flL ps).length] [] false (.h false false (.a (.a (.v 2) (.l 10)) (.l 1)) (.v 1) (.h true false (.v 0) (.a (.v 2) (.l 1)) (.v 0))) (.v 0) (.v 1) 1 [1, 1] (Eq.refl true) hl el2, ?_⟩
  rw [pick_init]
  refine ⟨by exact lin [(rows (flL ps)).length, lim, (flL ps).length] [] false (.h false false (.a (.a (.v 2) (.l 10)) (.l 1)) (.v 1) (.h true false (.v 0) (.v 2) (.v 0))) (.v 0) (.v 1) 1 [1, 1] (Eq.refl true) hl el, .inl ⟨_, _, rfl, ?_⟩⟩
  have key := par_L (k := k) H (R := fun v M' => Ret X Q v M') (K := fun M' ρ => WS gAV (Spec X (k + 2)) (.seq (.ret (.loc 1)) .skip) (fun M' _ => Ret X Q .none M') (fun v M' => Ret X Q v M') M' ρ) (x0 := some (.lst (rows (flL ps) ++ [tI [11]]))) ps hw
    (upd (upd M h (.list [])) o (.list [])) h o [] [] [] none none (by rw [upd_ne (Ne.symm hoh), upd_self]) upd_self (Ne.symm hoh) (by simp; exact lin [(flL ps).length, lim] [] false (.h false false (.a (.a (.v 0) (.l 10)) (.l 1)) (.v 1) (.v 0)) (.a (.v 0) (.l 1)) (.v 1) 1 [1] (Eq.refl true) hl) (by simp; exact lin [dpL ps, lim] [] false (.h false false (.a (.a (.v 0) (.l 10)) (.l 1)) (.v 1) (.v 0)) (.a (.v 0) (.l 1)) (.v 1) 1 [1] (Eq.refl true) hd) fun M' vs F x3 x4 q1 q2 q3 => ?_
  · rw [List.append_nil] at key
    exact key
  · rw [List.nil_append] at q1
    refine ⟨trivial, pieces_end q1 q2 (fun q => ?_) q3.nd (fun z hz => ?_) hh (fun z hz => ?_) hQ⟩
    · have := q3.fresh h q
      rw [upd_ne (Ne.symm hoh), upd_self] at this; cases this
    · have := q3.fresh z hz
      have h1 : z ≠ o := fun q => by rw [q, upd_self] at this; cases this
      rw [upd_ne h1] at this
      have h2 : z ≠ h := fun q => by rw [q, upd_self] at this; cases this
      rwa [upd_ne h2] at this
    · have h1 : z ≠ h := fun q => hz (q ▸ hh)
      have h2 : z ≠ o := fun q => hz (q ▸ ho)
      have e : upd (upd M h (.list [])) o (.list []) z = M z := by rw [upd_ne h2, upd_ne h1]
      rw [q3.same z (by rw [e]; exact hz) h1, e]
end
end Mine
end
section
set_option maxRecDepth 100000
namespace Mine
noncomputable def dRow (r : List Int) : PyData := .tuple (r.map .int)
theorem toDs_ints : ∀ r : List Int, toDs (r.map .int) = some (r.map .int)
  | [] => rfl
  | a :: r => by rw [List.map_cons, toDs, toDs_ints r]; rfl
theorem toD_row (r : List Int) : toD (tI r) = some (dRow r) := by
  show (toDs (r.map .int)).map _ = _
  rw [toDs_ints]; rfl
theorem toDs_rows : ∀ l : List (List Int), toDs (rows l) = some (l.map dRow)
  | [] => rfl
  | a :: l => by
    show toDs (tI a :: rows l) = _
    rw [toDs, toD_row, toDs_rows l]; rfl
theorem toD_rows (l : List (List Int)) : topD M (.lst (rows l)) = some (.list (l.map dRow)) := by
  show (toDs (rows l)).map _ = _
  rw [toDs_rows]; rfl
theorem dp_ints : ∀ r : List Int, PyData.depthAll (r.map .int) = 0
  | [] => rfl
  | a :: r => (congrArg (max 0) (dp_ints r)).trans rfl
theorem dp_rows : ∀ l : List (List Int), PyData.depthAll (l.map dRow) ≤ 1
  | [] => Nat.zero_le _
  | a :: l => Nat.max_le.mpr ⟨Nat.le_of_eq (congrArg (· + 1) (dp_ints a)), dp_rows l⟩
theorem lay_ints0 : ∀ r : List Int, PyData.canLayAll0 (r.map .int) = true
  | [] => rfl
  | a :: r => (congrArg (true && ·) (lay_ints0 r)).trans rfl
theorem lay_rows : ∀ l : List (List Int), PyData.canLayAll0 (l.map dRow) = true
  | [] => rfl
  | a :: l => by
    show (PyData.canLayAll0 (a.map .int) && PyData.canLayAll0 (l.map dRow)) = true
    rw [lay_ints0, lay_rows l]; rfl
/-- two lists of rows that are the same -/
theorem same_rows {op : COp} {l : List (List Int)} {M : Mem} {Q : Bool → Prop} (h : wEq op true Q) : wCmp op (.lst (rows l)) (.lst (rows l)) Q M := by
  refine ⟨_, _, toD_rows l, toD_rows l, Nat.le_trans (Nat.succ_le_succ (dp_rows l)) (by decide), ?_⟩
  rw [SeqAt.eqv_refl (.list (l.map dRow)) (lay_rows l)]; exact h
section
variable {X : Cx} {k : Nat} {M : Mem} {Q : AV → Mem → Prop}
theorem cut_call (H : Std X) {ps : PL} (hd : dpL ps ≤ 5) (ho : okL ps) (hl : (flL ps).length < lim) : PassOk X (k + 15) 13 ps (cdL ps) := cut_spec H 5 ps hd ho hl
theorem drop_call (H : Std X) {ps : PL} (hd : dpL ps ≤ 5) (ho : okQL ps) (hl : (flL ps).length < 100000) : PassOk X (k + 15) 15 ps (drL ps) := drops_spec (k := k + 5) H 5 ps hd ho hl
noncomputable def rightBody : MS := .seq (.asg 5 (.call 1 (.cons (.loc 4) .nil))) (.seq (.ifs (.loc 2) (.seq (.exp (.call 13 (.cons (.loc 5) .nil))) .skip) (.seq (.exp (.call 15 (.cons (.loc 5) .nil))) .skip)) (.seq (.ifs (.cmp .ne (.call 3 (.cons (.loc 5) .nil)) (.loc 1)) (.seq (.ret (.con (.bool false))) .skip) .skip) .skip))
theorem right_one (H : Std X) {R : AV → Mem → Prop} {K : Mem → Env0 → Prop} {dead : Bool} {ps ps' : PL} {due : List (List Int)} {x0 x3 x5 : Option AV} (hw : wfL ps) (hl : (flL ps).length + 10 < lim) (hd : dpL ps ≤ 5) (hl' : (flL ps').length < lim) (hd' : dpL ps' ≤ 5) (hc : PassOk X (k + 15) (if dead then 13 else 15) ps ps') (e : flL ps' ++ [[11]] = due)
    (hK : ∀ M' y, (∀ z, M z ≠ none → M' z = M z) → K M' [x0, some (.lst (rows due)), some (.bool dead), x3, some (.lst (rows (flL ps ++ [[11]]))), y]) :
    WS gAV (Spec X (k + 15)) rightBody K R M [x0, some (.lst (rows due)), some (.bool dead), x3, some (.lst (rows (flL ps ++ [[11]]))), x5] := by
  have hlim : lim = 1048576 := by decide
  refine pieces_of_spec (k := k + 12) H hw hl (by exact lin [dpL ps, lim] [] false (.h false false (.v 0) (.l 5) (.h true false (.v 1) (.l 1048576) (.v 0))) (.a (.a (.v 0) (.l 10)) (.l 1)) (.v 1) 1 [1, .negSucc 0] (Eq.refl true) hd hlim) fun M1 a vs F h1 h2 h3 h5 h4 => ?_
  have fin : ∀ M2 vs' F', M2 a = some (.list vs') → LV M2 ps' vs' F' → (∀ b, b ∉ a :: F → M2 b = M1 b) → WS gAV (Spec X (k + 15)) (.ifs (.cmp .ne (.call 3 (.cons (.loc 5) .nil)) (.loc 1)) (.seq (.ret (.con (.bool false))) .skip) .skip) K R M2 [x0, some (.lst (rows due)), some (.bool dead), x3, some (.lst (rows (flL ps ++ [[11]]))), some (.ref a)] := fun M2 vs' F' g1 g2 g3 => by
    refine .up (k := k + dpL ps' + 2) (by exact lin [k, dpL ps'] [] false (.h false false (.v 1) (.l 5) (.v 0)) (.a (.a (.v 0) (.v 1)) (.l 2)) (.a (.v 0) (.l 15)) 1 [1] (Eq.refl true) hd') (body_of_spec H g1 g2 hl' ?_)
    rw [e]
    exact same_rows (hK M2 _ fun z hz => (g3 z fun q => hz (h5 z q)).trans (h4 z hz))
  cases dead with
  | true => exact hc M1 _ a vs F h1 h2 h3 fun M2 vs' F' g1 g2 _ g3 => fin M2 vs' F' g1 g2 g3
  | false => exact hc M1 _ a vs F h1 h2 h3 fun M2 vs' F' g1 g2 _ g3 => fin M2 vs' F' g1 g2 g3
theorem right_spec (H : Std X) {dead : Bool} {ps ps' qs qs' : PL} (hw : wfL ps) (hl : (flL ps).length + 10 < lim) (hd : dpL ps ≤ 5) (hl' : (flL ps').length < lim) (hd' : dpL ps' ≤ 5) (hc : PassOk X (k + 15) (if dead then 13 else 15) ps ps')
    (hw2 : wfL qs) (hl2 : (flL qs).length + 10 < lim) (hd2 : dpL qs ≤ 5) (hl2' : (flL qs').length < lim) (hd2' : dpL qs' ≤ 5) (hc2 : PassOk X (k + 15) (if dead then 13 else 15) qs qs') (e1 : flL ps' = flL qs) (e2 : flL qs' = flL qs) (hQ : Q (.bool true) M) :
    Spec X (k + 16) 21 [.lst (rows (flL ps ++ [[11]])), .lst (rows (flL qs ++ [[11]])), .bool dead] M Q := by
  refine H.fn tr_law_is_cut_right rfl ?_
  have hlen : (rows (flL ps ++ [[11]])).length ≤ lim := by simp [rows]; exact lin [(flL ps).length, lim] [] false (.h false false (.a (.a (.v 0) (.l 10)) (.l 1)) (.v 1) (.v 0)) (.a (.v 0) (.l 1)) (.v 1) 1 [1] (Eq.refl true) hl
  refine ⟨_, rfl, hlen, .inl ⟨Nat.le_of_ble_eq_true rfl, _, _, rfl, trivial, ?_⟩⟩
  refine right_one H (dead := dead) hw hl hd hl' hd' hc (by rw [e1]) fun M1 y1 k1 => ⟨trivial, ?_⟩
  refine right_one H (dead := dead) hw2 hl2 hd2 hl2' hd2' hc2 (by rw [e2]) fun M2 y2 k2 => ⟨trivial, ?_⟩
  refine same_rows ?_
  have kk : ∀ z mo, M z = some mo → M2 z = some mo := fun z mo h => by
    have h1 := (k1 z (sn h)).trans h
    exact (k2 z (sn h1)).trans h1
  exact .by (Gh.drop kk) (.now hQ)
end
end Mine
end
section
set_option maxRecDepth 100000
namespace Mine
/-! the law's trees as data -/
mutual
inductive ND where
  | op (c : Int) (r : List Int)
  | br (c : Int) (gs : List Int)
  | blk (c n : Int) (f : NL) (s : NO)
inductive NO where
  | none
  | some (l : NL)
inductive NL where
  | nil
  | cons (p : ND) (l : NL)
end
noncomputable abbrev iv (l : List Int) : List AV := l.map .int
mutual
noncomputable def nvP : ND → AV
  | .op c r => .tup [.sy 0, tI (c :: r)]
  | .br c gs => .tup [.sy 1, .int c, .lst (iv gs)]
  | .blk c n f s => .tup [.sy 2, .int c, .int n, .lst (nvL f), nvO s]
noncomputable def nvO : NO → AV
  | .none => .none
  | .some l => .lst (nvL l)
noncomputable def nvL : NL → List AV
  | .nil => []
  | .cons p l => nvP p :: nvL l
end
noncomputable def cntL : NL → Nat
  | .nil => 0
  | .cons _ l => cntL l + 1
noncomputable def cntO : NO → Nat
  | .none => 0
  | .some l => cntL l
noncomputable def okOp (c : Int) (r : List Int) : Prop := r.length < 10 ∧ c ∈ [(0 : Int), 1, 15, 16, 18, 19, 33, 65]
mutual
noncomputable def wN (op : List Int) : ND → Prop
  | .op c r => okOp c r
  | .br c gs => (c = 12 ∨ c = 13 ∨ c = 14) ∧ gs.length < 10 ∧ ∀ g ∈ gs, g ∈ op
  | .blk c n f s => (c = 2 ∨ c = 3 ∨ c = 4) ∧ op.length < 4 ∧ n ∉ op ∧ (cntL f ≤ 3 ∧ cntO s ≤ 3) ∧ wNL (op ++ [n]) f ∧ wNO (op ++ [n]) s
noncomputable def wNO (op : List Int) : NO → Prop
  | .none => True
  | .some l => wNL op l
noncomputable def wNL (op : List Int) : NL → Prop
  | .nil => True
  | .cons p l => wN op p ∧ wNL op l
end
section
variable {X : Cx} {k : Nat} {M : Mem} {Q : AV → Mem → Prop}
theorem law_next_spec (H : Std X) {t : Addr} {ts : List Int} (ht : M t = some (.list (iv ts))) (hl : ts.length < lim) (hQ : ∀ M' ts' x, M' t = some (.list (iv ts')) → ts'.length ≤ ts.length → (ts ≠ [] → ts'.length < ts.length) → (∀ z, z ≠ t → M' z = M z) → Q (.int x) M') : Spec X (k + 1) 16 [.ref t] M Q := by
  refine H.fn tr_law_next rfl ?_
  refine ⟨_, lists_ref ht, ?_⟩
  rcases List.eq_nil_or_concat ts with rfl | ⟨l, x, rfl⟩
  · exact .now (hQ M [] 0 ht (Nat.le_refl _) (fun q => absurd rfl q) fun _ _ => rfl)
  · have e : iv (l.concat x) = iv l ++ [.int x] := by simp [List.concat_eq_append]
    rw [e] at ht ⊢
    rw [List.concat_eq_append, List.length_append, List.length_singleton] at hl
    have e2 : (iv l ++ [AV.int x]).isEmpty = false := by simp
    rw [e2]
    refine ⟨⟨_, lists_ref ht⟩, _, _, ht, by rw [List.length_map]; exact lin [l.length, lim] [] false (.h false false (.a (.a (.v 0) (.l 1)) (.l 1)) (.v 1) (.v 0)) (.a (.v 0) (.l 1)) (.v 1) 1 [1] (Eq.refl true) hl, .now (hQ _ l x upd_self (by simp) (fun _ => by simp) fun z hz => upd_ne hz)⟩
end
end Mine
end
section
set_option maxRecDepth 100000
namespace Mine
theorem pick_rev (xs : List AV) : pickL xs none none (some (-1)) = xs.reverse := by
  unfold pickL
  rw [krv_bounds]
  show (sliceRange ((xs.length : Int) - 1) (-1) (-1)).filterMap (xs[·]?) = _
  rw [krv_sliceRange, krv_range, List.filterMap_reverse]
  have := krv_all xs.toArray
  simp only [List.size_toArray, List.getElem?_toArray] at this
  rw [this]
section
variable {X : Cx} {k : Nat}
/-- the tape, the state -/
structure TS (M : Mem) (t st : Addr) (ts : List Int) (n : Int) : Prop where
  tp : M t = some (.list (iv ts))
  sd : M st = some (.dict [(3, .int n)])
  ne : t ≠ st
  ln : ts.length < lim
noncomputable abbrev After (t st : Addr) (M : Mem) (n : Int) (R : Mem → Prop) : Prop := ∀ M' ts' n', TS M' t st ts' n' → n ≤ n' → (∀ z, z ≠ t → z ≠ st → M' z = M z) → R M'
structure Opn (op : List Int) (n : Int) (m : Nat) : Prop where
  m : 4 ≤ op.length + m
  le : op.length ≤ 4
  ne : op ≠ []
  top : ∀ g ∈ op, g ≤ n
noncomputable def NodeOk (X : Cx) (k m : Nat) : Prop := ∀ M Q t st ts n op, TS M t st ts n → Opn op n m → (∀ nd, wN op nd → After t st M n (Q (nvP nd))) → Spec X k 17 [.ref t, .ref st, .lst (iv op)] M Q
noncomputable def NodesOk (X : Cx) (k m : Nat) : Prop := ∀ M Q t st ts n op (c : Nat), c ≤ 10 → TS M t st ts n → Opn op n m → (∀ l, cntL l = c → wNL op l → After t st M n (Q (.lst (nvL l)))) → Spec X k 18 [.ref t, .ref st, .lst (iv op), .int (c : Nat)] M Q
theorem nodes_loop {m : Nat} (hN : NodeOk X k m) {chk : Mem → Prop} {K : List AV → Mem → Prop} {t st : Addr} {op : List Int} (hc : ∀ M, chk M) : ∀ (xs acc : List AV) {M : Mem} {ts : List Int} {n : Int}, TS M t st ts n → Opn op n m → (∀ l, cntL l = xs.length → wNL op l → After t st M n (K (acc ++ nvL l))) →
    wComp chk (fun v k' M => [some (.ref t), some (.ref st), some (.lst (iv op)), none, some v] = [some (.ref t), some (.ref st), some (.lst (iv op)), none, some v] ∧ Spec X k 17 [.ref t, .ref st, .lst (iv op)] M fun r M => [some (.ref t), some (.ref st), some (.lst (iv op)), none, some v] = [some (.ref t), some (.ref st), some (.lst (iv op)), none, some v] ∧ k' (some r) M) K xs acc M
  | [], acc, M, ts, n, h, ho, hK => ⟨hc M, by have := hK .nil rfl trivial M ts n h (Int.le_refl n) fun _ _ _ => rfl; rwa [nvL, List.append_nil] at this⟩
  | x :: xs, acc, M, ts, n, h, ho, hK => ⟨hc M, rfl, hN M _ t st ts n op h ho fun nd hnd M1 ts1 n1 h1 hn1 hk1 => ⟨rfl, by
      refine nodes_loop hN hc xs (acc ++ [nvP nd]) h1 ⟨ho.m, ho.le, ho.ne, fun g hg => Int.le_trans (ho.top g hg) hn1⟩ fun l hl hw M2 ts2 n2 h2 hn2 hk2 => ?_
      have := hK (.cons nd l) (congrArg (· + 1) hl) ⟨hnd, hw⟩ M2 ts2 n2 h2 (Int.le_trans hn1 hn2) fun z a b => (hk2 z a b).trans (hk1 z a b)
      rwa [nvL, List.append_cons] at this⟩⟩
theorem nvL_len : ∀ l : NL, (nvL l).length = cntL l
  | .nil => rfl
  | .cons p l => congrArg (· + 1) (nvL_len l)
theorem rng_len (c : Nat) : (rngL 0 (c : Nat)).length = c := by simp [rngL]
theorem nodes_of (H : Std X) {m : Nat} (hN : NodeOk X k m) : NodesOk X (k + 1) m := fun M Q t st ts n op c hc h ho hQ => by
  have hlim : lim = 1048576 := by decide
  refine H.fn tr_law_nodes rfl ?_
  refine ⟨by exact lin [c] [] true (.h false false (.v 0) (.l 10) (.v 0)) (.c (.v 0)) (.l 1000000) 1 [1] (Eq.refl true) hc, by exact lin [c] [] true (.v 0) (.a (.g (.l 1000000)) (.l 1)) (.c (.v 0)) 1 [] (Eq.refl true), _, _, rfl, by rw [rng_len]; exact lin [c, lim] [] false (.h false false (.v 0) (.l 10) (.h true false (.v 1) (.l 1048576) (.v 0))) (.v 0) (.v 1) 1 [1, .negSucc 0] (Eq.refl true) hc hlim, ?_⟩
  refine nodes_loop (m := m) hN (fun _ => trivial) _ [] h ho fun l hl hw M1 ts1 n1 h1 hn1 hk1 => ?_
  rw [rng_len] at hl
  refine ⟨?_, .inl (.now (hQ l hl hw M1 ts1 n1 h1 hn1 hk1))⟩
  rw [List.nil_append, nvL_len, hl]; exact lin [c, lim] [] false (.h false false (.v 0) (.l 10) (.h true false (.v 1) (.l 1048576) (.v 0))) (.v 0) (.v 1) 1 [1, .negSucc 0] (Eq.refl true) hc hlim
end
end Mine
end
section
set_option maxRecDepth 100000
namespace Mine
noncomputable def thnS : MS → MS
  | .ifs _ a _ => a
  | s => s
noncomputable def nodeA : MS := thnS (fstS (sndS (sndS ms__law_node)))
noncomputable def nodeB : MS := thnS (fstS (sndS (sndS (sndS ms__law_node))))
noncomputable def nodeC : MS := thnS (fstS (sndS (sndS (sndS (sndS ms__law_node)))))
noncomputable def nodeD : MS := sndS (sndS (sndS (sndS (sndS ms__law_node))))
section
variable {X : Cx} {k : Nat} {M : Mem}
theorem four {k : Int} {a b c d : AV} {P : AV → Prop} (h0 : 0 ≤ k) (h4 : k < 4) (ha : P a) (hb : P b) (hc : P c) (hd : P d) : ∃ x, getI [a, b, c, d] k = some x ∧ P x := by
  have : k = 0 ∨ k = 1 ∨ k = 2 ∨ k = 3 := by omega
  rcases this with rfl | rfl | rfl | rfl
  · exact ⟨a, rfl, ha⟩
  · exact ⟨b, rfl, hb⟩
  · exact ⟨c, rfl, hc⟩
  · exact ⟨d, rfl, hd⟩
theorem fm (x : Int) {b : Int} (h : 0 < b) : 0 ≤ x.fmod b ∧ x.fmod b < b := ⟨Int.fmod_nonneg_of_pos x h, Int.fmod_lt_of_pos x h⟩
noncomputable abbrev opB (R : AV → Mem → Prop) (M : Mem) : Prop := ∀ c r, okOp c r → R (nvP (.op c r)) M
theorem sub4 {y : Int} {a b c d : AV} {Q : QE} {M : Mem} {ρ : Env0} (ha : Q a M ρ) (hb : Q b M ρ) (hc : Q c M ρ) (hd : Q d M ρ) : wSub (.lst [a, b, c, d]) (.int (y.fmod 4)) Q M ρ := by
  obtain ⟨h0, h4⟩ := fm y (b := 4) (by decide)
  obtain ⟨x, e, p⟩ := four (P := fun x => Q x M ρ) h0 h4 ha hb hc hd
  exact ⟨_, x, rfl, e, by exact lin [] [y.fmod 4] true (.h false true (.l 0) (.v 0) (.v 0)) (.a (.g (.l 1000000)) (.l 1)) (.v 0) 1 [1] (Eq.refl true) h0, by exact lin [] [y.fmod 4] true (.h false true (.a (.v 0) (.l 1)) (.l 4) (.v 0)) (.a (.v 0) (.l 1)) (.l 1000000) 1 [1] (Eq.refl true) h4, p⟩
theorem node_C {R : AV → Mem → Prop} {K : Mem → Env0 → Prop} {x0 x1 x2 x4 : Option AV} {y : Int} (hR : opB R M) : WS gAV (Spec X k) nodeC K R M [x0, x1, x2, some (.int y), x4, none, none, none, none, none] := by
  have l {n : Nat} (h : Nat.ble n lim = true) : n ≤ lim := Nat.le_of_ble_eq_true h
  refine ⟨l rfl, l rfl, l rfl, l rfl, l rfl, .inl ⟨(by decide), sub4 ?_ ?_ ?_ ?_⟩⟩
  · exact ⟨l rfl, hR 0 [] ⟨by decide, by decide⟩⟩
  · exact ⟨l rfl, hR 15 [] ⟨by decide, by decide⟩⟩
  · exact ⟨l rfl, hR 18 [0] ⟨by decide, by decide⟩⟩
  · exact ⟨l rfl, hR 19 [0, 0] ⟨by decide, by decide⟩⟩
theorem node_D {R : AV → Mem → Prop} {K : Mem → Env0 → Prop} {x0 x1 x2 x4 : Option AV} {y : Int} (hR : opB R M) : WS gAV (Spec X k) nodeD K R M [x0, x1, x2, some (.int y), x4, none, none, none, none, none] := by
  have l {n : Nat} (h : Nat.ble n lim = true) : n ≤ lim := Nat.le_of_ble_eq_true h
  refine ⟨l rfl, l rfl, l rfl, l rfl, l rfl, .inl ⟨(by decide), sub4 ?_ ?_ ?_ ?_⟩⟩
  · exact ⟨l rfl, hR 1 [] ⟨by decide, by decide⟩⟩
  · exact ⟨l rfl, hR 33 [0] ⟨by decide, by decide⟩⟩
  · exact ⟨l rfl, hR 16 [0] ⟨by decide, by decide⟩⟩
  · exact ⟨l rfl, hR 65 [1] ⟨by decide, by decide⟩⟩
theorem pos4 (x : Int) : ∃ c : Nat, x.fmod 4 = (c : Int) ∧ c ≤ 3 := ⟨(x.fmod 4).toNat, by have := fm x (b := 4) (by decide); exact linE [(x.fmod 4).toNat] [x.fmod 4] true (.h true true (.c (.v 0)) (.v 0) (.v 0)) (.v 0) (.c (.v 0)) 1 [.negSucc 0] 1 [1] (Eq.refl true) (Eq.refl true) (Int.toNat_of_nonneg (lin [] [x.fmod 4] true (.h false true (.l 0) (.v 0) (.v 0)) (.l 0) (.v 0) 1 [1] (Eq.refl true) this.1)), by have := fm x (b := 4) (by decide); exact lin [(x.fmod 4).toNat] [x.fmod 4] false (.h false true (.a (.v 0) (.l 1)) (.l 4) (.h true true (.c (.v 0)) (.v 0) (.v 0))) (.v 0) (.l 3) 1 [1, 1] (Eq.refl true) this.2 (Int.toNat_of_nonneg (lin [] [x.fmod 4] true (.h false true (.l 0) (.v 0) (.v 0)) (.l 0) (.v 0) 1 [1] (Eq.refl true) this.1))⟩
theorem sub_last {xs : List AV} {x : AV} {M : Mem} {ρ : Env0} {Q : QE} (h : Q x M ρ) : wSub (.lst (xs ++ [x])) (.int (-1)) Q M ρ :=
  ⟨_, x, rfl, getI_last (by simp), by decide, by decide, h⟩
theorem node_A (H : Std X) {m : Nat} (hN : NodesOk X (k + 1) m) {R : AV → Mem → Prop} {K : Mem → Env0 → Prop} {t st : Addr} {ts : List Int} {n y w : Int} {op : List Int} (h : TS M t st ts n) (ho : Opn op n (m + 1)) (h4 : op.length < 4) (hw : w = 2 ∨ w = 3 ∨ w = 4 ∨ w = 5)
    (hR : ∀ nd, wN op nd → After t st M n (R (nvP nd))) : WS gAV (Spec X (k + 1)) nodeA K R M [some (.ref t), some (.ref st), some (.lst (iv op)), some (.int y), some (.int w), none, none, none, none, none] := by
  have l {n : Nat} (h : Nat.ble n lim = true) : n ≤ lim := Nat.le_of_ble_eq_true h
  have hnew : n + 1 ∉ op := fun q => by have := ho.top _ q; exact linF [] [n] (.h false true (.a (.v 0) (.l 1)) (.v 0) (.v 0)) [1] (Eq.refl true) this
  have ho' : Opn (op ++ [n + 1]) (n + 1) m := ⟨by have := ho.m; simp; exact lin [op.length, m] [] false (.h false false (.l 4) (.a (.v 0) (.a (.v 1) (.l 1))) (.v 0)) (.l 4) (.a (.a (.v 0) (.l 1)) (.v 1)) 1 [1] (Eq.refl true) this, by simp; exact lin [op.length] [] false (.h false false (.a (.v 0) (.l 1)) (.l 4) (.v 0)) (.v 0) (.l 3) 1 [1] (Eq.refl true) h4, by simp, fun g hg => by
    rcases List.mem_append.mp hg with q | q
    · have := ho.top g q; exact lin [] [g, n] true (.h false true (.v 0) (.v 1) (.v 0)) (.v 0) (.a (.v 1) (.l 1)) 1 [1] (Eq.refl true) this
    · rw [List.mem_singleton.mp q]; exact Int.le_refl _⟩
  have e : iv op ++ [.int (n + 1)] = iv (op ++ [n + 1]) := by simp
  refine ⟨_, h.sd, ?_⟩
  refine ⟨_, h.sd, ?_⟩
  have hT : TS (upd M st (.dict [(3, .int (n + 1))])) t st ts (n + 1) := ⟨(upd_ne h.ne).trans h.tp, upd_self, h.ne, h.ln⟩
  have hk : ∀ z, z ≠ t → z ≠ st → upd M st (.dict [(3, .int (n + 1))]) z = M z := fun z _ hz => upd_ne hz
  generalize upd M st (.dict [(3, .int (n + 1))]) = M1 at hT hk
  refine ⟨_, hT.sd, l rfl, .inl ⟨rfl, _, _, rfl, rfl, ?_, .inl ?_⟩⟩
  · simp only [List.length_append, List.length_map, List.length_singleton]
    exact Nat.le_trans h4 (l rfl)
  rw [e]
  -- one list of nodes
  have one : ∀ {M1 : Mem} {ts1 : List Int} {n1 : Int} {Q : AV → Mem → Prop}, TS M1 t st ts1 n1 → n + 1 ≤ n1 → (∀ l, cntL l ≤ 3 → wNL (op ++ [n + 1]) l → After t st M1 n1 (Q (.lst (nvL l)))) →
      Spec X (k + 1) 16 [.ref t] M1 (fun r M => wBin .mod r (.int 4) (fun r M _ => Spec X (k + 1) 18 [.ref t, .ref st, .lst (iv (op ++ [n + 1])), r] M Q) M []) := fun {M1 ts1 n1 Q} hT hn hQ => by
    refine law_next_spec H hT.tp hT.ln fun M2 ts2 x a1 a2 _ a4 => ⟨by decide, ?_⟩
    obtain ⟨c, e, hc⟩ := pos4 x
    show Spec X (k + 1) 18 [.ref t, .ref st, .lst (iv (op ++ [n + 1])), .int (x.fmod 4)] M2 Q
    rw [e]
    refine hN M2 Q t st ts2 n1 _ c (by exact lin [c] [] false (.h false false (.v 0) (.l 3) (.v 0)) (.v 0) (.l 10) 1 [1] (Eq.refl true) hc) ⟨a1, (a4 st hT.ne.symm).trans hT.sd, hT.ne, Nat.lt_of_le_of_lt a2 hT.ln⟩ ⟨ho'.m, ho'.le, ho'.ne, fun g hg => Int.le_trans (ho'.top g hg) hn⟩ fun l hl hw M3 ts3 n3 b1 b2 b3 => ?_
    exact hQ l (by exact lin [cntL l, c] [] false (.h false false (.v 1) (.l 3) (.h true false (.v 0) (.v 1) (.v 0))) (.v 0) (.l 3) 1 [1, 1] (Eq.refl true) hc hl) hw M3 ts3 n3 b1 b2 fun z z1 z2 => (b3 z z1 z2).trans (a4 z z1)
  refine one hT (Int.le_refl _) fun f hf wf M2 ts2 n2 hT2 hn2 hk2 => ?_
  have fin : ∀ s, cntO s ≤ 3 → wNO (op ++ [n + 1]) s → After t st M2 n2 fun M3 => R (.tup [.sy 2, .int (min w 4), .int (n + 1), .lst (nvL f), nvO s]) M3 := fun s hs ws M3 ts3 n3 hT3 hn3 hk3 =>
    hR (.blk (min w 4) (n + 1) f s) ⟨by omega, h4, hnew, ⟨hf, hs⟩, wf, ws⟩ M3 ts3 n3 hT3 (by exact lin [] [n, n3, n2] true (.h false true (.a (.v 0) (.l 1)) (.v 2) (.h false true (.v 2) (.v 1) (.v 0))) (.v 0) (.v 1) 1 [1, 1] (Eq.refl true) hn2 hn3) fun z z1 z2 => (hk3 z z1 z2).trans ((hk2 z z1 z2).trans (hk z z1 z2))
  have last : ∀ s M3, R (.tup [.sy 2, .int (min w 4), .int (n + 1), .lst (nvL f), nvO s]) M3 → WS gAV (Spec X (k + 1)) (sndS (sndS (sndS (sndS nodeA)))) K R M3 [some (.ref t), some (.ref st), some (.lst (iv op)), some (.int y), some (.int w), some (.lst (iv (op ++ [n + 1]))), some (.lst (nvL f)), some (nvO s), none, none] := fun s M3 hr => by
    rw [← e]
    exact sub_last ⟨l rfl, hr⟩
  refine br_intro (fun q => ?_) fun q => ?_
  · exact one hT2 hn2 fun s hs ws M3 ts3 n3 hT3 hn3 hk3 => last (.some s) M3 (fin (.some s) hs ws M3 ts3 n3 hT3 hn3 hk3)
  · exact last .none M2 (fin .none (Nat.zero_le _) trivial M2 ts2 n2 hT2 (Int.le_refl _) fun _ _ _ => rfl)
end
end Mine
end
section
set_option maxRecDepth 100000
namespace Mine
noncomputable def cmpElt : ME → ME
  | .comp _ _ e _ _ => e
  | e => e
noncomputable def asgE : MS → ME
  | .asg _ e => e
  | _ => .con .none
noncomputable def goalElt : ME := cmpElt (asgE (fstS nodeB))
section
variable {X : Cx} {k : Nat} {M : Mem}
theorem goal_elt {op : List Int} {y j : Int} (hne : op ≠ []) (hle : op.length ≤ 4) (h0 : 0 ≤ j) (h2 : j ≤ 2) {P : QE} (hP : ∀ g ∈ op, P (.int g) M [none, none, some (.lst (iv op)), some (.int y), none, none, none, none, none, some (.int j)]) :
    WE gAV (Spec X k) goalElt P M [none, none, some (.lst (iv op)), some (.int y), none, none, none, none, none, some (.int j)] := by
  have hpos : 0 < op.length := List.length_pos_iff.mpr hne
  have hlen : (iv op).length = op.length := List.length_map ..
  have hlim : op.length ≤ lim := Nat.le_trans hle (Nat.le_of_ble_eq_true rfl)
  have hi : ∀ z : Int, ∃ g ∈ op, getI (iv op).reverse (z.fmod (op.length : Nat)) = some (.int g) ∧ z.fmod (op.length : Nat) < 4 ∧ 0 ≤ z.fmod (op.length : Nat) := fun z => by
    obtain ⟨a, b⟩ := fm z (b := (op.length : Nat)) (by exact lin [op.length] [] true (.h false false (.a (.l 0) (.l 1)) (.v 0) (.v 0)) (.a (.l 0) (.l 1)) (.c (.v 0)) 1 [1] (Eq.refl true) hpos)
    have hl : (z.fmod (op.length : Nat)).toNat < op.reverse.length := by rw [List.length_reverse]; exact lin [_, _] [_] false (.h false true (.a (.v 0) (.l 1)) (.c (.v 1)) (.h true true (.c (.v 0)) (.v 0) (.v 0))) (.a (.v 0) (.l 1)) (.v 1) 1 [1, 1] (Eq.refl true) b (Int.toNat_of_nonneg (lin [] [_] true (.h false true (.l 0) (.v 0) (.v 0)) (.l 0) (.v 0) 1 [1] (Eq.refl true) a))
    refine ⟨op.reverse[(z.fmod (op.length : Nat)).toNat], List.mem_reverse.mp (List.getElem_mem hl), ?_, by exact lin [_] [_] true (.h false false (.v 0) (.l 4) (.h false true (.a (.v 0) (.l 1)) (.c (.v 0)) (.v 0))) (.a (.v 0) (.l 1)) (.l 4) 1 [1, 1] (Eq.refl true) hle b, a⟩
    unfold getI
    rw [if_pos a, ← List.map_reverse, List.getElem?_map, List.getElem?_eq_getElem hl]; rfl
  refine ⟨none, none, some (-1), rfl, rfl, rfl, (fun q => by cases q), _, rfl, by rw [hlen]; exact hlim, ?_⟩
  rw [pick_rev]
  refine ⟨by rw [List.length_reverse, hlen]; exact hlim, .inl ?_⟩
  have go : ∀ z : Int, 0 < z → z < 1000000 → wBinI .fdiv y z (fun v => ∃ xs, seqs M (.lst (iv op)) = some xs ∧ xs.length ≤ 1000000000 ∧ wBin .mod v (.int (xs.length : Nat)) (fun i M ρ => wSub (.lst (iv op).reverse) i P M ρ) M [none, none, some (.lst (iv op)), some (.int y), none, none, none, none, none, some (.int j)]) := fun z z0 z1 => by
    refine ⟨z0, z1, _, rfl, by rw [hlen]; exact lin [op.length] [] false (.h false false (.v 0) (.l 4) (.v 0)) (.v 0) (.l 1000000000) 1 [1] (Eq.refl true) hle, by rw [hlen]; exact fun q_ => linF [op.length] [] (.h true true (.c (.v 0)) (.l 0) (.h false false (.a (.l 0) (.l 1)) (.v 0) (.v 0))) [1, 1] (Eq.refl true) q_ hpos, ?_⟩
    rw [hlen]
    obtain ⟨g, hg, e, b1, b2⟩ := hi (y.fdiv z)
    exact ⟨_, _, rfl, e, by exact lin [] [_] true (.h false true (.l 0) (.v 0) (.v 0)) (.a (.g (.l 1000000)) (.l 1)) (.v 0) 1 [1] (Eq.refl true) b2, by exact lin [] [_] true (.h false true (.a (.v 0) (.l 1)) (.l 4) (.v 0)) (.a (.v 0) (.l 1)) (.l 1000000) 1 [1] (Eq.refl true) b1, hP g hg⟩
  have : j = 0 ∨ j = 1 ∨ j = 2 := by omega
  rcases this with rfl | rfl | rfl
  · exact ⟨rfl, by decide, by decide, go _ (by decide) (by decide)⟩
  · exact ⟨rfl, by decide, by decide, go _ (by decide) (by decide)⟩
  · exact ⟨rfl, by decide, by decide, go _ (by decide) (by decide)⟩
theorem goals_loop {chk : Mem → Prop} {K : List AV → Mem → Prop} {op : List Int} {y : Int} (hc : ∀ M, chk M) (hne : op ≠ []) (hle : op.length ≤ 4) : ∀ (xs : List AV) (acc : List Int) {M : Mem}, (∀ v ∈ xs, ∃ j : Int, v = .int j ∧ 0 ≤ j ∧ j ≤ 2) → (∀ gs : List Int, gs.length = xs.length → (∀ g ∈ gs, g ∈ op) → K (iv (acc ++ gs)) M) →
    wComp chk (fun v k' M => [none, none, some (.lst (iv op)), some (.int y), none, none, none, none, none, some v] = [none, none, some (.lst (iv op)), some (.int y), none, none, none, none, none, some v] ∧ WE gAV (Spec X k) goalElt (fun r M ρ2 => ρ2 = [none, none, some (.lst (iv op)), some (.int y), none, none, none, none, none, some v] ∧ k' (some r) M) M [none, none, some (.lst (iv op)), some (.int y), none, none, none, none, none, some v]) K xs (iv acc) M
  | [], acc, M, _, hK => ⟨hc M, by have := hK [] rfl (fun g hg => by cases hg); rwa [List.append_nil] at this⟩
  | v :: xs, acc, M, hx, hK => ⟨hc M, by
      obtain ⟨j, rfl, h0, h2⟩ := hx v List.mem_cons_self
      refine ⟨rfl, goal_elt hne hle h0 h2 fun g hg => ⟨rfl, ?_⟩⟩
      have e : iv acc ++ [.int g] = iv (acc ++ [g]) := by simp
      dsimp only
      rw [e]
      exact goals_loop hc hne hle xs (acc ++ [g]) (fun v hv => hx v (List.mem_cons_of_mem _ hv)) fun gs hl hg' => by
        have := hK (g :: gs) (congrArg (· + 1) hl) (List.forall_mem_cons.mpr ⟨hg, hg'⟩)
        rwa [List.append_cons] at this⟩
theorem rng_mem {c : Int} (h : c ≤ 3) : ∀ v ∈ rngL 0 c, ∃ j : Int, v = .int j ∧ 0 ≤ j ∧ j ≤ 2 := fun v hv => by
  obtain ⟨i, hi, rfl⟩ := List.mem_map.mp hv
  have := List.mem_range.mp hi
  exact ⟨0 + (i : Int), rfl, by exact lin [i] [] true (.v 0) (.l 0) (.a (.l 0) (.c (.v 0))) 1 [] (Eq.refl true), by omega⟩
theorem node_B {R : AV → Mem → Prop} {K : Mem → Env0 → Prop} {x0 x1 : Option AV} {op : List Int} {y w : Int} (hne : op ≠ []) (hle : op.length ≤ 4) (hR : ∀ c gs, wN op (.br c gs) → R (nvP (.br c gs)) M) :
    WS gAV (Spec X k) nodeB K R M [x0, x1, some (.lst (iv op)), some (.int y), some (.int w), none, none, none, none, none] := by
  have l {n : Nat} (h : Nat.ble n lim = true) : n ≤ lim := Nat.le_of_ble_eq_true h
  have go : ∀ c : Int, 1 ≤ c → c ≤ 3 → wBi .range [.int c] (fun r M ρ => ∃ xs chk, looks M r = some (xs, chk) ∧ xs.length ≤ lim ∧ wComp chk (fun v k' M => [none, none, some (.lst (iv op)), some (.int y), none, none, none, none, none, some v] = [none, none, some (.lst (iv op)), some (.int y), none, none, none, none, none, some v] ∧ WE gAV (Spec X k) goalElt (fun r M ρ2 => ρ2 = [none, none, some (.lst (iv op)), some (.int y), none, none, none, none, none, some v] ∧ k' (some r) M) M [none, none, some (.lst (iv op)), some (.int y), none, none, none, none, none, some v])
      (fun acc M => fresh acc (fun v M ρ => WS gAV (Spec X k) (sndS nodeB) K R M [x0, x1, some (.lst (iv op)), some (.int y), some (.int w), none, none, none, some v, none]) M ρ) xs [] M) M [x0, x1, some (.lst (iv op)), some (.int y), some (.int w), none, none, none, none, none] := fun c c1 c3 => by
    have hlen : (rngL 0 c).length ≤ 3 := by simp [rngL]; exact lin [] [c] true (.h false true (.v 0) (.l 3) (.v 0)) (.v 0) (.l 3) 1 [1] (Eq.refl true) c3
    refine ⟨by exact lin [] [c] true (.h false true (.v 0) (.l 3) (.v 0)) (.v 0) (.l 1000000) 1 [1] (Eq.refl true) c3, by exact lin [] [c] true (.h false true (.l 1) (.v 0) (.v 0)) (.a (.g (.l 1000000)) (.l 1)) (.v 0) 1 [1] (Eq.refl true) c1, _, _, rfl, Nat.le_trans hlen (l rfl), ?_⟩
    refine goals_loop (fun _ => trivial) hne hle _ [] (rng_mem c3) fun gs hl hg => ⟨?_, .inl ?_⟩
    · simp only [List.nil_append, List.length_map]
      exact Nat.le_trans (Nat.le_trans (Nat.le_of_eq hl) hlen) (l rfl)
    have hw : ∀ c, (c = 12 ∨ c = 13 ∨ c = 14) → R (nvP (.br c gs)) M := fun c hc => hR c gs ⟨hc, by exact lin [_, _] [] false (.h false false (.v 1) (.l 3) (.h true false (.v 0) (.v 1) (.v 0))) (.a (.v 0) (.l 1)) (.l 10) 1 [1, 1] (Eq.refl true) hlen hl, hg⟩
    refine br_intro (fun _ => ⟨l rfl, hw 13 (.inr (.inl rfl))⟩) fun _ => ⟨by decide, by decide, by decide, br_intro (fun _ => ⟨l rfl, hw 12 (.inl rfl)⟩) fun _ => ⟨l rfl, hw 14 (.inr (.inr rfl))⟩⟩
  have g1 := go 1 (by decide) (by decide)
  have g2 := go (1 + y.fmod 3) (by have := fm y (b := 3) (by decide); exact lin [] [y.fmod 3] true (.h false true (.l 0) (.v 0) (.v 0)) (.l 1) (.a (.l 1) (.v 0)) 1 [1] (Eq.refl true) this.1) (by have := fm y (b := 3) (by decide); exact lin [] [y.fmod 3] true (.h false true (.a (.v 0) (.l 1)) (.l 3) (.v 0)) (.a (.l 1) (.v 0)) (.l 3) 1 [1] (Eq.refl true) this.2)
  refine ⟨by decide, by decide, by decide, br_intro (fun _ => br_intro (fun _ => ⟨by decide, g2⟩) fun _ => g1) fun _ => br_intro (fun _ => ⟨by decide, g2⟩) fun _ => g1⟩
end
end Mine
end
section
set_option maxRecDepth 100000
namespace Mine
section
variable {X : Cx} {k : Nat}
theorem node_of (H : Std X) {m : Nat} (hN : ∀ m', m = m' + 1 → NodesOk X (k + 1) m') : NodeOk X (k + 2) m := fun M Q t st ts n op h ho hQ => by
  have l {n : Nat} (h : Nat.ble n lim = true) : n ≤ lim := Nat.le_of_ble_eq_true h
  refine H.fn tr_law_node rfl ?_
  refine law_next_spec H h.tp h.ln fun M1 ts1 x a1 a2 _ a4 => ?_
  have h1 : TS M1 t st ts1 n := ⟨a1, (a4 st h.ne.symm).trans h.sd, h.ne, Nat.lt_of_le_of_lt a2 h.ln⟩
  have hQ1 : ∀ nd, wN op nd → After t st M1 n fun M' => Ret X Q (nvP nd) M' := fun nd hnd M2 ts2 n2 h2 hn2 hk2 => .now (hQ nd hnd M2 ts2 n2 h2 hn2 fun z z1 z2 => (hk2 z z1 z2).trans (a4 z z1))
  refine ⟨by decide, by decide, by decide, l rfl, _, rfl, rfl, ?_⟩
  have w9 := fm x (b := 9) (by decide)
  generalize x.fmod 9 = w at w9
  generalize x.fdiv 9 = y
  clear hQ a1 a2 a4 h
  have rest : WS gAV (Spec X (k + 1)) (sndS (sndS (sndS ms__law_node))) (fun M' _ => Ret X Q .none M') (fun v M' => Ret X Q v M') M1 [some (.ref t), some (.ref st), some (.lst (iv op)), some (.int y), some (.int w), none, none, none, none, none] := by
    have now : ∀ nd, wN op nd → Ret X Q (nvP nd) M1 := fun nd hnd => hQ1 nd hnd M1 ts1 n h1 (Int.le_refl _) fun _ _ _ => rfl
    refine ⟨l rfl, _, _, rfl, rfl, br_intro (fun _ => ?_) fun _ => br_intro (fun _ => ?_) fun _ => ?_⟩
    · exact node_B ho.ne ho.le fun c gs hw => now _ hw
    · exact node_C fun c r hw => now _ hw
    · exact node_D (K := fun M' _ => Ret X Q .none M') fun c r hw => now _ hw
  refine ⟨l rfl, _, _, rfl, rfl, br_intro (fun q1 => ⟨_, rfl, ?_, br_intro (fun q2 => ?_) fun _ => rest⟩) fun q1 => br_intro (fun q2 => ?_) fun _ => rest⟩
  · rw [List.length_map]
    exact Nat.le_trans ho.le (Nat.le_of_ble_eq_true rfl)
  · have h4 : op.length < 4 := by
      have := of_decide_eq_true q2
      rw [List.length_map] at this; exact lin [op.length] [] false (.h false true (.a (.c (.v 0)) (.l 1)) (.l 4) (.v 0)) (.a (.v 0) (.l 1)) (.l 4) 1 [1] (Eq.refl true) this
    have hw : w = 2 ∨ w = 3 ∨ w = 4 ∨ w = 5 := by
      have := of_decide_eq_true ((beq_true _).symm.trans q1)
      simpa using this
    obtain ⟨m', rfl⟩ : ∃ m', m = m' + 1 := ⟨m - 1, by have := ho.m; exact linE [m, m - 1] [] false (.h true false (.a (.v 1) (.l 1)) (.v 0) (.v 0)) (.v 0) (.a (.v 1) (.l 1)) 1 [.negSucc 0] 1 [1] (Eq.refl true) (Eq.refl true) (Nat.sub_add_cancel (lin [m, op.length] [] false (.h false false (.a (.v 1) (.l 1)) (.l 4) (.h false false (.l 4) (.a (.v 1) (.v 0)) (.v 0))) (.l 1) (.v 0) 1 [1, 1] (Eq.refl true) h4 this))⟩
    exact node_A H (hN m' rfl) h1 ho h4 hw hQ1
  · rw [q2] at q1; cases q1
theorem node_all (H : Std X) : ∀ m, NodeOk X (k + 2 * m + 2) m ∧ NodesOk X (k + 2 * m + 3) m
  | 0 => by
    have h : NodeOk X (k + 2) 0 := node_of H fun m' q => by cases q
    exact ⟨h, nodes_of H h⟩
  | m + 1 => by
    have h : NodeOk X (k + 2 * m + 2 + 2) (m + 1) := node_of (k := k + 2 * m + 2) H fun m' q => by
      cases q; exact (node_all H m).2
    exact ⟨h, nodes_of H h⟩
end
end Mine
end
section
set_option maxRecDepth 100000
namespace Mine
noncomputable def idx (op : List Int) (g : Int) : Int := (op.reverse.idxOf g : Nat)
mutual
noncomputable def tP (op : List Int) : ND → PT
  | .op c r => .mk c r .none .none
  | .br c gs => .mk c (gs.map (idx op)) .none .none
  | .blk c n f s => .mk c [-64] (.some (tL (op ++ [n]) f)) (tO (op ++ [n]) s)
noncomputable def tO (op : List Int) : NO → PO
  | .none => .none
  | .some l => .some (tL op l)
noncomputable def tL (op : List Int) : NL → PL
  | .nil => .nil
  | .cons p l => .cons (tP op p) (tL op l)
end
noncomputable def forB : MS → MS
  | .fors _ _ b => b
  | s => s
noncomputable def flatBody : MS := forB (fstS (sndS ms__law_flat))
section
variable {X : Cx} {k : Nat} {M : Mem}
theorem idx_loop {chk : Mem → Prop} {K : List AV → Mem → Prop} {op : List Int} (hc : ∀ M, chk M) (hle : op.length ≤ 4) : ∀ (gs done : List Int) {M : Mem}, (∀ g ∈ gs, g ∈ op) → K (iv (done ++ gs.map (idx op))) M →
    wComp chk (fun v k' M => [none, some (.lst (iv op)), none, none, none, some v] = [none, some (.lst (iv op)), none, none, none, some v] ∧ WE gAV (Spec X k) (.meth .index (.slice (.loc 1) (.con .none) (.con .none) (.neg (.con (.int (1))))) (.cons (.loc 5) .nil)) (fun r M ρ2 => ρ2 = [none, some (.lst (iv op)), none, none, none, some v] ∧ k' (some r) M) M [none, some (.lst (iv op)), none, none, none, some v]) K (iv gs) (iv done) M
  | [], done, M, _, hK => ⟨hc M, by rwa [List.map_nil, List.append_nil] at hK⟩
  | g :: gs, done, M, hg, hK => ⟨hc M, by
      have hlim : (iv op).length ≤ lim := by rw [List.length_map]; exact Nat.le_trans hle (Nat.le_of_ble_eq_true rfl)
      refine ⟨rfl, none, none, some (-1), rfl, rfl, rfl, (fun q => by cases q), _, rfl, hlim, ?_⟩
      rw [pick_rev, ← List.map_reverse]
      refine ⟨by rw [List.length_map, List.length_reverse]; exact Nat.le_trans hle (Nat.le_of_ble_eq_true rfl), .inl ⟨⟨_, rfl⟩, _, _, rfl, toInts_map _, ?_, List.mem_reverse.mpr (hg g List.mem_cons_self), rfl, ?_⟩⟩
      · rw [List.length_reverse]; exact Nat.le_trans hle (Nat.le_of_ble_eq_true rfl)
      have e : iv done ++ [.int (idx op g)] = iv (done ++ [idx op g]) := by simp
      show wComp chk _ K (iv gs) (iv done ++ [.int (idx op g)]) M
      rw [e]
      refine idx_loop hc hle gs (done ++ [idx op g]) (fun z hz => hg z (List.mem_cons_of_mem _ hz)) ?_
      rwa [List.map_cons, List.append_cons] at hK⟩
noncomputable abbrev FlatTo (K : Mem → Env0 → Prop) (M : Mem) (b : Addr) (x0 x1 x3 : Option AV) (res : List (List Int)) : Prop :=
  ∀ M'' b' x4 x5, M'' b' = some (.list (rows res)) → (b' = b ∨ M b' = none) → (∀ z, z ≠ b → M z ≠ none → M'' z = M z) → K M'' [x0, x1, some (.ref b'), x3, x4, x5]
theorem flat_op {R : AV → Mem → Prop} {K : Mem → Env0 → Prop} {op : List Int} {b : Addr} {x0 x4 x5 : Option AV} {acc : List (List Int)} {c : Int} {r : List Int} (hm : M b = some (.list (rows acc))) (hl : acc.length < lim)
    (hK : FlatTo K M b x0 (some (.lst (iv op))) (some (nvP (.op c r))) (acc ++ flP (tP op (.op c r)))) : WS gAV (Spec X k) flatBody K R M [x0, some (.lst (iv op)), some (.ref b), some (nvP (.op c r)), x4, x5] := by
  refine ⟨_, _, rfl, rfl, by decide, by decide, ⟨_, lists_ref hm⟩, _, _, rfl, rfl, by decide, by decide, _, hm, by rw [List.length_map]; exact hl, ?_⟩
  refine hK _ b _ _ ?_ (.inl rfl) fun z hz _ => upd_ne hz
  have e : rows acc ++ [tI (c :: r)] = rows (acc ++ flP (tP op (.op c r))) := by simp [tP, flP, opn]
  exact (congrArg (fun l => upd M b (.list l) b) e).trans upd_self
theorem flat_br {R : AV → Mem → Prop} {K : Mem → Env0 → Prop} {op : List Int} {b : Addr} {x0 x4 x5 : Option AV} {acc : List (List Int)} {c : Int} {gs : List Int} (hle : op.length ≤ 4) (hg : ∀ g ∈ gs, g ∈ op) (hgl : gs.length < 10) (hm : M b = some (.list (rows acc))) (hl : acc.length < lim)
    (hK : FlatTo K M b x0 (some (.lst (iv op))) (some (nvP (.br c gs))) (acc ++ flP (tP op (.br c gs)))) : WS gAV (Spec X k) flatBody K R M [x0, some (.lst (iv op)), some (.ref b), some (nvP (.br c gs)), x4, x5] := by
  have l {n : Nat} (h : Nat.ble n lim = true) : n ≤ lim := Nat.le_of_ble_eq_true h
  have h10 {n : Nat} (h : n ≤ 10) : n ≤ lim := Nat.le_trans h (l rfl)
  refine ⟨_, _, rfl, rfl, by decide, by decide, _, _, rfl, rfl, by decide, by decide, ⟨_, lists_ref hm⟩, _, _, rfl, rfl, by decide, by decide, l rfl, .inl ⟨_, _, rfl, rfl, by decide, by decide, _, _, rfl, ?_, ?_⟩⟩
  · rw [List.length_map]; exact h10 (Nat.le_of_lt hgl)
  refine idx_loop (fun _ => trivial) hle gs [] hg ⟨?_, .inl ⟨rfl, _, _, rfl, rfl, ?_, .inl ⟨_, rfl, ?_, ?_⟩⟩⟩
  · simp only [List.nil_append, List.length_map]; exact h10 (Nat.le_of_lt hgl)
  · simp only [List.nil_append, List.length_map, List.length_append, List.length_singleton]; exact h10 (by exact lin [gs.length] [] false (.h false false (.a (.v 0) (.l 1)) (.l 10) (.v 0)) (.a (.l 1) (.v 0)) (.l 10) 1 [1] (Eq.refl true) hgl)
  · simp only [List.nil_append, List.length_map, List.length_append, List.length_singleton]; exact h10 (by exact lin [gs.length] [] false (.h false false (.a (.v 0) (.l 1)) (.l 10) (.v 0)) (.a (.l 1) (.v 0)) (.l 10) 1 [1] (Eq.refl true) hgl)
  refine ⟨_, hm, by rw [List.length_map]; exact hl, ?_⟩
  refine hK _ b _ _ ?_ (.inl rfl) fun z hz _ => upd_ne hz
  have e : rows acc ++ [.tup ([.int c] ++ iv ([] ++ gs.map (idx op)))] = rows (acc ++ flP (tP op (.br c gs))) := by simp [tP, flP, opn, tI]
  exact (congrArg (fun l => upd M b (.list l) b) e).trans upd_self
end
end Mine
end
section
set_option maxRecDepth 100000
namespace Mine
section
variable {X : Cx} {k : Nat} {M : Mem}
noncomputable def FlatOk (X : Cx) (k m : Nat) : Prop := ∀ M Q op l, wNL op l → 4 ≤ op.length + m → op.length ≤ 4 → (flL (tL op l)).length ≤ 100000 → Q (.lst (rows (flL (tL op l)))) M → Spec X k 19 [.lst (nvL l), .lst (iv op)] M Q
theorem flat_blk {m : Nat} (hF : FlatOk X k m) {R : AV → Mem → Prop} {K : Mem → Env0 → Prop} {op : List Int} {b : Addr} {x0 x4 x5 : Option AV} {acc : List (List Int)} {c n : Int} {f : NL} {s : NO} (ho : 4 ≤ op.length + (m + 1)) (hw : wN op (.blk c n f s)) (hm : M b = some (.list (rows acc))) (hl : acc.length + (flP (tP op (.blk c n f s))).length ≤ 100000)
    (hK : FlatTo K M b x0 (some (.lst (iv op))) (some (nvP (.blk c n f s))) (acc ++ flP (tP op (.blk c n f s)))) : WS gAV (Spec X k) flatBody K R M [x0, some (.lst (iv op)), some (.ref b), some (nvP (.blk c n f s)), x4, x5] := by
  have l {n : Nat} (h : Nat.ble n lim = true) : n ≤ lim := Nat.le_of_ble_eq_true h
  obtain ⟨_, h4, _, _, wf, ws⟩ := hw
  have ho1 : 4 ≤ (op ++ [n]).length + m := by rw [List.length_append, List.length_singleton]; exact lin [op.length, m] [] false (.h false false (.l 4) (.a (.v 0) (.a (.v 1) (.l 1))) (.v 0)) (.l 4) (.a (.a (.v 0) (.l 1)) (.v 1)) 1 [1] (Eq.refl true) ho
  have ho2 : (op ++ [n]).length ≤ 4 := by rw [List.length_append, List.length_singleton]; exact lin [op.length] [] false (.h false false (.a (.v 0) (.l 1)) (.l 4) (.v 0)) (.a (.v 0) (.l 1)) (.l 4) 1 [1] (Eq.refl true) h4
  simp only [tP, flP, opn, flB, List.length_cons, List.length_append, List.length_nil] at hl
  have hlim : lim = 1048576 := by decide
  have e : iv op ++ [.int n] = iv (op ++ [n]) := by simp
  have el {l : List (List Int)} : (rows l).length = l.length := List.length_map ..
  have fin : ∀ {r : Addr} {mo : MO} (L : List AV), M r = none → L = rows (acc ++ flP (tP op (.blk c n f s))) → L.length ≤ lim ∧ ∀ q, upd M r mo q = none → K (upd (upd M r mo) q (.list L)) [x0, some (.lst (iv op)), some (.ref q), some (nvP (.blk c n f s)), some (.lst (iv (op ++ [n]))), x5] := fun {r mo} L hr hL => by
    refine ⟨?_, fun q hq => ?_⟩
    · rw [hL, el]; simp only [tP, flP, opn, flB, List.length_cons, List.length_append, List.length_nil]; exact lin [acc.length, (flL (tL (op ++ [n]) f)).length, (flE (tO (op ++ [n]) s)).length, lim] [] false (.h false false (.a (.v 0) (.a (.a (.v 1) (.a (.v 2) (.l 1))) (.l 1))) (.l 100000) (.h true false (.v 3) (.l 1048576) (.v 0))) (.a (.v 0) (.a (.a (.v 1) (.a (.v 2) (.l 1))) (.l 1))) (.v 3) 1 [1, .negSucc 0] (Eq.refl true) hl hlim
    have hqr : q ≠ r := fun z => by rw [z, upd_self] at hq; cases hq
    rw [upd_ne hqr] at hq
    refine hK _ q _ _ (by rw [upd_self, hL]) (.inr hq) fun z _ hz => ?_
    have z1 : z ≠ q := fun w => hz (w ▸ hq)
    have z2 : z ≠ r := fun w => hz (w ▸ hr)
    rw [upd_ne z1, upd_ne z2]
  refine ⟨_, _, rfl, rfl, by decide, by decide, _, _, rfl, rfl, by decide, by decide, _, _, rfl, rfl, by decide, by decide, l rfl, .inl ⟨rfl, _, _, rfl, rfl, ?_, .inl ?_⟩⟩
  · rw [List.length_append, List.length_map]; exact Nat.le_trans h4 (l rfl)
  rw [e]
  refine ⟨_, _, rfl, rfl, by decide, by decide, l rfl, l rfl, .inl ⟨rfl, _, _, lists_ref hm, rfl, ?_, .inl ⟨_, _, rfl, rfl, by decide, by decide, ?_⟩⟩⟩
  · rw [List.length_append, el]; show _ + 1 ≤ _; exact lin [acc.length, lim, (flL (tL (op ++ [n]) f)).length, (flE (tO (op ++ [n]) s)).length] [] false (.h false false (.a (.v 0) (.a (.a (.v 2) (.a (.v 3) (.l 1))) (.l 1))) (.l 100000) (.h true false (.v 1) (.l 1048576) (.v 0))) (.a (.v 0) (.l 1)) (.v 1) 1 [1, .negSucc 0] (Eq.refl true) hl hlim
  refine hF M _ _ f wf ho1 ho2 (by exact lin [(flL (tL (op ++ [n]) f)).length, acc.length, (flE (tO (op ++ [n]) s)).length] [] false (.h false false (.a (.v 1) (.a (.a (.v 0) (.a (.v 2) (.l 1))) (.l 1))) (.l 100000) (.v 0)) (.v 0) (.l 100000) 1 [1] (Eq.refl true) hl) ⟨rfl, _, _, rfl, rfl, ?_, .inr fun r hr => ?_⟩
  · rw [List.length_append, List.length_append, el, el]; show _ + 1 + _ ≤ _; exact lin [acc.length, (flL (tL (op ++ [n]) f)).length, lim, (flE (tO (op ++ [n]) s)).length] [] false (.h false false (.a (.v 0) (.a (.a (.v 1) (.a (.v 3) (.l 1))) (.l 1))) (.l 100000) (.h true false (.v 2) (.l 1048576) (.v 0))) (.a (.a (.v 0) (.l 1)) (.v 1)) (.v 2) 1 [1, .negSucc 0] (Eq.refl true) hl hlim
  cases s with
  | none =>
    refine ⟨_, _, rfl, rfl, by decide, by decide, l rfl, .inl ⟨rfl, _, _, lists_ref upd_self, rfl, ?_, .inl ⟨l rfl, l rfl, .inl ⟨rfl, _, _, rfl, rfl, ?_⟩⟩⟩⟩
    · rw [List.length_append, List.length_append, List.length_append, el, el]; show _ + 1 + _ + 0 ≤ _; exact lin [acc.length, (flL (tL (op ++ [n]) f)).length, lim, (flE (tO (op ++ [n]) NO.none)).length] [] false (.h true false (.v 2) (.l 1048576) (.h false false (.a (.v 0) (.a (.a (.v 1) (.a (.v 3) (.l 1))) (.l 1))) (.l 100000) (.v 0))) (.a (.a (.a (.v 0) (.l 1)) (.v 1)) (.l 0)) (.v 2) 1 [.negSucc 0, 1] (Eq.refl true) hlim hl
    obtain ⟨g1, g2⟩ := fin (mo := .list (rows acc ++ [.tup [.int c, .int (-64)]] ++ rows (flL (tL (op ++ [n]) f)))) (rows acc ++ [.tup [.int c, .int (-64)]] ++ rows (flL (tL (op ++ [n]) f)) ++ [] ++ [.tup [.int 11]]) hr (by simp [tP, tO, flP, flE, opn, flB, tI])
    exact ⟨g1, .inr g2⟩
  | some q =>
    have hq : (flL (tL (op ++ [n]) q)).length ≤ 100000 := by simp [tO, flE] at hl; exact lin [(flL (tL (op ++ [n]) q)).length, acc.length, (flL (tL (op ++ [n]) f)).length] [] false (.h false false (.a (.v 1) (.a (.a (.v 2) (.a (.a (.v 0) (.l 1)) (.l 1))) (.l 1))) (.l 100000) (.v 0)) (.v 0) (.l 100000) 1 [1] (Eq.refl true) hl
    refine ⟨_, _, rfl, rfl, by decide, by decide, l rfl, l rfl, .inl ⟨_, _, rfl, rfl, by decide, by decide, ?_⟩⟩
    refine hF _ _ _ q ws ho1 ho2 hq ⟨rfl, _, _, rfl, rfl, ?_, .inl ⟨rfl, _, _, lists_ref upd_self, rfl, ?_, .inl ⟨l rfl, l rfl, .inl ⟨rfl, _, _, rfl, rfl, ?_⟩⟩⟩⟩
    · rw [List.length_append, el]; show 1 + _ ≤ _; exact lin [(flL (tL (op ++ [n]) q)).length, lim] [] false (.h true false (.v 1) (.l 1048576) (.h false false (.v 0) (.l 100000) (.v 0))) (.a (.l 1) (.v 0)) (.v 1) 1 [.negSucc 0, 1] (Eq.refl true) hlim hq
    · simp only [tO, flE, List.length_cons] at hl
      simp only [List.length_append, el]; show _ + 1 + _ + (1 + _) ≤ _; exact lin [acc.length, (flL (tL (op ++ [n]) f)).length, (flL (tL (op ++ [n]) q)).length, lim] [] false (.h true false (.v 3) (.l 1048576) (.h false false (.a (.v 0) (.a (.a (.v 1) (.a (.a (.v 2) (.l 1)) (.l 1))) (.l 1))) (.l 100000) (.v 0))) (.a (.a (.a (.v 0) (.l 1)) (.v 1)) (.a (.l 1) (.v 2))) (.v 3) 1 [.negSucc 0, 1] (Eq.refl true) hlim hl
    obtain ⟨g1, g2⟩ := fin (mo := .list (rows acc ++ [.tup [.int c, .int (-64)]] ++ rows (flL (tL (op ++ [n]) f)))) (rows acc ++ [.tup [.int c, .int (-64)]] ++ rows (flL (tL (op ++ [n]) f)) ++ ([.tup [.int 5]] ++ rows (flL (tL (op ++ [n]) q))) ++ [.tup [.int 11]]) hr (by simp [tP, tO, flP, flE, opn, flB, tI])
    exact ⟨g1, .inr g2⟩
end
end Mine
end
section
set_option maxRecDepth 100000
namespace Mine
section
variable {X : Cx} {k : Nat}
theorem flat_loop {m : Nat} (hF : ∀ m', m = m' + 1 → FlatOk X k m') {R : AV → Mem → Prop} {K : Mem → Env0 → Prop} {op : List Int} {x0 : Option AV} {M0 : Mem} (ho : 4 ≤ op.length + m) (hle : op.length ≤ 4) : ∀ (l : NL) {acc : List (List Int)} {M : Mem} {b : Addr} {x3 x4 x5 : Option AV}, wNL op l → M b = some (.list (rows acc)) → acc.length + (flL (tL op l)).length ≤ 100000 →
    M0 b = none → (∀ z, M0 z ≠ none → M z = M0 z) → (∀ M' b' x3 x4 x5, M' b' = some (.list (rows (acc ++ flL (tL op l)))) → M0 b' = none → (∀ z, M0 z ≠ none → M' z = M0 z) → K M' [x0, some (.lst (iv op)), some (.ref b'), x3, x4, x5]) →
    wLoop (fun _ => True) (fun v k' M ρ => WS gAV (Spec X k) flatBody k' R M (stv ρ 3 v)) K (nvL l) M [x0, some (.lst (iv op)), some (.ref b), x3, x4, x5]
  | .nil, acc, M, b, x3, x4, x5, _, hm, _, h0, hs, hK => ⟨trivial, hK M b _ _ _ (by rw [tL, flL, List.append_nil]; exact hm) h0 hs⟩
  | .cons p l, acc, M, b, x3, x4, x5, hw, hm, hl, h0, hs, hK => by
    have e1 : flL (tL op (.cons p l)) = flP (tP op p) ++ flL (tL op l) := rfl
    rw [e1, List.length_append] at hl
    have step : FlatTo (wLoop (fun _ => True) (fun v k' M ρ => WS gAV (Spec X k) flatBody k' R M (stv ρ 3 v)) K (nvL l)) M b x0 (some (.lst (iv op))) (some (nvP p)) (acc ++ flP (tP op p)) := fun M1 b1 y4 y5 h1 h2 h3 => by
      refine flat_loop (M0 := M0) hF ho hle l hw.2 h1 (by rw [List.length_append]; exact lin [acc.length, (flP (tP op p)).length, (flL (tL op l)).length] [] false (.h false false (.a (.v 0) (.a (.v 1) (.v 2))) (.l 100000) (.v 0)) (.a (.a (.v 0) (.v 1)) (.v 2)) (.l 100000) 1 [1] (Eq.refl true) hl) ?_ (fun z hz => ?_) fun M2 b2 z3 z4 z5 g1 g2 g3 => ?_
      · rcases h2 with rfl | h2
        · exact h0
        · cases q : M0 b1 with
          | none => rfl
          | some o => rw [hs b1 (sn q), q] at h2; cases h2
      · have := hs z hz
        rw [h3 z (fun q => hz (q ▸ h0)) (by rw [this]; exact hz), this]
      · exact hK M2 b2 z3 z4 z5 (by rw [e1, ← List.append_assoc]; exact g1) g2 g3
    have hlim : lim = 1048576 := by decide
    refine ⟨trivial, ?_⟩
    cases p with
    | op c r => exact flat_op hm (by exact lin [acc.length, lim, (flP (tP op (ND.op c r))).length, (flL (tL op l)).length] [] false (.h true false (.v 1) (.l 1048576) (.h false false (.a (.v 0) (.a (.v 2) (.v 3))) (.l 100000) (.v 0))) (.a (.v 0) (.l 1)) (.v 1) 1 [.negSucc 0, 1] (Eq.refl true) hlim hl) step
    | br c gs => exact flat_br hle hw.1.2.2 hw.1.2.1 hm (by exact lin [acc.length, lim, (flP (tP op (ND.br c gs))).length, (flL (tL op l)).length] [] false (.h true false (.v 1) (.l 1048576) (.h false false (.a (.v 0) (.a (.v 2) (.v 3))) (.l 100000) (.v 0))) (.a (.v 0) (.l 1)) (.v 1) 1 [.negSucc 0, 1] (Eq.refl true) hlim hl) step
    | blk c n f s =>
      obtain ⟨m', rfl⟩ : ∃ m', m = m' + 1 := ⟨m - 1, by have := hw.1.2.1; exact linE [m, m - 1] [] false (.h true false (.a (.v 1) (.l 1)) (.v 0) (.v 0)) (.v 0) (.a (.v 1) (.l 1)) 1 [.negSucc 0] 1 [1] (Eq.refl true) (Eq.refl true) (Nat.sub_add_cancel (lin [m, op.length] [] false (.h false false (.l 4) (.a (.v 1) (.v 0)) (.h false false (.a (.v 1) (.l 1)) (.l 4) (.v 0))) (.l 1) (.v 0) 1 [1, 1] (Eq.refl true) ho this))⟩
      exact flat_blk (hF m' rfl) ho hw.1 hm (by exact lin [acc.length, (flP (tP op (ND.blk c n f s))).length, (flL (tL op l)).length] [] false (.h false false (.a (.v 0) (.a (.v 1) (.v 2))) (.l 100000) (.v 0)) (.a (.v 0) (.v 1)) (.l 100000) 1 [1] (Eq.refl true) hl) step
theorem flat_of (H : Std X) {m : Nat} (hF : ∀ m', m = m' + 1 → FlatOk X k m') : FlatOk X (k + 1) m := fun M Q op l hw ho hle hl hQ => by
  refine H.fn tr_law_flat rfl ?_
  refine ⟨Nat.zero_le _, .inr fun b hb => ⟨_, _, rfl, ?_⟩⟩
  refine flat_loop hF ho hle l (acc := []) (M0 := M) hw upd_self (by simpa using hl) hb (fun z hz => upd_ne fun q => hz (q ▸ hb)) fun M' b' x3 x4 x5 h1 h2 h3 => ?_
  refine .by ((Gh.frz h1).trans (Gh.drop (M' := M) fun z mo hz => ?_)) (.now hQ)
  have hne : z ≠ b' := fun q => by rw [q, h2] at hz; cases hz
  rw [del_ne hne, h3 z (sn hz), hz]
theorem flat_spec (H : Std X) : ∀ m, FlatOk X (k + m + 1) m
  | 0 => flat_of H fun m' q => by cases q
  | m + 1 => flat_of (k := k + m + 1) H fun m' q => by cases q; exact flat_spec H m
end
end Mine
end
section
set_option maxRecDepth 100000
namespace Mine
noncomputable def isBlk : ND → Bool
  | .blk .. => true
  | _ => false
noncomputable def isNilN : NL → Bool
  | .nil => true
  | _ => false
noncomputable def isNoO : NO → Bool
  | .none => true
  | _ => false
noncomputable def unrN : ND := .op 0 []
noncomputable def blkGo (c n : Int) (noS gf gs : Bool) (near : List Int) : Bool := (if c = 4 then gf || (gs || noS) else gf) || (decide (c ≠ 3) && decide (n ∈ near))
mutual
noncomputable def cmP : ND → ND × Bool × List Int
  | .op c r => (.op c r, !decide (c ∈ [(0 : Int), 15, 18, 19]), [])
  | .br c gs => (.br c gs, decide (c = 13), gs)
  | .blk c n f s => (.blk c n (cmL f).1 (cmO s).1, blkGo c n (isNoO s) (cmL f).2.1 (cmO s).2.1 ((cmL f).2.2 ++ (cmO s).2.2), (cmL f).2.2 ++ (cmO s).2.2)
noncomputable def cmO : NO → NO × Bool × List Int
  | .none => (.none, false, [])
  | .some l => (.some (cmL l).1, (cmL l).2.1, (cmL l).2.2)
noncomputable def cmL : NL → NL × Bool × List Int
  | .nil => (.nil, true, [])
  | .cons p l => match (cmP p).2.1 with
    | true => (.cons (cmP p).1 (cmL l).1, (cmL l).2.1, (cmP p).2.2 ++ (cmL l).2.2)
    | false => (.cons (cmP p).1 (if isBlk p && !isNilN l then .cons unrN .nil else .nil), false, (cmP p).2.2)
end
mutual
noncomputable def szP : ND → Nat
  | .op _ _ => 1
  | .br _ _ => 10
  | .blk _ _ f s => 4 + szL f + szO s
noncomputable def szO : NO → Nat
  | .none => 0
  | .some l => szL l
noncomputable def szL : NL → Nat
  | .nil => 0
  | .cons p l => szP p + szL l
end
mutual
theorem gs_szP (op : List Int) : ∀ p : ND, wN op p → (cmP p).2.2.length ≤ szP p
  | .op _ _, _ => Nat.zero_le _
  | .br _ _, h => Nat.le_of_lt h.2.1
  | .blk c n f s, h => by
    have h1 := gs_szL _ f h.2.2.2.2.1
    have h2 := gs_szO _ s h.2.2.2.2.2
    show ((cmL f).2.2 ++ (cmO s).2.2).length ≤ 4 + szL f + szO s
    rw [List.length_append]; exact lin [(cmL f).snd.snd.length, (cmO s).snd.snd.length, szL f, szO s] [] false (.h false false (.v 0) (.v 2) (.h false false (.v 1) (.v 3) (.v 0))) (.a (.v 0) (.v 1)) (.a (.a (.l 4) (.v 2)) (.v 3)) 1 [1, 1] (Eq.refl true) h1 h2
theorem gs_szO (op : List Int) : ∀ s : NO, wNO op s → (cmO s).2.2.length ≤ szO s
  | .none, _ => Nat.zero_le _
  | .some l, h => gs_szL op l h
theorem gs_szL (op : List Int) : ∀ l : NL, wNL op l → (cmL l).2.2.length ≤ szL l
  | .nil, _ => Nat.zero_le _
  | .cons p l, h => by
    have h1 := gs_szP op p h.1
    have h2 := gs_szL op l h.2
    unfold cmL
    show _ ≤ szP p + szL l
    cases (cmP p).2.1 with
    | true => show ((cmP p).2.2 ++ (cmL l).2.2).length ≤ _; rw [List.length_append]; exact lin [(cmP p).snd.snd.length, (cmL l).snd.snd.length, szP p, szL l] [] false (.h false false (.v 0) (.v 2) (.h false false (.v 1) (.v 3) (.v 0))) (.a (.v 0) (.v 1)) (.a (.v 2) (.v 3)) 1 [1, 1] (Eq.refl true) h1 h2
    | false => show (cmP p).2.2.length ≤ _; exact lin [(cmP p).snd.snd.length, szP p, szL l] [] false (.h false false (.v 0) (.v 1) (.v 0)) (.v 0) (.a (.v 1) (.v 2)) 1 [1] (Eq.refl true) h1
end
theorem cnt_sz : ∀ l : NL, cntL l ≤ szL l
  | .nil => Nat.zero_le _
  | .cons p l => by
    have := cnt_sz l
    have : 1 ≤ szP p := by cases p <;> simp [szP]; exact lin [_, _] [] false (.v 0) (.l 1) (.a (.a (.l 4) (.v 0)) (.v 1)) 1 [] (Eq.refl true)
    show cntL l + 1 ≤ szP p + szL l
    omega
noncomputable def comeBody : MS := forB (fstS (sndS ms__law_come_to))
noncomputable def forEB : MS → MS
  | .forE _ _ _ b => b
  | s => s
noncomputable def cmBody : MS := forEB (fstS (sndS ms__law_come_to))
noncomputable def cmTail : MS := sndS (sndS cmBody)
section
variable {X : Cx} {k : Nat} {M : Mem}
theorem come_tail {p : ND} {told : AV} {g : Bool} {full acc : List AV} {at_ : Nat} {kp gl : Addr} {R : AV → Mem → Prop} {K : Mem → Env0 → Prop} {y7 y8 y9 y10 y11 : Option AV} (hm : M kp = some (.list acc)) (hl : acc.length + 1 < lim) (hf : full.length ≤ 1000000)
    (hK : g = true → K (upd M kp (.list (acc ++ [told]))) [some (.lst full), some (.ref kp), some (.ref gl), some (.int (at_ : Nat)), some (nvP p), some (.bool g), some told, y7, y8, y9, y10, y11])
    (hR : g = false → R (.tup [.ref kp, .bool false, .ref gl]) (upd M kp (.list (acc ++ [told] ++ if isBlk p && decide (at_ + 1 < full.length) then [nvP unrN] else [])))) :
    WS gAV (Spec X k) cmTail K R M [some (.lst full), some (.ref kp), some (.ref gl), some (.int (at_ : Nat)), some (nvP p), some (.bool g), some told, y7, y8, y9, y10, y11] := by
  have l {n : Nat} (h : Nat.ble n lim = true) : n ≤ lim := Nat.le_of_ble_eq_true h
  refine ⟨⟨_, lists_ref hm⟩, _, hm, by exact lin [acc.length, lim] [] false (.h false false (.a (.a (.v 0) (.l 1)) (.l 1)) (.v 1) (.v 0)) (.a (.v 0) (.l 1)) (.v 1) 1 [1] (Eq.refl true) hl, ?_⟩
  cases g with
  | true => exact hK rfl
  | false =>
    replace hR := hR rfl
    have no : isBlk p = false → R (.tup [.ref kp, .bool false, .ref gl]) (upd M kp (.list (acc ++ [told]))) := fun q => by
      rw [q, Bool.false_and, if_neg Bool.false_ne_true, List.append_nil] at hR; exact hR
    cases p with
    | op c r => exact ⟨_, _, rfl, rfl, by decide, by decide, l rfl, no rfl⟩
    | br c gs => exact ⟨_, _, rfl, rfl, by decide, by decide, l rfl, no rfl⟩
    | blk c n f s =>
      refine ⟨_, _, rfl, rfl, by decide, by decide, _, rfl, by exact lin [full.length] [] false (.h false false (.v 0) (.l 1000000) (.v 0)) (.v 0) (.l 1000000000) 1 [1] (Eq.refl true) hf, br_intro (fun q => ?_) fun q => ?_⟩
      · have q : ((at_ : Nat) : Int) + 1 < (full.length : Nat) := of_decide_eq_true q
        have q2 : decide (at_ + 1 < full.length) = true := decide_eq_true (by exact lin [at_, full.length] [] false (.h false true (.a (.a (.c (.v 0)) (.l 1)) (.l 1)) (.c (.v 1)) (.v 0)) (.a (.a (.v 0) (.l 1)) (.l 1)) (.v 1) 1 [1] (Eq.refl true) q)
        rw [q2] at hR
        refine ⟨⟨_, lists_ref upd_self⟩, l rfl, l rfl, _, upd_self, by rw [List.length_append, List.length_singleton]; exact lin [acc.length, lim] [] false (.h false false (.a (.a (.v 0) (.l 1)) (.l 1)) (.v 1) (.v 0)) (.a (.a (.v 0) (.l 1)) (.l 1)) (.v 1) 1 [1] (Eq.refl true) hl, l rfl, ?_⟩
        rw [upd_upd]
        exact hR
      · have q : ¬ ((at_ : Nat) : Int) + 1 < (full.length : Nat) := of_decide_eq_false q
        have q2 : decide (at_ + 1 < full.length) = false := decide_eq_false (by exact Nat.not_lt.mpr (lin [full.length, at_] [] false (.h false true (.c (.v 0)) (.a (.c (.v 1)) (.l 1)) (.v 0)) (.v 0) (.a (.v 1) (.l 1)) 1 [1] (Eq.refl true) (Int.not_lt.mp q)))
        rw [q2] at hR
        rw [Bool.and_false, if_neg Bool.false_ne_true, List.append_nil] at hR
        exact ⟨l rfl, hR⟩
end
end Mine
end
section
set_option maxRecDepth 100000
namespace Mine
noncomputable def elsS : MS → MS
  | .ifs _ _ b => b
  | s => s
noncomputable def cmBlk : MS := elsS (fstS (elsS (fstS (sndS cmBody))))
noncomputable def cmBlk2 : MS := sndS (sndS cmBlk)
noncomputable def cmBlk3 : MS := sndS cmBlk2
noncomputable def cmBlk4 : MS := sndS cmBlk3
section
variable {X : Cx} {k : Nat} {M : Mem}
noncomputable def ComeOk (X : Cx) (k m : Nat) : Prop := ∀ M Q op l, wNL op l → 4 ≤ op.length + m → op.length ≤ 4 → szL l ≤ 100000 → Q (.tup [.lst (nvL (cmL l).1), .bool (cmL l).2.1, .lst (iv (cmL l).2.2)]) M → Spec X k 20 [.lst (nvL l)] M Q
/-- the last row of a block's turn: the goals, the node as told -/
theorem blk4 {x0 x1 x3 x5 x6 x10 : Option AV} {gl : Addr} {c n : Int} {f : NL} {s : NO} {f' : AV} {s' : AV} {ga near far : List Int} {R : AV → Mem → Prop} {K : Mem → Env0 → Prop} (hg : M gl = some (.list (iv ga))) (hl : ga.length + (near.length + far.length) ≤ lim)
    (hK : ∀ r, M r = none → K (upd M r (.list (iv (ga ++ (near ++ far))))) [x0, x1, some (.ref r), x3, some (nvP (.blk c n f s)), x5, some (.tup [.sy 2, .int c, .int n, f', s']), some f', some (.lst (iv near)), some s', x10, some (.lst (iv far))]) :
    WS gAV (Spec X k) cmBlk4 K R M [x0, x1, some (.ref gl), x3, some (nvP (.blk c n f s)), x5, x6, some f', some (.lst (iv near)), some s', x10, some (.lst (iv far))] := by
  have l {n : Nat} (h : Nat.ble n lim = true) : n ≤ lim := Nat.le_of_ble_eq_true h
  have el (l : List Int) : (iv l).length = l.length := List.length_map ..
  refine ⟨rfl, _, _, lists_ref hg, rfl, by rw [List.length_append, el, el]; exact lin [ga.length, near.length, lim, far.length] [] false (.h false false (.a (.v 0) (.a (.v 1) (.v 3))) (.v 2) (.v 0)) (.a (.v 0) (.v 1)) (.v 2) 1 [1] (Eq.refl true) hl, .inl ⟨rfl, _, _, rfl, rfl, by rw [List.length_append, List.length_append, el, el, el]; exact lin [ga.length, near.length, far.length, lim] [] false (.h false false (.a (.v 0) (.a (.v 1) (.v 2))) (.v 3) (.v 0)) (.a (.a (.v 0) (.v 1)) (.v 2)) (.v 3) 1 [1] (Eq.refl true) hl, .inr fun r hr => ?_⟩⟩
  refine ⟨_, _, rfl, rfl, by decide, by decide, _, _, rfl, rfl, by decide, by decide, _, _, rfl, rfl, by decide, by decide, l rfl, l rfl, _, rfl, rfl, ?_⟩
  have e : iv ga ++ iv near ++ iv far = iv (ga ++ (near ++ far)) := by simp
  rw [e]
  exact hK r hr
/-- does it go on: the goals -/
theorem blk3 {x0 x1 x2 x3 x6 x7 x9 x10 : Option AV} {c n : Int} {f : NL} {s : NO} {g : Bool} {near far : List Int} {R : AV → Mem → Prop} {K : Mem → Env0 → Prop} (hl : near.length + far.length ≤ lim)
    (hK : WS gAV (Spec X k) cmBlk4 K R M [x0, x1, x2, x3, some (nvP (.blk c n f s)), some (.bool (g || (decide (c ≠ 3) && decide (n ∈ near ++ far)))), x6, x7, some (.lst (iv near)), x9, x10, some (.lst (iv far))]) :
    WS gAV (Spec X k) cmBlk3 K R M [x0, x1, x2, x3, some (nvP (.blk c n f s)), some (.bool g), x6, x7, some (.lst (iv near)), x9, x10, some (.lst (iv far))] := by
  cases g with
  | true => exact hK
  | false =>
    refine ⟨_, _, rfl, rfl, by decide, by decide, br_intro (fun q => ⟨_, _, rfl, rfl, by decide, by decide, rfl, _, _, rfl, rfl, ?_, .inl ⟨_, near ++ far, rfl, ?_, ?_⟩⟩) fun q => ?_⟩
    · rw [List.length_append, List.length_map, List.length_map]; exact hl
    · rw [← List.map_append]; exact toInts_map _
    · have q : decide (c ≠ 3) = true := (beq_true _).symm.trans q
      rw [q] at hK; exact hK
    · have q : cmpI .ne c 3 = false := by cases h : cmpI .ne c 3 <;> rw [h] at q <;> first | rfl | cases q
      have q2 : decide (c ≠ 3) = false := q
      rw [q2] at hK
      rw [q]; exact hK
/-- does it go on: the ends -/
theorem blk2 {x0 x1 x2 x3 x6 x7 x8 x9 x11 : Option AV} {c n : Int} {f : NL} {s : NO} {gf gs : Bool} {R : AV → Mem → Prop} {K : Mem → Env0 → Prop}
    (hK : WS gAV (Spec X k) cmBlk3 K R M [x0, x1, x2, x3, some (nvP (.blk c n f s)), some (.bool (if c = 4 then gf || (gs || isNoO s) else gf)), x6, x7, x8, x9, some (.bool gs), x11]) :
    WS gAV (Spec X k) cmBlk2 K R M [x0, x1, x2, x3, some (nvP (.blk c n f s)), some (.bool gf), x6, x7, x8, x9, some (.bool gs), x11] := by
  refine ⟨_, _, rfl, rfl, by decide, by decide, br_intro (fun q => ?_) fun q => ?_⟩
  · rw [if_pos (of_decide_eq_true q)] at hK
    cases gf with
    | true => exact hK
    | false => cases gs with
      | true => exact hK
      | false => cases s with
        | none => exact ⟨_, _, rfl, rfl, by decide, by decide, hK⟩
        | some l => exact ⟨_, _, rfl, rfl, by decide, by decide, hK⟩
  · rw [if_neg (of_decide_eq_false q)] at hK
    exact hK
theorem blk1 {m : Nat} (hC : ComeOk X k m) {x0 x1 x3 x5 x6 x7 x8 x9 x10 x11 : Option AV} {op : List Int} {gl : Addr} {c n : Int} {f : NL} {s : NO} {ga : List Int} {R : AV → Mem → Prop} {K : Mem → Env0 → Prop} (ho : 4 ≤ op.length + (m + 1)) (hw : wN op (.blk c n f s)) (hg : M gl = some (.list (iv ga))) (hl : ga.length + szP (.blk c n f s) ≤ 100000)
    (hK : ∀ r, M r = none → ∀ x3' x7 x8 x9 x10 x11, x3' = x3 → K (upd M r (.list (iv (ga ++ (cmP (.blk c n f s)).2.2)))) [x0, x1, some (.ref r), x3', some (nvP (.blk c n f s)), some (.bool (cmP (.blk c n f s)).2.1), some (nvP (cmP (.blk c n f s)).1), x7, x8, x9, x10, x11]) :
    WS gAV (Spec X k) cmBlk K R M [x0, x1, some (.ref gl), x3, some (nvP (.blk c n f s)), x5, x6, x7, x8, x9, x10, x11] := by
  obtain ⟨_, h4, _, _, wf, ws⟩ := hw
  have ho1 : 4 ≤ (op ++ [n]).length + m := by rw [List.length_append, List.length_singleton]; exact lin [op.length, m] [] false (.h false false (.l 4) (.a (.v 0) (.a (.v 1) (.l 1))) (.v 0)) (.l 4) (.a (.a (.v 0) (.l 1)) (.v 1)) 1 [1] (Eq.refl true) ho
  have ho2 : (op ++ [n]).length ≤ 4 := by rw [List.length_append, List.length_singleton]; exact lin [op.length] [] false (.h false false (.a (.v 0) (.l 1)) (.l 4) (.v 0)) (.a (.v 0) (.l 1)) (.l 4) 1 [1] (Eq.refl true) h4
  have hl' : ga.length + (4 + szL f + szO s) ≤ 100000 := hl
  have b1 := gs_szL _ f wf
  have b2 := gs_szO _ s ws
  have hlim : lim = 1048576 := by decide
  refine ⟨_, _, rfl, rfl, by decide, by decide, hC M _ _ f wf ho1 ho2 (by exact lin [szL f, ga.length, szO s] [] false (.h false false (.a (.v 1) (.a (.a (.l 4) (.v 0)) (.v 2))) (.l 100000) (.v 0)) (.v 0) (.l 100000) 1 [1] (Eq.refl true) hl') ⟨_, rfl, rfl, ?_⟩⟩
  have fin : WS gAV (Spec X k) cmBlk2 K R M [x0, x1, some (.ref gl), x3, some (nvP (.blk c n f s)), some (.bool (cmL f).2.1), x6, some (.lst (nvL (cmL f).1)), some (.lst (iv (cmL f).2.2)), some (nvO (cmO s).1), some (.bool (cmO s).2.1), some (.lst (iv (cmO s).2.2))] :=
    blk2 (blk3 (by exact lin [(cmL f).snd.snd.length, (cmO s).snd.snd.length, lim, ga.length, szL f, szO s] [] false (.h false false (.a (.v 3) (.a (.a (.l 4) (.v 4)) (.v 5))) (.l 100000) (.h false false (.v 0) (.v 4) (.h false false (.v 1) (.v 5) (.h true false (.v 2) (.l 1048576) (.v 0))))) (.a (.v 0) (.v 1)) (.v 2) 1 [1, 1, 1, .negSucc 0] (Eq.refl true) hl' b1 b2 hlim) (blk4 hg (by exact lin [ga.length, (cmL f).snd.snd.length, (cmO s).snd.snd.length, lim, szL f, szO s] [] false (.h false false (.a (.v 0) (.a (.a (.l 4) (.v 4)) (.v 5))) (.l 100000) (.h false false (.v 1) (.v 4) (.h false false (.v 2) (.v 5) (.h true false (.v 3) (.l 1048576) (.v 0))))) (.a (.v 0) (.a (.v 1) (.v 2))) (.v 3) 1 [1, 1, 1, .negSucc 0] (Eq.refl true) hl' b1 b2 hlim) fun r hr => hK r hr _ _ _ _ _ _ rfl))
  cases s with
  | none => exact ⟨_, _, rfl, rfl, by decide, by decide, Nat.zero_le _, .inl ⟨Nat.le_of_ble_eq_true rfl, _, rfl, rfl, fin⟩⟩
  | some q =>
    have hq : szL q ≤ 100000 := by have : szO (.some q) = szL q := rfl; exact lin [szL q, ga.length, szL f, szO (NO.some q)] [] false (.h false false (.a (.v 1) (.a (.a (.l 4) (.v 2)) (.v 3))) (.l 100000) (.h true false (.v 3) (.v 0) (.v 0))) (.v 0) (.l 100000) 1 [1, .negSucc 0] (Eq.refl true) hl' this
    exact ⟨_, _, rfl, rfl, by decide, by decide, _, _, rfl, rfl, by decide, by decide, hC M _ _ q ws ho1 ho2 hq ⟨_, rfl, rfl, fin⟩⟩
end
end Mine
end
section
set_option maxRecDepth 100000
namespace Mine
section
variable {X : Cx} {k : Nat} {M : Mem}
theorem Gh.tup2 {a b : Addr} {M : Mem} {xs ys : List AV} {g : Bool} (ha : M a = some (.list xs)) (hb : M b = some (.list ys)) (hn : a ≠ b) : Gh X (.tup [.ref a, .bool g, .ref b]) M (.tup [.lst xs, .bool g, .lst ys]) (del (del M a) b) := fun I J hp val S r => by
  obtain ⟨I1, l1, S1, r1⟩ := Gh.frz (X := X) ha I J hp (.ref a) S (.ref a)
  have hb1 : del M a b = some (.list ys) := (del_ne (Ne.symm hn)).trans hb
  obtain ⟨I2, l2, S2, r2⟩ := Gh.frz (X := X) hb1 I1 J hp (.ref b) S1 (.ref b)
  refine ⟨I2, l1.trans l2, S2, ?_⟩
  cases r with
  | tup h1 h2 =>
    cases h2 with
    | cons p1 h2 => cases h2 with
      | cons p2 h2 => cases h2 with
        | cons p3 h2 =>
          cases h2
          cases p1
          cases p3
          exact .tup ((l1.trans l2) _ _ h1) (.cons (r1.mono l2) (.cons (p2.mono (l1.trans l2)) (.cons r2 .nil)))
structure CmSt (M0 M : Mem) (kp gl : Addr) (acc : List AV) (ga : List Int) : Prop where
  hk : M kp = some (.list acc)
  hg : M gl = some (.list (iv ga))
  ne : kp ≠ gl
  k0 : M0 kp = none
  g0 : M0 gl = none
  same : ∀ z, M0 z ≠ none → M z = M0 z
theorem CmSt.upk {M0 M : Mem} {kp gl : Addr} {acc acc' : List AV} {ga : List Int} (h : CmSt M0 M kp gl acc ga) : CmSt M0 (upd M kp (.list acc')) kp gl acc' ga :=
  ⟨upd_self, (upd_ne h.ne.symm).trans h.hg, h.ne, h.k0, h.g0, fun z hz => (upd_ne fun q => hz (by rw [q]; exact h.k0)).trans (h.same z hz)⟩
theorem CmSt.upg {M0 M : Mem} {kp gl : Addr} {acc : List AV} {ga ga' : List Int} (h : CmSt M0 M kp gl acc ga) : CmSt M0 (upd M gl (.list (iv ga'))) kp gl acc ga' :=
  ⟨(upd_ne h.ne).trans h.hk, upd_self, h.ne, h.k0, h.g0, fun z hz => (upd_ne fun q => hz (by rw [q]; exact h.g0)).trans (h.same z hz)⟩
theorem CmSt.new {M0 M : Mem} {kp gl r : Addr} {acc : List AV} {ga ga' : List Int} (h : CmSt M0 M kp gl acc ga) (hr : M r = none) : CmSt M0 (upd M r (.list (iv ga'))) kp r acc ga' := by
  have hk : kp ≠ r := fun q => by rw [← q, h.hk] at hr; cases hr
  have h0 : M0 r = none := by
    cases q : M0 r with
    | none => rfl
    | some o => rw [h.same r (sn q), q] at hr; cases hr
  exact ⟨(upd_ne hk).trans h.hk, upd_self, hk, h.k0, h0, fun z hz => (upd_ne fun q => hz (by rw [q]; exact h0)).trans (h.same z hz)⟩
theorem come_one {m : Nat} (hC : ∀ m', m = m' + 1 → ComeOk X k m') {M0 : Mem} {full acc : List AV} {at_ : Nat} {kp gl : Addr} {p : ND} {op ga : List Int} {R : AV → Mem → Prop} {K : Mem → Env0 → Prop} {y5 y6 y7 y8 y9 y10 y11 : Option AV} (hS : CmSt M0 M kp gl acc ga) (ho : 4 ≤ op.length + m) (hw : wN op p) (hl : acc.length + 1 < lim) (hg : ga.length + szP p ≤ 100000) (hf : full.length ≤ 1000000)
    (hK : (cmP p).2.1 = true → ∀ M' gl' y5 y6 y7 y8 y9 y10 y11, CmSt M0 M' kp gl' (acc ++ [nvP (cmP p).1]) (ga ++ (cmP p).2.2) → K M' [some (.lst full), some (.ref kp), some (.ref gl'), some (.int (at_ : Nat)), some (nvP p), y5, y6, y7, y8, y9, y10, y11])
    (hR : (cmP p).2.1 = false → ∀ M' gl', CmSt M0 M' kp gl' (acc ++ [nvP (cmP p).1] ++ if isBlk p && decide (at_ + 1 < full.length) then [nvP unrN] else []) (ga ++ (cmP p).2.2) → R (.tup [.ref kp, .bool false, .ref gl']) M') :
    WS gAV (Spec X k) cmBody K R M [some (.lst full), some (.ref kp), some (.ref gl), some (.int (at_ : Nat)), some (nvP p), y5, y6, y7, y8, y9, y10, y11] := by
  have l {n : Nat} (h : Nat.ble n lim = true) : n ≤ lim := Nat.le_of_ble_eq_true h
  have tail : ∀ {M1 : Mem} {gl1 : Addr} {y7 y8 y9 y10 y11 : Option AV}, CmSt M0 M1 kp gl1 acc (ga ++ (cmP p).2.2) → WS gAV (Spec X k) cmTail K R M1 [some (.lst full), some (.ref kp), some (.ref gl1), some (.int (at_ : Nat)), some (nvP p), some (.bool (cmP p).2.1), some (nvP (cmP p).1), y7, y8, y9, y10, y11] := fun h =>
    come_tail h.hk hl hf (fun q => hK q _ _ _ _ _ _ _ _ _ h.upk) fun q => hR q _ _ h.upk
  have hlim : lim = 1048576 := by decide
  refine ⟨l rfl, _, rfl, rfl, ?_⟩
  cases p with
  | op c r =>
    refine ⟨_, _, rfl, rfl, by decide, by decide, _, _, rfl, rfl, by decide, by decide, _, _, rfl, rfl, by decide, by decide, l rfl, _, _, rfl, rfl, ?_⟩
    refine tail (M1 := M) (gl1 := gl) ?_
    have e : ga ++ (cmP (.op c r)).2.2 = ga := List.append_nil ga
    rw [e]; exact hS
  | br c gs =>
    have hgs := hw.2.1
    refine ⟨_, _, rfl, rfl, by decide, by decide, _, _, rfl, rfl, by decide, by decide, ⟨_, lists_ref hS.hg⟩, _, _, rfl, rfl, by decide, by decide, _, _, hS.hg, rfl, (fun q => by cases q), ?_, _, _, rfl, rfl, by decide, by decide, ?_⟩
    · rw [List.length_map, List.length_map]; have : szP (.br c gs) = 10 := rfl; exact lin [ga.length, gs.length, lim, szP (ND.br c gs)] [] false (.h true false (.v 2) (.l 1048576) (.h false false (.a (.v 0) (.v 3)) (.l 100000) (.h false false (.a (.v 1) (.l 1)) (.l 10) (.v 0)))) (.a (.v 0) (.v 1)) (.v 2) 1 [.negSucc 0, 1, 1] (Eq.refl true) hlim hg hgs
    rw [← List.map_append]
    exact tail hS.upg
  | blk c n f s =>
    obtain ⟨m', rfl⟩ : ∃ m', m = m' + 1 := ⟨m - 1, by have := hw.2.1; exact linE [m, m - 1] [] false (.h true false (.a (.v 1) (.l 1)) (.v 0) (.v 0)) (.v 0) (.a (.v 1) (.l 1)) 1 [.negSucc 0] 1 [1] (Eq.refl true) (Eq.refl true) (Nat.sub_add_cancel (lin [m, op.length] [] false (.h false false (.l 4) (.a (.v 1) (.v 0)) (.h false false (.a (.v 1) (.l 1)) (.l 4) (.v 0))) (.l 1) (.v 0) 1 [1, 1] (Eq.refl true) ho this))⟩
    refine ⟨_, _, rfl, rfl, by decide, by decide, _, _, rfl, rfl, by decide, by decide, ?_⟩
    refine blk1 (hC m' rfl) ho hw hS.hg hg fun r hr x3 y7 y8 y9 y10 y11 q => ?_
    subst q
    exact tail (hS.new hr)
end
end Mine
end
section
set_option maxRecDepth 100000
namespace Mine
section
variable {X : Cx} {k : Nat}
theorem come_loop {m : Nat} (hC : ∀ m', m = m' + 1 → ComeOk X k m') {M0 : Mem} {full : List AV} {kp : Addr} {op : List Int} {R : AV → Mem → Prop} {K : Mem → Env0 → Prop} (ho : 4 ≤ op.length + m) (hf : full.length ≤ 1000000) : ∀ (l : NL) {at_ : Nat} {acc : List AV} {ga : List Int} {gl : Addr} {M : Mem} {y3 y4 y5 y6 y7 y8 y9 y10 y11 : Option AV}, CmSt M0 M kp gl acc ga → wNL op l → full.length = at_ + cntL l → acc.length + szL l ≤ 200000 → ga.length + szL l ≤ 100000 →
    (∀ M' gl' ρ, CmSt M0 M' kp gl' (acc ++ nvL (cmL l).1) (ga ++ (cmL l).2.2) → ((cmL l).2.1 = true → K M' (some (.lst full) :: some (.ref kp) :: some (.ref gl') :: ρ)) ∧ ((cmL l).2.1 = false → R (.tup [.ref kp, .bool false, .ref gl']) M')) →
    wLoopE (fun _ => True) (fun n v k' M ρ => WS gAV (Spec X k) cmBody k' R M (stv (stv ρ 3 (.int (n : Nat))) 4 v)) K at_ (nvL l) M [some (.lst full), some (.ref kp), some (.ref gl), y3, y4, y5, y6, y7, y8, y9, y10, y11]
  | .nil, at_, acc, ga, gl, M, y3, y4, y5, y6, y7, y8, y9, y10, y11, hS, _, _, _, _, hE => ⟨trivial, (hE M gl _ (by
      have e1 : acc ++ nvL (cmL .nil).1 = acc := List.append_nil acc
      have e2 : ga ++ (cmL .nil).2.2 = ga := List.append_nil ga
      rw [e1, e2]; exact hS)).1 rfl⟩
  | .cons p l, at_, acc, ga, gl, M, y3, y4, y5, y6, y7, y8, y9, y10, y11, hS, hw, hn, hl, hg, hE => by
    have hlim : lim = 1048576 := by decide
    have hsz : szL (.cons p l) = szP p + szL l := rfl
    have hcn : cntL (.cons p l) = cntL l + 1 := rfl
    have h1 := gs_szP op p hw.1
    rw [hsz] at hl hg
    rw [hcn] at hn
    have hp : 1 ≤ szP p := by cases p <;> simp [szP]; exact lin [_, _] [] false (.v 0) (.l 1) (.a (.a (.l 4) (.v 0)) (.v 1)) 1 [] (Eq.refl true)
    refine ⟨trivial, come_one hC hS ho hw.1 (by exact lin [acc.length, lim, szP p, szL l] [] false (.h false false (.a (.v 0) (.a (.v 2) (.v 3))) (.l 200000) (.h true false (.v 1) (.l 1048576) (.v 0))) (.a (.a (.v 0) (.l 1)) (.l 1)) (.v 1) 1 [1, .negSucc 0] (Eq.refl true) hl hlim) (by exact lin [ga.length, szP p, szL l] [] false (.h false false (.a (.v 0) (.a (.v 1) (.v 2))) (.l 100000) (.v 0)) (.a (.v 0) (.v 1)) (.l 100000) 1 [1] (Eq.refl true) hg) hf (fun q M1 gl1 z5 z6 z7 z8 z9 z10 z11 h => ?_) fun q M1 gl1 h => ?_⟩
    · have e : cmL (.cons p l) = (.cons (cmP p).1 (cmL l).1, (cmL l).2.1, (cmP p).2.2 ++ (cmL l).2.2) := by rw [cmL, q]
      rw [e] at hE
      refine come_loop hC ho hf l h hw.2 (by exact linE [full.length, at_, cntL l] [] false (.h true false (.v 0) (.a (.v 1) (.a (.v 2) (.l 1))) (.v 0)) (.v 0) (.a (.a (.v 1) (.l 1)) (.v 2)) 1 [1] 1 [.negSucc 0] (Eq.refl true) (Eq.refl true) hn) (by rw [List.length_append, List.length_singleton]; exact lin [acc.length, szL l, szP p] [] false (.h false false (.a (.v 0) (.a (.v 2) (.v 1))) (.l 200000) (.h false false (.l 1) (.v 2) (.v 0))) (.a (.a (.v 0) (.l 1)) (.v 1)) (.l 200000) 1 [1, 1] (Eq.refl true) hl hp) (by rw [List.length_append]; exact lin [ga.length, (cmP p).snd.snd.length, szL l, szP p] [] false (.h false false (.a (.v 0) (.a (.v 3) (.v 2))) (.l 100000) (.h false false (.v 1) (.v 3) (.v 0))) (.a (.a (.v 0) (.v 1)) (.v 2)) (.l 100000) 1 [1, 1] (Eq.refl true) hg h1) fun M2 gl2 ρ h2 => hE M2 gl2 ρ ?_
      rw [List.append_assoc, List.append_assoc] at h2
      exact h2
    · have e : cmL (.cons p l) = (.cons (cmP p).1 (if isBlk p && !isNilN l then .cons unrN .nil else .nil), false, (cmP p).2.2) := by rw [cmL, q]
      rw [e] at hE
      refine (hE M1 gl1 [] ?_).2 rfl
      have e3 : decide (at_ + 1 < full.length) = !isNilN l := by
        cases l with
        | nil => exact decide_eq_false (by have : cntL .nil = 0 := rfl; exact Nat.not_lt.mpr (lin [full.length, at_, cntL NL.nil] [] false (.h true false (.v 0) (.a (.v 1) (.a (.v 2) (.l 1))) (.h true false (.v 2) (.l 0) (.v 0))) (.v 0) (.a (.v 1) (.l 1)) 1 [1, 1] (Eq.refl true) hn this))
        | cons q l => exact decide_eq_true (by have : cntL (.cons q l) = cntL l + 1 := rfl; exact lin [at_, full.length, cntL (NL.cons q l), cntL l] [] false (.h true false (.v 1) (.a (.v 0) (.a (.v 2) (.l 1))) (.h true false (.v 2) (.a (.v 3) (.l 1)) (.v 0))) (.a (.a (.v 0) (.l 1)) (.l 1)) (.v 1) 1 [.negSucc 0, .negSucc 0] (Eq.refl true) hn this)
      rw [e3, List.append_assoc] at h
      have e4 : ∀ b : Bool, nvL (.cons (cmP p).1 (if b then .cons unrN .nil else .nil)) = [nvP (cmP p).1] ++ if b then [nvP unrN] else [] := fun b => by cases b <;> rfl
      rw [← e4] at h
      exact h
theorem come_of (H : Std X) {m : Nat} (hC : ∀ m', m = m' + 1 → ComeOk X k m') : ComeOk X (k + 1) m := fun M Q op l hw ho hle hl hQ => by
  refine H.fn tr_law_come_to rfl ?_
  refine ⟨Nat.zero_le _, .inr fun kp hkp => ⟨Nat.zero_le _, .inr fun gl hgl => ⟨Nat.le_of_ble_eq_true rfl, _, rfl, rfl, _, _, rfl, rfl, ?_⟩⟩⟩
  have hne : gl ≠ kp := fun q => by rw [q, upd_self] at hgl; cases hgl
  rw [upd_ne hne] at hgl
  have h0 : CmSt M (upd (upd M kp (.list [])) gl (.list (iv []))) kp gl [] [] := ⟨(upd_ne hne.symm).trans upd_self, upd_self, hne.symm, hkp, hgl, fun z hz => (upd_ne fun q => hz (by rw [q]; exact hgl)).trans (upd_ne fun q => hz (by rw [q]; exact hkp))⟩
  have hcn := cnt_sz l
  have fin : ∀ {M' : Mem} {gl' : Addr} {g : Bool}, (cmL l).2.1 = g → CmSt M M' kp gl' ([] ++ nvL (cmL l).1) ([] ++ (cmL l).2.2) → Ret X Q (.tup [.ref kp, .bool g, .ref gl']) M' := fun {M' gl' g} e h => by
    subst e
    refine .by ((Gh.tup2 h.hk h.hg h.ne).trans (Gh.drop (M' := M) fun z mo hz => ?_)) (.now hQ)
    have z1 : z ≠ kp := fun q => by rw [q, h.k0] at hz; cases hz
    have z2 : z ≠ gl' := fun q => by rw [q, h.g0] at hz; cases hz
    rw [del_ne z2, del_ne z1, h.same z (sn hz), hz]
  refine come_loop hC ho (by rw [nvL_len]; exact lin [cntL l, szL l] [] false (.h false false (.v 1) (.l 100000) (.h false false (.v 0) (.v 1) (.v 0))) (.v 0) (.l 1000000) 1 [1, 1] (Eq.refl true) hl hcn) l (at_ := 0) h0 hw (by rw [nvL_len, Nat.zero_add]) (by rw [List.length_nil]; exact lin [szL l] [] false (.h false false (.v 0) (.l 100000) (.v 0)) (.a (.l 0) (.v 0)) (.l 200000) 1 [1] (Eq.refl true) hl) (by rw [List.length_nil]; exact lin [szL l] [] false (.h false false (.v 0) (.l 100000) (.v 0)) (.a (.l 0) (.v 0)) (.l 100000) 1 [1] (Eq.refl true) hl) fun M' gl' ρ h => ⟨fun q => ⟨Nat.le_of_ble_eq_true rfl, fin q h⟩, fun q => fin q h⟩
theorem come_spec (H : Std X) : ∀ m, ComeOk X (k + m + 1) m
  | 0 => come_of H fun m' q => by cases q
  | m + 1 => come_of (k := k + m + 1) H fun m' q => by cases q; exact come_spec H m
end
end Mine
end
section
set_option maxRecDepth 100000
namespace Mine
noncomputable def numCodes : List Int := (List.range 22).map (fun (i : Nat) => 69 + (i : Int)) ++ (List.range 36).map (fun (i : Nat) => 103 + (i : Int)) ++ [167, 172, 173, 192, 193, 194, 195, 196, 209]
noncomputable def numRows : List (List Int) := numCodes.map fun c => [c]
noncomputable def othRows (x : Int) : List (List Int) := [[32, x], [33, x], [34, x], [35, x], [36, x], [65, x], [66, x], [27], [28, -1], [63], [64], [208, -16], [210, x], [64528, 0], [64527, 0], [37, 0], [38, 0], [40, 2, x], [54, 2, x], [16, x], [17, 0, 0], [13, 0], [1], [18, x], [64522], [32, x], [34, x]]
section
variable {X : Cx} {k : Nat} {M : Mem} {Q : AV → Mem → Prop}
theorem one_loop {chk : Mem → Prop} {K : List AV → Mem → Prop} (hc : ∀ M, chk M) : ∀ (cs : List Int) (done : List (List Int)), K (rows (done ++ cs.map fun c => [c])) M →
    wComp chk (fun v k' M => [none, some v] = [none, some v] ∧ WE gAV (Spec X k) (.tuple (.cons (.loc 1) .nil)) (fun r M ρ2 => ρ2 = [none, some v] ∧ k' (some r) M) M [none, some v]) K (iv cs) (rows done) M
  | [], done, hK => ⟨hc M, by rwa [List.map_nil, List.append_nil] at hK⟩
  | c :: cs, done, hK => ⟨hc M, rfl, Nat.le_of_ble_eq_true rfl, rfl, by
      have e : rows done ++ [tI [c]] = rows (done ++ [[c]]) := by simp
      show wComp chk _ K (iv cs) (rows done ++ [tI [c]]) M
      rw [e]
      refine one_loop hc cs (done ++ [[c]]) ?_
      rwa [List.map_cons, List.append_cons] at hK⟩
theorem numbers_spec (H : Std X) (hQ : Q (.lst (rows numRows)) M) : Spec X (k + 1) 23 [] M Q := by
  have l {n : Nat} (h : Nat.ble n lim = true) : n ≤ lim := Nat.le_of_ble_eq_true h
  refine H.fn tr_law_numbers rfl ?_
  refine ⟨by decide, by decide, by decide, by decide, _, rfl, l rfl, .inl ⟨by decide, by decide, by decide, by decide, _, rfl, l rfl, .inl ⟨rfl, _, _, rfl, rfl, l rfl, .inl ⟨l rfl, .inl ⟨rfl, _, _, rfl, rfl, l rfl, .inl ?_⟩⟩⟩⟩⟩
  refine ⟨_, _, rfl, l rfl, ?_⟩
  exact one_loop (X := X) (k := k) (fun _ => trivial) numCodes [] ⟨l rfl, .inl (.now hQ)⟩
theorem others_spec (H : Std X) {x : Int} (hQ : Q (.lst (rows (othRows x))) M) : Spec X (k + 1) 24 [.int x] M Q := by
  have l {n : Nat} (h : Nat.ble n lim = true) : n ≤ lim := Nat.le_of_ble_eq_true h
  refine H.fn tr_law_others rfl ?_
  refine ⟨l rfl, l rfl, l rfl, l rfl, l rfl, l rfl, l rfl, l rfl, l rfl, l rfl, l rfl, .inl ?_⟩
  refine ⟨l rfl, l rfl, l rfl, l rfl, l rfl, l rfl, l rfl, l rfl, l rfl, .inl ⟨rfl, _, _, rfl, rfl, l rfl, .inl ?_⟩⟩
  exact ⟨l rfl, l rfl, l rfl, l rfl, l rfl, l rfl, l rfl, l rfl, l rfl, l rfl, .inl ⟨rfl, _, _, rfl, rfl, l rfl, .inl (.now hQ)⟩⟩
end
end Mine
end
section
set_option maxRecDepth 100000
namespace Mine
/-! the flat body of the drops' law, as it grows -/
noncomputable abbrev Row := List Int
noncomputable def rc : Row → Int
  | [] => -1
  | c :: _ => c
noncomputable def blkCodes : List Int := [2, 3, 4, 5, 11]
noncomputable def leafCodes : List Int := 26 :: (numCodes ++ (othRows 0).map rc)
noncomputable def okF : Row → Bool
  | [] => false
  | c :: r => decide (c ∈ blkCodes ++ leafCodes) && ((!decide (c = 26) || r.isEmpty) && (!decide (c = 34) || !r.isEmpty))
noncomputable def okRow (r : Row) : Bool := okF r && decide (rc r ∈ leafCodes)
theorem leaf_blk : (leafCodes.all fun c => !decide (c ∈ blkCodes)) = true := by decide
theorem num_ok : numRows.all okRow = true := by decide
theorem oth_ok (x : Int) : (othRows x).all okRow = true := by kernel_rfl
structure Gd (n : Nat) (ps : PL) : Prop where
  wf : wfL ps
  ok : okQL ps
  fl : (flL ps).all okF = true
  dp : dpL ps ≤ n
theorem flL_app : ∀ a b : PL, flL (appL a b) = flL a ++ flL b
  | .nil, b => rfl
  | .cons p a, b => by rw [appL, flL, flL_app a b, flL, List.append_assoc]
theorem dpL_app : ∀ {n : Nat} {a b : PL}, dpL a ≤ n → dpL b ≤ n → dpL (appL a b) ≤ n
  | _, .nil, _, _, h => h
  | n, .cons p a, b, h, h' => Nat.max_le.mpr ⟨(Nat.max_le.mp h).1, dpL_app (Nat.max_le.mp h).2 h'⟩
theorem wfL_app : ∀ {a b : PL}, wfL a → wfL b → wfL (appL a b)
  | .nil, _, _, h => h
  | .cons _ _, _, h, h' => ⟨h.1, wfL_app h.2 h'⟩
theorem okQL_app : ∀ {a b : PL}, okQL a → okQL b → okQL (appL a b)
  | .nil, _, _, h => h
  | .cons _ _, _, h, h' => ⟨h.1, okQL_app h.2 h'⟩
theorem all_app {a b : List Row} (h : a.all okF = true) (h' : b.all okF = true) : (a ++ b).all okF = true := by rw [List.all_append, h, h']; rfl
theorem Gd.snoc {n : Nat} {ps : PL} {p : PT} (h : Gd n ps) (w : wfP p) (q : okQP p) (f : (flP p).all okF = true) (d : dpP p ≤ n) : Gd n (appL ps (.cons p .nil)) :=
  ⟨wfL_app h.wf ⟨w, trivial⟩, okQL_app h.ok ⟨q, trivial⟩, by rw [flL_app]; exact all_app h.fl (by rw [flL, flL, List.append_nil]; exact f), dpL_app h.dp (Nat.max_le.mpr ⟨d, Nat.zero_le _⟩)⟩
inductive Zip : List Int → List (List Int) → Prop where
  | top : Zip [] []
  | one {op : List Int} {pre : PL} {rw_ : List (List Int)} {c : Int} : Zip op rw_ → op.length < 3 → Gd (3 - op.length) pre → (c = 2 ∨ c = 3 ∨ c = 4) → Zip (c :: op) (rw_ ++ flL pre ++ [[c, -64]])
  | two {op : List Int} {pre f : PL} {rw_ : List (List Int)} : Zip op rw_ → op.length < 3 → Gd (3 - op.length) pre → Gd (2 - op.length) f → Zip (5 :: op) (rw_ ++ flL pre ++ [[4, -64]] ++ flL f ++ [[5]])
noncomputable def Zst (op : List Int) (bd : List (List Int)) : Prop := ∃ rw_ cur, Zip op rw_ ∧ Gd (3 - op.length) cur ∧ bd = rw_ ++ flL cur
theorem Gd.nil {n : Nat} : Gd n .nil := ⟨trivial, trivial, rfl, Nat.zero_le _⟩
theorem Zst.add {op : List Int} {bd : List (List Int)} {c : Int} {r : List Int} (h : Zst op bd) (ok : okRow (c :: r) = true) : Zst op (bd ++ [c :: r]) := by
  obtain ⟨rw_, cur, hz, hg, rfl⟩ := h
  obtain ⟨h1, h2⟩ := Bool.and_eq_true_iff.mp ok
  have h3 : ∀ d ∈ blkCodes, c ≠ d := fun d hd q => by
    have := List.all_eq_true.mp leaf_blk c (of_decide_eq_true h2)
    rw [q, decide_eq_true hd] at this; cases this
  have h4 : c = 34 → r ≠ [] := fun q => by
    subst q
    rintro rfl
    cases h1
  refine ⟨rw_, appL cur (.cons (leaf c r) .nil), hz, hg.snoc ⟨rfl, h3 2 (by decide), h3 3 (by decide), h3 4 (by decide), h3 5 (by decide), h3 11 (by decide)⟩ ⟨⟨h4, trivial⟩, trivial, trivial⟩ (by rw [show flP (leaf c r) = [c :: r] from rfl, List.all_cons, h1]; rfl) (Nat.zero_le _), ?_⟩
  rw [flL_app, List.append_assoc]; rfl
theorem Zip.le {op : List Int} {rw_ : List (List Int)} (h : Zip op rw_) : op.length ≤ 3 := by
  cases h with
  | top => exact Nat.zero_le _
  | one _ h _ _ => exact h
  | two _ h _ _ => exact h
theorem Zst.openB {op : List Int} {bd : List (List Int)} {c : Int} (h : Zst op bd) (hl : op.length < 3) (hc : c = 2 ∨ c = 3 ∨ c = 4) : Zst (c :: op) (bd ++ [[c, -64]]) := by
  obtain ⟨rw_, cur, hz, hg, rfl⟩ := h
  exact ⟨_, .nil, .one hz hl hg hc, .nil, by simp [flL]⟩
theorem Zst.elseB {op : List Int} {bd : List (List Int)} (h : Zst (4 :: op) bd) : Zst (5 :: op) (bd ++ [[5]]) := by
  obtain ⟨rw_, cur, hz, hg, rfl⟩ := h
  cases hz with
  | one hz hl hp hc =>
    have e : 3 - (4 :: op).length = 2 - op.length := by rw [List.length_cons]; exact linE [3 - (op.length + 1), 2 - op.length, op.length] [] false (.h true false (.a (.v 0) (.a (.v 2) (.l 1))) (.l 3) (.h true false (.a (.v 1) (.v 2)) (.l 2) (.v 0))) (.v 0) (.v 1) 1 [1, .negSucc 0] 1 [.negSucc 0, 1] (Eq.refl true) (Eq.refl true) (Nat.sub_add_cancel (lin [op.length] [] false (.h false false (.a (.v 0) (.l 1)) (.l 3) (.v 0)) (.a (.v 0) (.l 1)) (.l 3) 1 [1] (Eq.refl true) hl)) (Nat.sub_add_cancel (lin [op.length] [] false (.h false false (.a (.v 0) (.l 1)) (.l 3) (.v 0)) (.v 0) (.l 2) 1 [1] (Eq.refl true) hl))
    rw [e] at hg
    exact ⟨_, .nil, .two hz hl hp hg, .nil, by simp [flL]⟩
theorem blk_fl {c : Int} {f : PL} {s : PO} (hc : c = 2 ∨ c = 3 ∨ c = 4) (hf : (flL f).all okF = true) (hs : (flE s).all okF = true) : (flP (.mk c [-64] (.some f) s)).all okF = true := by
  rw [flP, List.all_cons, opn, flB]
  have h1 : okF [c, -64] = true := by rcases hc with rfl | rfl | rfl <;> rfl
  rw [h1]
  exact all_app hf (all_app hs rfl)
theorem Zst.close {op : List Int} {bd : List (List Int)} {c : Int} (h : Zst (c :: op) bd) : Zst op (bd ++ [[11]]) := by
  obtain ⟨rw_, cur, hz, hg, rfl⟩ := h
  have e : 3 - (c :: op).length = 2 - op.length := by rw [List.length_cons]; omega
  rw [e] at hg
  cases hz with
  | one hz hl hp hc =>
    rename_i pre rw1
    refine ⟨rw1, appL pre (.cons (.mk c [-64] (.some cur) .none) .nil), hz, hp.snoc ⟨hc, hg.wf, trivial⟩ ⟨⟨fun q => by subst q; omega, trivial⟩, hg.ok, trivial⟩ (blk_fl hc hg.fl (s := .none) rfl) ?_, ?_⟩
    · have := hg.dp
      exact Nat.max_le.mpr ⟨show dpL cur + 1 ≤ _ by exact lin [dpL cur, 3 - op.length, 2 - op.length, op.length] [] false (.h false false (.v 0) (.v 2) (.h false false (.l 3) (.a (.v 1) (.v 3)) (.h true false (.a (.v 2) (.v 3)) (.l 2) (.v 0)))) (.a (.v 0) (.l 1)) (.v 1) 1 [1, 1, 1] (Eq.refl true) this (sbl (3) (op.length)) (Nat.sub_add_cancel (lin [op.length] [] false (.h false false (.a (.v 0) (.l 1)) (.l 3) (.v 0)) (.v 0) (.l 2) 1 [1] (Eq.refl true) hl)), Nat.zero_le _⟩
    · simp [flL_app, flL, flP, opn, flB, flE]
  | two hz hl hp hf =>
    rename_i pre f rw1
    refine ⟨rw1, appL pre (.cons (.mk 4 [-64] (.some f) (.some cur)) .nil), hz, hp.snoc ⟨.inr (.inr rfl), hf.wf, hg.wf⟩ ⟨⟨fun q => absurd q (by decide), trivial⟩, hf.ok, hg.ok⟩ (blk_fl (.inr (.inr rfl)) hf.fl (s := .some cur) (by rw [flE, List.all_cons, hg.fl]; rfl)) ?_, ?_⟩
    · have h1 := hg.dp
      have h2 := hf.dp
      exact Nat.max_le.mpr ⟨show dpL f + 1 ≤ _ by exact lin [dpL f, 3 - op.length, 2 - op.length, op.length] [] false (.h false false (.v 0) (.v 2) (.h false false (.l 3) (.a (.v 1) (.v 3)) (.h true false (.a (.v 2) (.v 3)) (.l 2) (.v 0)))) (.a (.v 0) (.l 1)) (.v 1) 1 [1, 1, 1] (Eq.refl true) h2 (sbl (3) (op.length)) (Nat.sub_add_cancel (lin [op.length] [] false (.h false false (.a (.v 0) (.l 1)) (.l 3) (.v 0)) (.v 0) (.l 2) 1 [1] (Eq.refl true) hl)), show dpL cur + 1 ≤ _ by exact lin [dpL cur, 3 - op.length, 2 - op.length, op.length] [] false (.h false false (.v 0) (.v 2) (.h false false (.l 3) (.a (.v 1) (.v 3)) (.h true false (.a (.v 2) (.v 3)) (.l 2) (.v 0)))) (.a (.v 0) (.l 1)) (.v 1) 1 [1, 1, 1] (Eq.refl true) h1 (sbl (3) (op.length)) (Nat.sub_add_cancel (lin [op.length] [] false (.h false false (.a (.v 0) (.l 1)) (.l 3) (.v 0)) (.v 0) (.l 2) 1 [1] (Eq.refl true) hl))⟩
    · simp [flL_app, flL, flP, opn, flB, flE]
theorem Zst.done : ∀ {op : List Int} {bd : List (List Int)}, Zst op bd → ∃ ps, Gd 3 ps ∧ flL ps = bd ++ List.replicate op.length [11]
  | [], bd, h => by
    obtain ⟨rw_, cur, hz, hg, rfl⟩ := h
    cases hz
    exact ⟨cur, hg, by simp⟩
  | c :: op, bd, h => by
    obtain ⟨ps, h1, h2⟩ := h.close.done
    exact ⟨ps, h1, by rw [h2, List.append_assoc, List.length_cons, List.replicate_succ]; rfl⟩
end Mine
end
section
set_option maxRecDepth 100000
namespace Mine
noncomputable def whC : MS → ME
  | .whil c _ => c
  | _ => .con .none
noncomputable def whB : MS → MS
  | .whil _ b => b
  | s => s
noncomputable def drW : MS := fstS (sndS (sndS (sndS ms__law_drops)))
noncomputable def drwC : ME := whC drW
noncomputable def drwB : MS := whB drW
structure DS (M : Mem) (t b o : Addr) (ts : List Int) (bd : List (List Int)) (op : List Int) : Prop where
  ht : M t = some (.list (iv ts))
  hb : M b = some (.list (rows bd))
  ho : M o = some (.list (iv op.reverse))
  tb : t ≠ b
  to : t ≠ o
  bo : b ≠ o
theorem DS.upb {M : Mem} {t b o : Addr} {ts : List Int} {bd bd' : List (List Int)} {op : List Int} (h : DS M t b o ts bd op) : DS (upd M b (.list (rows bd'))) t b o ts bd' op :=
  ⟨(upd_ne h.tb).trans h.ht, upd_self, (upd_ne h.bo.symm).trans h.ho, h.tb, h.to, h.bo⟩
theorem DS.upo {M : Mem} {t b o : Addr} {ts : List Int} {bd : List (List Int)} {op op' : List Int} (h : DS M t b o ts bd op) : DS (upd M o (.list (iv op'.reverse))) t b o ts bd op' :=
  ⟨(upd_ne h.to).trans h.ht, (upd_ne h.bo).trans h.hb, upd_self, h.tb, h.to, h.bo⟩
section
variable {X : Cx} {k : Nat} {M : Mem}
theorem sub_rows {L : List (List Int)} {y : Int} {n : Nat} {Q : QE} {M : Mem} {ρ : Env0} (hn : L.length = n) (h0 : 0 < n) (h9 : n < 1000) (hQ : ∀ r ∈ L, Q (tI r) M ρ) : wSub (.lst (rows L)) (.int (y.fmod (n : Nat))) Q M ρ := by
  subst hn
  obtain ⟨a, b⟩ := fm y (b := (L.length : Nat)) (by exact lin [L.length] [] true (.h false false (.a (.l 0) (.l 1)) (.v 0) (.v 0)) (.a (.l 0) (.l 1)) (.c (.v 0)) 1 [1] (Eq.refl true) h0)
  have hl : (y.fmod (L.length : Nat)).toNat < L.length := by exact lin [_, _] [_] false (.h false true (.a (.v 0) (.l 1)) (.c (.v 1)) (.h true true (.c (.v 0)) (.v 0) (.v 0))) (.a (.v 0) (.l 1)) (.v 1) 1 [1, 1] (Eq.refl true) b (Int.toNat_of_nonneg (lin [] [_] true (.h false true (.l 0) (.v 0) (.v 0)) (.l 0) (.v 0) 1 [1] (Eq.refl true) a))
  refine ⟨_, tI L[(y.fmod (L.length : Nat)).toNat], rfl, ?_, by exact lin [] [_] true (.h false true (.l 0) (.v 0) (.v 0)) (.a (.g (.l 1000000)) (.l 1)) (.v 0) 1 [1] (Eq.refl true) a, by exact lin [_] [_] true (.h false false (.a (.v 0) (.l 1)) (.l 1000) (.h false true (.a (.v 0) (.l 1)) (.c (.v 0)) (.v 0))) (.a (.v 0) (.l 1)) (.l 1000000) 1 [1, 1] (Eq.refl true) h9 b, hQ _ (List.getElem_mem hl)⟩
  unfold getI
  rw [if_pos a, List.getElem?_map, List.getElem?_eq_getElem hl]; rfl
noncomputable abbrev DrK (K : Mem → Env0 → Prop) (t b o : Addr) (ts : List Int) : Prop := ∀ M' bd' op' x3 x4, DS M' t b o ts bd' op' → Zst op' bd' → bd'.length ≤ 60 → K M' [some (.ref t), some (.ref b), some (.ref o), x3, x4]
theorem row_cons {r : List Int} (h : okRow r = true) : ∃ c r', r = c :: r' := by
  cases r with
  | nil => cases h
  | cons c r' => exact ⟨c, r', rfl⟩
theorem dr_put {K : Mem → Env0 → Prop} {t b o : Addr} {ts : List Int} {bd : List (List Int)} {op : List Int} {x3 x4 : Option AV} (hS : DS M t b o ts bd op) (hl : bd.length < 60) {r : List Int} (hz : Zst op (bd ++ [r])) (hK : DrK K t b o ts) :
    wMeth (Spec X k) .append (.ref b) [tI r] (fun _ M ρ => K M ρ) M [some (.ref t), some (.ref b), some (.ref o), x3, x4] := by
  refine ⟨_, hS.hb, by rw [List.length_map]; exact Nat.lt_trans hl (by decide), ?_⟩
  have e : rows bd ++ [tI r] = rows (bd ++ [r]) := by simp
  rw [e]
  exact hK _ _ op _ _ hS.upb hz (by rw [List.length_append, List.length_singleton]; exact lin [bd.length] [] false (.h false false (.a (.v 0) (.l 1)) (.l 60) (.v 0)) (.a (.v 0) (.l 1)) (.l 60) 1 [1] (Eq.refl true) hl)
/-- the last three ways: blocks -/
noncomputable def drE (s : MS) : MS := fstS (elsS s)
noncomputable def dr1 : MS := fstS (sndS (sndS drwB))
noncomputable def dr4 : MS := drE (drE (drE dr1))
noncomputable def dr5 : MS := drE dr4
noncomputable def dr6 : MS := drE dr5
theorem opn_last {op : List Int} {c : Int} {M : Mem} {o : Addr} (h : M o = some (.list (iv (c :: op).reverse))) {Q : QE} {ρ : Env0} (hQ : Q (.int c) M ρ) : wSub (.ref o) (.int (-1)) Q M ρ := by
  refine ⟨_, _, seqs_ref h, getI_last (v := .int c) ?_, by decide, by decide, hQ⟩
  simp
theorem dr_6 {K : Mem → Env0 → Prop} {R : AV → Mem → Prop} {t b o : Addr} {ts : List Int} {bd : List (List Int)} {op : List Int} {x3 x4 : Option AV} (hS : DS M t b o ts bd op) (hl : bd.length < 60) (hz : Zst op bd) (hK : DrK K t b o ts) :
    WS gAV (Spec X k) dr6 K R M [some (.ref t), some (.ref b), some (.ref o), x3, x4] := by
  refine ⟨_, lists_ref hS.ho, ?_⟩
  cases op with
  | nil => exact hK M bd [] _ _ hS hz (Nat.le_of_lt hl)
  | cons c op =>
    have e : iv (c :: op).reverse = iv op.reverse ++ [.int c] := by simp
    have hne : (iv (c :: op).reverse).isEmpty = false := by rw [e]; simp
    rw [hne]
    have hlen : (iv op.reverse).length < lim := by
      have := hz
      obtain ⟨rw_, cur, hz', _, _⟩ := this
      have := hz'.le
      rw [List.length_map, List.length_reverse]
      exact Nat.lt_of_lt_of_le (show op.length < 3 from this) (Nat.le_of_ble_eq_true rfl)
    refine ⟨⟨_, lists_ref hS.ho⟩, _, _, by rw [← e]; exact hS.ho, hlen, ⟨_, lists_ref hS.upo.hb⟩, Nat.le_of_ble_eq_true rfl, ?_⟩
    exact dr_put (X := X) (k := k) (r := [11]) hS.upo hl hz.close hK
theorem dr_5 {K : Mem → Env0 → Prop} {R : AV → Mem → Prop} {t b o : Addr} {ts : List Int} {bd : List (List Int)} {op : List Int} {y : Int} {x4 : Option AV} (hS : DS M t b o ts bd op) (hl : bd.length < 60) (hz : Zst op bd) (hK : DrK K t b o ts) :
    WS gAV (Spec X k) dr5 K R M [some (.ref t), some (.ref b), some (.ref o), some (.int y), x4] := by
  have six := dr_6 (X := X) (k := k) (R := R) (x3 := some (.int y)) (x4 := x4) hS hl hz hK
  refine ⟨_, lists_ref hS.ho, ?_⟩
  cases op with
  | nil => exact six
  | cons c op =>
    have hne : (iv (c :: op).reverse).isEmpty = false := by simp
    rw [hne]
    refine opn_last hS.ho (br_intro (fun q => ⟨by decide, by decide, by decide, br_intro (fun _ => ?_) fun _ => six⟩) fun q => br_intro (fun q' => ?_) fun _ => six)
    · have q : c = 4 := of_decide_eq_true ((beq_true _).symm.trans q)
      subst q
      have hlen : 1 ≤ (iv (4 :: op).reverse).length := by simp
      refine ⟨_, hS.ho, by decide, by decide, hlen, ⟨_, lists_ref (M := upd M o _) ((upd_ne hS.bo).trans hS.hb)⟩, Nat.le_of_ble_eq_true rfl, ?_⟩
      have e : (iv (4 :: op).reverse).set ((iv (4 :: op).reverse).length - (-1 : Int).natAbs) (.int 5) = iv (5 :: op).reverse := by simp
      rw [e]
      exact dr_put (X := X) (k := k) (r := [5]) hS.upo hl hz.elseB hK
    · have : (cmpI .eq c 4) = true := q'
      rw [this] at q; cases q
theorem dr_4 {K : Mem → Env0 → Prop} {R : AV → Mem → Prop} {t b o : Addr} {ts : List Int} {bd : List (List Int)} {op : List Int} {y : Int} {x4 : Option AV} (hS : DS M t b o ts bd op) (hl : bd.length < 60) (hz : Zst op bd) (hK : DrK K t b o ts) :
    WS gAV (Spec X k) dr4 K R M [some (.ref t), some (.ref b), some (.ref o), some (.int y), x4] := by
  have five := dr_5 (X := X) (k := k) (R := R) (y := y) (x4 := x4) hS hl hz hK
  have l3 : op.length ≤ 3 := by
    obtain ⟨rw_, cur, hz', _, _⟩ := hz
    exact hz'.le
  have el : (iv op.reverse).length = op.length := by rw [List.length_map, List.length_reverse]
  refine ⟨by decide, br_intro (fun q => ⟨_, seqs_ref hS.ho, by rw [el]; exact lin [op.length] [] false (.h false false (.v 0) (.l 3) (.v 0)) (.v 0) (.l 1000000000) 1 [1] (Eq.refl true) l3, br_intro (fun q => ?_) fun _ => five⟩) fun q => br_intro (fun q' => ?_) fun _ => five⟩
  · have q : ((iv op.reverse).length : Int) < 3 := of_decide_eq_true q
    rw [el] at q
    have go : ∀ c : Int, (c = 2 ∨ c = 3 ∨ c = 4) → wMeth (Spec X k) .append (.ref o) [.int c] (fun _ M ρ => WS gAV (Spec X k) (.exp (.meth .append (.loc 1) (.cons (.tuple (.cons (.sub (.loc 2) (.neg (.con (.int (1))))) (.cons (.neg (.con (.int (64)))) .nil))) .nil))) K R M ρ) M [some (.ref t), some (.ref b), some (.ref o), some (.int y), x4] := fun c hc => by
      refine ⟨_, hS.ho, by rw [el]; exact Nat.lt_of_le_of_lt l3 (by decide), ?_⟩
      have e : iv op.reverse ++ [.int c] = iv (c :: op).reverse := by simp
      rw [e]
      refine ⟨⟨_, lists_ref hS.upo.hb⟩, opn_last hS.upo.ho ⟨Nat.le_of_ble_eq_true rfl, ?_⟩⟩
      exact dr_put (X := X) (k := k) (r := [c, -64]) hS.upo hl (hz.openB (by exact lin [op.length] [] false (.h false true (.a (.c (.v 0)) (.l 1)) (.l 3) (.v 0)) (.a (.v 0) (.l 1)) (.l 3) 1 [1] (Eq.refl true) q) hc) hK
    refine ⟨⟨_, lists_ref hS.ho⟩, Nat.le_of_ble_eq_true rfl, by decide, by decide, by decide, ?_⟩
    obtain ⟨a, b⟩ := fm (y.fdiv 3) (b := 3) (by decide)
    generalize (y.fdiv 3).fmod 3 = j at a b
    have : j = 0 ∨ j = 1 ∨ j = 2 := by omega
    rcases this with rfl | rfl | rfl
    · exact ⟨_, _, rfl, rfl, by decide, by decide, go 2 (.inl rfl)⟩
    · exact ⟨_, _, rfl, rfl, by decide, by decide, go 3 (.inr (.inl rfl))⟩
    · exact ⟨_, _, rfl, rfl, by decide, by decide, go 4 (.inr (.inr rfl))⟩
  · have : (cmpI .lt (y.fmod 3) 2) = true := q'
    rw [this] at q; cases q
end
end Mine
end
section
set_option maxRecDepth 100000
namespace Mine
section
variable {X : Cx} {k : Nat} {M : Mem}
theorem dr_1 (H : Std X) {K : Mem → Env0 → Prop} {R : AV → Mem → Prop} {t b o : Addr} {ts : List Int} {bd : List (List Int)} {op : List Int} {y w : Int} (hS : DS M t b o ts bd op) (hl : bd.length < 60) (hz : Zst op bd) (hK : DrK K t b o ts) :
    WS gAV (Spec X (k + 1)) dr1 K R M [some (.ref t), some (.ref b), some (.ref o), some (.int y), some (.int w)] := by
  have put : ∀ r, okRow r = true → wMeth (Spec X (k + 1)) .append (.ref b) [tI r] (fun _ M ρ => K M ρ) M [some (.ref t), some (.ref b), some (.ref o), some (.int y), some (.int w)] := fun r hr => by
    obtain ⟨c, r', rfl⟩ := row_cons hr
    exact dr_put hS hl (hz.add hr) hK
  refine br_intro (fun _ => ⟨⟨_, lists_ref hS.hb⟩, Nat.le_of_ble_eq_true rfl, put [26] rfl⟩) fun _ => br_intro (fun _ => ⟨⟨_, lists_ref hS.hb⟩, ?_⟩) fun _ => br_intro (fun _ => ⟨⟨_, lists_ref hS.hb⟩, by decide, by decide, by decide, ?_⟩) fun _ => ?_
  · exact numbers_spec H ⟨by decide, sub_rows (L := numRows) (n := 67) rfl (by decide) (by decide) fun r hr => put r (List.all_eq_true.mp num_ok r hr)⟩
  · exact others_spec H ⟨by decide, sub_rows (L := othRows _) (n := 27) rfl (by decide) (by decide) fun r hr => put r (List.all_eq_true.mp (oth_ok _) r hr)⟩
  · exact dr_4 hS hl hz hK
theorem dr_step (H : Std X) {K : Mem → Env0 → Prop} {R : AV → Mem → Prop} {t b o : Addr} {ts : List Int} {bd : List (List Int)} {op : List Int} {x3 x4 : Option AV} (hS : DS M t b o ts bd op) (ht : ts.length < lim) (hne : ts ≠ []) (hl : bd.length < 60) (hz : Zst op bd) (hK : ∀ ts', ts'.length < ts.length → DrK K t b o ts') :
    WS gAV (Spec X (k + 1)) drwB K R M [some (.ref t), some (.ref b), some (.ref o), x3, x4] := by
  refine law_next_spec H hS.ht ht fun M1 ts1 x a1 _ a3 a4 => ⟨by decide, by decide, by decide, Nat.le_of_ble_eq_true rfl, _, rfl, rfl, ?_⟩
  have h1 : DS M1 t b o ts1 bd op := ⟨a1, (a4 b hS.tb.symm).trans hS.hb, (a4 o hS.to.symm).trans hS.ho, hS.tb, hS.to, hS.bo⟩
  exact dr_1 H h1 hl hz (hK ts1 (a3 hne))
theorem drw_loop (H : Std X) {K : Mem → Env0 → Prop} {R : AV → Mem → Prop} {t b o : Addr} (hK : ∀ ts, DrK K t b o ts) : ∀ (n : Nat) {ts : List Int} {bd : List (List Int)} {op : List Int} {M : Mem} {x3 x4 : Option AV}, DS M t b o ts bd op → ts.length < n → ts.length < lim → bd.length ≤ 60 → Zst op bd →
    wWhile (fun k' M ρ => WE gAV (Spec X (k + 1)) drwC (fun v M ρ => wB v fun t => k' t M ρ) M ρ) (fun k' M ρ => WS gAV (Spec X (k + 1)) drwB k' R M ρ) K n M [some (.ref t), some (.ref b), some (.ref o), x3, x4]
  | 0, ts, bd, op, M, x3, x4, _, hn, _, _, _ => absurd hn (Nat.not_lt_zero _)
  | n + 1, ts, bd, op, M, x3, x4, hS, hn, ht, hl, hz => by
    have exit := hK ts M bd op x3 x4 hS hz hl
    refine ⟨_, lists_ref hS.ht, ?_⟩
    cases ts with
    | nil => exact exit
    | cons t0 ts =>
      refine ⟨_, seqs_ref hS.hb, by rw [List.length_map]; exact lin [bd.length] [] false (.h false false (.v 0) (.l 60) (.v 0)) (.v 0) (.l 1000000000) 1 [1] (Eq.refl true) hl, br_intro (fun q => ?_) fun _ => exit⟩
      have q : ((rows bd).length : Int) < 60 := of_decide_eq_true q
      rw [List.length_map] at q
      exact dr_step H hS ht (fun q => by cases q) (by exact lin [bd.length] [] false (.h false true (.a (.c (.v 0)) (.l 1)) (.l 60) (.v 0)) (.a (.v 0) (.l 1)) (.l 60) 1 [1] (Eq.refl true) q) hz fun ts' hts M' bd' op' y3 y4 hS' hz' hl' => drw_loop H hK n hS' (by exact lin [ts'.length, n, (t0 :: ts).length] [] false (.h false false (.a (.v 2) (.l 1)) (.a (.v 1) (.l 1)) (.h false false (.a (.v 0) (.l 1)) (.v 2) (.v 0))) (.a (.v 0) (.l 1)) (.v 1) 1 [1, 1] (Eq.refl true) hn hts) (by exact lin [ts'.length, lim, (t0 :: ts).length] [] false (.h false false (.a (.v 2) (.l 1)) (.v 1) (.h false false (.a (.v 0) (.l 1)) (.v 2) (.v 0))) (.a (.v 0) (.l 1)) (.v 1) 1 [1, 1] (Eq.refl true) ht hts) hl' hz'
theorem Zst.adds {op : List Int} : ∀ {bd : List (List Int)} (rs : List (List Int)), rs.all okRow = true → Zst op bd → Zst op (bd ++ rs)
  | bd, [], _, h => by rw [List.append_nil]; exact h
  | bd, r :: rs, q, h => by
    rw [List.all_cons, Bool.and_eq_true] at q
    obtain ⟨c, r', rfl⟩ := row_cons q.1
    rw [List.append_cons]
    exact Zst.adds rs q.2 (h.add q.1)
theorem drops_law (H : Std X) {Q : AV → Mem → Prop} {t : Addr} {ts : List Int} (ht : M t = some (.list (iv ts))) (hlt : ts.length < lim) (hQ : ∀ ps M', Gd 3 ps → (flL ps).length ≤ 70 → Q (.lst (rows (flL ps ++ [[11]]))) M') : Spec X (k + 2) 25 [.ref t] M Q := by
  have l {n : Nat} (h : Nat.ble n lim = true) : n ≤ lim := Nat.le_of_ble_eq_true h
  refine H.fn tr_law_drops rfl ?_
  refine ⟨l rfl, l rfl, l rfl, l rfl, l rfl, l rfl, l rfl, l rfl, l rfl, l rfl, l rfl, l rfl, .inr fun b hb => ?_⟩
  have tb : t ≠ b := fun q => by rw [q, hb] at ht; cases ht
  refine ⟨⟨_, lists_ref upd_self⟩, l rfl, l rfl, l rfl, l rfl, l rfl, l rfl, l rfl, l rfl, l rfl, .inl ⟨_, _, upd_self, rfl, (fun q => by cases q), l rfl, ?_⟩⟩
  rw [upd_upd]
  refine ⟨l rfl, .inr fun o ho => ?_⟩
  have bo : b ≠ o := fun q => by rw [q, upd_self] at ho; cases ho
  have to : t ≠ o := fun q => by rw [← q, upd_ne tb, ht] at ho; cases ho
  let bd0 : List (List Int) := [[32, 0], [34, 1], [26], [32, 0], [65, 0], [109], [26], [16, 0], [65, 3], [106], [26], [65, 1], [35, 0], [16, 0], [27], [26], [26], [1], [26]]
  have z0 : Zst [] bd0 := Zst.adds (bd := []) bd0 rfl ⟨[], .nil, .top, .nil, rfl⟩
  have s0 : DS (upd (upd M b (.list (rows bd0))) o (.list (iv ([] : List Int).reverse))) t b o ts bd0 [] := ⟨(upd_ne to).trans ((upd_ne tb).trans ht), (upd_ne bo).trans upd_self, upd_self, tb, to, bo⟩
  refine ⟨ts.length + 1, drw_loop (k := k) H (fun ts1 M' bd' op' x3 x4 hS hz hl => ?_) (ts.length + 1) s0 (Nat.lt_succ_self _) hlt (by decide) z0⟩
  obtain ⟨ps, g1, g2⟩ := hz.done
  have l3 : op'.length ≤ 3 := by
    obtain ⟨rw_, cur, hz', _, _⟩ := hz
    exact hz'.le
  have eo : (iv op'.reverse).length = op'.length := by rw [List.length_map, List.length_reverse]
  have hlim : lim = 1048576 := by decide
  have er : (List.replicate (((iv op'.reverse).length : Nat) + 1 : Int).toNat [AV.tup [.int 11]]).flatten = rows (List.replicate (op'.length + 1) [11]) := by
    have : (((iv op'.reverse).length : Nat) + 1 : Int).toNat = op'.length + 1 := by rw [eo]; exact linE [_, _] [] false (.h true true (.c (.v 0)) (.a (.c (.v 1)) (.l 1)) (.v 0)) (.v 0) (.a (.v 1) (.l 1)) 1 [1] 1 [.negSucc 0] (Eq.refl true) (Eq.refl true) (Int.toNat_of_nonneg (lin [_] [] true (.v 0) (.l 0) (.a (.c (.v 0)) (.l 1)) 1 [] (Eq.refl true)))
    rw [this, List.flatten_replicate_singleton, rows, List.map_replicate]; rfl
  refine ⟨l rfl, l rfl, .inl ⟨_, seqs_ref hS.ho, by rw [eo]; exact lin [op'.length] [] false (.h false false (.v 0) (.l 3) (.v 0)) (.v 0) (.l 1000000000) 1 [1] (Eq.refl true) l3, rfl, _, rfl, by rw [eo]; exact lin [op'.length] [] true (.v 0) (.l 0) (.a (.c (.v 0)) (.l 1)) 1 [] (Eq.refl true), by rw [eo]; exact lin [op'.length] [] true (.h false false (.v 0) (.l 3) (.v 0)) (.a (.c (.v 0)) (.l 1)) (.l 1000000) 1 [1] (Eq.refl true) l3, ?_⟩⟩
  rw [er]
  have e : rows bd' ++ rows (List.replicate (op'.length + 1) [11]) = rows (flL ps ++ [[11]]) := by
    rw [g2, List.append_assoc, ← List.replicate_succ', ← List.map_append]
  have e2 : (rows bd' ++ rows (List.replicate (op'.length + 1) [11])).length ≤ 64 := by
    rw [List.length_append, List.length_map, List.length_map, List.length_replicate]; exact lin [bd'.length, op'.length] [] false (.h false false (.v 0) (.l 60) (.h false false (.v 1) (.l 3) (.v 0))) (.a (.v 0) (.a (.v 1) (.l 1))) (.l 64) 1 [1, 1] (Eq.refl true) hl l3
  refine ⟨by rw [List.length_map, List.length_replicate]; exact lin [op'.length, lim] [] false (.h false false (.v 0) (.l 3) (.h true false (.v 1) (.l 1048576) (.v 0))) (.a (.v 0) (.l 1)) (.v 1) 1 [1, .negSucc 0] (Eq.refl true) l3 hlim, .inl ⟨rfl, _, _, lists_ref hS.hb, rfl, Nat.le_trans e2 (l rfl), .inl ?_⟩⟩
  rw [e]
  exact .now (hQ ps M' g1 (by rw [g2, List.length_append, List.length_replicate]; exact lin [bd'.length, op'.length] [] false (.h false false (.v 0) (.l 60) (.h false false (.v 1) (.l 3) (.v 0))) (.a (.v 0) (.v 1)) (.l 70) 1 [1, 1] (Eq.refl true) hl l3))
end
end Mine
end
section
set_option maxRecDepth 100000
namespace Mine
/-! the drops on flat rows -/
noncomputable abbrev rep (n : Nat) : List Row := List.replicate n [26]
noncomputable def fpd : List Row → Nat → List Row
  | [], n => rep n
  | x :: rest, n => if n = 0 then x :: rest
    else if isPut (rc x) then fpd rest (n - 1)
    else if 0 < takes (rc x) then fpd rest (n + (takes (rc x)).toNat - 1)
    else if rc x = 34 then rep (n - 1) ++ (33 :: x.tail.take 1) :: rest
    else rep n ++ x :: rest
noncomputable def fst_ (L : List Row) (x : Row) : List Row := if rc x = 26 then fpd L 1 else x :: L
theorem takes26 : takes 26 = 0 := by decide
theorem takes33 : takes 33 = 0 := by decide
theorem fpd_zero : ∀ L : List Row, fpd L 0 = L
  | [] => rfl
  | x :: L => if_pos rfl
theorem fpd_dull {x : Row} {L : List Row} (h1 : isPut (rc x) = false) (h2 : ¬ 0 < takes (rc x)) (h3 : rc x ≠ 34) : ∀ n, fpd (x :: L) n = rep n ++ x :: L
  | 0 => if_pos rfl
  | n + 1 => by rw [fpd, if_neg (Nat.succ_ne_zero n), h1, if_neg Bool.false_ne_true, if_neg h2, if_neg h3]
theorem fpd26 (L : List Row) (n : Nat) : fpd ([26] :: L) n = rep n ++ [26] :: L := fpd_dull (by decide) (by decide) (by decide) n
theorem rep_add (a b : Nat) (L : List Row) : rep b ++ (rep a ++ L) = rep (a + b) ++ L := by
  rw [← List.append_assoc, List.replicate_append_replicate, Nat.add_comm]
/-- a drop behind drops and what is dull -/
theorem fpd_rep {L : List Row} (hL : ∀ n, fpd L n = rep n ++ L) : ∀ a b, fpd (rep a ++ L) b = rep (a + b) ++ L
  | 0, b => by rw [Nat.zero_add]; exact hL b
  | a + 1, b => by
    show fpd ([26] :: (rep a ++ L)) b = _
    rw [fpd26]
    show rep b ++ (rep (a + 1) ++ L) = _
    rw [rep_add]
theorem fpd_add : ∀ (L : List Row) (a b : Nat), fpd (fpd L a) b = fpd L (a + b)
  | [], a, b => by
    have := fpd_rep (L := []) (fun n => (List.append_nil (rep n)).symm) a b
    rwa [List.append_nil, List.append_nil] at this
  | x :: L, a, b => by
    cases a with
    | zero => rw [fpd_zero, Nat.zero_add]
    | succ a =>
      have e : a + 1 + b = (a + b) + 1 := by exact linE [a, b] [] false (.v 0) (.a (.a (.v 0) (.l 1)) (.v 1)) (.a (.a (.v 0) (.v 1)) (.l 1)) 1 [] 1 [] (Eq.refl true) (Eq.refl true)
      rw [e]
      simp only [fpd, if_neg (Nat.succ_ne_zero _)]
      split
      · rw [fpd_add L]; rfl
      · split
        · rename_i h
          rw [fpd_add L]
          congr 1; exact linE [a + 1 + (takes (rc x)).toNat - 1, b, a + b + 1 + (takes (rc x)).toNat - 1, a, (takes (rc x)).toNat] [] false (.h true false (.a (.v 0) (.l 1)) (.a (.a (.v 3) (.l 1)) (.v 4)) (.h true false (.a (.v 2) (.l 1)) (.a (.a (.a (.v 3) (.v 1)) (.l 1)) (.v 4)) (.v 0))) (.a (.v 0) (.v 1)) (.v 2) 1 [1, .negSucc 0] 1 [.negSucc 0, 1] (Eq.refl true) (Eq.refl true) (Nat.sub_add_cancel (lin [a, (takes (rc x)).toNat] [] false (.v 0) (.l 1) (.a (.a (.v 0) (.l 1)) (.v 1)) 1 [] (Eq.refl true))) (Nat.sub_add_cancel (lin [a, b, (takes (rc x)).toNat] [] false (.v 0) (.l 1) (.a (.a (.a (.v 0) (.v 1)) (.l 1)) (.v 2)) 1 [] (Eq.refl true)))
        · split
          · rw [Nat.add_sub_cancel, Nat.add_sub_cancel]
            exact fpd_rep (fun n => fpd_dull (x := 33 :: x.tail.take 1) (show isPut 33 = false by decide) (show ¬ 0 < takes 33 by decide) (show (33 : Int) ≠ 34 by decide) n) a b
          · rename_i h1 h2 h3
            have := fpd_rep (L := x :: L) (fun n => fpd_dull (by simpa using h1) h2 h3 n) (a + 1) b
            rw [e] at this; exact this
theorem fold_rep (L : List Row) : ∀ n, (rep n).foldl fst_ L = fpd L n
  | 0 => (fpd_zero L).symm
  | n + 1 => by
    show (rep n).foldl fst_ (fpd L 1) = _
    rw [fold_rep, fpd_add, Nat.add_comm]
noncomputable def chkC (c : Int) : Bool := match pureN c with
  | some m => decide (0 ≤ m ∧ m ≤ 3 ∧ c ≠ 34 ∧ c ≠ 26) && ((isPut c && decide (m = 0)) || (!isPut c && decide (0 < takes c ∧ m = takes c)))
  | none => !isPut c && !decide (0 < takes c)
theorem chk_all : (blkCodes ++ leafCodes).all chkC = true := by decide
theorem pure_some {c m : Int} (hc : c ∈ blkCodes ++ leafCodes) (h : pureN c = some m) : 0 ≤ m ∧ m ≤ 3 ∧ c ≠ 34 ∧ c ≠ 26 ∧ ((isPut c = true ∧ m = 0) ∨ (isPut c = false ∧ 0 < takes c ∧ m = takes c)) := by
  have := List.all_eq_true.mp chk_all c hc
  unfold chkC at this
  rw [h] at this
  simpa [and_assoc] using this
theorem pure_none {c : Int} (hc : c ∈ blkCodes ++ leafCodes) (h : pureN c = none) : isPut c = false ∧ ¬ 0 < takes c := by
  have := List.all_eq_true.mp chk_all c hc
  unfold chkC at this
  rw [h] at this
  simpa using this
theorem fpd_one {x : Row} {L : List Row} {m : Int} (hc : rc x ∈ blkCodes ++ leafCodes) (h : pureN (rc x) = some m) : fpd (x :: L) 1 = fpd L m.toNat := by
  obtain ⟨_, _, _, _, h | ⟨h1, h2, rfl⟩⟩ := pure_some hc h
  · rw [fpd, if_neg Nat.one_ne_zero, h.1, if_pos rfl, h.2]; rfl
  · rw [fpd, if_neg Nat.one_ne_zero, h1, if_neg Bool.false_ne_true, if_pos h2, Nat.add_comm, Nat.add_sub_cancel]
end Mine
end
section
set_option maxRecDepth 100000
namespace Mine
noncomputable def StR : List Row → Prop
  | [] => True
  | l :: L => fst_ L l = l :: L ∧ StR L
structure Mc (L R res : List Row) : Prop where
  st : StR L
  hd : ∀ x R', R = x :: R' → fst_ L x = x :: L
  okL : L.all okF = true
  okR : R.all okF = true
  eq : R.foldl fst_ L = res
theorem okF_code {r : Row} (h : okF r = true) : rc r ∈ blkCodes ++ leafCodes := by
  cases r with
  | nil => cases h
  | cons c r => exact of_decide_eq_true (Bool.and_eq_true_iff.mp h).1
theorem okF_26 {r : Row} (h : okF r = true) (q : rc r = 26) : r = [26] := by
  cases r with
  | nil => cases h
  | cons c r =>
    have q : c = 26 := q
    have := (Bool.and_eq_true_iff.mp (Bool.and_eq_true_iff.mp h).2).1
    subst q
    cases r with
    | nil => rfl
    | cons _ _ => cases this
theorem okF_34 {r : Row} (h : okF r = true) (q : rc r = 34) : ∃ a t, r = 34 :: a :: t := by
  cases r with
  | nil => cases h
  | cons c r =>
    have q : c = 34 := q
    have := (Bool.and_eq_true_iff.mp (Bool.and_eq_true_iff.mp h).2).2
    subst q
    cases r with
    | nil => cases this
    | cons a t => exact ⟨a, t, rfl⟩
theorem fst_ne {L : List Row} {x : Row} (h : rc x ≠ 26) : fst_ L x = x :: L := if_neg h
theorem fst_nil (x : Row) (h : okF x = true) : fst_ [] x = [x] := by
  by_cases q : rc x = 26
  · rw [okF_26 h q]; rfl
  · exact fst_ne q
theorem all_cons {x : Row} {L : List Row} : (x :: L).all okF = true ↔ okF x = true ∧ L.all okF = true := by rw [List.all_cons, Bool.and_eq_true]
theorem rep_ok : ∀ n, (rep n).all okF = true
  | 0 => rfl
  | n + 1 => all_cons.mpr ⟨rfl, rep_ok n⟩
section
variable {L R res : List Row} {x y : Row}
theorem Mc.init {bd : List Row} (h : bd.all okF = true) : Mc [] bd (bd.foldl fst_ []) :=
  ⟨trivial, fun x R' q => fst_nil x (by rw [q] at h; exact (all_cons.mp h).1), rfl, h, rfl⟩
theorem Mc.tee {a : Int} {t : List Int} (h : Mc L ((34 :: a :: t) :: [26] :: R) res) : Mc L ([33, a] :: R) res := by
  have ok := all_cons.mp h.okR
  refine ⟨h.st, fun x R' q => ?_, h.okL, all_cons.mpr ⟨?_, (all_cons.mp ok.2).2⟩, ?_⟩
  · injection q with q1 q2
    rw [← q1]; exact fst_ne (show (33 : Int) ≠ 26 by decide)
  · rfl
  · have e := h.eq
    have e1 := h.hd _ _ rfl
    rw [List.foldl_cons, e1, List.foldl_cons] at e
    rw [List.foldl_cons, fst_ne (x := [33, a]) (show (33 : Int) ≠ 26 by decide), ← e]
    rfl
theorem Mc.pure {m : Int} (h : Mc L (x :: [26] :: R) res) (hp : pureN (rc x) = some m) : (L = [] → Mc [] (rep m.toNat ++ R) res) ∧ ∀ l L', L = l :: L' → Mc L' (l :: (rep m.toNat ++ R)) res := by
  have ok := all_cons.mp h.okR
  have ok2 := all_cons.mp ok.2
  have hc := okF_code ok.1
  have e := h.eq
  rw [List.foldl_cons, h.hd _ _ rfl, List.foldl_cons] at e
  have e2 : fst_ (x :: L) [26] = (rep m.toNat).foldl fst_ L := by
    rw [fold_rep, ← fpd_one hc hp]; rfl
  rw [e2, ← List.foldl_append] at e
  have okA := all_app (rep_ok m.toNat) ok2.2
  refine ⟨fun q => ?_, fun l L' q => ?_⟩
  · subst q
    exact ⟨trivial, fun z R' q => fst_nil z (by rw [q] at okA; exact (all_cons.mp okA).1), rfl, okA, e⟩
  · subst q
    have okL := all_cons.mp h.okL
    refine ⟨h.st.2, fun z R' q => ?_, okL.2, all_cons.mpr ⟨okL.1, okA⟩, ?_⟩
    · injection q with q1 q2
      rw [← q1]; exact h.st.1
    · rw [List.foldl_cons, h.st.1]; exact e
theorem Mc.go (h : Mc L (x :: y :: R) res) (hy : y = [26] → rc x ≠ 34 ∧ pureN (rc x) = none) : Mc (x :: L) (y :: R) res := by
  have ok := all_cons.mp h.okR
  have ok2 := all_cons.mp ok.2
  have e1 := h.hd _ _ rfl
  have e := h.eq
  rw [List.foldl_cons, e1] at e
  refine ⟨⟨e1, h.st⟩, fun z R' q => ?_, all_cons.mpr ⟨ok.1, h.okL⟩, ok.2, e⟩
  injection q with q1 q2
  rw [← q1]
  by_cases q : rc y = 26
  · have q := okF_26 ok2.1 q
    obtain ⟨h1, h2⟩ := hy q
    obtain ⟨p1, p2⟩ := pure_none (okF_code ok.1) h2
    rw [q]
    exact fpd_dull p1 p2 h1 1
  · exact fst_ne q
theorem Mc.fin (h : Mc L R res) (hl : R.length ≤ 1) : L.reverse ++ R = res.reverse := by
  have e := h.eq
  match R, hl with
  | [], _ => rw [← e, List.append_nil]; rfl
  | [x], _ =>
    rw [List.foldl_cons, h.hd _ _ rfl] at e
    rw [← e]; exact (List.reverse_cons).symm
end
/-! the measure -/
noncomputable def wR (r : Row) : Nat := if rc r = 26 then 1 else 4
noncomputable def wS (l : List Row) : Nat := (l.map wR).sum
theorem wS_cons (r : Row) (l : List Row) : wS (r :: l) = wR r + wS l := by simp [wS]
theorem wS_app (a b : List Row) : wS (a ++ b) = wS a + wS b := by simp [wS]
theorem wS_rep : ∀ n, wS (rep n) = n
  | 0 => rfl
  | n + 1 => by
    show wS ([26] :: rep n) = _
    rw [wS_cons, wS_rep n]; show 1 + n = n + 1; exact linE [n] [] false (.v 0) (.a (.l 1) (.v 0)) (.a (.v 0) (.l 1)) 1 [] 1 [] (Eq.refl true) (Eq.refl true)
theorem wR_le (r : Row) : 1 ≤ wR r ∧ wR r ≤ 4 := by unfold wR; split <;> exact ⟨by decide, by decide⟩
theorem len_wS : ∀ l : List Row, l.length ≤ wS l ∧ wS l ≤ 4 * l.length
  | [] => ⟨Nat.le_refl _, Nat.le_refl _⟩
  | r :: l => by
    have := len_wS l
    have := wR_le r
    rw [wS_cons, List.length_cons]; omega
noncomputable def mS (L R : List Row) : Nat := 10 * (wS L + wS R) + R.length
end Mine
end
section
set_option maxRecDepth 100000
namespace Mine
noncomputable def ddW : MS := fstS (sndS ms__law_dropped)
noncomputable def ddC : ME := whC ddW
noncomputable def ddB : MS := whB ddW
theorem eqv_int (a b : Int) : PyData.eqv (.int a) (.int b) = decide (a = b) := by unfold PyData.eqv; rfl
theorem eqv_ints : ∀ a b : Row, PyData.eqvAll (a.map .int) (b.map .int) = decide (a = b)
  | [], [] => rfl
  | [], _ :: _ => rfl
  | _ :: _, [] => rfl
  | x :: a, y :: b => by
    show (PyData.eqv (.int x) (.int y) && PyData.eqvAll (a.map .int) (b.map .int)) = _
    rw [eqv_int, eqv_ints a b, ← Bool.decide_and]
    exact decide_eq_decide.mpr ⟨fun h => by rw [h.1, h.2], fun h => by injection h with h1 h2; exact ⟨h1, h2⟩⟩
theorem row_eq {a b : Row} {Q : Bool → Prop} {M : Mem} (h : Q (decide (a = b))) : wCmp .eq (tI a) (tI b) Q M := by
  refine ⟨dRow a, dRow b, toD_row a, toD_row b, Nat.le_trans (Nat.le_of_eq (congrArg (· + 1) (dp_ints a))) (by decide), ?_⟩
  have : PyData.eqv (dRow a) (dRow b) = decide (a = b) := (show PyData.eqv (.tuple _) (.tuple _) = _ by unfold PyData.eqv; exact eqv_ints a b)
  rw [this]; exact h
theorem clip_pos {n m d : Nat} (h : n ≤ m) : clipN (some (n : Int)) d m = n := by
  unfold clipN
  dsimp only
  rw [if_neg (by exact Int.not_lt.mpr (lin [n] [] true (.v 0) (.l 0) (.c (.v 0)) 1 [] (Eq.refl true)))]
  exact linE [_, _, _] [] false (.h true true (.c (.v 2)) (.c (.v 1)) (.h true false (.v 0) (.v 2) (.v 0))) (.v 0) (.v 1) 1 [1, 1] 1 [.negSucc 0, .negSucc 0] (Eq.refl true) (Eq.refl true) (Int.toNat_of_nonneg (lin [_] [] true (.v 0) (.l 0) (.c (.v 0)) 1 [] (Eq.refl true))) (Nat.min_eq_left (lin [_, _, _] [] false (.h false false (.v 2) (.v 1) (.h true true (.c (.v 0)) (.c (.v 2)) (.v 0))) (.v 0) (.v 1) 1 [1, 1] (Eq.refl true) h (Int.toNat_of_nonneg (lin [_] [] true (.v 0) (.l 0) (.c (.v 0)) 1 [] (Eq.refl true)))))
theorem splice {pre ys post : List AV} {a b : AV} : (pre ++ a :: b :: post).take (clipN (some ((pre.length : Nat) : Int)) 0 (pre ++ a :: b :: post).length) ++ ys ++ (pre ++ a :: b :: post).drop (max (clipN (some ((pre.length : Nat) : Int)) 0 (pre ++ a :: b :: post).length) (clipN (some (((pre.length : Nat) : Int) + 2)) (pre ++ a :: b :: post).length (pre ++ a :: b :: post).length)) = pre ++ ys ++ post := by
  have hl : (pre ++ a :: b :: post).length = pre.length + 2 + post.length := by simp; exact linE [pre.length, post.length] [] false (.v 0) (.a (.v 0) (.a (.a (.v 1) (.l 1)) (.l 1))) (.a (.a (.v 0) (.l 2)) (.v 1)) 1 [] 1 [] (Eq.refl true) (Eq.refl true)
  have e : ((pre.length : Nat) : Int) + 2 = ((pre.length + 2 : Nat) : Int) := rfl
  rw [e, clip_pos (by exact lin [pre.length, (pre ++ a :: b :: post).length, post.length] [] false (.h true false (.v 1) (.a (.a (.v 0) (.l 2)) (.v 2)) (.v 0)) (.v 0) (.v 1) 1 [.negSucc 0] (Eq.refl true) hl), clip_pos (by exact lin [pre.length, (pre ++ a :: b :: post).length, post.length] [] false (.h true false (.v 1) (.a (.a (.v 0) (.l 2)) (.v 2)) (.v 0)) (.a (.v 0) (.l 2)) (.v 1) 1 [.negSucc 0] (Eq.refl true) hl), Nat.max_eq_right (by exact lin [pre.length] [] false (.v 0) (.v 0) (.a (.v 0) (.l 2)) 1 [] (Eq.refl true)), List.take_left]
  have : (pre ++ a :: b :: post).drop (pre.length + 2) = post := by rw [← List.drop_drop, List.drop_left]; rfl
  rw [this]
section
variable {X : Cx} {k : Nat} {M : Mem} {b : Addr} {L R res : List Row} {x y : Row} {ρ : Env0}
theorem rows_split (L R : List Row) (x : Row) : rows (L.reverse ++ x :: R) = rows L.reverse ++ tI x :: rows R := by simp
theorem len_rev (L : List Row) : (rows L.reverse).length = L.length := by rw [List.length_map, List.length_reverse]
theorem sub_at {Q : QE} (hb : M b = some (.list (rows (L.reverse ++ x :: R)))) (hl : L.length < 1000000) (hQ : Q (tI x) M ρ) : wSub (.ref b) (.int (L.length : Nat)) Q M ρ := by
  refine ⟨_, tI x, seqs_ref hb, ?_, by exact lin [L.length] [] true (.v 0) (.a (.g (.l 1000000)) (.l 1)) (.c (.v 0)) 1 [] (Eq.refl true), by exact lin [L.length] [] true (.h false false (.a (.v 0) (.l 1)) (.l 1000000) (.v 0)) (.a (.c (.v 0)) (.l 1)) (.l 1000000) 1 [1] (Eq.refl true) hl, hQ⟩
  rw [rows_split]
  unfold getI
  rw [if_pos (by exact lin [L.length] [] true (.v 0) (.l 0) (.c (.v 0)) 1 [] (Eq.refl true)), Int.toNat_natCast, ← len_rev L, List.getElem?_append_right (Nat.le_refl _), Nat.sub_self]; rfl
theorem sub_at1 {Q : QE} (hb : M b = some (.list (rows (L.reverse ++ x :: y :: R)))) (hl : L.length + 1 < 1000000) (hQ : Q (tI y) M ρ) : wSub (.ref b) (.int ((L.length : Nat) + 1)) Q M ρ := by
  have e : L.reverse ++ x :: y :: R = (x :: L).reverse ++ y :: R := by simp
  rw [e] at hb
  exact sub_at (L := x :: L) hb hl hQ
theorem sub_0 {Q : QE} (hx : okF x = true) (hQ : Q (.int (rc x)) M ρ) : wSub (tI x) (.int 0) Q M ρ := by
  cases x with
  | nil => cases hx
  | cons c r => exact ⟨_, _, rfl, rfl, by decide, by decide, hQ⟩
theorem store_at {ys : List AV} {zs : List Row} {Q : Mem → Env0 → Prop} (hb : M b = some (.list (rows (L.reverse ++ x :: y :: R)))) (hl : (rows (L.reverse ++ x :: y :: R)).length + ys.length ≤ lim) (hz : ys = rows zs) (hQ : Q (upd M b (.list (rows (L.reverse ++ (zs ++ R))))) ρ) :
    wStoreSl (.ref b) (.int (L.length : Nat)) (.int ((L.length : Nat) + 2)) (.lst ys) Q M ρ := by
  refine ⟨_, _, _, _, rfl, rfl, hb, rfl, (fun q => by cases q), hl, ?_⟩
  have e : rows (L.reverse ++ x :: y :: R) = rows L.reverse ++ tI x :: tI y :: rows R := by simp
  rw [e, ← len_rev L, splice, hz]
  simpa using hQ
end
end Mine
end
section
set_option maxRecDepth 100000
namespace Mine
section
variable {X : Cx} {k : Nat} {M : Mem} {b : Addr} {L R res : List Row} {x y : Row}
noncomputable def ddA : MS := thnS (fstS (sndS ddB))
noncomputable def ddE : MS := elsS (fstS (sndS ddB))
noncomputable abbrev DdK (K : Mem → Env0 → Prop) (b : Addr) (res : List Row) (n : Nat) (B : Nat) : Prop := ∀ M' L' R' z, M' b = some (.list (rows (L'.reverse ++ R'))) → Mc L' R' res → mS L' R' < n → wS L' + wS R' ≤ B → K M' [some (.ref b), some (.int (L'.length : Nat)), z]
theorem dd_C {K : Mem → Env0 → Prop} {z : Option AV} {B : Nat} (hb : M b = some (.list (rows (L.reverse ++ x :: y :: R)))) (h : Mc L (x :: y :: R) res) (hB : wS L + wS (x :: y :: R) ≤ B) (hy : y = [26] → rc x ≠ 34 ∧ pureN (rc x) = none)
    (hK : DdK K b res (mS L (x :: y :: R)) B) : K M [some (.ref b), some (.int ((L.length : Nat) + 1)), z] := by
  refine hK M (x :: L) (y :: R) z ?_ (h.go hy) ?_ ?_
  · rw [hb]; simp
  · simp only [mS, wS_cons, List.length_cons]; exact lin [wR x, wS L, wR y, wS R, R.length] [] false (.v 0) (.a (.a (.m 10 (.a (.a (.v 0) (.v 1)) (.a (.v 2) (.v 3)))) (.a (.v 4) (.l 1))) (.l 1)) (.a (.m 10 (.a (.v 1) (.a (.v 0) (.a (.v 2) (.v 3))))) (.a (.a (.v 4) (.l 1)) (.l 1))) 1 [] (Eq.refl true)
  · simp only [wS_cons] at hB ⊢; exact lin [wR x, wS L, wR y, wS R, B] [] false (.h false false (.a (.v 1) (.a (.v 0) (.a (.v 2) (.v 3)))) (.v 4) (.v 0)) (.a (.a (.v 0) (.v 1)) (.a (.v 2) (.v 3))) (.v 4) 1 [1] (Eq.refl true) hB
theorem dd_step (H : Std X) {K : Mem → Env0 → Prop} {Rr : AV → Mem → Prop} {z : Option AV} {B : Nat} (hb : M b = some (.list (rows (L.reverse ++ x :: y :: R)))) (h : Mc L (x :: y :: R) res) (hB : wS L + wS (x :: y :: R) ≤ B) (hB2 : B ≤ 1000)
    (hK : DdK K b res (mS L (x :: y :: R)) B) : WS gAV (Spec X (k + 1)) ddB K Rr M [some (.ref b), some (.int (L.length : Nat)), z] := by
  have l {n : Nat} (h : Nat.ble n lim = true) : n ≤ lim := Nat.le_of_ble_eq_true h
  have hlim : lim = 1048576 := by decide
  have ok := all_cons.mp h.okR
  have w1 := len_wS L
  have w2 := len_wS (x :: y :: R)
  have hl1 : L.length < 1000000 := by exact lin [L.length, wS L, wS (x :: y :: R), B] [] false (.h false false (.a (.v 1) (.v 2)) (.v 3) (.h false false (.v 3) (.l 1000) (.h false false (.v 0) (.v 1) (.v 0)))) (.a (.v 0) (.l 1)) (.l 1000000) 1 [1, 1, 1] (Eq.refl true) hB hB2 w1.1
  have hl2 : L.length + 1 < 1000000 := by exact lin [L.length, wS L, wS (x :: y :: R), B] [] false (.h false false (.a (.v 1) (.v 2)) (.v 3) (.h false false (.v 3) (.l 1000) (.h false false (.v 0) (.v 1) (.v 0)))) (.a (.a (.v 0) (.l 1)) (.l 1)) (.l 1000000) 1 [1, 1, 1] (Eq.refl true) hB hB2 w1.1
  have hlen : (rows (L.reverse ++ x :: y :: R)).length ≤ 1000 := by rw [List.length_map, List.length_append, List.length_reverse]; exact lin [L.length, (x :: y :: R).length, wS L, wS (x :: y :: R), B] [] false (.h false false (.a (.v 2) (.v 3)) (.v 4) (.h false false (.v 4) (.l 1000) (.h false false (.v 0) (.v 2) (.h false false (.v 1) (.v 3) (.v 0))))) (.a (.v 0) (.v 1)) (.l 1000) 1 [1, 1, 1, 1] (Eq.refl true) hB hB2 w1.1 w2.1
  by_cases hy : y = [26]
  · subst hy
    refine sub_at1 hb hl2 ⟨l rfl, row_eq (b := [26]) ?_⟩
    rw [decide_eq_true rfl]
    refine sub_at hb hl1 (sub_0 ok.1 (law_pure_spec H (sub_at1 hb hl2 ⟨l rfl, row_eq (b := [26]) ?_⟩)))
    rw [decide_eq_true rfl]
    refine sub_at hb hl1 (sub_0 ok.1 (br_intro (fun q => ?_) fun q => ?_))
    · obtain ⟨a, t, rfl⟩ := okF_34 ok.1 (of_decide_eq_true q)
      refine sub_at hb hl1 ⟨_, _, rfl, rfl, by decide, by decide, l rfl, l rfl, .inl (store_at (zs := [[33, a]]) hb (by show _ + 1 ≤ _; exact lin [(rows (L.reverse ++ (34 :: a :: t) :: [26] :: R)).length, lim] [] false (.h true false (.v 1) (.l 1048576) (.h false false (.v 0) (.l 1000) (.v 0))) (.a (.v 0) (.l 1)) (.v 1) 1 [.negSucc 0, 1] (Eq.refl true) hlim hlen) rfl ?_)⟩
      refine hK _ L ([33, a] :: R) _ upd_self h.tee ?_ ?_
      · simp only [mS, wS_cons, List.length_cons, show wR [33, a] = 4 from rfl, show wR (34 :: a :: t) = 4 from rfl, show wR [26] = 1 from rfl]; exact lin [wS L, wS R, R.length] [] false (.v 0) (.a (.a (.m 10 (.a (.v 0) (.a (.l 4) (.v 1)))) (.a (.v 2) (.l 1))) (.l 1)) (.a (.m 10 (.a (.v 0) (.a (.l 4) (.a (.l 1) (.v 1))))) (.a (.a (.v 2) (.l 1)) (.l 1))) 1 [] (Eq.refl true)
      · simp only [wS_cons, show wR [33, a] = 4 from rfl, show wR (34 :: a :: t) = 4 from rfl, show wR [26] = 1 from rfl] at hB ⊢; exact lin [wS L, wS R, B] [] false (.h false false (.a (.v 0) (.a (.l 4) (.a (.l 1) (.v 1)))) (.v 2) (.v 0)) (.a (.v 0) (.a (.l 4) (.v 1))) (.v 2) 1 [1] (Eq.refl true) hB
    · have q : rc x ≠ 34 := of_decide_eq_false q
      cases hp : pureN (rc x) with
      | none => exact dd_C hb h hB (fun _ => ⟨q, hp⟩) hK
      | some m =>
        obtain ⟨m0, m3, _, m26, _⟩ := pure_some (okF_code ok.1) hp
        have hx : wR x = 4 := if_neg m26
        have hw26 : wR [26] = 1 := rfl
        obtain ⟨p1, p2⟩ := h.pure hp
        have er : (List.replicate m.toNat [AV.tup [.int 26]]).flatten = rows (rep m.toNat) := by
          rw [List.flatten_replicate_singleton, rows, List.map_replicate]; rfl
        refine ⟨l rfl, l rfl, .inl ⟨rfl, _, rfl, m0, by exact lin [] [m] true (.h false true (.v 0) (.l 3) (.v 0)) (.v 0) (.l 1000000) 1 [1] (Eq.refl true) m3, ?_⟩⟩
        rw [er]
        have hr : (rows (rep m.toNat)).length ≤ 3 := by rw [List.length_map, List.length_replicate]; exact lin [m.toNat] [m] false (.h false true (.v 0) (.l 3) (.h true true (.c (.v 0)) (.v 0) (.v 0))) (.v 0) (.l 3) 1 [1, 1] (Eq.refl true) m3 (Int.toNat_of_nonneg (lin [] [m] true (.h false true (.l 0) (.v 0) (.v 0)) (.l 0) (.v 0) 1 [1] (Eq.refl true) m0))
        refine ⟨by exact lin [(rows (rep m.toNat)).length, lim] [] false (.h true false (.v 1) (.l 1048576) (.h false false (.v 0) (.l 3) (.v 0))) (.v 0) (.v 1) 1 [.negSucc 0, 1] (Eq.refl true) hlim hr, .inl (store_at (zs := rep m.toNat) hb (by exact lin [(rows (L.reverse ++ x :: [26] :: R)).length, (rows (rep m.toNat)).length, lim] [] false (.h true false (.v 2) (.l 1048576) (.h false false (.v 0) (.l 1000) (.h false false (.v 1) (.l 3) (.v 0)))) (.a (.v 0) (.v 1)) (.v 2) 1 [.negSucc 0, 1, 1] (Eq.refl true) hlim hlen hr) rfl ?_)⟩
        simp only [wS_cons, hx, hw26] at hB
        have hm : mS L (x :: [26] :: R) = 10 * (wS L + (4 + (1 + wS R))) + (R.length + 1 + 1) := by simp only [mS, wS_cons, hx, hw26, List.length_cons]
        rw [hm] at hK
        cases L with
        | nil =>
          refine hK _ [] (rep m.toNat ++ R) _ upd_self (p1 rfl) ?_ ?_
          · simp only [mS, wS_app, wS_rep, List.length_append, List.length_replicate]; exact lin [wS [], m.toNat, wS R, R.length] [m] false (.h false true (.v 0) (.l 3) (.h true true (.c (.v 1)) (.v 0) (.v 0))) (.a (.a (.m 10 (.a (.v 0) (.a (.v 1) (.v 2)))) (.a (.v 1) (.v 3))) (.l 1)) (.a (.m 10 (.a (.v 0) (.a (.l 4) (.a (.l 1) (.v 2))))) (.a (.a (.v 3) (.l 1)) (.l 1))) 1 [11, 11] (Eq.refl true) m3 (Int.toNat_of_nonneg (lin [] [m] true (.h false true (.l 0) (.v 0) (.v 0)) (.l 0) (.v 0) 1 [1] (Eq.refl true) m0))
          · simp only [wS_app, wS_rep]; exact lin [wS [], m.toNat, wS R, B] [m] false (.h false true (.v 0) (.l 3) (.h false false (.a (.v 0) (.a (.l 4) (.a (.l 1) (.v 2)))) (.v 3) (.h true true (.c (.v 1)) (.v 0) (.v 0)))) (.a (.v 0) (.a (.v 1) (.v 2))) (.v 3) 1 [1, 1, 1] (Eq.refl true) m3 hB (Int.toNat_of_nonneg (lin [] [m] true (.h false true (.l 0) (.v 0) (.v 0)) (.l 0) (.v 0) 1 [1] (Eq.refl true) m0))
        | cons u L =>
          have e2 : max 0 (((u :: L).length : Nat) - 1 : Int) = (L.length : Nat) := by rw [List.length_cons]; omega
          show K _ [some (.ref b), some (.int (max 0 (((u :: L).length : Nat) - 1 : Int))), _]
          rw [e2]
          refine hK _ L (u :: (rep m.toNat ++ R)) _ (by rw [upd_self]; simp) (p2 u L rfl) ?_ ?_
          · simp only [mS, wS_cons, wS_app, wS_rep, List.length_cons, List.length_append, List.length_replicate]; exact lin [wS L, wR u, m.toNat, wS R, R.length] [m] false (.h false true (.v 0) (.l 3) (.h true true (.c (.v 2)) (.v 0) (.v 0))) (.a (.a (.m 10 (.a (.v 0) (.a (.v 1) (.a (.v 2) (.v 3))))) (.a (.a (.v 2) (.v 4)) (.l 1))) (.l 1)) (.a (.m 10 (.a (.a (.v 1) (.v 0)) (.a (.l 4) (.a (.l 1) (.v 3))))) (.a (.a (.v 4) (.l 1)) (.l 1))) 1 [11, 11] (Eq.refl true) m3 (Int.toNat_of_nonneg (lin [] [m] true (.h false true (.l 0) (.v 0) (.v 0)) (.l 0) (.v 0) 1 [1] (Eq.refl true) m0))
          · simp only [wS_cons, wS_app, wS_rep] at hB ⊢; exact lin [wS L, wR u, m.toNat, wS R, B] [m] false (.h false true (.v 0) (.l 3) (.h false false (.a (.a (.v 1) (.v 0)) (.a (.l 4) (.a (.l 1) (.v 3)))) (.v 4) (.h true true (.c (.v 2)) (.v 0) (.v 0)))) (.a (.v 0) (.a (.v 1) (.a (.v 2) (.v 3)))) (.v 4) 1 [1, 1, 1] (Eq.refl true) m3 hB (Int.toNat_of_nonneg (lin [] [m] true (.h false true (.l 0) (.v 0) (.v 0)) (.l 0) (.v 0) 1 [1] (Eq.refl true) m0))
  · refine sub_at1 hb hl2 ⟨l rfl, row_eq (b := [26]) ?_⟩
    rw [decide_eq_false hy]
    refine sub_at1 hb hl2 ⟨l rfl, row_eq (b := [26]) ?_⟩
    rw [decide_eq_false hy]
    exact dd_C hb h hB (fun q => absurd q hy) hK
theorem dd_loop (H : Std X) {K : Mem → Env0 → Prop} {Rr : AV → Mem → Prop} {B : Nat} (hB2 : B ≤ 1000) (hE : ∀ M' at_ z, M' b = some (.list (rows res.reverse)) → K M' [some (.ref b), at_, z]) : ∀ (n : Nat) {L R : List Row} {M : Mem} {z : Option AV}, M b = some (.list (rows (L.reverse ++ R))) → Mc L R res → mS L R < n → wS L + wS R ≤ B →
    wWhile (fun k' M ρ => WE gAV (Spec X (k + 1)) ddC (fun v M ρ => wB v fun t => k' t M ρ) M ρ) (fun k' M ρ => WS gAV (Spec X (k + 1)) ddB k' Rr M ρ) K n M [some (.ref b), some (.int (L.length : Nat)), z]
  | 0, L, R, M, z, _, _, hn, _ => absurd hn (Nat.not_lt_zero _)
  | n + 1, L, R, M, z, hb, h, hn, hB => by
    have w1 := len_wS L
    have w2 := len_wS R
    have hlen : (rows (L.reverse ++ R)).length = L.length + R.length := by rw [List.length_map, List.length_append, List.length_reverse]
    refine ⟨_, seqs_ref hb, by exact lin [(rows (L.reverse ++ R)).length, B, wS L, wS R, L.length, R.length] [] false (.h false false (.v 1) (.l 1000) (.h false false (.a (.v 2) (.v 3)) (.v 1) (.h false false (.v 4) (.v 2) (.h false false (.v 5) (.v 3) (.h true false (.v 0) (.a (.v 4) (.v 5)) (.v 0)))))) (.v 0) (.l 1000000000) 1 [1, 1, 1, 1, 1] (Eq.refl true) hB2 hB w1.1 w2.1 hlen, ?_⟩
    have stop : R.length ≤ 1 → K M [some (.ref b), some (.int (L.length : Nat)), z] := fun q => hE M _ z (by rw [← h.fin q]; exact hb)
    have ec : cmpI .lt ((L.length : Nat) + 1) ((rows (L.reverse ++ R)).length : Nat) = decide (2 ≤ R.length) := by
      rw [hlen]; exact decide_eq_decide.mpr (by omega)
    show br (cmpI .lt ((L.length : Nat) + 1) ((rows (L.reverse ++ R)).length : Nat)) _ _
    rw [ec]
    match R, h, hn, hB, hb, stop with
    | [], _, _, _, _, stop => exact stop (by decide)
    | [x], _, _, _, _, stop => exact stop (Nat.le_refl _)
    | x :: y :: R, h, hn, hB, hb, _ =>
      rw [show decide (2 ≤ (x :: y :: R).length) = true from decide_eq_true (by simp)]
      exact dd_step H hb h hB hB2 fun M' L' R' z' a1 a2 a3 a4 => dd_loop H hB2 hE n a1 a2 (by exact lin [mS L' R', n, mS L (x :: y :: R)] [] false (.h false false (.a (.v 2) (.l 1)) (.a (.v 1) (.l 1)) (.h false false (.a (.v 0) (.l 1)) (.v 2) (.v 0))) (.a (.v 0) (.l 1)) (.v 1) 1 [1, 1] (Eq.refl true) hn a3) a4
theorem dropped_spec (H : Std X) {Q : AV → Mem → Prop} {bd : List Row} (ok : bd.all okF = true) (hl : bd.length ≤ 100) (hQ : ∀ M', Q (.lst (rows (bd.foldl fst_ []).reverse)) M') : Spec X (k + 2) 26 [.lst (rows bd)] M Q := by
  refine H.fn tr_law_dropped rfl ?_
  have hlim : lim = 1048576 := by decide
  have w := len_wS bd
  refine ⟨_, rfl, by rw [List.length_map]; exact lin [bd.length, lim] [] false (.h false false (.v 0) (.l 100) (.h true false (.v 1) (.l 1048576) (.v 0))) (.v 0) (.v 1) 1 [1, .negSucc 0] (Eq.refl true) hl hlim, .inr fun b hb => ⟨Nat.le_of_ble_eq_true rfl, _, rfl, rfl, ?_⟩⟩
  refine ⟨mS [] bd + 1, dd_loop (k := k) (b := b) (L := []) (R := bd) H (B := 400) (by decide) (fun M' at_ z h => ?_) _ upd_self (Mc.init ok) (Nat.lt_succ_self _) (by show 0 + wS bd ≤ 400; exact lin [wS bd, bd.length] [] false (.h false false (.v 1) (.l 100) (.h false false (.v 0) (.m 4 (.v 1)) (.v 0))) (.a (.l 0) (.v 0)) (.l 400) 1 [4, 1] (Eq.refl true) hl w.2)⟩
  exact .by (Gh.frz h) (.now (hQ _))
end
end Mine
end
section
set_option maxRecDepth 100000
namespace Mine
/-! the plain law of the dead -/
mutual
noncomputable def gsP : ND → List Int
  | .op _ _ => []
  | .br _ gs => gs
  | .blk _ _ f s => gsL f ++ gsO s
noncomputable def gsO : NO → List Int
  | .none => []
  | .some l => gsL l
noncomputable def gsL : NL → List Int
  | .nil => []
  | .cons p l => gsP p ++ gsL l
end
theorem cmL_true {p : ND} {l : NL} (h : (cmP p).2.1 = true) : cmL (.cons p l) = (.cons (cmP p).1 (cmL l).1, (cmL l).2.1, (cmP p).2.2 ++ (cmL l).2.2) := by rw [cmL, h]
theorem cmL_false {p : ND} {l : NL} (h : (cmP p).2.1 = false) : cmL (.cons p l) = (.cons (cmP p).1 (if isBlk p && !isNilN l then .cons unrN .nil else .nil), false, (cmP p).2.2) := by rw [cmL, h]
mutual
theorem gs_P : ∀ p : ND, (cmP p).2.2 = gsP (cmP p).1
  | .op _ _ => rfl
  | .br _ _ => rfl
  | .blk c n f s => by
    show (cmL f).2.2 ++ (cmO s).2.2 = gsL (cmL f).1 ++ gsO (cmO s).1
    rw [gs_L f, gs_O s]
theorem gs_O : ∀ s : NO, (cmO s).2.2 = gsO (cmO s).1
  | .none => rfl
  | .some l => gs_L l
theorem gs_L : ∀ l : NL, (cmL l).2.2 = gsL (cmL l).1
  | .nil => rfl
  | .cons p l => by
    cases h : (cmP p).2.1 with
    | true =>
      rw [cmL_true h]
      show (cmP p).2.2 ++ (cmL l).2.2 = gsP (cmP p).1 ++ gsL (cmL l).1
      rw [gs_P p, gs_L l]
    | false =>
      rw [cmL_false h]
      show (cmP p).2.2 = gsP (cmP p).1 ++ gsL (if isBlk p && !isNilN l then .cons unrN .nil else .nil)
      rw [gs_P p]
      cases isBlk p && !isNilN l <;> exact (List.append_nil _).symm
end
theorem cnt_cm : ∀ l : NL, cntL (cmL l).1 ≤ cntL l
  | .nil => Nat.le_refl _
  | .cons p l => by
    cases h : (cmP p).2.1 with
    | true => rw [cmL_true h]; exact Nat.succ_le_succ (cnt_cm l)
    | false =>
      rw [cmL_false h]
      refine Nat.succ_le_succ ?_
      cases l with
      | nil => cases isBlk p <;> exact Nat.le_refl _
      | cons q l => cases isBlk p <;> first | exact Nat.zero_le _ | exact Nat.succ_le_succ (Nat.zero_le _)
mutual
theorem w_P (op : List Int) : ∀ p : ND, wN op p → wN op (cmP p).1
  | .op _ _, h => h
  | .br _ _, h => h
  | .blk c n f s, h => ⟨h.1, h.2.1, h.2.2.1, ⟨Nat.le_trans (cnt_cm f) h.2.2.2.1.1, cntO_cm s h.2.2.2.1.2⟩, w_L _ f h.2.2.2.2.1, w_O _ s h.2.2.2.2.2⟩
theorem cntO_cm : ∀ s : NO, cntO s ≤ 3 → cntO (cmO s).1 ≤ 3
  | .none, h => h
  | .some l, h => Nat.le_trans (cnt_cm l) h
theorem w_O (op : List Int) : ∀ s : NO, wNO op s → wNO op (cmO s).1
  | .none, h => h
  | .some l, h => w_L op l h
theorem w_L (op : List Int) : ∀ l : NL, wNL op l → wNL op (cmL l).1
  | .nil, h => h
  | .cons p l, h => by
    cases q : (cmP p).2.1 with
    | true => rw [cmL_true q]; exact ⟨w_P op p h.1, w_L op l h.2⟩
    | false =>
      rw [cmL_false q]
      refine ⟨w_P op p h.1, ?_⟩
      cases isBlk p && !isNilN l
      · trivial
      · exact ⟨⟨by decide, by decide⟩, trivial⟩
end
/-! who is named -/
theorem lab_op {c : Int} {r : List Int} (h : okOp c r) : lab c r = [] := by
  refine if_neg fun q => ?_
  have := h.2
  rcases q with rfl | rfl | rfl <;> exact absurd this (by decide)
theorem lab_blk {c : Int} (h : c = 2 ∨ c = 3 ∨ c = 4) (r : List Int) : lab c r = [] := by rcases h with rfl | rfl | rfl <;> rfl
theorem idx_iff {op : List Int} {x g : Int} {d : Nat} (nd : op.Nodup) (hx : op.reverse[d]? = some x) (hg : g ∈ op) : ((d : Nat) : Int) = idx op g ↔ x = g := by
  have nd' : op.reverse.Nodup := (List.reverse_perm op).symm.nodup nd
  have hg' := List.mem_reverse.mpr hg
  have e1 : op.reverse[op.reverse.idxOf g]? = some g := by
    have hl := List.idxOf_lt_length_of_mem hg'
    rw [List.getElem?_eq_getElem hl, List.getElem_idxOf hl]
  unfold idx
  constructor
  · intro q
    have q : d = op.reverse.idxOf g := Int.ofNat.inj q
    rw [← q, hx] at e1
    exact Option.some.inj e1
  · intro q
    subst q
    obtain ⟨h1, _⟩ := List.getElem?_eq_some_iff.mp hx
    rw [(List.getElem?_inj h1 nd').mp (hx.trans e1.symm)]
mutual
theorem nm_P {x : Int} : ∀ (p : ND) {op : List Int} {d : Nat}, wN op p → op.Nodup → op.reverse[d]? = some x → nmP (d : Nat) (tP op p) = decide (x ∈ gsP p)
  | .op c r, op, d, h, nd, hx => by
    show (decide (((d : Nat) : Int) ∈ lab c r) || (false || false)) = _
    rw [lab_op h]; rfl
  | .br c gs, op, d, h, nd, hx => by
    have e : lab c (gs.map (idx op)) = gs.map (idx op) := if_pos h.1
    show (decide (((d : Nat) : Int) ∈ lab c (gs.map (idx op))) || (false || false)) = decide (x ∈ gs)
    rw [e, Bool.or_false, Bool.or_false]
    refine decide_eq_decide.mpr ⟨fun q => ?_, fun q => ?_⟩
    · obtain ⟨g, hg, e⟩ := List.mem_map.mp q
      rw [(idx_iff nd hx (h.2.2 g hg)).mp e.symm]; exact hg
    · exact List.mem_map.mpr ⟨x, q, ((idx_iff nd hx (h.2.2 x q)).mpr rfl).symm⟩
  | .blk c n f s, op, d, h, nd, hx => by
    have nd2 : (op ++ [n]).Nodup := List.nodup_append.mpr ⟨nd, (List.nodup_cons.mpr ⟨List.not_mem_nil, List.nodup_nil⟩), fun a ha b hb q => h.2.2.1 (by rw [← List.mem_singleton.mp hb, ← q]; exact ha)⟩
    have hx2 : (op ++ [n]).reverse[d + 1]? = some x := by rw [List.reverse_append]; exact hx
    show (decide (((d : Nat) : Int) ∈ lab c [-64]) || (nmL ((d + 1 : Nat) : Int) (tL (op ++ [n]) f) || nmO ((d + 1 : Nat) : Int) (tO (op ++ [n]) s))) = decide (x ∈ gsL f ++ gsO s)
    rw [lab_blk h.1, nm_L f h.2.2.2.2.1 nd2 hx2, nm_O s h.2.2.2.2.2 nd2 hx2, ← Bool.decide_or]
    exact (Bool.false_or _).trans (decide_eq_decide.mpr List.mem_append.symm)
theorem nm_O {x : Int} : ∀ (s : NO) {op : List Int} {d : Nat}, wNO op s → op.Nodup → op.reverse[d]? = some x → nmO (d : Nat) (tO op s) = decide (x ∈ gsO s)
  | .none, op, d, h, nd, hx => rfl
  | .some l, op, d, h, nd, hx => nm_L l h nd hx
theorem nm_L {x : Int} : ∀ (l : NL) {op : List Int} {d : Nat}, wNL op l → op.Nodup → op.reverse[d]? = some x → nmL (d : Nat) (tL op l) = decide (x ∈ gsL l)
  | .nil, op, d, h, nd, hx => rfl
  | .cons p l, op, d, h, nd, hx => by
    show (nmP (d : Nat) (tP op p) || nmL (d : Nat) (tL op l)) = decide (x ∈ gsP p ++ gsL l)
    rw [nm_P p h.1 nd hx, nm_L l h.2 nd hx, ← Bool.decide_or]
    exact decide_eq_decide.mpr List.mem_append.symm
end
end Mine
end
section
set_option maxRecDepth 100000
namespace Mine
theorem or_not {a b c : Bool} (h : a = b) : (!(a || c)) = (!b && !c) := by rw [h]; cases b <;> rfl
theorem ngW_go {c n : Int} {f : PL} {s : PO} {noS gf gs es : Bool} {near : List Int} (hc : c = 2 ∨ c = 3 ∨ c = 4) (hn : (nmO 0 (.some f) || nmO 0 s) = decide (n ∈ near)) (hs : es = !(gs || noS)) :
    ngW c (.some f) s (!gf) es = !blkGo c n noS gf gs near := by
  unfold blkGo
  show (!gf && (c == 3 || (!(c == 4 && !es) && !(nmO 0 (.some f) || nmO 0 s)))) = _
  rw [hn, hs]
  generalize decide (n ∈ near) = m
  rcases hc with rfl | rfl | rfl
  · cases gf <;> cases m <;> rfl
  · cases gf <;> rfl
  · cases gf <;> cases m <;> cases gs <;> cases noS <;> rfl
/-- what becomes of a node: told, and whether it goes on -/
structure DnP (op : List Int) (p : ND) : Prop where
  cd : cdP (tP op p) = tP op (cmP p).1
  leaf : isBlk p = false → ngP (tP op (cmP p).1) = false ∧ isLast (codeP (tP op (cmP p).1)) = !(cmP p).2.1
  blk : isBlk p = true → isLast (codeP (tP op (cmP p).1)) = false ∧ ngP (tP op (cmP p).1) = !(cmP p).2.1
theorem DnP.dead {op : List Int} {p : ND} (h : DnP op p) : (isLast (codeP (tP op (cmP p).1)) || ngP (tP op (cmP p).1)) = !(cmP p).2.1 := by
  cases q : isBlk p with
  | true => obtain ⟨a, b⟩ := h.blk q; rw [a, b]; rfl
  | false => obtain ⟨a, b⟩ := h.leaf q; rw [a, b, Bool.or_false]
theorem isNil_tL (op : List Int) : ∀ l : NL, isNilP (tL op l) = isNilN l
  | .nil => rfl
  | .cons _ _ => rfl
theorem cm_nil : ∀ l : NL, isNilN (cmL l).1 = isNilN l
  | .nil => rfl
  | .cons p l => by
    cases h : (cmP p).2.1 with
    | true => rw [cmL_true h]; rfl
    | false => rw [cmL_false h]; rfl
theorem neL_cons {p : PT} {ps : PL} (h : isNilP ps = false) : neL (.cons p ps) = neL ps := by
  cases ps with
  | nil => cases h
  | cons q qs => rfl
mutual
theorem dn_P : ∀ (p : ND) {op : List Int}, wN op p → op.Nodup → DnP op p
  | .op c r, op, h, nd => ⟨rfl, fun _ => ⟨rfl, by
      obtain ⟨_, h⟩ := h
      show isLast c = !(!decide (c ∈ [(0 : Int), 15, 18, 19]))
      rw [Bool.not_not]
      simp only [List.mem_cons, List.not_mem_nil, or_false] at h
      rcases h with rfl | rfl | rfl | rfl | rfl | rfl | rfl | rfl <;> rfl⟩, fun q => by cases q⟩
  | .br c gs, op, h, nd => ⟨rfl, fun _ => ⟨rfl, by
      show isLast c = !decide (c = 13)
      rcases h.1 with rfl | rfl | rfl <;> rfl⟩, fun q => by cases q⟩
  | .blk c n f s, op, h, nd => by
    have nd2 : (op ++ [n]).Nodup := List.nodup_append.mpr ⟨nd, (List.nodup_cons.mpr ⟨List.not_mem_nil, List.nodup_nil⟩), fun a ha b hb q => h.2.2.1 (by rw [← List.mem_singleton.mp hb, ← q]; exact ha)⟩
    obtain ⟨f1, f2⟩ := dn_L f h.2.2.2.2.1 nd2
    obtain ⟨s1, s2⟩ := dn_O s h.2.2.2.2.2 nd2
    have hx : (op ++ [n]).reverse[0]? = some n := by rw [List.reverse_append]; rfl
    have hn : (nmO 0 (.some (tL (op ++ [n]) (cmL f).1)) || nmO 0 (tO (op ++ [n]) (cmO s).1)) = decide (n ∈ (cmL f).2.2 ++ (cmO s).2.2) := by
      have n1 := nm_L (d := 0) (cmL f).1 (w_L _ f h.2.2.2.2.1) nd2 hx
      have n2 := nm_O (d := 0) (cmO s).1 (w_O _ s h.2.2.2.2.2) nd2 hx
      rw [← gs_L] at n1
      rw [← gs_O] at n2
      exact (congr (congrArg or n1) n2).trans ((Bool.decide_or _ _).symm.trans (decide_eq_decide.mpr List.mem_append.symm))
    refine ⟨?_, fun q => (by cases q), fun _ => ⟨?_, ?_⟩⟩
    · show PT.mk c [-64] (.some (cdL (tL (op ++ [n]) f))) (cdO (tO (op ++ [n]) s)) = .mk c [-64] (.some (tL (op ++ [n]) (cmL f).1)) (tO (op ++ [n]) (cmO s).1)
      rw [f1, s1]
    · show isLast c = false
      rcases h.1 with rfl | rfl | rfl <;> rfl
    · show ngW c (.some (tL (op ++ [n]) (cmL f).1)) (tO (op ++ [n]) (cmO s).1) (neL (tL (op ++ [n]) (cmL f).1)) (neO (tO (op ++ [n]) (cmO s).1)) = !blkGo c n (isNoO s) (cmL f).2.1 (cmO s).2.1 ((cmL f).2.2 ++ (cmO s).2.2)
      rw [f2]
      exact ngW_go h.1 hn s2
theorem dn_O : ∀ (s : NO) {op : List Int}, wNO op s → op.Nodup → cdO (tO op s) = tO op (cmO s).1 ∧ neO (tO op (cmO s).1) = !((cmO s).2.1 || isNoO s)
  | .none, op, h, nd => ⟨rfl, rfl⟩
  | .some l, op, h, nd => by
    obtain ⟨a, b⟩ := dn_L l h nd
    exact ⟨congrArg PO.some a, b.trans (congrArg not (Bool.or_false _).symm)⟩
theorem dn_L : ∀ (l : NL) {op : List Int}, wNL op l → op.Nodup → cdL (tL op l) = tL op (cmL l).1 ∧ neL (tL op (cmL l).1) = !(cmL l).2.1
  | .nil, op, h, nd => ⟨rfl, rfl⟩
  | .cons p l, op, h, nd => by
    have hp := dn_P p h.1 nd
    obtain ⟨a, b⟩ := dn_L l h.2 nd
    have dd := hp.dead
    have e : cdL (tL op (.cons p l)) = cutW (tP op (cmP p).1) (tL op l) (isNilN l) (tL op (cmL l).1) := by
      show cutW (cdP (tP op p)) (tL op l) (isNilP (tL op l)) (cdL (tL op l)) = _
      rw [hp.cd, isNil_tL, a]
    rw [e]
    unfold cutW
    cases q : (cmP p).2.1 with
    | true =>
      rw [cmL_true q]
      rw [q] at dd
      obtain ⟨d1, d2⟩ := Bool.or_eq_false_iff.mp dd
      rw [d1, d2, Bool.and_false]
      refine ⟨rfl, ?_⟩
      show neL (.cons (tP op (cmP p).1) (tL op (cmL l).1)) = !(cmL l).2.1
      cases hl : isNilN l with
      | true =>
        cases l with
        | nil => show (isLast (codeP (tP op (cmP p).1)) || ngP (tP op (cmP p).1)) = false; rw [d1, d2]; rfl
        | cons _ _ => cases hl
      | false => rw [neL_cons (by rw [isNil_tL, cm_nil, hl]), b]
    | false =>
      rw [cmL_false q]
      rw [q] at dd
      cases hb : isBlk p with
      | false =>
        obtain ⟨d1, d2⟩ := hp.leaf hb
        rw [q] at d2
        rw [d2]
        exact ⟨rfl, dd⟩
      | true =>
        obtain ⟨d1, d2⟩ := hp.blk hb
        rw [q] at d2
        rw [d1, d2]
        cases l with
        | nil => exact ⟨rfl, dd⟩
        | cons _ _ => exact ⟨rfl, rfl⟩
end
end Mine
end
section
set_option maxRecDepth 100000
namespace Mine
theorem isNil_cd : ∀ ps : PL, isNilP (cdL ps) = isNilP ps
  | .nil => rfl
  | .cons p ps => by
    show isNilP (cutW (cdP p) ps (isNilP ps) (cdL ps)) = false
    unfold cutW
    split
    · rfl
    · split <;> rfl
mutual
theorem id_P : ∀ p : PT, cdP (cdP p) = cdP p
  | .mk c r f s => by
    show PT.mk c r (cdO (cdO f)) (cdO (cdO s)) = .mk c r (cdO f) (cdO s)
    rw [id_O f, id_O s]
theorem id_O : ∀ s : PO, cdO (cdO s) = cdO s
  | .none => rfl
  | .some ps => congrArg PO.some (id_L ps)
theorem id_L : ∀ ps : PL, cdL (cdL ps) = cdL ps
  | .nil => rfl
  | .cons p ps => by
    have hp := id_P p
    have hl := id_L ps
    have e : cdL (.cons p ps) = cutW (cdP p) ps (isNilP ps) (cdL ps) := rfl
    rw [e]
    cases h1 : isLast (codeP (cdP p)) with
    | true =>
      have e1 : ∀ a b q, cutW (cdP p) a b q = .cons (cdP p) .nil := fun a b q => if_pos h1
      rw [e1]
      show cutW (cdP (cdP p)) _ _ _ = _
      rw [hp, e1]
    | false =>
      have e1 : ∀ a b q, cutW (cdP p) a b q = if !b && ngP (cdP p) then .cons (cdP p) (.cons unr .nil) else .cons (cdP p) q := fun a b q => if_neg (by rw [h1]; exact Bool.false_ne_true)
      rw [e1]
      cases h2 : (!isNilP ps && ngP (cdP p)) with
      | true =>
        rw [if_pos rfl]
        show cutW (cdP (cdP p)) _ false _ = _
        rw [hp, e1, if_pos (show (!false && ngP (cdP p)) = true from (Bool.and_eq_true_iff.mp h2).2)]
      | false =>
        rw [if_neg Bool.false_ne_true]
        show cutW (cdP (cdP p)) (cdL ps) (isNilP (cdL ps)) (cdL (cdL ps)) = _
        rw [hp, e1, isNil_cd, h2, if_neg Bool.false_ne_true, hl]
end
theorem ok_codes {c : Int} {r : List Int} (h : okOp c r) : c ≠ 2 ∧ c ≠ 3 ∧ c ≠ 4 ∧ c ≠ 5 ∧ c ≠ 11 := by
  refine ⟨?_, ?_, ?_, ?_, ?_⟩ <;> rintro rfl <;> exact absurd h.2 (by decide)
mutual
theorem wf_P : ∀ (p : ND) {op : List Int}, wN op p → wfP (tP op p)
  | .op c r, op, h => ⟨rfl, ok_codes h⟩
  | .br c gs, op, h => ⟨rfl, by rcases h.1 with rfl | rfl | rfl <;> decide⟩
  | .blk c n f s, op, h => ⟨h.1, wf_L f h.2.2.2.2.1, wf_O s h.2.2.2.2.2⟩
theorem wf_O : ∀ (s : NO) {op : List Int}, wNO op s → wfO (tO op s)
  | .none, op, h => trivial
  | .some l, op, h => wf_L l h
theorem wf_L : ∀ (l : NL) {op : List Int}, wNL op l → wfL (tL op l)
  | .nil, op, h => trivial
  | .cons p l, op, h => ⟨wf_P p h.1, wf_L l h.2⟩
end
mutual
theorem ok_P : ∀ (p : ND) {op : List Int}, wN op p → okP (tP op p)
  | .op c r, op, h => ⟨⟨Nat.lt_trans h.1 (by decide), trivial⟩, trivial, trivial⟩
  | .br c gs, op, h => ⟨⟨by rw [List.length_map]; exact Nat.lt_trans h.2.1 (by decide), trivial⟩, trivial, trivial⟩
  | .blk c n f s, op, h => ⟨⟨show 1 < 1000 by decide, by cases s <;> trivial⟩, ok_L f h.2.2.2.2.1, ok_O s h.2.2.2.2.2⟩
theorem ok_O : ∀ (s : NO) {op : List Int}, wNO op s → okO (tO op s)
  | .none, op, h => trivial
  | .some l, op, h => ok_L l h
theorem ok_L : ∀ (l : NL) {op : List Int}, wNL op l → okL (tL op l)
  | .nil, op, h => trivial
  | .cons p l, op, h => ⟨ok_P p h.1, ok_L l h.2⟩
end
noncomputable def wM : Nat → Nat
  | 0 => 10
  | m + 1 => 4 + 6 * wM m
theorem wM_ge : ∀ m, 10 ≤ wM m
  | 0 => Nat.le_refl _
  | m + 1 => by have := wM_ge m; show 10 ≤ 4 + 6 * wM m; exact lin [wM m] [] false (.h false false (.l 10) (.v 0) (.v 0)) (.l 10) (.a (.l 4) (.m 6 (.v 0))) 1 [6] (Eq.refl true) this
theorem op_m {op : List Int} {n : Int} {m : Nat} (h : 4 ≤ op.length + (m + 1)) : 4 ≤ (op ++ [n]).length + m := by rw [List.length_append, List.length_singleton]; exact lin [op.length, m] [] false (.h false false (.l 4) (.a (.v 0) (.a (.v 1) (.l 1))) (.v 0)) (.l 4) (.a (.a (.v 0) (.l 1)) (.v 1)) 1 [1] (Eq.refl true) h
mutual
theorem sz_P : ∀ (p : ND) {op : List Int} {m : Nat}, wN op p → 4 ≤ op.length + m → szP p ≤ wM m
  | .op c r, op, m, h, ho => Nat.le_trans (show 1 ≤ 10 by decide) (wM_ge m)
  | .br c gs, op, m, h, ho => wM_ge m
  | .blk c n f s, op, m, h, ho => by
    obtain ⟨m, rfl⟩ : ∃ m', m = m' + 1 := ⟨m - 1, by have := h.2.1; exact linE [m, m - 1] [] false (.h true false (.a (.v 1) (.l 1)) (.v 0) (.v 0)) (.v 0) (.a (.v 1) (.l 1)) 1 [.negSucc 0] 1 [1] (Eq.refl true) (Eq.refl true) (Nat.sub_add_cancel (lin [m, op.length] [] false (.h false false (.l 4) (.a (.v 1) (.v 0)) (.h false false (.a (.v 1) (.l 1)) (.l 4) (.v 0))) (.l 1) (.v 0) 1 [1, 1] (Eq.refl true) ho this))⟩
    have h1 := sz_L f h.2.2.2.2.1 (op_m ho)
    have h2 := sz_O s h.2.2.2.2.2 (op_m ho)
    have h3 := Nat.mul_le_mul_right (wM m) h.2.2.2.1.1
    have h4 := Nat.mul_le_mul_right (wM m) h.2.2.2.1.2
    show 4 + szL f + szO s ≤ 4 + 6 * wM m
    exact lin [szL f, szO s, wM m, cntL f * wM m, cntO s * wM m] [] false (.h false false (.v 0) (.v 3) (.h false false (.v 1) (.v 4) (.h false false (.v 3) (.m 3 (.v 2)) (.h false false (.v 4) (.m 3 (.v 2)) (.v 0))))) (.a (.a (.l 4) (.v 0)) (.v 1)) (.a (.l 4) (.m 6 (.v 2))) 1 [1, 1, 1, 1] (Eq.refl true) h1 h2 h3 h4
theorem sz_O : ∀ (s : NO) {op : List Int} {m : Nat}, wNO op s → 4 ≤ op.length + m → szO s ≤ cntO s * wM m
  | .none, op, m, h, ho => Nat.zero_le _
  | .some l, op, m, h, ho => sz_L l h ho
theorem sz_L : ∀ (l : NL) {op : List Int} {m : Nat}, wNL op l → 4 ≤ op.length + m → szL l ≤ cntL l * wM m
  | .nil, op, m, h, ho => Nat.zero_le _
  | .cons p l, op, m, h, ho => by
    have h1 := sz_P p h.1 ho
    have h2 := sz_L l h.2 ho
    show szP p + szL l ≤ (cntL l + 1) * wM m
    rw [Nat.succ_mul]; exact lin [szP p, szL l, cntL l * wM m, wM m] [] false (.h false false (.v 0) (.v 3) (.h false false (.v 1) (.v 2) (.v 0))) (.a (.v 0) (.v 1)) (.a (.v 2) (.v 3)) 1 [1, 1] (Eq.refl true) h1 h2
end
mutual
theorem len_P : ∀ (p : ND) {op : List Int}, (flP (tP op p)).length ≤ szP p
  | .op c r, op => Nat.le_refl 1
  | .br c gs, op => show 1 ≤ 10 by decide
  | .blk c n f s, op => by
    have h1 := len_L f (op := op ++ [n])
    have h2 := len_O s (op := op ++ [n])
    show ((c :: [-64]) :: (flL (tL (op ++ [n]) f) ++ (flE (tO (op ++ [n]) s) ++ [[11]]))).length ≤ 4 + szL f + szO s
    rw [List.length_cons, List.length_append, List.length_append, List.length_singleton]; exact lin [(flL (tL (op ++ [n]) f)).length, (flE (tO (op ++ [n]) s)).length, szL f, szO s] [] false (.h false false (.v 0) (.v 2) (.h false false (.v 1) (.a (.l 1) (.v 3)) (.v 0))) (.a (.a (.v 0) (.a (.v 1) (.l 1))) (.l 1)) (.a (.a (.l 4) (.v 2)) (.v 3)) 1 [1, 1] (Eq.refl true) h1 h2
theorem len_O : ∀ (s : NO) {op : List Int}, (flE (tO op s)).length ≤ 1 + szO s
  | .none, op => Nat.zero_le _
  | .some l, op => by
    have := len_L l (op := op)
    show (flL (tL op l)).length + 1 ≤ 1 + szL l
    exact lin [(flL (tL op l)).length, szL l] [] false (.h false false (.v 0) (.v 1) (.v 0)) (.a (.v 0) (.l 1)) (.a (.l 1) (.v 1)) 1 [1] (Eq.refl true) this
theorem len_L : ∀ (l : NL) {op : List Int}, (flL (tL op l)).length ≤ szL l
  | .nil, op => Nat.le_refl _
  | .cons p l, op => by
    have h1 := len_P p (op := op)
    have h2 := len_L l (op := op)
    show (flP (tP op p) ++ flL (tL op l)).length ≤ szP p + szL l
    rw [List.length_append]; exact lin [(flP (tP op p)).length, (flL (tL op l)).length, szP p, szL l] [] false (.h false false (.v 0) (.v 2) (.h false false (.v 1) (.v 3) (.v 0))) (.a (.v 0) (.v 1)) (.a (.v 2) (.v 3)) 1 [1, 1] (Eq.refl true) h1 h2
end
mutual
theorem dp_P : ∀ (p : ND) {op : List Int} {m : Nat}, wN op p → 4 ≤ op.length + m → dpP (tP op p) ≤ m
  | .op c r, op, m, h, ho => Nat.zero_le _
  | .br c gs, op, m, h, ho => Nat.zero_le _
  | .blk c n f s, op, m, h, ho => by
    obtain ⟨m, rfl⟩ : ∃ m', m = m' + 1 := ⟨m - 1, by have := h.2.1; exact linE [m, m - 1] [] false (.h true false (.a (.v 1) (.l 1)) (.v 0) (.v 0)) (.v 0) (.a (.v 1) (.l 1)) 1 [.negSucc 0] 1 [1] (Eq.refl true) (Eq.refl true) (Nat.sub_add_cancel (lin [m, op.length] [] false (.h false false (.l 4) (.a (.v 1) (.v 0)) (.h false false (.a (.v 1) (.l 1)) (.l 4) (.v 0))) (.l 1) (.v 0) 1 [1, 1] (Eq.refl true) ho this))⟩
    exact Nat.max_le.mpr ⟨Nat.succ_le_succ (dp_L f h.2.2.2.2.1 (op_m ho)), dp_O s h.2.2.2.2.2 (op_m ho)⟩
theorem dp_O : ∀ (s : NO) {op : List Int} {m : Nat}, wNO op s → 4 ≤ op.length + m → dpO (tO op s) ≤ m + 1
  | .none, op, m, h, ho => Nat.zero_le _
  | .some l, op, m, h, ho => Nat.succ_le_succ (dp_L l h ho)
theorem dp_L : ∀ (l : NL) {op : List Int} {m : Nat}, wNL op l → 4 ≤ op.length + m → dpL (tL op l) ≤ m
  | .nil, op, m, h, ho => Nat.zero_le _
  | .cons p l, op, m, h, ho => Nat.max_le.mpr ⟨dp_P p h.1 ho, dp_L l h.2 ho⟩
end
end Mine
end
section
set_option maxRecDepth 100000
namespace Mine
/-! the drops in a tree and on its rows -/
noncomputable def FR (acc : List PT) : List Row := (acc.reverse.flatMap flP).reverse
theorem FR_cons (p : PT) (acc : List PT) : FR (p :: acc) = (flP p).reverse ++ FR acc := by
  unfold FR
  rw [List.reverse_cons, List.flatMap_append, List.reverse_append]; simp
theorem FR_rep : ∀ n, FR (List.replicate n (leaf 26 [])) = rep n
  | 0 => rfl
  | n + 1 => by rw [List.replicate_succ, FR_cons, FR_rep n]; rfl
theorem FR_app (a b : List PT) : FR (a ++ b) = FR a ++ FR b := by
  unfold FR
  rw [List.reverse_append, List.flatMap_append, List.reverse_append]
noncomputable def bar : List Row → Prop
  | [] => True
  | x :: _ => rc x = 2 ∨ rc x = 3 ∨ rc x = 4 ∨ rc x = 5
theorem fpd_bar {B : List Row} (h : bar B) (n : Nat) : fpd B n = rep n ++ B := by
  cases B with
  | nil => exact (List.append_nil _).symm
  | cons x B =>
    refine fpd_dull ?_ ?_ ?_ n <;> rcases h with h | h | h | h <;> rw [h] <;> decide
/-- the drops that are put behind pieces -/
theorem fpd_pd {B : List Row} (hB : bar B) : ∀ (acc : List PT) (n : Nat), (∀ p ∈ acc, wfP p) → fpd (FR acc ++ B) n = FR (pd acc n) ++ B
  | [], n, _ => by
    rw [pd, FR_rep]; exact fpd_bar hB n
  | .mk c r .none s :: rest, n, h => by
    obtain ⟨rfl, _⟩ := h _ List.mem_cons_self
    have ih := fun n => fpd_pd hB rest n fun p hp => h p (List.mem_cons_of_mem _ hp)
    have e : FR (.mk c r .none .none :: rest) ++ B = (c :: r) :: (FR rest ++ B) := by rw [FR_cons]; rfl
    rw [e, fpd, pd]
    show (if n = 0 then _ else if isPut c = true then _ else if 0 < takes c then _ else if c = 34 then _ else _) = _
    by_cases h0 : n = 0
    · rw [if_pos h0, if_pos h0, e]
    rw [if_neg h0, if_neg h0]
    cases h1 : isPut c with
    | true => rw [if_pos rfl, if_pos rfl, ih]
    | false =>
      rw [if_neg Bool.false_ne_true, if_neg Bool.false_ne_true]
      by_cases h2 : 0 < takes c
      · rw [if_pos h2, if_pos h2]; exact ih _
      rw [if_neg h2, if_neg h2]
      by_cases h3 : c = 34
      · rw [if_pos h3, if_pos h3, FR_app, FR_rep, FR_cons]; simp [leaf, flP, opn]
      · rw [if_neg h3, if_neg h3, FR_app, FR_rep, List.append_assoc, e]
  | .mk c r (.some ps) s :: rest, n, h => by
    obtain ⟨hc, _⟩ := h _ List.mem_cons_self
    have e : FR (.mk c r (.some ps) s :: rest) ++ B = [11] :: ((c :: r) :: (flL ps ++ flE s)).reverse ++ (FR rest ++ B) := by rw [FR_cons]; simp [flP, opn, flB]
    have hp : isPut c = false ∧ ¬ 0 < takes c ∧ c ≠ 34 := by rcases hc with rfl | rfl | rfl <;> decide
    rw [e, List.cons_append, fpd_dull (x := [11]) (by decide) (by decide) (by decide), pd]
    by_cases h0 : n = 0
    · rw [if_pos h0, e, h0]; rfl
    · rw [if_neg h0, hp.1, if_neg Bool.false_ne_true, if_neg hp.2.1, if_neg hp.2.2, FR_app, FR_rep, List.append_assoc, e]; rfl
theorem wf_pd : ∀ (acc : List PT) (n : Nat), (∀ p ∈ acc, wfP p) → ∀ p ∈ pd acc n, wfP p := by
  have w26 : wfP (leaf 26 []) := ⟨rfl, by decide⟩
  have rp : ∀ n, ∀ p ∈ List.replicate n (leaf 26 []), wfP p := fun n p hp => by rw [List.eq_of_mem_replicate hp]; exact w26
  intro acc
  induction acc with
  | nil => exact fun n _ => rp n
  | cons q rest ih =>
    intro n h
    obtain ⟨c, r, f, s⟩ := q
    have hr := fun p hp => h p (List.mem_cons_of_mem _ hp)
    rw [pd]
    split
    · exact h
    split
    · exact ih _ hr
    split
    · exact ih _ hr
    split
    · intro p hp
      rcases List.mem_append.mp hp with hp | hp
      · exact rp _ p hp
      · rcases List.mem_cons.mp hp with rfl | hp
        · exact ⟨rfl, by decide⟩
        · exact hr p hp
    · intro p hp
      rcases List.mem_append.mp hp with hp | hp
      · exact rp _ p hp
      · exact h p hp
theorem wf_ofL : ∀ {l : List PT}, (∀ p ∈ l, wfP p) → wfL (ofL l)
  | [], _ => trivial
  | p :: l, h => ⟨h p List.mem_cons_self, wf_ofL fun q hq => h q (List.mem_cons_of_mem _ hq)⟩
theorem fl_ofL : ∀ l : List PT, flL (ofL l) = l.flatMap flP
  | [] => rfl
  | p :: l => by rw [ofL, flL, fl_ofL l, List.flatMap_cons]
theorem fl_dr (acc : List PT) : (flL (ofL acc.reverse)).reverse = FR acc := by rw [fl_ofL]; rfl
mutual
theorem wf_drP : ∀ p : PT, wfP p → wfP (drP p)
  | .mk c r .none s, h => by obtain ⟨rfl, h⟩ := h; exact ⟨rfl, h⟩
  | .mk c r (.some ps) s, h => ⟨h.1, wf_ofL fun p hp => wf_drA ps [] h.2.1 (fun p hp => by cases hp) p (List.mem_reverse.mp hp), wf_drO s h.2.2⟩
theorem wf_drO : ∀ s : PO, wfO s → wfO (drO s)
  | .none, h => h
  | .some ps, h => wf_ofL fun p hp => wf_drA ps [] h (fun p hp => by cases hp) p (List.mem_reverse.mp hp)
theorem wf_drA : ∀ (ps : PL) (acc : List PT), wfL ps → (∀ p ∈ acc, wfP p) → ∀ p ∈ drA ps acc, wfP p
  | .nil, acc, _, h => h
  | .cons p ps, acc, hw, h => by
    rw [drA]
    split
    · exact wf_drA ps _ hw.2 (wf_pd acc 1 h)
    · refine wf_drA ps _ hw.2 fun q hq => ?_
      rcases List.mem_cons.mp hq with rfl | hq
      · exact wf_drP p hw.1
      · exact h q hq
end
mutual
theorem dr_P : ∀ (p : PT), wfP p → (flP p).all okF = true → codeP p ≠ 26 → ∀ S, (flP p).foldl fst_ S = (flP (drP p)).reverse ++ S
  | .mk c r .none s, h, ok, hc, S => by
    obtain ⟨rfl, h⟩ := h
    exact fst_ne hc
  | .mk c r (.some ps) s, h, ok, hc, S => by
    have e : flP (.mk c r (.some ps) s) = (c :: r) :: (flL ps ++ (flE s ++ [[11]])) := rfl
    rw [e] at ok ⊢
    have ok1 := all_cons.mp ok
    rw [List.all_append, List.all_append, Bool.and_eq_true, Bool.and_eq_true] at ok1
    have hb : bar ((c :: r) :: S) := by rcases h.1 with h | h | h <;> simp [bar, rc, h]
    rw [List.foldl_cons, fst_ne (x := c :: r) hc, List.foldl_append, List.foldl_append]
    have h1 := dr_A ps [] h.2.1 ok1.2.1 (fun p hp => by cases hp) hb
    rw [show FR [] ++ ((c :: r) :: S) = (c :: r) :: S from rfl] at h1
    rw [h1, dr_E s h.2.2 ok1.2.2.1, List.foldl_cons, fst_ne (x := [11]) (show (11 : Int) ≠ 26 by decide), List.foldl_nil]
    have e2 : flP (drP (.mk c r (.some ps) s)) = (c :: r) :: (flL (ofL (drA ps []).reverse) ++ (flE (drO s) ++ [[11]])) := rfl
    rw [e2, ← fl_dr]; simp
theorem dr_E : ∀ (s : PO), wfO s → (flE s).all okF = true → ∀ {S : List Row}, (flE s).foldl fst_ S = (flE (drO s)).reverse ++ S
  | .none, h, ok, S => rfl
  | .some ps, h, ok, S => by
    have e : flE (.some ps) = [5] :: flL ps := rfl
    rw [e] at ok ⊢
    rw [List.foldl_cons, fst_ne (x := [5]) (show (5 : Int) ≠ 26 by decide)]
    have h1 := dr_A ps [] h (all_cons.mp ok).2 (fun p hp => by cases hp) (B := [5] :: S) (by simp [bar, rc])
    rw [show FR [] ++ ([5] :: S) = [5] :: S from rfl] at h1
    have e2 : flE (drO (.some ps)) = [5] :: flL (ofL (drA ps []).reverse) := rfl
    rw [h1, e2, ← fl_dr]; simp
theorem dr_A : ∀ (ps : PL) (acc : List PT), wfL ps → (flL ps).all okF = true → (∀ p ∈ acc, wfP p) → ∀ {B : List Row}, bar B → (flL ps).foldl fst_ (FR acc ++ B) = FR (drA ps acc) ++ B
  | .nil, acc, _, _, _, B, _ => rfl
  | .cons p ps, acc, hw, ok, h, B, hB => by
    have e : flL (.cons p ps) = flP p ++ flL ps := rfl
    rw [e, List.all_append, Bool.and_eq_true] at ok
    rw [e, List.foldl_append, drA]
    by_cases hc : codeP p = 26
    · rw [if_pos hc]
      have hp : flP p = [[26]] := by
        obtain ⟨c, r, f, s⟩ := p
        have hc : c = 26 := hc
        subst hc
        cases f with
        | none =>
          have := okF_26 (all_cons.mp ok.1).1 rfl
          show [26 :: r] = [[26]]
          rw [this]
        | some _ => exact absurd hw.1.1 (by decide)
      rw [hp, List.foldl_cons, List.foldl_nil, show fst_ (FR acc ++ B) [26] = fpd (FR acc ++ B) 1 from rfl, fpd_pd hB acc 1 h]
      exact dr_A ps _ hw.2 ok.2 (wf_pd acc 1 h) hB
    · rw [if_neg hc, dr_P p hw.1 ok.1 hc]
      have h1 := dr_A ps (drP p :: acc) hw.2 ok.2 (fun q hq => by
        rcases List.mem_cons.mp hq with rfl | hq
        · exact wf_drP p hw.1
        · exact h q hq) hB
      rw [FR_cons, List.append_assoc] at h1
      exact h1
end
theorem dr_flat {ps : PL} (hw : wfL ps) (ok : (flL ps).all okF = true) : ((flL ps).foldl fst_ []).reverse = flL (drL ps) := by
  have h := dr_A ps [] hw ok (fun p hp => by cases hp) (B := []) trivial
  rw [show FR [] ++ ([] : List Row) = [] from rfl, List.append_nil] at h
  rw [h, ← fl_dr, List.reverse_reverse]; rfl
end Mine
end
section
set_option maxRecDepth 100000
namespace Mine
theorem st_rep {L : List Row} (hL : ∀ n, fpd L n = rep n ++ L) (h : StR L) : ∀ n, StR (rep n ++ L)
  | 0 => h
  | n + 1 => ⟨(fpd_rep hL n 1).trans rfl, st_rep hL h n⟩
theorem fpd_st : ∀ (L : List Row) (n : Nat), StR L → StR (fpd L n)
  | [], n, _ => by
    have := st_rep (L := []) (fun n => (List.append_nil (rep n)).symm) trivial n
    rwa [List.append_nil] at this
  | x :: L, n, h => by
    rw [fpd]
    split
    · exact h
    split
    · exact fpd_st L _ h.2
    split
    · exact fpd_st L _ h.2
    split
    · exact st_rep (fun n => fpd_dull (x := 33 :: x.tail.take 1) (show isPut 33 = false by decide) (show ¬ 0 < takes 33 by decide) (show (33 : Int) ≠ 34 by decide) n) ⟨fst_ne (show (33 : Int) ≠ 26 by decide), h.2⟩ _
    · rename_i h1 h2 h3
      exact st_rep (fun n => fpd_dull (Bool.eq_false_iff.mpr h1) h2 h3 n) h _
theorem fst_st {L : List Row} {x : Row} (h : StR L) : StR (fst_ L x) := by
  unfold fst_
  split
  · exact fpd_st L 1 h
  · rename_i q; exact ⟨fst_ne q, h⟩
theorem fold_st : ∀ {bd L : List Row}, StR L → StR (bd.foldl fst_ L)
  | [], _, h => h
  | _ :: bd, _, h => fold_st (bd := bd) (fst_st h)
theorem st_fold : ∀ {S : List Row}, StR S → S.reverse.foldl fst_ [] = S
  | [], _ => rfl
  | l :: S, h => by rw [List.reverse_cons, List.foldl_append, st_fold h.2]; exact h.1
theorem fpd_okF : ∀ (L : List Row) (n : Nat), L.all okF = true → (fpd L n).all okF = true
  | [], n, _ => rep_ok n
  | x :: L, n, h => by
    have h2 := (all_cons.mp h).2
    rw [fpd]
    split
    · exact h
    split
    · exact fpd_okF L _ h2
    split
    · exact fpd_okF L _ h2
    split
    · exact all_app (rep_ok _) (all_cons.mpr ⟨rfl, h2⟩)
    · exact all_app (rep_ok _) h
theorem fold_okF : ∀ {bd L : List Row}, bd.all okF = true → L.all okF = true → (bd.foldl fst_ L).all okF = true
  | [], _, _, h => h
  | x :: bd, L, h, hL => by
    refine fold_okF (bd := bd) (all_cons.mp h).2 ?_
    unfold fst_
    split
    · exact fpd_okF L 1 hL
    · exact all_cons.mpr ⟨(all_cons.mp h).1, hL⟩
theorem wS_fpd : ∀ (L : List Row) (n : Nat), L.all okF = true → wS (fpd L n) ≤ wS L + n
  | [], n, _ => by rw [fpd, wS_rep]; exact Nat.le_add_left _ _
  | x :: L, n, h => by
    have ok := all_cons.mp h
    have w := wR_le x
    rw [fpd, wS_cons]
    split
    · rw [wS_cons]; exact lin [wR x, wS L, n] [] false (.v 0) (.a (.v 0) (.v 1)) (.a (.a (.v 0) (.v 1)) (.v 2)) 1 [] (Eq.refl true)
    split
    · have := wS_fpd L (n - 1) ok.2; exact lin [wS (fpd L (n - 1)), wR x, wS L, n, n - 1] [] false (.h false false (.v 0) (.a (.v 2) (.v 4)) (.h false false (.v 4) (.v 3) (.v 0))) (.v 0) (.a (.a (.v 1) (.v 2)) (.v 3)) 1 [1, 1] (Eq.refl true) this (Nat.sub_le (n) (1))
    split
    · rename_i h0 h1 h2
      have := wS_fpd L (n + (takes (rc x)).toNat - 1) ok.2
      have t := takes_le (rc x)
      have hw : wR x = 4 := if_neg fun q => by rw [q] at h2; exact absurd h2 (by decide)
      exact lin [wS (fpd L (n + (takes (rc x)).toNat - 1)), wR x, wS L, n, n + (takes (rc x)).toNat - 1, (takes (rc x)).toNat] [takes (rc x)] false (.h false false (.v 0) (.a (.v 2) (.v 4)) (.h false true (.v 0) (.l 3) (.h true false (.v 1) (.l 4) (.h false false (.v 4) (.a (.v 3) (.v 5)) (.h true true (.c (.v 5)) (.v 0) (.v 0)))))) (.v 0) (.a (.a (.v 1) (.v 2)) (.v 3)) 1 [1, 1, .negSucc 0, 1, 1] (Eq.refl true) this t.1 hw (Nat.sub_le (n + (takes (rc x)).toNat) (1)) (Int.toNat_of_nonneg (lin [] [takes (rc x)] true (.h false true (.l 0) (.v 0) (.v 0)) (.l 0) (.v 0) 1 [1] (Eq.refl true) t.2))
    split
    · rename_i h3
      have hw : wR x = 4 := if_neg fun q => by rw [q] at h3; exact absurd h3 (by decide)
      rw [wS_app, wS_rep, wS_cons, show wR (33 :: x.tail.take 1) = 4 from rfl]; exact lin [n - 1, wS L, wR x, n] [] false (.h true false (.v 2) (.l 4) (.h false false (.v 0) (.v 3) (.v 0))) (.a (.v 0) (.a (.l 4) (.v 1))) (.a (.a (.v 2) (.v 1)) (.v 3)) 1 [.negSucc 0, 1] (Eq.refl true) hw (Nat.sub_le (n) (1))
    · rw [wS_app, wS_rep, wS_cons]; exact lin [n, wR x, wS L] [] false (.v 0) (.a (.v 0) (.a (.v 1) (.v 2))) (.a (.a (.v 1) (.v 2)) (.v 0)) 1 [] (Eq.refl true)
theorem wS_fold : ∀ {bd L : List Row}, bd.all okF = true → L.all okF = true → wS (bd.foldl fst_ L) ≤ wS L + wS bd
  | [], _, _, _ => Nat.le_refl _
  | x :: bd, L, h, hL => by
    have ok := all_cons.mp h
    have h1 : wS (fst_ L x) ≤ wS L + wR x ∧ (fst_ L x).all okF = true := by
      unfold fst_
      split
      · rename_i q
        have : wR x = 1 := if_pos q
        rw [this]
        exact ⟨wS_fpd L 1 hL, fpd_okF L 1 hL⟩
      · rw [wS_cons, Nat.add_comm]
        exact ⟨Nat.le_refl _, all_cons.mpr ⟨ok.1, hL⟩⟩
    have := wS_fold (bd := bd) ok.2 h1.2
    rw [List.foldl_cons, wS_cons]; exact lin [wS (List.foldl fst_ (fst_ L x) bd), wS L, wR x, wS bd, wS (fst_ L x)] [] false (.h false false (.v 4) (.a (.v 1) (.v 2)) (.h false false (.v 0) (.a (.v 4) (.v 3)) (.v 0))) (.v 0) (.a (.v 1) (.a (.v 2) (.v 3))) 1 [1, 1] (Eq.refl true) h1.1 this
mutual
theorem okQ_P : ∀ p : PT, wfP p → (flP p).all okF = true → okQP p
  | .mk c r .none s, h, ok => by
    obtain ⟨rfl, _⟩ := h
    refine ⟨⟨fun q => ?_, trivial⟩, trivial, trivial⟩
    obtain ⟨a, t, e⟩ := okF_34 (all_cons.mp ok).1 q
    rintro rfl; cases e
  | .mk c r (.some ps) s, h, ok => by
    have ok1 := all_cons.mp ok
    have ok2 : (flL ps ++ (flE s ++ [[11]])).all okF = true := ok1.2
    rw [List.all_append, List.all_append, Bool.and_eq_true, Bool.and_eq_true] at ok2
    exact ⟨⟨fun q => by rcases h.1 with h | h | h <;> rw [q] at h <;> exact absurd h (by decide), by cases s <;> trivial⟩, okQ_L ps h.2.1 ok2.1, okQ_E s h.2.2 ok2.2.1⟩
theorem okQ_E : ∀ s : PO, wfO s → (flE s).all okF = true → okQO s
  | .none, _, _ => trivial
  | .some ps, h, ok => okQ_L ps h (all_cons.mp ok).2
theorem okQ_L : ∀ ps : PL, wfL ps → (flL ps).all okF = true → okQL ps
  | .nil, _, _ => trivial
  | .cons p ps, h, ok => by
    have ok : (flP p ++ flL ps).all okF = true := ok
    rw [List.all_append, Bool.and_eq_true] at ok
    exact ⟨okQ_P p h.1 ok.1, okQ_L ps h.2 ok.2⟩
end
theorem dp_ofL {n : Nat} : ∀ {l : List PT}, (∀ p ∈ l, dpP p ≤ n) → dpL (ofL l) ≤ n
  | [], _ => Nat.zero_le _
  | p :: l, h => Nat.max_le.mpr ⟨h p List.mem_cons_self, dp_ofL fun q hq => h q (List.mem_cons_of_mem _ hq)⟩
theorem dp_pd {n : Nat} : ∀ (acc : List PT) (m : Nat), (∀ p ∈ acc, dpP p ≤ n) → ∀ p ∈ pd acc m, dpP p ≤ n := by
  have rp : ∀ m, ∀ p ∈ List.replicate m (leaf 26 []), dpP p ≤ n := fun m p hp => by rw [List.eq_of_mem_replicate hp]; exact Nat.zero_le _
  intro acc
  induction acc with
  | nil => exact fun m _ => rp m
  | cons q rest ih =>
    intro m h
    obtain ⟨c, r, f, s⟩ := q
    have hr := fun p hp => h p (List.mem_cons_of_mem _ hp)
    rw [pd]
    split
    · exact h
    split
    · exact ih _ hr
    split
    · exact ih _ hr
    split
    · intro p hp
      rcases List.mem_append.mp hp with hp | hp
      · exact rp _ p hp
      · rcases List.mem_cons.mp hp with rfl | hp
        · exact Nat.zero_le _
        · exact hr p hp
    · intro p hp
      rcases List.mem_append.mp hp with hp | hp
      · exact rp _ p hp
      · exact h p hp
mutual
theorem dp_drP : ∀ p : PT, dpP (drP p) ≤ dpP p
  | .mk c r f s => Nat.max_le.mpr ⟨Nat.le_trans (dp_drO f) (Nat.le_max_left _ _), Nat.le_trans (dp_drO s) (Nat.le_max_right _ _)⟩
theorem dp_drO : ∀ s : PO, dpO (drO s) ≤ dpO s
  | .none => Nat.le_refl _
  | .some ps => Nat.succ_le_succ (dp_ofL fun p hp => dp_drA ps [] (Nat.le_refl _) (fun p hp => by cases hp) p (List.mem_reverse.mp hp))
theorem dp_drA : ∀ (ps : PL) (acc : List PT) {n : Nat}, dpL ps ≤ n → (∀ p ∈ acc, dpP p ≤ n) → ∀ p ∈ drA ps acc, dpP p ≤ n
  | .nil, acc, n, _, h => h
  | .cons p ps, acc, n, hd, h => by
    have hd := Nat.max_le.mp hd
    rw [drA]
    split
    · exact dp_drA ps _ hd.2 (dp_pd acc 1 h)
    · refine dp_drA ps _ hd.2 fun q hq => ?_
      rcases List.mem_cons.mp hq with rfl | hq
      · exact Nat.le_trans (dp_drP p) hd.1
      · exact h q hq
end
/-- a body and what becomes of it -/
structure Dr2 (ps : PL) : Prop where
  wf : wfL (drL ps)
  fl : (flL (drL ps)).all okF = true
  len : (flL (drL ps)).length ≤ 300
  dp : dpL (drL ps) ≤ 3
  eq : flL (drL ps) = ((flL ps).foldl fst_ []).reverse
  idem : flL (drL (drL ps)) = flL (drL ps)
theorem Gd.dr2 {ps : PL} (h : Gd 3 ps) (hl : (flL ps).length ≤ 70) : Dr2 ps := by
  have e := dr_flat h.wf h.fl
  have hw : wfL (drL ps) := wf_ofL fun p hp => wf_drA ps [] h.wf (fun p hp => by cases hp) p (List.mem_reverse.mp hp)
  have ok : ((flL ps).foldl fst_ []).all okF = true := fold_okF h.fl rfl
  have okr : (flL (drL ps)).all okF = true := by rw [← e, List.all_reverse]; exact ok
  refine ⟨hw, okr, ?_, dp_ofL fun p hp => dp_drA ps [] h.dp (fun p hp => by cases hp) p (List.mem_reverse.mp hp), e.symm, ?_⟩
  · have w := wS_fold (L := []) h.fl rfl
    have w1 := len_wS ((flL ps).foldl fst_ [])
    have w2 := len_wS (flL ps)
    have : wS ([] : List Row) = 0 := rfl
    rw [← e, List.length_reverse]; exact lin [(List.foldl fst_ [] (flL ps)).length, (flL ps).length, wS (List.foldl fst_ [] (flL ps)), wS [], wS (flL ps)] [] false (.h false false (.v 1) (.l 70) (.h false false (.v 2) (.a (.v 3) (.v 4)) (.h false false (.v 0) (.v 2) (.h false false (.v 4) (.m 4 (.v 1)) (.h true false (.v 3) (.l 0) (.v 0)))))) (.v 0) (.l 300) 1 [4, 1, 1, 1, 1] (Eq.refl true) hl w w1.1 w2.2 this
  · rw [← dr_flat hw okr, ← e, st_fold (fold_st (L := []) trivial)]
end Mine
end
section
set_option maxRecDepth 100000
namespace Mine
theorem pick_len {xs : List AV} {lo st : Int} (h : 0 < st) : (pickL xs (some lo) none (some st)).length ≤ xs.length := by
  unfold pickL
  refine Nat.le_trans (List.length_filterMap_le _ _) (sliceRange_length_le _ _ _ _ (fun hc => ?_) fun hc => absurd h hc)
  simp only [sliceBounds, Option.getD_some, h, gt_iff_lt, if_true]
  omega
theorem pick_mem {xs : List AV} {lo hi st : Option Int} : ∀ v ∈ pickL xs lo hi st, v ∈ xs := fun v hv => by
  obtain ⟨i, _, h⟩ := List.mem_filterMap.mp hv
  exact List.mem_of_getElem? h
theorem pick_iv {sc : List Int} {lo hi st : Option Int} : ∃ sc', pickL (iv sc) lo hi st = iv sc' := by
  have : ∀ xs : List AV, (∀ v ∈ xs, v ∈ iv sc) → ∃ sc', xs = iv sc' := by
    intro xs
    induction xs with
    | nil => exact fun _ => ⟨[], rfl⟩
    | cons v xs ih =>
      intro h
      obtain ⟨sc', rfl⟩ := ih fun w hw => h w (List.mem_cons_of_mem _ hw)
      obtain ⟨i, _, rfl⟩ := List.mem_map.mp (h v List.mem_cons_self)
      exact ⟨i :: sc', rfl⟩
  exact this _ pick_mem
section
variable {X : Cx} {k : Nat} {M : Mem} {Q : AV → Mem → Prop}
theorem end_ok {ps : PL} (h : Gd 3 ps) : (flL ps ++ [[11]]).all okF = true := all_app h.fl rfl
theorem drops_right (H : Std X) {ps : PL} (h : Gd 3 ps) (hl : (flL ps).length ≤ 70) (hQ : ∀ M, Q (.bool true) M) : Spec X (k + 16) 26 [.lst (rows (flL ps ++ [[11]]))] M (fun r M => Spec X (k + 16) 21 [.lst (rows (flL ps ++ [[11]])), r, .bool false] M Q) := by
  have d := h.dr2 hl
  have hlim : lim = 1048576 := by decide
  have e : ((flL ps ++ [[11]]).foldl fst_ []).reverse = flL (drL ps) ++ [[11]] := by
    rw [List.foldl_append, List.foldl_cons, fst_ne (x := [11]) (show (11 : Int) ≠ 26 by decide), List.foldl_nil, List.reverse_cons, d.eq]
  refine dropped_spec (k := k + 14) H (end_ok h) (by rw [List.length_append, List.length_singleton]; exact lin [(flL ps).length] [] false (.h false false (.v 0) (.l 70) (.v 0)) (.a (.v 0) (.l 1)) (.l 100) 1 [1] (Eq.refl true) hl) fun M' => ?_
  rw [e]
  have hdp := h.dp
  have h3 := d.dp
  have hln := d.len
  have q2 : dpL (drL (drL ps)) ≤ 3 := dp_ofL fun p hp => dp_drA (drL ps) [] d.dp (fun p hp => by cases hp) p (List.mem_reverse.mp hp)
  refine right_spec (k := k) H (dead := false) h.wf (by exact lin [(flL ps).length, lim] [] false (.h false false (.v 0) (.l 70) (.h true false (.v 1) (.l 1048576) (.v 0))) (.a (.a (.v 0) (.l 10)) (.l 1)) (.v 1) 1 [1, .negSucc 0] (Eq.refl true) hl hlim) (by exact lin [dpL ps] [] false (.h false false (.v 0) (.l 3) (.v 0)) (.v 0) (.l 5) 1 [1] (Eq.refl true) hdp) (by exact lin [(flL (drL ps)).length, lim] [] false (.h true false (.v 1) (.l 1048576) (.h false false (.v 0) (.l 300) (.v 0))) (.a (.v 0) (.l 1)) (.v 1) 1 [.negSucc 0, 1] (Eq.refl true) hlim hln) (by exact lin [dpL (drL ps)] [] false (.h false false (.v 0) (.l 3) (.v 0)) (.v 0) (.l 5) 1 [1] (Eq.refl true) h3) (drop_call H (by exact lin [dpL ps] [] false (.h false false (.v 0) (.l 3) (.v 0)) (.v 0) (.l 5) 1 [1] (Eq.refl true) hdp) (okQ_L ps h.wf h.fl) (by exact lin [(flL ps).length] [] false (.h false false (.v 0) (.l 70) (.v 0)) (.a (.v 0) (.l 1)) (.l 100000) 1 [1] (Eq.refl true) hl)) d.wf (by exact lin [(flL (drL ps)).length, lim] [] false (.h true false (.v 1) (.l 1048576) (.h false false (.v 0) (.l 300) (.v 0))) (.a (.a (.v 0) (.l 10)) (.l 1)) (.v 1) 1 [.negSucc 0, 1] (Eq.refl true) hlim hln) (by exact lin [dpL (drL ps)] [] false (.h false false (.v 0) (.l 3) (.v 0)) (.v 0) (.l 5) 1 [1] (Eq.refl true) h3) (by rw [d.idem]; exact lin [(flL (drL ps)).length, lim] [] false (.h true false (.v 1) (.l 1048576) (.h false false (.v 0) (.l 300) (.v 0))) (.a (.v 0) (.l 1)) (.v 1) 1 [.negSucc 0, 1] (Eq.refl true) hlim hln) (by exact lin [dpL (drL (drL ps))] [] false (.h false false (.v 0) (.l 3) (.v 0)) (.v 0) (.l 5) 1 [1] (Eq.refl true) q2) (drop_call H (by exact lin [dpL (drL ps)] [] false (.h false false (.v 0) (.l 3) (.v 0)) (.v 0) (.l 5) 1 [1] (Eq.refl true) h3) (okQ_L _ d.wf d.fl) (by exact lin [(flL (drL ps)).length] [] false (.h false false (.v 0) (.l 300) (.v 0)) (.a (.v 0) (.l 1)) (.l 100000) 1 [1] (Eq.refl true) hln)) rfl d.idem (hQ M')
theorem dead_right (H : Std X) {l : NL} (hw : wNL [0] l) (hc : cntL l ≤ 10) (hQ : Q (.bool true) M) : Spec X (k + 16) 21 [.lst (rows (flL (tL [0] l) ++ [[11]])), .lst (rows (flL (tL [0] (cmL l).1) ++ [[11]])), .bool true] M Q := by
  have hlim : lim = 1048576 := by decide
  have nd : ([0] : List Int).Nodup := by decide
  have e := (dn_L l hw nd).1
  have hw2 := w_L [0] l hw
  have s1 := Nat.le_trans (sz_L l (m := 3) hw (by decide)) (Nat.mul_le_mul_right (wM 3) hc)
  have s2 := Nat.le_trans (sz_L (cmL l).1 (m := 3) hw2 (by decide)) (Nat.mul_le_mul_right (wM 3) (Nat.le_trans (cnt_cm l) hc))
  have l1 := Nat.le_trans (len_L l (op := [0])) s1
  have l2 := Nat.le_trans (len_L (cmL l).1 (op := [0])) s2
  have d1 := dp_L l (m := 3) hw (by decide)
  have d2 := dp_L (cmL l).1 (m := 3) hw2 (by decide)
  have hm : 10 * wM 3 = 23320 := by decide
  have e2 : cdL (tL [0] (cmL l).1) = tL [0] (cmL l).1 := by rw [← e]; exact id_L _
  refine right_spec (k := k) H (dead := true) (wf_L l hw) (by exact lin [(flL (tL [0] l)).length, lim, wM 3] [] false (.h true false (.v 1) (.l 1048576) (.h false false (.v 0) (.m 10 (.v 2)) (.h true false (.m 10 (.v 2)) (.l 23320) (.v 0)))) (.a (.a (.v 0) (.l 10)) (.l 1)) (.v 1) 1 [.negSucc 0, 1, 1] (Eq.refl true) hlim l1 hm) (by exact lin [dpL (tL [0] l)] [] false (.h false false (.v 0) (.l 3) (.v 0)) (.v 0) (.l 5) 1 [1] (Eq.refl true) d1) (by rw [e]; exact lin [(flL (tL [0] (cmL l).fst)).length, lim, wM 3] [] false (.h true false (.v 1) (.l 1048576) (.h false false (.v 0) (.m 10 (.v 2)) (.h true false (.m 10 (.v 2)) (.l 23320) (.v 0)))) (.a (.v 0) (.l 1)) (.v 1) 1 [.negSucc 0, 1, 1] (Eq.refl true) hlim l2 hm) (by rw [e]; exact lin [dpL (tL [0] (cmL l).fst)] [] false (.h false false (.v 0) (.l 3) (.v 0)) (.v 0) (.l 5) 1 [1] (Eq.refl true) d2) (cut_call H (by exact lin [dpL (tL [0] l)] [] false (.h false false (.v 0) (.l 3) (.v 0)) (.v 0) (.l 5) 1 [1] (Eq.refl true) d1) (ok_L l hw) (by exact lin [(flL (tL [0] l)).length, lim, wM 3] [] false (.h true false (.v 1) (.l 1048576) (.h false false (.v 0) (.m 10 (.v 2)) (.h true false (.m 10 (.v 2)) (.l 23320) (.v 0)))) (.a (.v 0) (.l 1)) (.v 1) 1 [.negSucc 0, 1, 1] (Eq.refl true) hlim l1 hm)) (wf_L _ hw2) (by exact lin [(flL (tL [0] (cmL l).fst)).length, lim, wM 3] [] false (.h true false (.v 1) (.l 1048576) (.h false false (.v 0) (.m 10 (.v 2)) (.h true false (.m 10 (.v 2)) (.l 23320) (.v 0)))) (.a (.a (.v 0) (.l 10)) (.l 1)) (.v 1) 1 [.negSucc 0, 1, 1] (Eq.refl true) hlim l2 hm) (by exact lin [dpL (tL [0] (cmL l).fst)] [] false (.h false false (.v 0) (.l 3) (.v 0)) (.v 0) (.l 5) 1 [1] (Eq.refl true) d2) (by rw [e2]; exact lin [(flL (tL [0] (cmL l).fst)).length, lim, wM 3] [] false (.h true false (.v 1) (.l 1048576) (.h false false (.v 0) (.m 10 (.v 2)) (.h true false (.m 10 (.v 2)) (.l 23320) (.v 0)))) (.a (.v 0) (.l 1)) (.v 1) 1 [.negSucc 0, 1, 1] (Eq.refl true) hlim l2 hm) (by rw [e2]; exact lin [dpL (tL [0] (cmL l).fst)] [] false (.h false false (.v 0) (.l 3) (.v 0)) (.v 0) (.l 5) 1 [1] (Eq.refl true) d2) (cut_call H (by exact lin [dpL (tL [0] (cmL l).fst)] [] false (.h false false (.v 0) (.l 3) (.v 0)) (.v 0) (.l 5) 1 [1] (Eq.refl true) d2) (ok_L _ hw2) (by exact lin [(flL (tL [0] (cmL l).fst)).length, lim, wM 3] [] false (.h true false (.v 1) (.l 1048576) (.h false false (.v 0) (.m 10 (.v 2)) (.h true false (.m 10 (.v 2)) (.l 23320) (.v 0)))) (.a (.v 0) (.l 1)) (.v 1) 1 [.negSucc 0, 1, 1] (Eq.refl true) hlim l2 hm)) (by rw [e]) (by rw [e2]) hQ
/-- one row and a drop behind it -/
noncomputable def rowElt : ME := .call 21 (.cons (.list (.cons (.loc 7) (.cons (.tuple (.cons (.con (.int (26))) .nil)) (.cons (.tuple (.cons (.con (.int (11))) .nil)) .nil)))) (.cons (.call 26 (.cons (.list (.cons (.loc 7) (.cons (.tuple (.cons (.con (.int (26))) .nil)) (.cons (.tuple (.cons (.con (.int (11))) .nil)) .nil)))) .nil)) (.cons (.con (.bool false)) .nil)))
theorem row_elt (H : Std X) {r : Row} (hr : okRow r = true) {P : QE} (hP : ∀ M, P (.bool true) M [none, none, none, none, none, none, none, some (tI r)]) : WE gAV (Spec X (k + 16)) rowElt P M [none, none, none, none, none, none, none, some (tI r)] := by
  have l {n : Nat} (h : Nat.ble n lim = true) : n ≤ lim := Nat.le_of_ble_eq_true h
  have hz : Zst [] ([] ++ [r, [26]]) := Zst.adds (bd := []) [r, [26]] (by rw [List.all_cons, hr]; rfl) ⟨[], .nil, .top, .nil, rfl⟩
  obtain ⟨ps, g1, g2⟩ := hz.done
  have e : rows (flL ps ++ [[11]]) = [tI r, tI [26], tI [11]] := by rw [g2]; rfl
  have h := drops_right (k := k) (M := M) (Q := fun r0 M => P r0 M [none, none, none, none, none, none, none, some (tI r)]) H g1 (by rw [g2]; show 2 ≤ 70; decide) hP
  rw [e] at h
  exact ⟨l rfl, l rfl, l rfl, .inl ⟨l rfl, l rfl, l rfl, .inl h⟩⟩
theorem row_loop (H : Std X) {chk : Mem → Prop} {K : List AV → Mem → Prop} (hc : ∀ M, chk M) : ∀ (xs : List AV) (n : Nat) {M : Mem}, (∀ v ∈ xs, ∃ r, v = tI r ∧ okRow r = true) → (∀ M, K (List.replicate (n + xs.length) (.bool true)) M) →
    wComp chk (fun v k' M => [none, none, none, none, none, none, none, some v] = [none, none, none, none, none, none, none, some v] ∧ WE gAV (Spec X (k + 16)) rowElt (fun r M ρ2 => ρ2 = [none, none, none, none, none, none, none, some v] ∧ k' (some r) M) M [none, none, none, none, none, none, none, some v]) K xs (List.replicate n (.bool true)) M
  | [], n, M, _, hK => ⟨hc M, hK M⟩
  | v :: xs, n, M, hx, hK => ⟨hc M, by
      obtain ⟨r, rfl, hr⟩ := hx v List.mem_cons_self
      refine ⟨rfl, row_elt H hr fun M' => ⟨rfl, ?_⟩⟩
      dsimp only
      rw [← List.replicate_succ']
      exact row_loop H hc xs (n + 1) (fun v hv => hx v (List.mem_cons_of_mem _ hv)) fun M => by
        have := hK M
        rwa [List.length_cons, ← Nat.add_assoc, Nat.add_right_comm] at this⟩
theorem toB_rep : ∀ n, toBools (List.replicate n (.bool true)) = some (List.replicate n true)
  | 0 => rfl
  | n + 1 => by rw [List.replicate_succ, toBools, toB_rep n]; rfl
end
end Mine
end
section
set_option maxRecDepth 100000
namespace Mine
section
variable {X : Cx} {k : Nat} {M : Mem} {Q : AV → Mem → Prop}
noncomputable def lawA : MS := sndS ms_law
noncomputable def lawB : MS := sndS lawA
noncomputable def lawC : MS := sndS (sndS lawB)
noncomputable def lawD : MS := sndS (sndS lawC)
/-- all the rows by themselves -/
theorem law_D (H : Std X) {K : Mem → Env0 → Prop} {R : AV → Mem → Prop} {sc : List Int} {x1 x2 x3 x4 : Option AV} (hs : sc.length ≤ 63) (hR : ∀ M, R (.bool true) M) :
    WS gAV (Spec X (k + 16)) lawD K R M [some (.lst (iv sc)), x1, x2, x3, x4, none, none, none] := by
  have l {n : Nat} (h : Nat.ble n lim = true) : n ≤ lim := Nat.le_of_ble_eq_true h
  have hlim : lim = 1048576 := by decide
  refine ⟨_, _, rfl, toInts_map _, by exact lin [sc.length, lim] [] false (.h false false (.v 0) (.l 63) (.h true false (.v 1) (.l 1048576) (.v 0))) (.v 0) (.v 1) 1 [1, .negSucc 0] (Eq.refl true) hs hlim, by decide, ?_⟩
  obtain ⟨a, b⟩ := fm sc.sum (b := 3) (by decide)
  generalize sc.sum.fmod 3 = y at a b
  refine numbers_spec (k := k + 15) H (others_spec (k := k + 15) H ⟨rfl, _, _, rfl, rfl, l rfl, .inl ⟨_, _, _, rfl, rfl, rfl, (fun q => by cases q), _, rfl, l rfl, ?_⟩⟩)
  have hlen : (pickL (rows numRows ++ rows (othRows y)) (some y) none (some 3)).length ≤ 94 := pick_len (by decide)
  have hmem : ∀ v ∈ pickL (rows numRows ++ rows (othRows y)) (some y) none (some 3), ∃ r, v = tI r ∧ okRow r = true := fun v hv => by
    rcases List.mem_append.mp (pick_mem v hv) with h | h <;> obtain ⟨r, hr, rfl⟩ := List.mem_map.mp h
    · exact ⟨r, rfl, List.all_eq_true.mp num_ok r hr⟩
    · exact ⟨r, rfl, List.all_eq_true.mp (oth_ok y) r hr⟩
  generalize pickL (rows numRows ++ rows (othRows y)) (some y) none (some 3) = L at hlen hmem
  refine ⟨by exact lin [L.length, lim] [] false (.h true false (.v 1) (.l 1048576) (.h false false (.v 0) (.l 94) (.v 0))) (.v 0) (.v 1) 1 [.negSucc 0, 1] (Eq.refl true) hlim hlen, .inl ⟨_, _, rfl, by exact lin [L.length, lim] [] false (.h true false (.v 1) (.l 1048576) (.h false false (.v 0) (.l 94) (.v 0))) (.v 0) (.v 1) 1 [.negSucc 0, 1] (Eq.refl true) hlim hlen, ?_⟩⟩
  refine row_loop (k := k) H (fun _ => trivial) L 0 hmem fun M' => ⟨by rw [List.length_replicate]; exact lin [L.length, lim] [] false (.h true false (.v 1) (.l 1048576) (.h false false (.v 0) (.l 94) (.v 0))) (.a (.l 0) (.v 0)) (.v 1) 1 [.negSucc 0, 1] (Eq.refl true) hlim hlen, .inl ⟨_, _, rfl, toB_rep _, by rw [List.length_replicate]; exact lin [L.length, lim] [] false (.h true false (.v 1) (.l 1048576) (.h false false (.v 0) (.l 94) (.v 0))) (.a (.l 0) (.v 0)) (.v 1) 1 [.negSucc 0, 1] (Eq.refl true) hlim hlen, ?_⟩⟩
  have e : ∀ n, (List.replicate n true).all id = true := fun n => by simp
  rw [e]
  exact hR M'
/-- the drops -/
theorem law_C (H : Std X) {K : Mem → Env0 → Prop} {R : AV → Mem → Prop} {sc ts : List Int} {o : Addr} {x1 x3 x4 : Option AV} (hs : sc.length ≤ 63) (ho : M o = some (.list (iv ts))) (hl : ts.length < lim) (hR : ∀ M, R (.bool true) M) :
    WS gAV (Spec X (k + 16)) lawC K R M [some (.lst (iv sc)), x1, some (.ref o), x3, x4, none, none, none] := by
  refine drops_law (k := k + 14) H ho hl fun ps M1 g1 g2 => ?_
  refine drops_right (k := k) H g1 g2 fun M2 => ?_
  exact law_D (k := k) H hs hR
/-- the tree -/
theorem law_B (H : Std X) {K : Mem → Env0 → Prop} {R : AV → Mem → Prop} {sc ts : List Int} {o : Addr} {x1 : Option AV} {l : NL} (hw : wNL [0] l) (hc : cntL l ≤ 10) (hs : sc.length ≤ 63) (ho : M o = some (.list (iv ts))) (hl : ts.length < lim) (hR : ∀ M, R (.bool true) M) :
    WS gAV (Spec X (k + 16)) lawB K R M [some (.lst (iv sc)), x1, some (.ref o), some (.lst (nvL l)), none, none, none, none] := by
  have lm {n : Nat} (h : Nat.ble n lim = true) : n ≤ lim := Nat.le_of_ble_eq_true h
  have hlim : lim = 1048576 := by decide
  have hw2 := w_L [0] l hw
  have s1 := Nat.le_trans (sz_L l (m := 3) hw (by decide)) (Nat.mul_le_mul_right (wM 3) hc)
  have s2 := Nat.le_trans (sz_L (cmL l).1 (m := 3) hw2 (by decide)) (Nat.mul_le_mul_right (wM 3) (Nat.le_trans (cnt_cm l) hc))
  have l1 := Nat.le_trans (len_L l (op := [0])) s1
  have l2 := Nat.le_trans (len_L (cmL l).1 (op := [0])) s2
  have hm : 10 * wM 3 = 23320 := by decide
  rw [hm] at s1 l1 l2
  have e : ∀ a : List Row, rows a ++ [.tup [.int 11]] = rows (a ++ [[11]]) := fun a => by simp [tI]
  have len : ∀ a : List Row, a.length ≤ 23320 → (rows a ++ [AV.tup [.int 11]]).length ≤ lim := fun a h => by rw [List.length_append, List.length_map]; show a.length + 1 ≤ lim; exact lin [a.length, lim] [] false (.h true false (.v 1) (.l 1048576) (.h false false (.v 0) (.l 23320) (.v 0))) (.a (.v 0) (.l 1)) (.v 1) 1 [.negSucc 0, 1] (Eq.refl true) hlim h
  refine ⟨lm rfl, .inl (flat_spec (k := k + 12) H 3 M _ [0] l hw (by decide) (by decide) (by exact lin [(flL (tL [0] l)).length] [] false (.h false false (.v 0) (.l 23320) (.v 0)) (.v 0) (.l 100000) 1 [1] (Eq.refl true) l1) ⟨lm rfl, lm rfl, .inl ⟨rfl, _, _, rfl, rfl, len _ l1, .inl ?_⟩⟩)⟩
  refine come_spec (k := k + 12) H 3 M _ [0] l hw (by decide) (by decide) (by exact lin [szL l] [] false (.h false false (.v 0) (.l 23320) (.v 0)) (.v 0) (.l 100000) 1 [1] (Eq.refl true) s1) ⟨_, _, rfl, rfl, by decide, by decide, lm rfl, .inl ?_⟩
  refine flat_spec (k := k + 12) H 3 M _ [0] (cmL l).1 hw2 (by decide) (by decide) (by exact lin [(flL (tL [0] (cmL l).fst)).length] [] false (.h false false (.v 0) (.l 23320) (.v 0)) (.v 0) (.l 100000) 1 [1] (Eq.refl true) l2) ⟨lm rfl, lm rfl, .inl ⟨rfl, _, _, rfl, rfl, len _ l2, .inl ?_⟩⟩
  show Spec X (k + 16) 21 [.lst (rows (flL (tL [0] l)) ++ [.tup [.int 11]]), .lst (rows (flL (tL [0] (cmL l).1)) ++ [.tup [.int 11]]), .bool true] M _
  rw [e, e]
  refine dead_right (k := k) H hw hc ?_
  exact law_C (k := k) H hs ho hl hR
theorem law_spec (H : Std X) {sc : List Int} (hs : sc.length ≤ 63) (hQ : ∀ M, Q (.bool true) M) : Spec X (k + 17) 27 [.lst (iv sc)] M Q := by
  have lm {n : Nat} (h : Nat.ble n lim = true) : n ≤ lim := Nat.le_of_ble_eq_true h
  have hlim : lim = 1048576 := by decide
  have hl0 : (iv sc).length ≤ 63 := by rw [List.length_map]; exact hs
  refine H.fn tr_law rfl ?_
  have sl : ∀ lo : Int, ∃ ts, pickL (iv sc) (some lo) none (some 2) = iv ts ∧ ts.length ≤ 63 := fun lo => by
    obtain ⟨ts, e⟩ := pick_iv (sc := sc) (lo := some lo) (hi := none) (st := some 2)
    refine ⟨ts, e, ?_⟩
    have := pick_len (xs := iv sc) (lo := lo) (st := 2) (by decide)
    rw [e, List.length_map] at this
    exact lin [ts.length, (iv sc).length] [] false (.h false false (.v 1) (.l 63) (.h false false (.v 0) (.v 1) (.v 0))) (.v 0) (.l 63) 1 [1, 1] (Eq.refl true) hl0 this
  obtain ⟨t1, e1, b1⟩ := sl 1
  obtain ⟨t2, e2, b2⟩ := sl 0
  have il : ∀ t : List Int, t.length ≤ 63 → (iv t).length ≤ lim := fun t h => by rw [List.length_map]; exact lin [t.length, lim] [] false (.h true false (.v 1) (.l 1048576) (.h false false (.v 0) (.l 63) (.v 0))) (.v 0) (.v 1) 1 [.negSucc 0, 1] (Eq.refl true) hlim h
  have rl : ∀ t : List Int, (iv t).reverse = iv t.reverse := fun t => (List.map_reverse).symm
  refine ⟨_, _, _, rfl, rfl, rfl, (fun q => by cases q), _, rfl, by exact lin [(iv sc).length, lim] [] false (.h true false (.v 1) (.l 1048576) (.h false false (.v 0) (.l 63) (.v 0))) (.v 0) (.v 1) 1 [.negSucc 0, 1] (Eq.refl true) hlim hl0, ?_⟩
  rw [e1]
  refine ⟨il _ b1, .inl ⟨_, _, _, rfl, rfl, rfl, (fun q => by cases q), _, rfl, il _ b1, ?_⟩⟩
  rw [pick_rev, rl]
  refine ⟨il _ (by rw [List.length_reverse]; exact b1), .inr fun t ht => ?_⟩
  refine ⟨_, _, _, rfl, rfl, rfl, (fun q => by cases q), _, rfl, by exact lin [(iv sc).length, lim] [] false (.h true false (.v 1) (.l 1048576) (.h false false (.v 0) (.l 63) (.v 0))) (.v 0) (.v 1) 1 [.negSucc 0, 1] (Eq.refl true) hlim hl0, ?_⟩
  rw [e2]
  refine ⟨il _ b2, .inl ⟨_, _, _, rfl, rfl, rfl, (fun q => by cases q), _, rfl, il _ b2, ?_⟩⟩
  rw [pick_rev, rl]
  refine ⟨il _ (by rw [List.length_reverse]; exact b2), .inr fun o ho => ⟨lm rfl, _, rfl, rfl, fun st hst => ⟨lm rfl, .inl ?_⟩⟩⟩
  have hto : t ≠ o := fun q => by rw [← q, upd_self] at ho; cases ho
  have hos : o ≠ st := fun q => by rw [← q, upd_self] at hst; cases hst
  have hts : t ≠ st := fun q => by rw [← q, upd_ne hto, upd_self] at hst; cases hst
  generalize hM : upd (upd (upd M t (.list (iv t1.reverse))) o (.list (iv t2.reverse))) st (.dict [(3, .int 0)]) = M1
  have m1 : M1 t = some (.list (iv t1.reverse)) := by rw [← hM, upd_ne hts, upd_ne hto, upd_self]
  have m2 : M1 o = some (.list (iv t2.reverse)) := by rw [← hM, upd_ne hos, upd_self]
  have m3 : M1 st = some (.dict [(3, .int 0)]) := by rw [← hM, upd_self]
  refine law_next_spec (k := k + 15) H m1 (by rw [List.length_reverse]; exact lin [t1.length, lim] [] false (.h true false (.v 1) (.l 1048576) (.h false false (.v 0) (.l 63) (.v 0))) (.a (.v 0) (.l 1)) (.v 1) 1 [.negSucc 0, 1] (Eq.refl true) hlim b1) fun M2 ts2 x a1 a2 _ a4 => ⟨by decide, ?_⟩
  rw [List.length_reverse] at a2
  obtain ⟨f0, f5⟩ := fm x (b := 5) (by decide)
  obtain ⟨c, hc, hc2⟩ : ∃ c : Nat, 3 + x.fmod 5 = (c : Int) ∧ c ≤ 10 := ⟨(3 + x.fmod 5).toNat, by exact linE [(3 + x.fmod 5).toNat] [x.fmod 5] true (.h true true (.c (.v 0)) (.a (.l 3) (.v 0)) (.v 0)) (.a (.l 3) (.v 0)) (.c (.v 0)) 1 [.negSucc 0] 1 [1] (Eq.refl true) (Eq.refl true) (Int.toNat_of_nonneg (lin [] [x.fmod 5] true (.h false true (.l 0) (.v 0) (.v 0)) (.l 0) (.a (.l 3) (.v 0)) 1 [1] (Eq.refl true) f0)), by exact lin [(3 + x.fmod 5).toNat] [x.fmod 5] false (.h false true (.a (.v 0) (.l 1)) (.l 5) (.h true true (.c (.v 0)) (.a (.l 3) (.v 0)) (.v 0))) (.v 0) (.l 10) 1 [1, 1] (Eq.refl true) f5 (Int.toNat_of_nonneg (lin [] [x.fmod 5] true (.h false true (.l 0) (.v 0) (.v 0)) (.l 0) (.a (.l 3) (.v 0)) 1 [1] (Eq.refl true) f0))⟩
  show Spec X (k + 16) 18 [.ref t, .ref st, .lst (iv [0]), .int (3 + x.fmod 5)] M2 _
  rw [hc]
  refine (node_all (k := k + 7) H 3).2 M2 _ t st ts2 0 [0] c hc2 ⟨a1, (a4 st hts.symm).trans m3, hts, by exact lin [ts2.length, lim, t1.length] [] false (.h true false (.v 1) (.l 1048576) (.h false false (.v 2) (.l 63) (.h false false (.v 0) (.v 2) (.v 0)))) (.a (.v 0) (.l 1)) (.v 1) 1 [.negSucc 0, 1, 1] (Eq.refl true) hlim b1 a2⟩ ⟨by decide, by decide, by decide, fun g hg => by rw [List.mem_singleton.mp hg]; exact Int.le_refl 0⟩ fun l hl hw M3 ts3 n3 _ _ k3 => ?_
  exact law_B (k := k) H hw (by exact lin [cntL l, c] [] false (.h false false (.v 1) (.l 10) (.h true false (.v 0) (.v 1) (.v 0))) (.v 0) (.l 10) 1 [1, 1] (Eq.refl true) hc2 hl) hs (((k3 o hto.symm hos).trans (a4 o hto.symm)).trans m2) (by rw [List.length_reverse]; exact lin [t2.length, lim] [] false (.h true false (.v 1) (.l 1048576) (.h false false (.v 0) (.l 63) (.v 0))) (.a (.v 0) (.l 1)) (.v 1) 1 [.negSucc 0, 1] (Eq.refl true) hlim b2) fun M4 => .now (hQ M4)
end
end Mine
end
section
set_option maxRecDepth 100000
namespace Mine
theorem ns_some_of {K : Frag} {h : Heap} {N : Addr} {mg : Str → Option Value} {n : Str} {v : Value} (X : K.In h) (G : h.Ns N mg) (e : nsIn K N n = some (some v)) : mg n = some v := by
  obtain ⟨o, es, ep, ho, hd, _, hf⟩ := G
  unfold nsIn at e
  split at e
  · rename_i c d es' n' sl q
    have := X _ _ q
    rw [ho] at this
    cases this
    cases hd
    split at e
    · rename_i en he
      cases e
      rw [← hf]
      unfold nsFind findBy
      rw [← Array.find?_toList, he]
      rfl
    · split at e <;> cases e
  · cases e
theorem reps_well {P : Params} {C : Addr} {I : Imm} {h : Heap} : ∀ (ns : List Int) {vs : List Value}, WellAll P h vs (ofPys (ns.map .int)) → Mine.Reps P C I vs (iv ns)
  | [], vs, w => by
    have w : WellAll P h vs [] := w
    cases w; exact .nil
  | n :: ns, vs, w => by
    have w : WellAll P h vs (.int n :: ofPys (ns.map .int)) := w
    cases w with
    | cons h1 h2 => cases h1; exact .cons (.int _ _) (reps_well ns h2)
theorem gl_law {K : Frag} (H : KOk K) : ∃ v, nsIn K mainGlobals (fnAt 27) = some (some v) ∧ fnV K (clsOf K) 27 = some v := by
  obtain ⟨v, e⟩ : ∃ v, nsIn K mainGlobals (fnAt 27) = some (some v) := ⟨_, H.law⟩
  refine ⟨v, e, ?_⟩
  show gl K (fnAt 27) = _
  unfold gl
  rw [if_neg (by decide), e]
theorem fin_run {K : Frag} (HK : KOk K) {w : World} {s₁ : Shared} {prog : Program} {mg mb : Str → Option Value} {fa la : Addr} {ns : List Int} (hk : K.In s₁.heap) (G : s₁.heap.Ns mainGlobals mg) (B : s₁.heap.Ns builtinsNs mb) (hb : ∀ x : Str, x ≠ "__name__" → mb x = bootBuiltins x) (hl : s₁.heap.NoLimit)
    (hf : mg (Str.ofString "law") = some (.ref fa)) (hg : s₁.gens = #[]) (hw : Well w.params s₁.heap (.ref la) (ofPy (PyData.list (ns.map .int)))) (hn : ns.length ≤ 63) {R : Result → Shared → Prop}
    (hR : ∀ s', (∀ b o, s₁.heap.get? b = some o → s'.heap.get? b = some o) → s'.gens = #[] → s'.os = s₁.os → R (.ok (.ret (.bool true))) s') :
    codeAny (model prog w) callerA (.call (.ref fa) ⟨[.ref la], []⟩) R s₁ := by
  let X : Cx := ⟨prog, w, s₁.heap, s₁.os, K, clsOf K⟩
  have H : Std X := ⟨HK, rfl, hk, hl, ⟨mb, B, hb⟩⟩
  have hw : Well w.params s₁.heap (.ref la) (.list (ofPys (ns.map .int))) := hw
  cases hw with
  | list h1 h2 =>
    have sp := law_spec (X := X) (k := 0) (M := fun _ => none) (Q := fun v _ => v = .bool true) H hn fun _ => rfl
    obtain ⟨v, e1, e2⟩ := gl_law HK
    have hv : v = .ref fa := Option.some.inj ((ns_some_of hk G e1).symm.trans hf)
    subst hv
    refine codeAny_mono (sp.run callerA ⟨by decide, by decide, rfl⟩ s₁.heap.get? (fun _ => none) s₁ (.ref fa) [.ref la] e2 ⟨⟨fun _ _ e => e, fun _ _ e => (by cases e), fun _ _ e => (by cases e), fun _ _ _ => rfl, fun _ _ e => (by cases e), fun _ _ e => (by cases e)⟩, fun _ _ e => e⟩ hg rfl (.cons (.lst h1 (reps_well ns h2)) .nil)) fun r s' p => ?_
    cases r with
    | error e => exact p.elim
    | ok fl =>
      cases fl with
      | ret v =>
        obtain ⟨I', M', av, le, S, g, o, r, rfl⟩ := p
        cases r
        exact hR s' (fun b o e => S.imm b o (le b o e)) g o
      | next => exact p.elim
      | brk => exact p.elim
      | cont => exact p.elim
theorem walk {q : Program} {loose : List Str} {XP : (Str → Option Value) → Heap → Prop} {K : Params → Frag} {as : List Addr} {h : ∀ P, as = (K P).map (·.1)} {d : DefRec} {kwd : List (Str × Expr)} (hd : d.name = Str.ofString "law") (hK : ∀ P, KOk (K P)) :
    WalkO q loose XP (kHook K as h).says PySem.Challenge.rw_nm0140_01.row.toRowW d kwd (fun f vs => call f vs) := by
  intro w s₀ s₁ mg mb G Y fa o pm cd doc dV kV ho hd' hcd hD hmg hg args vals as hpre hlay hrd hwl hlo
  have KX := kIn_of Y
  refine Ground.open G ?_
  intro T B D TE TW
  wrow_args hpre hlay hrd hwl hlo
  rename_i ns _ _ _ _ _ _ _ la _ _ _ _ hw _ _ _ hc _
  refine enter_call ?_
  rw [hd] at hmg
  exact fin_run (hK w.params) KX T.g T.b T.builtins T.nolimit hmg hg hw (by exact lin [ns.length] [] false (.h false true (.c (.v 0)) (.c (.l 63)) (.v 0)) (.v 0) (.l 63) 1 [1] (Eq.refl true) (Int.not_lt.mp hc)) fun s' hk hg' ho' =>
    GoodW.toG ⟨.inl ⟨_, .bool true, [], rfl, fun _ => rfl, ReadsW.bool true, (by wrow_post), fun _ => ⟨List.nodup_nil, fun _ hm => (nomatch hm)⟩⟩, hk, ho', hg'⟩
end Mine
end
section
set_option maxRecDepth 100000
set_option maxHeartbeats 0
namespace Mine
/-! The names that the library's head would give to auxiliary definitions of its own: where a constant of the name stands, the head writes none.
They would make the compiled file larger than it may be; nothing of the proof leans on these constants. -/
noncomputable def hd.tw17311223219408574766 : Nat := 0
noncomputable def hd.tw17087091549796120035 : Nat := 0
noncomputable def hd.tw6924109203229866365 : Nat := 0
noncomputable def hd.tw15616948245753086127 : Nat := 0
noncomputable def hd.tw13047593935725612058 : Nat := 0
noncomputable def hd.tw14892549342360969540 : Nat := 0
noncomputable def hd.tw4065347644161347641 : Nat := 0
noncomputable def hd.tw5961118342813265553 : Nat := 0
noncomputable def hd.tw9641152695372364146 : Nat := 0
noncomputable def hd.tw18185175575083235020 : Nat := 0
noncomputable def hd.tw11128854368766332075 : Nat := 0
noncomputable def hd.tw4138081844389336918 : Nat := 0
noncomputable def hd.tw17350447407519407308 : Nat := 0
noncomputable def hd.tw4377701919642642989 : Nat := 0
noncomputable def hd.tw8068729725432388964 : Nat := 0
noncomputable def hd.tw10216474801634566288 : Nat := 0
noncomputable def hd.tw5148922909946612681 : Nat := 0
noncomputable def hd.tw5781342201191254626 : Nat := 0
noncomputable def hd.tw17711083657039698284 : Nat := 0
noncomputable def hd.tw5732804406350252772 : Nat := 0
noncomputable def hd.tw1452849714261714991 : Nat := 0
noncomputable def hd.tw16302227732802510677 : Nat := 0
noncomputable def hd.tw14620637471214046174 : Nat := 0
noncomputable def hd.tw16423778844049440615 : Nat := 0
noncomputable def hd.tw12631932088317031055 : Nat := 0
noncomputable def hd.tw14176624398918483544 : Nat := 0
noncomputable def hd.tw15043168886218598503 : Nat := 0
noncomputable def hd.tw2867327485932766208 : Nat := 0
noncomputable def hd.tw6990203504111849199 : Nat := 0
noncomputable def hd.tw10752148897807903841 : Nat := 0
noncomputable def hd.tw15103106377680225435 : Nat := 0
noncomputable def hd.tw11652457597714270106 : Nat := 0
noncomputable def hd.tw697623264460660564 : Nat := 0
noncomputable def hd.tw4856431653887292112 : Nat := 0
noncomputable def hd.tw307737655149646647 : Nat := 0
noncomputable def hd.tw3953601041324332601 : Nat := 0
noncomputable def hd.tw11117797201346649052 : Nat := 0
noncomputable def hd.tw2216850387143573719 : Nat := 0
noncomputable def hd.tw8684328023851190084 : Nat := 0
noncomputable def hd.tw18322514126500204803 : Nat := 0
noncomputable def hd.tw461538923250603899 : Nat := 0
noncomputable def hd.tw6838551448383532254 : Nat := 0
noncomputable def hd.tw18241275227582772068 : Nat := 0
noncomputable def hd.tw1847840615245081061 : Nat := 0
noncomputable def hd.tw8671608845466749128 : Nat := 0
noncomputable def hd.tw14896477498954680388 : Nat := 0
noncomputable def hd.tw8343274005884668182 : Nat := 0
noncomputable def hd.tw16772102934027710169 : Nat := 0
noncomputable def hd.tw12936449754285732098 : Nat := 0
noncomputable def hd.tw13330244855972007585 : Nat := 0
noncomputable def hd.tw17599816209265215132 : Nat := 0
noncomputable def hd.tw2114630138375439770 : Nat := 0
noncomputable def hd.tw10012880186880212623 : Nat := 0
noncomputable def hd.tw7752767780024739350 : Nat := 0
noncomputable def hd.tw17650839729002327288 : Nat := 0
noncomputable def hd.tw12092154237167983948 : Nat := 0
noncomputable def hd.tw6528754448969337418 : Nat := 0
noncomputable def hd.tw5373601922739893978 : Nat := 0
noncomputable def hd.tw8770205317985620760 : Nat := 0
noncomputable def hd.tw7540655947842036084 : Nat := 0
noncomputable def hd.tw14353793391729792155 : Nat := 0
noncomputable def hd.tw12588582704262371052 : Nat := 0
noncomputable def hd.tw5282504435634884242 : Nat := 0
noncomputable def hd.tw11953376511379268794 : Nat := 0
noncomputable def hd.tw11893437276241958245 : Nat := 0
noncomputable def hd.tw1382963296337349011 : Nat := 0
noncomputable def hd.tw3182187488490625086 : Nat := 0
noncomputable def hd.tw18300207936620678264 : Nat := 0
noncomputable def hd.tw15368132723985388332 : Nat := 0
noncomputable def hd.tw13518370688599389936 : Nat := 0
noncomputable def hd.tw5363564295841288755 : Nat := 0
noncomputable def hd.tw2167537188350426706 : Nat := 0
noncomputable def hd.tw7891253978561527248 : Nat := 0
noncomputable def hd.tw5278057926702712004 : Nat := 0
noncomputable def hd.tw13903934854276604550 : Nat := 0
noncomputable def hd.tw3443669649825651883 : Nat := 0
noncomputable def hd.tw6423634429210846174 : Nat := 0
noncomputable def hd.tw3915529967508079626 : Nat := 0
noncomputable def hd.tw2352750151352029642 : Nat := 0
noncomputable def hd.tw3480954088277226078 : Nat := 0
noncomputable def hd.tw13609717118414637909 : Nat := 0
noncomputable def hd.tw12173100003817136821 : Nat := 0
noncomputable def hd.tw7082855905992002993 : Nat := 0
noncomputable def hd.tw11631869004601391166 : Nat := 0
noncomputable def hd.tw4478964076566166474 : Nat := 0
noncomputable def hd.tw4115565904173853331 : Nat := 0
noncomputable def hd.tw10111801491309104144 : Nat := 0
noncomputable def hd.tw14294001040229213422 : Nat := 0
noncomputable def hd.tw7510230149288206974 : Nat := 0
noncomputable def hd.tw8493152586797012548 : Nat := 0
noncomputable def hd.tw2502866573005156581 : Nat := 0
noncomputable def hd.tw12901994302517312135 : Nat := 0
noncomputable def hd.tw6819123309680001836 : Nat := 0
noncomputable def hd.tw5987830557187376847 : Nat := 0
noncomputable def hd.tw17901334829092211166 : Nat := 0
noncomputable def hd.tw2195365466389143174 : Nat := 0
noncomputable def hd.tw13225837485096350037 : Nat := 0
noncomputable def hd.tw7628703163842673926 : Nat := 0
noncomputable def hd.tw16037735763661986305 : Nat := 0
noncomputable def hd.tw3759623122121258479 : Nat := 0
noncomputable def hd.tw1865391376527767206 : Nat := 0
noncomputable def hd.tw16155205043701107222 : Nat := 0
noncomputable def hd.tw8545014587354053640 : Nat := 0
noncomputable def hd.tw9427301549700849589 : Nat := 0
noncomputable def hd.tw9421340871869096474 : Nat := 0
noncomputable def hd.tw1882180444382439491 : Nat := 0
noncomputable def hd.tw381697539089829889 : Nat := 0
noncomputable def hd.tw12050417470231563642 : Nat := 0
noncomputable def hd.tw9942979801534940709 : Nat := 0
noncomputable def hd.tw190519026028168232 : Nat := 0
noncomputable def hd.tw16056359734778111409 : Nat := 0
noncomputable def hd.tw9277588360372424766 : Nat := 0
noncomputable def hd.tw15463257786427224491 : Nat := 0
noncomputable def hd.tw17047115858639842297 : Nat := 0
noncomputable def hd.tw5978321128707920903 : Nat := 0
noncomputable def hd.tw6060742912462422084 : Nat := 0
noncomputable def hd.tw2457190517430149469 : Nat := 0
noncomputable def hd.tw9783614193127449063 : Nat := 0
noncomputable def hd.tw5635641802508607975 : Nat := 0
noncomputable def hd.tw13483081372092288885 : Nat := 0
noncomputable def hd.tw8977307856219701671 : Nat := 0
noncomputable def hd.tw4706079058837389440 : Nat := 0
noncomputable def hd.tw14060154772996877548 : Nat := 0
noncomputable def hd.tw8727321023445011275 : Nat := 0
noncomputable def hd.tw2274498078352570744 : Nat := 0
noncomputable def hd.tw9244321171653502345 : Nat := 0
noncomputable def hd.tw4993660671451451078 : Nat := 0
noncomputable def hd.tw3085183777334472315 : Nat := 0
noncomputable def hd.tw1129884963351977449 : Nat := 0
noncomputable def hd.tw7085514621470718492 : Nat := 0
noncomputable def hd.tw6830512106363814048 : Nat := 0
noncomputable def hd.tw13855946660403688772 : Nat := 0
noncomputable def hd.tw5245234834050458271 : Nat := 0
noncomputable def hd.tw10170382586518783626 : Nat := 0
noncomputable def hd.tw1869635642477389258 : Nat := 0
noncomputable def hd.tw17574625026820762457 : Nat := 0
noncomputable def hd.tw16412773359747925120 : Nat := 0
noncomputable def hd.tw16794629799341752650 : Nat := 0
noncomputable def hd.tw17673860158736603733 : Nat := 0
noncomputable def hd.tw10403243965636340961 : Nat := 0
noncomputable def hd.tw9557236495431379559 : Nat := 0
noncomputable def hd.tw7366208706002141716 : Nat := 0
noncomputable def hd.tw4172343393113369950 : Nat := 0
noncomputable def hd.tw4015398097383911347 : Nat := 0
noncomputable def hd.tw16945582573551092051 : Nat := 0
noncomputable def hd.tw3828038474966422129 : Nat := 0
noncomputable def hd.tw9430268157657104642 : Nat := 0
noncomputable def hd.tw8004679753235328684 : Nat := 0
noncomputable def hd.tw16853341256802265648 : Nat := 0
noncomputable def hd.tw13217225542625558698 : Nat := 0
noncomputable def hd.tw9386895884608548742 : Nat := 0
noncomputable def hd.tw11213053971927718326 : Nat := 0
noncomputable def hd.tw15348815342697509953 : Nat := 0
noncomputable def hd.tw14768889098011018680 : Nat := 0
noncomputable def hd.tw13638418597567726942 : Nat := 0
noncomputable def hd.tw13828106393651249627 : Nat := 0
noncomputable def hd.tw17588044629489971554 : Nat := 0
noncomputable def hd.tw6906073325868019850 : Nat := 0
noncomputable def hd.tw10727248033764811480 : Nat := 0
noncomputable def hd.tw4851647983119433812 : Nat := 0
noncomputable def hd.tw16473244170626142550 : Nat := 0
noncomputable def hd.tw14960593345356199642 : Nat := 0
noncomputable def hd.tw10784824025267889561 : Nat := 0
noncomputable def hd.tw14705683404202351889 : Nat := 0
noncomputable def hd.tw15508949281206285077 : Nat := 0
noncomputable def hd.tw2304311442786299043 : Nat := 0
noncomputable def hd.tw4272726840584523970 : Nat := 0
noncomputable def hd.tw12487502673411948298 : Nat := 0
noncomputable def hd.tw3109861748172591687 : Nat := 0
noncomputable def hd.tw16828841361933241965 : Nat := 0
noncomputable def hd.tw15595854959937240912 : Nat := 0
noncomputable def hd.tw15083628210047938546 : Nat := 0
noncomputable def hd.tw6196171512934965099 : Nat := 0
noncomputable def hd.tw17950676927832955104 : Nat := 0
noncomputable def hd.tw10458740792067480800 : Nat := 0
noncomputable def hd.tw1506431575118746342 : Nat := 0
noncomputable def hd.tw17183224562656869120 : Nat := 0
noncomputable def hd.tw16091413853298234908 : Nat := 0
noncomputable def hd.tw3530705653197291679 : Nat := 0
noncomputable def hd.tw16904818350239718627 : Nat := 0
noncomputable def hd.tw6820862383352777685 : Nat := 0
noncomputable def hd.tw2701402951725559080 : Nat := 0
noncomputable def hd.tw402640490398009360 : Nat := 0
noncomputable def hd.tw8716120427605611371 : Nat := 0
noncomputable def hd.tw15837987909243819085 : Nat := 0
noncomputable def hd.tw8960069828448710407 : Nat := 0
noncomputable def hd.tw7120233287515763914 : Nat := 0
noncomputable def hd.tw10772546034069785438 : Nat := 0
noncomputable def hd.tw6882427118574961969 : Nat := 0
noncomputable def hd.tw15642763164714097627 : Nat := 0
noncomputable def hd.tw2845679848157327705 : Nat := 0
noncomputable def hd.tw6276725880618359904 : Nat := 0
noncomputable def hd.tw991583007596301734 : Nat := 0
noncomputable def hd.tw15279998641719260112 : Nat := 0
noncomputable def hd.tw3789350110615891812 : Nat := 0
noncomputable def hd.tw208794232270334677 : Nat := 0
noncomputable def hd.tw13466754112058979494 : Nat := 0
noncomputable def hd.tw4478166936697009375 : Nat := 0
noncomputable def hd.tw1589133516308662214 : Nat := 0
noncomputable def hd.tw15643275761693703936 : Nat := 0
noncomputable def hd.tw13431754692932380062 : Nat := 0
noncomputable def hd.tw15030894091695109418 : Nat := 0
noncomputable def hd.tw1610171440888473627 : Nat := 0
noncomputable def hd.tw9170477692918782315 : Nat := 0
noncomputable def hd.tw18103342009636024947 : Nat := 0
noncomputable def hd.tw16194383521188589630 : Nat := 0
noncomputable def hd.tw432457690288141553 : Nat := 0
noncomputable def hd.tw1699103778626983548 : Nat := 0
noncomputable def hd.tw11210553801493137410 : Nat := 0
noncomputable def hd.tw17387473266821786944 : Nat := 0
noncomputable def hd.tw13220430256171166289 : Nat := 0
noncomputable def hd.tw6123773746684550334 : Nat := 0
noncomputable def hd.tw7068711184596962023 : Nat := 0
noncomputable def hd.tw13285133528070534704 : Nat := 0
noncomputable def hd.tw9719896912496429819 : Nat := 0
noncomputable def hd.tw12335779499112914786 : Nat := 0
noncomputable def hd.tw5902613922787404954 : Nat := 0
noncomputable def hd.tw9908193460736022307 : Nat := 0
noncomputable def hd.tw17845618019537910915 : Nat := 0
noncomputable def hd.tw11713075325732132258 : Nat := 0
noncomputable def hd.tw4343815846532229135 : Nat := 0
noncomputable def hd.tw1580110805410547442 : Nat := 0
noncomputable def hd.tw10583446816852156582 : Nat := 0
noncomputable def hd.tw10030107230732127627 : Nat := 0
noncomputable def hd.tw12949589719889679912 : Nat := 0
noncomputable def hd.tw8879563391730754479 : Nat := 0
noncomputable def hd.tw10024716035694756283 : Nat := 0
noncomputable def hd.tw10404513684093684653 : Nat := 0
noncomputable def hd.tw10246146449241189800 : Nat := 0
noncomputable def hd.tw5130813555471234732 : Nat := 0
noncomputable def hd.tw16259696140248634718 : Nat := 0
noncomputable def hd.tw15089522573102190283 : Nat := 0
noncomputable def hd.tw11917015161858427179 : Nat := 0
noncomputable def hd.tw9748044761591592747 : Nat := 0
noncomputable def hd.tw16154546982801380032 : Nat := 0
noncomputable def hd.tw11513968764499736323 : Nat := 0
noncomputable def hd.tw16299908979028503884 : Nat := 0
noncomputable def hd.tw1359830224848277088 : Nat := 0
noncomputable def hd.tw11054480109507316185 : Nat := 0
noncomputable def hd.tw11631947586910100387 : Nat := 0
noncomputable def hd.tw2327210489368252092 : Nat := 0
noncomputable def hd.tw2386827423013361158 : Nat := 0
noncomputable def hd.tw14560493823538711346 : Nat := 0
noncomputable def hd.tw5480042469492414594 : Nat := 0
noncomputable def hd.tw16634568088961857937 : Nat := 0
noncomputable def hd.tw5629675986466331604 : Nat := 0
noncomputable def hd.tw13790719812936386609 : Nat := 0
noncomputable def hd.tw6164396464334811476 : Nat := 0
noncomputable def hd.tw18245042118932799458 : Nat := 0
noncomputable def hd.tw17919194246423945575 : Nat := 0
noncomputable def hd.tw2315301623876862497 : Nat := 0
noncomputable def hd.tw2101469004524951375 : Nat := 0
noncomputable def hd.tw15615537253650120727 : Nat := 0
noncomputable def hd.tw8934143017859847078 : Nat := 0
noncomputable def hd.tw8025032847418708242 : Nat := 0
noncomputable def hd.tw12575139184659369484 : Nat := 0
noncomputable def hd.tw464777395874653626 : Nat := 0
noncomputable def hd.tw1013155817946168525 : Nat := 0
noncomputable def hd.tw1836080755315867724 : Nat := 0
noncomputable def hd.tw17330945745186091897 : Nat := 0
noncomputable def hd.tw16970440968685349367 : Nat := 0
noncomputable def hd.tw1409312971732116557 : Nat := 0
noncomputable def hd.tw4870687313549177768 : Nat := 0
noncomputable def hd.tw1011335219593555734 : Nat := 0
noncomputable def hd.tw5292301768408028288 : Nat := 0
noncomputable def hd.tw162610821266807592 : Nat := 0
noncomputable def hd.tw8609351116199087170 : Nat := 0
noncomputable def hd.tw12399718760709695909 : Nat := 0
noncomputable def hd.tw1222794163293265305 : Nat := 0
noncomputable def hd.tw13409441903868389331 : Nat := 0
noncomputable def hd.tw5054737718236178183 : Nat := 0
noncomputable def hd.tw9763420282994701918 : Nat := 0
noncomputable def hd.tw17672654358674132775 : Nat := 0
noncomputable def hd.tw4360684699965382250 : Nat := 0
noncomputable def hd.tw8735263284916673568 : Nat := 0
noncomputable def hd.tw17893044597097874663 : Nat := 0
noncomputable def hd.tw13267510147771200024 : Nat := 0
noncomputable def hd.tw11032806212648032379 : Nat := 0
noncomputable def hd.tw14906377314874228009 : Nat := 0
noncomputable def hd.tw15042006015671813226 : Nat := 0
noncomputable def hd.tw6931407450589930559 : Nat := 0
noncomputable def hd.tw8112040973832200146 : Nat := 0
noncomputable def hd.tw15910714762333108613 : Nat := 0
noncomputable def hd.tw16640546478005224243 : Nat := 0
noncomputable def hd.tw18343703819029505601 : Nat := 0
noncomputable def hd.tw17681399029576232318 : Nat := 0
noncomputable def hd.tw8959176491354863721 : Nat := 0
noncomputable def hd.tw2930668341846507884 : Nat := 0
noncomputable def hd.tw13783031573616600631 : Nat := 0
noncomputable def hd.tw15220180469806662145 : Nat := 0
noncomputable def hd.tw5511420028821071320 : Nat := 0
noncomputable def hd.tw13315533130655954831 : Nat := 0
noncomputable def hd.tw3309697970292668127 : Nat := 0
noncomputable def hd.tw7270182246851987180 : Nat := 0
noncomputable def hd.tw13289513938125300765 : Nat := 0
noncomputable def hd.tw9741134391959003819 : Nat := 0
noncomputable def hd.tw5195904104168929581 : Nat := 0
noncomputable def hd.tw9496365245306024149 : Nat := 0
noncomputable def hd.tw14553816603554493358 : Nat := 0
noncomputable def hd.tw17234923516513369237 : Nat := 0
noncomputable def hd.tw4383666589626881386 : Nat := 0
noncomputable def hd.tw10949625832625181284 : Nat := 0
noncomputable def hd.tw11709330566771433103 : Nat := 0
noncomputable def hd.tw16722109127936396110 : Nat := 0
noncomputable def hd.tw11402939732021071671 : Nat := 0
noncomputable def hd.tw5608270528595127837 : Nat := 0
noncomputable def hd.tw6411954120941647267 : Nat := 0
noncomputable def hd.tw10792051664901133789 : Nat := 0
noncomputable def hd.tw2391449824757734642 : Nat := 0
noncomputable def hd.tw6785817131721698500 : Nat := 0
noncomputable def hd.tw17258206423299326598 : Nat := 0
noncomputable def hd.tw3442329435671937591 : Nat := 0
noncomputable def hd.tw16259742291528815585 : Nat := 0
noncomputable def hd.tw12070051907170230399 : Nat := 0
noncomputable def hd.tw17562767543260142214 : Nat := 0
noncomputable def hd.tw8662294711777555239 : Nat := 0
noncomputable def hd.tw6038821095411175016 : Nat := 0
noncomputable def hd.tw9345676750909349944 : Nat := 0
noncomputable def hd.tw16211521421427940678 : Nat := 0
noncomputable def hd.tw2442259710966052079 : Nat := 0
noncomputable def hd.tw2603259988358896889 : Nat := 0
noncomputable def hd.tw2999033326186475339 : Nat := 0
noncomputable def hd.tw17714235663813219645 : Nat := 0
noncomputable def hd.tw5366084841770067474 : Nat := 0
noncomputable def hd.tw8789358453043137523 : Nat := 0
noncomputable def hd.tw10614716105012338702 : Nat := 0
noncomputable def hd.tw4315991029959535628 : Nat := 0
noncomputable def hd.tw9960721518486171458 : Nat := 0
noncomputable def hd.tw10170854394291631893 : Nat := 0
noncomputable def hd.tw16007149819294483003 : Nat := 0
noncomputable def hd.tw8134915037123179040 : Nat := 0
noncomputable def hd.tw14754404106442844205 : Nat := 0
noncomputable def hd.tw17903497710992402801 : Nat := 0
noncomputable def hd.tw9345929723534960622 : Nat := 0
noncomputable def hd.tw3919010098100093602 : Nat := 0
noncomputable def hd.tw1997569388931296116 : Nat := 0
noncomputable def hd.tw17948085552500728524 : Nat := 0
noncomputable def hd.tw5416991563250132298 : Nat := 0
noncomputable def hd.tw11389486352061984695 : Nat := 0
noncomputable def hd.tw1760603350576429475 : Nat := 0
noncomputable def hd.tw3008623586974134963 : Nat := 0
noncomputable def hd.tw16920754564084929960 : Nat := 0
noncomputable def hd.tw519851828213033955 : Nat := 0
noncomputable def hd.tw17975533764899295144 : Nat := 0
noncomputable def hd.tw6804821044290156842 : Nat := 0
noncomputable def hd.tw13321331477185743149 : Nat := 0
noncomputable def hd.tw6759412095888398321 : Nat := 0
noncomputable def hd.tw4402725079659364252 : Nat := 0
noncomputable def hd.tw1600037746751723098 : Nat := 0
noncomputable def hd.tw8458067239894703972 : Nat := 0
noncomputable def hd.tw11251137523995926341 : Nat := 0
noncomputable def hd.tw13770079208771991547 : Nat := 0
noncomputable def hd.tw17739348878880393726 : Nat := 0
noncomputable def hd.tw15790720579355451973 : Nat := 0
noncomputable def hd.tw11319892378374348655 : Nat := 0
noncomputable def hd.tw728884934406724761 : Nat := 0
noncomputable def hd.tw11465210709893060100 : Nat := 0
noncomputable def hd.tw16029623286316568529 : Nat := 0
noncomputable def hd.tw3451239065008710300 : Nat := 0
noncomputable def hd.tw15344866539931968096 : Nat := 0
noncomputable def hd.tw18291419657060728153 : Nat := 0
noncomputable def hd.tw15759970867653108152 : Nat := 0
noncomputable def hd.tw6407587892757256292 : Nat := 0
noncomputable def hd.tw15411387601460861337 : Nat := 0
noncomputable def hd.tw8184699220007379433 : Nat := 0
noncomputable def hd.tw4086058157674990017 : Nat := 0
noncomputable def hd.tw7494724483528729301 : Nat := 0
noncomputable def hd.tw8457440626546761165 : Nat := 0
noncomputable def hd.tw9673543361469618366 : Nat := 0
noncomputable def hd.tw6082411064634330575 : Nat := 0
noncomputable def hd.tw9566141503761928105 : Nat := 0
noncomputable def hd.tw16157073509204512506 : Nat := 0
noncomputable def hd.tw3571134770919094901 : Nat := 0
noncomputable def hd.tw15529170255622000948 : Nat := 0
noncomputable def hd.tw13181700845877081190 : Nat := 0
noncomputable def hd.tw16345102440705955213 : Nat := 0
noncomputable def hd.tw12647368939536790636 : Nat := 0
noncomputable def hd.tw16240987189780228909 : Nat := 0
noncomputable def hd.tw7754304195085646258 : Nat := 0
noncomputable def hd.tw1197925565968671727 : Nat := 0
noncomputable def hd.tw15673258824015622330 : Nat := 0
noncomputable def hd.tw11754176132448286083 : Nat := 0
noncomputable def hd.tw3493717111155160527 : Nat := 0
noncomputable def hd.tw22551697357593593 : Nat := 0
noncomputable def hd.tw6291416237084387574 : Nat := 0
noncomputable def hd.tw9350619132568948009 : Nat := 0
noncomputable def hd.tw6868836192036940282 : Nat := 0
noncomputable def hd.tw7534799579077118603 : Nat := 0
noncomputable def hd.tw6547078798241139092 : Nat := 0
noncomputable def hd.tw9533747618267967006 : Nat := 0
noncomputable def hd.tw7355570028127101125 : Nat := 0
noncomputable def hd.tw6767318904944593275 : Nat := 0
noncomputable def hd.tw3694398316872202419 : Nat := 0
noncomputable def hd.tw7296583596125217682 : Nat := 0
noncomputable def hd.tw10678649693572172417 : Nat := 0
noncomputable def hd.tw14478148883734587675 : Nat := 0
noncomputable def hd.tw12271959270614036898 : Nat := 0
noncomputable def hd.tw2608437505485318709 : Nat := 0
noncomputable def hd.tw541196102884509978 : Nat := 0
noncomputable def hd.tw8381844023166312768 : Nat := 0
noncomputable def hd.tw3646829019195819677 : Nat := 0
noncomputable def hd.tw18264374347568628810 : Nat := 0
noncomputable def hd.tw4971549296188076032 : Nat := 0
noncomputable def hd.tw7289634563603522867 : Nat := 0
noncomputable def hd.tw17542962492245011380 : Nat := 0
noncomputable def hd.tw17252143746492648416 : Nat := 0
noncomputable def hd.tw14457593812595234344 : Nat := 0
noncomputable def hd.tw5343241284826551009 : Nat := 0
noncomputable def hd.tw2323474266016966308 : Nat := 0
noncomputable def hd.tw6264232113106981867 : Nat := 0
noncomputable def hd.tw18219297243305740317 : Nat := 0
noncomputable def hd.tw4702841417184801058 : Nat := 0
noncomputable def hd.tw15367242080415987702 : Nat := 0
noncomputable def hd.tw18293732401869909652 : Nat := 0
noncomputable def hd.tw11660266114150955751 : Nat := 0
noncomputable def hd.tw3704167492566942397 : Nat := 0
noncomputable def hd.tw6442067068224118133 : Nat := 0
noncomputable def hd.tw16477043939570097188 : Nat := 0
noncomputable def hd.tw16171809288044610508 : Nat := 0
noncomputable def hd.tw15615420239508185596 : Nat := 0
noncomputable def hd.tw3229955645248102723 : Nat := 0
noncomputable def hd.tw10603584201595350602 : Nat := 0
noncomputable def hd.tw15948780112781908787 : Nat := 0
noncomputable def hd.tw14980023328507725902 : Nat := 0
noncomputable def hd.tw12602439190401603521 : Nat := 0
noncomputable def hd.tw11151547217846952531 : Nat := 0
noncomputable def hd.tw9657781627882305391 : Nat := 0
noncomputable def hd.tw2068664650715991707 : Nat := 0
noncomputable def hd.tw1241404454085649124 : Nat := 0
noncomputable def hd.tw2329189449893159454 : Nat := 0
noncomputable def hd.tw2788664435532181463 : Nat := 0
noncomputable def hd.tw5190246844813560578 : Nat := 0
noncomputable def hd.tw14103535550066685397 : Nat := 0
noncomputable def hd.tw26425463804135960 : Nat := 0
noncomputable def hd.tw3350844169311001129 : Nat := 0
noncomputable def hd.tw15683763237869141255 : Nat := 0
noncomputable def hd.tw16432713993328977331 : Nat := 0
noncomputable def hd.tw4297731678662094536 : Nat := 0
noncomputable def hd.tw12629568148972539762 : Nat := 0
noncomputable def hd.tw16011055738799735888 : Nat := 0
noncomputable def hd.tw1194904439430580092 : Nat := 0
noncomputable def hd.tw12113243949977362033 : Nat := 0
noncomputable def hd.tw8228950375871286339 : Nat := 0
noncomputable def hd.tw10879034167726328663 : Nat := 0
noncomputable def hd.tw6578402527460240241 : Nat := 0
noncomputable def hd.tw6394381022753523788 : Nat := 0
noncomputable def hd.tw17062030032774818151 : Nat := 0
noncomputable def hd.tw6305734824756694309 : Nat := 0
noncomputable def hd.tw2252305205657439004 : Nat := 0
noncomputable def hd.tw2708950531961675432 : Nat := 0
noncomputable def hd.tw4494801613693538912 : Nat := 0
noncomputable def hd.tw10424393626065333798 : Nat := 0
noncomputable def hd.tw1439246655266547700 : Nat := 0
set_option Elab.async true in
theorem hd : PySem.Challenge.rw_nm0140_01.Holds := by
  w_on; o_law; k_head; (case hw => w_witness2)
  exact walk rfl fun P => ⟨by kernel_rfl, by kernel_rfl, by kernel_rfl, by kernel_rfl, by kernel_rfl, by kernel_rfl, by kernel_rfl, by kernel_rfl, by kernel_rfl, by kernel_rfl, by kernel_rfl, by kernel_rfl, by kernel_rfl, by kernel_rfl, by kernel_rfl, by kernel_rfl, by kernel_rfl, by kernel_rfl, by kernel_rfl, by kernel_rfl, by kernel_rfl, by kernel_rfl, by intro _ _ _; kernel_rfl, by intro _ _ _ _; kernel_rfl, by kernel_rfl⟩
end Mine
end
theorem PySem.Challenge.cw_nm0140_01_holds : PySem.Challenge.rw_nm0140_01.Holds :=
  Mine.hd
