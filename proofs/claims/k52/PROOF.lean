import PyProof.Rows.All
import Wide.All
import OpenK.AllK
import Wide.FinOn
import PyProof.EqAt
import PyProof.EqKinds
import PyProof.TupleCall
import KE.OsRunLaw
import HandS.ForMost
import HandS.EndBits
import HandS.Exc
import HandS.TryOnly
import HandS.ExcOwn
import HandS.WordsExc
import HandS.ExcIs
import HandS.IsInst
import HandS.Defaults
import HandS.Property
import HandS.Wide
import HandS.WideBits
import HandS.Flow
import HandS.Conv
import HandS.TupAny
import HandS.Codes
import PySem.Challenge.RW_turtlestold_k52_whole_words_without_end
set_option Elab.async false
set_option linter.all false
set_option maxRecDepth 100000
set_option maxHeartbeats 4000000
/-! The layer for this package's laws: worlds (what stays for ever, what may change), data, a def with its name, further rules. -/
namespace Tu
open PySem PySem.Spec PyProof.Rows L2

abbrev St : Type := L2.St
/-! ### worlds: F stands for ever, M are the objects that may change -/
structure W (F : Hp) (M : List (Addr × HO)) (H : Hp) : Prop where
  f : Same F H
  m : ∀ x ∈ M, H x.1 = some x.2 ∧ F x.1 = none
  d : (M.map (·.1)).Nodup
section
variable {F F' H : Hp} {M : List (Addr × HO)} {p q r : Addr} {o o' u v : HO} {x y z : Addr × HO} {K : PySem.W.Frag} {xs : List V}
theorem W.nF (w : W F M H) (hp : H p = none) : F p = none := w.f.free hp
theorem W.hd (w : W F ((p, o) :: M) H) : H p = some o := (w.m (p, o) (List.mem_cons_self ..)).1
theorem W.nd (w : W F ((p, o) :: M) H) : F p = none := (w.m (p, o) (List.mem_cons_self ..)).2
theorem W.tl (w : W F (x :: M) H) : W F M H := ⟨w.f, fun y hy => w.m y (List.mem_cons_of_mem _ hy), (List.nodup_cons.mp w.d).2⟩
theorem W.swap (w : W F (x :: y :: M) H) : W F (y :: x :: M) H := by
  refine ⟨w.f, fun z hz => w.m z ?_, ?_⟩
  · rcases List.mem_cons.mp hz with e | e
    · exact e ▸ List.mem_cons_of_mem _ (List.mem_cons_self ..)
    · rcases List.mem_cons.mp e with e | e
      · exact e ▸ List.mem_cons_self ..
      · exact List.mem_cons_of_mem _ (List.mem_cons_of_mem _ e)
  · have h := w.d
    simp only [List.map_cons, List.nodup_cons, List.mem_cons, not_or] at h ⊢
    exact ⟨⟨Ne.symm h.1.1, h.2.1⟩, h.1.2, h.2.2⟩
theorem W.rot (w : W F (x :: y :: z :: M) H) : W F (z :: x :: y :: M) H := by
  refine ⟨w.f, fun t ht => w.m t ?_, ?_⟩
  · simp only [List.mem_cons] at ht ⊢
    rcases ht with e | e | e | e <;> simp [e]
  · have h := w.d
    simp only [List.map_cons, List.nodup_cons, List.mem_cons, not_or] at h ⊢
    exact ⟨⟨Ne.symm h.1.2.1, Ne.symm h.2.1.1, h.2.2.1⟩, ⟨h.1.1, h.1.2.2⟩, h.2.1.2, h.2.2.2⟩
theorem W.ne (w : W F (x :: y :: M) H) : x.1 ≠ y.1 := fun e => by
  have h := w.d
  simp only [List.map_cons, List.nodup_cons, List.mem_cons, not_or] at h
  exact h.1.1 e
/-- a new object that may change -/
theorem W.new (w : W F M H) (hp : H p = none) : W F ((p, o) :: M) (upd H p o) := by
  refine ⟨fun b u e => ?_, fun t ht => ?_, ?_⟩
  · rw [upd_ne (ne_of_none (w.f b u e) hp)]; exact w.f b u e
  · rcases List.mem_cons.mp ht with e | e
    · subst e; exact ⟨upd_same, w.nF hp⟩
    · have h := w.m t e
      exact ⟨by rw [upd_ne (ne_of_none h.1 hp)]; exact h.1, h.2⟩
  · rw [List.map_cons, List.nodup_cons]
    refine ⟨fun h => ?_, w.d⟩
    obtain ⟨t, ht, e⟩ := List.mem_map.mp h
    have h1 := (w.m t ht).1
    rw [e, hp] at h1; cases h1
/-- a new object that stands for ever -/
theorem W.frz (w : W F M H) (hp : H p = none) : W (upd F p o) M (upd H p o) := by
  refine ⟨fun b u e => ?_, fun t ht => ?_, w.d⟩
  · by_cases hb : b = p
    · subst hb; rw [upd_same] at e ⊢; exact e
    · rw [upd_ne hb] at e ⊢; exact w.f b u e
  · have h := w.m t ht
    have hn : t.1 ≠ p := ne_of_none h.1 hp
    exact ⟨by rw [upd_ne hn]; exact h.1, by rw [upd_ne hn]; exact h.2⟩
theorem same_upd (hp : F p = none) : Same F (upd F p o) := fun b u e => by rw [upd_ne (ne_of_none e hp)]; exact e
/-- the first object is changed -/
theorem W.put (w : W F ((p, o) :: M) H) : W F ((p, o') :: M) (upd H p o') := by
  refine ⟨fun b u e => ?_, fun t ht => ?_, w.d⟩
  · rw [upd_ne (ne_of_none e w.nd)]; exact w.f b u e
  · rcases List.mem_cons.mp ht with e | e
    · subst e; exact ⟨upd_same, w.nd⟩
    · have h := w.m t (List.mem_cons_of_mem _ e)
      have hn : t.1 ≠ p := fun z => by
        have hd := w.d
        rw [List.map_cons, List.nodup_cons] at hd
        exact hd.1 (List.mem_map.mpr ⟨t, e, z⟩)
      exact ⟨by rw [upd_ne hn]; exact h.1, h.2⟩
/-- the first object is changed no more -/
theorem W.fz (w : W F ((p, o) :: M) H) : W (upd F p o) M H := by
  refine ⟨fun b u e => ?_, fun t ht => ?_, w.tl.d⟩
  · by_cases hb : b = p
    · subst hb; rw [upd_same] at e; cases e; exact w.hd
    · rw [upd_ne hb] at e; exact w.f b u e
  · have h := w.m t (List.mem_cons_of_mem _ ht)
    have hn : t.1 ≠ p := fun z => by
      have hd := w.d
      rw [List.map_cons, List.nodup_cons] at hd
      exact hd.1 (List.mem_map.mpr ⟨t, ht, z⟩)
    exact ⟨h.1, by rw [upd_ne hn]; exact h.2⟩
theorem W.ext (w : W F ((p, o) :: M) H) : Same F (upd F p o) := same_upd w.nd
theorem W.lF (w : W F M H) (h : F p = some (.lst xs)) : SqL K H p xs := .inl (.inl (w.f p _ h))
theorem W.tF (w : W F M H) (h : F p = some (.tup xs)) : SqT K H p xs := .inl (.inl (w.f p _ h))
theorem W.lM (w : W F ((p, .lst xs) :: M) H) : SqL K H p xs := .inl (.inl w.hd)
theorem W.start : W (fun _ => none) [] H := ⟨fun _ _ e => (by cases e), fun _ h => (by cases h), List.nodup_nil⟩
end

/-! ### steps that change the world, with a new letter for the heap -/
section
variable {F H : Hp} {M : List (Addr × HO)} {p : Addr} {o : HO} {x : Addr × HO} {K : PySem.W.Frag} {xs : List V} {y v : V}
/-- s[k] = v, s the first object -/
theorem W.setL {k : Int} {j : Nat} {Q : Hp → Prop} (w : W F ((p, .lst xs) :: M) H) (hj : ixN xs.length k = some j) (h : ∀ H', W F ((p, .lst (xs.set j v)) :: M) H' → Q H') :
    ∃ (p' : Addr) (xs' : List V) (k' : Int) (j' : Nat), V.ref p = .ref p' ∧ V.int k = .int k' ∧ H p' = some (.lst xs') ∧ ixN xs'.length k' = some j' ∧ Q (upd H p' (.lst (xs'.set j' v))) :=
  ⟨p, xs, k, j, rfl, rfl, w.hd, hj, h _ w.put⟩
/-- s.append(y), s the first object -/
theorem W.appL {Q : VK} (w : W F ((p, .lst xs) :: M) H) (hz : xs.length < sizeLine) (h : ∀ H', W F ((p, .lst (xs ++ [y])) :: M) H' → Q .non H') :
    ∃ (l : Addr) (xs' : List V) (y' : V), V.ref p = .ref l ∧ [y] = [y'] ∧ H l = some (.lst xs') ∧ xs'.length < sizeLine ∧ Q .non (upd H l (.lst (xs' ++ [y']))) :=
  ⟨p, xs, y, rfl, rfl, w.hd, hz, h _ w.put⟩
/-- a new object that may change; the same behind the first one; one that stands for ever -/
theorem W.al {Q : VK} (w : W F M H) (h : ∀ p H', W F ((p, o) :: M) H' → Q (.ref p) H') : ∀ p, H p = none → Q (.ref p) (upd H p o) := fun p hp => h p _ (w.new hp)
theorem W.al2 {Q : VK} (w : W F (x :: M) H) (h : ∀ p H', W F (x :: (p, o) :: M) H' → Q (.ref p) H') : ∀ p, H p = none → Q (.ref p) (upd H p o) := fun p hp => h p _ (w.new hp).swap
theorem W.alF {Q : VK} (w : W F M H) (h : ∀ p F' H', Same F F' → F' p = some o → W F' M H' → Q (.ref p) H') : ∀ p, H p = none → Q (.ref p) (upd H p o) := fun p hp => h p _ _ (same_upd (w.nF hp)) upd_same (w.frz hp)
/-- both ways of a test -/
theorem ib {c : Bool} {A B : Prop} (h1 : c = true → A) (h2 : c = false → B) : if c = true then A else B := by
  cases c with
  | true => exact h1 rfl
  | false => exact h2 rfl
theorem sz_of {n : Nat} (h : n ≤ 100000) : n ≤ sizeLine := Nat.le_trans h (by decide)
theorem sz_lt {n : Nat} (h : n < 100000) : n < sizeLine := Nat.lt_of_lt_of_le h (by decide)
end

/-! ### data: what a value is, as a whole -/
inductive D where
  | non | bl (b : Bool) | int (i : Int) | str (s : Str) | lst (ds : List D) | tup (ds : List D)
mutual
/-- v stands for d in what stays for ever -/
def Rp (F : Hp) : D → V → Prop
  | .non, v => v = .non
  | .bl b, v => v = .bl b
  | .int i, v => v = .int i
  | .str s, v => v = .str s
  | .lst ds, v => ∃ p xs, v = .ref p ∧ F p = some (.lst xs) ∧ Rps F ds xs
  | .tup ds, v => ∃ p xs, v = .ref p ∧ F p = some (.tup xs) ∧ Rps F ds xs
def Rps (F : Hp) : List D → List V → Prop
  | [], xs => xs = []
  | d :: ds, xs => ∃ y ys, xs = y :: ys ∧ Rp F d y ∧ Rps F ds ys
end
section
variable {F F' : Hp}
mutual
theorem Rp.ext (e : Same F F') : ∀ (d : D) (v : V), Rp F d v → Rp F' d v
  | .non, _, h => by simpa only [Rp] using h
  | .bl _, _, h => by simpa only [Rp] using h
  | .int _, _, h => by simpa only [Rp] using h
  | .str _, _, h => by simpa only [Rp] using h
  | .lst ds, v, h => by
    simp only [Rp] at h ⊢
    obtain ⟨p, xs, rfl, hp, hx⟩ := h
    exact ⟨p, xs, rfl, e p _ hp, Rps.ext e ds xs hx⟩
  | .tup ds, v, h => by
    simp only [Rp] at h ⊢
    obtain ⟨p, xs, rfl, hp, hx⟩ := h
    exact ⟨p, xs, rfl, e p _ hp, Rps.ext e ds xs hx⟩
theorem Rps.ext (e : Same F F') : ∀ (ds : List D) (xs : List V), Rps F ds xs → Rps F' ds xs
  | [], _, h => by simpa only [Rps] using h
  | d :: ds, xs, h => by
    simp only [Rps] at h ⊢
    obtain ⟨y, ys, rfl, hy, hs⟩ := h
    exact ⟨y, ys, rfl, Rp.ext e d y hy, Rps.ext e ds ys hs⟩
end
theorem Rp.x {d : D} {v : V} (h : Rp F d v) (e : Same F F') : Rp F' d v := Rp.ext e d v h
theorem Rps.x {d : List D} {v : List V} (h : Rps F d v) (e : Same F F') : Rps F' d v := Rps.ext e d v h
theorem Rp.l {ds : List D} {v : V} (h : Rp F (.lst ds) v) : ∃ p xs, v = .ref p ∧ F p = some (.lst xs) ∧ Rps F ds xs := by simpa only [Rp] using h
theorem Rp.t {ds : List D} {v : V} (h : Rp F (.tup ds) v) : ∃ p xs, v = .ref p ∧ F p = some (.tup xs) ∧ Rps F ds xs := by simpa only [Rp] using h
theorem Rp.ol {ds : List D} {p : Addr} {xs : List V} (hp : F p = some (.lst xs)) (h : Rps F ds xs) : Rp F (.lst ds) (.ref p) := by
  simp only [Rp]; exact ⟨p, xs, rfl, hp, h⟩
theorem Rp.ot {ds : List D} {p : Addr} {xs : List V} (hp : F p = some (.tup xs)) (h : Rps F ds xs) : Rp F (.tup ds) (.ref p) := by
  simp only [Rp]; exact ⟨p, xs, rfl, hp, h⟩
theorem Rps.nil : Rps F [] [] := by simp only [Rps]
theorem Rps.cons {d : D} {ds : List D} {y : V} {ys : List V} (h : Rp F d y) (hs : Rps F ds ys) : Rps F (d :: ds) (y :: ys) := by
  simp only [Rps]; exact ⟨y, ys, rfl, h, hs⟩
theorem Rps.uncons {d : D} {ds : List D} {xs : List V} (h : Rps F (d :: ds) xs) : ∃ y ys, xs = y :: ys ∧ Rp F d y ∧ Rps F ds ys := by
  simpa only [Rps] using h
theorem Rps.len : ∀ {ds : List D} {xs : List V}, Rps F ds xs → xs.length = ds.length
  | [], xs, h => by simp only [Rps] at h; subst h; rfl
  | d :: ds, xs, h => by
    obtain ⟨y, ys, rfl, _, hs⟩ := h.uncons
    rw [List.length_cons, List.length_cons, Rps.len hs]
theorem Rps.get : ∀ {ds : List D} {xs : List V} {i : Nat} {x : V}, Rps F ds xs → xs[i]? = some x → ∃ d, ds[i]? = some d ∧ Rp F d x
  | [], xs, i, x, h, e => by simp only [Rps] at h; subst h; simp at e
  | d :: ds, xs, 0, x, h, e => by
    obtain ⟨y, ys, rfl, hy, hs⟩ := h.uncons
    simp at e; subst e; exact ⟨d, rfl, hy⟩
  | d :: ds, xs, i + 1, x, h, e => by
    obtain ⟨y, ys, rfl, hy, hs⟩ := h.uncons
    obtain ⟨d', e', h'⟩ := Rps.get (i := i) hs (by simpa using e)
    exact ⟨d', by simpa using e', h'⟩
theorem Rps.at : ∀ {ds : List D} {xs : List V} {i : Nat} {d : D}, Rps F ds xs → ds[i]? = some d → ∃ x, xs[i]? = some x ∧ Rp F d x
  | [], xs, i, d, h, e => by simp at e
  | d :: ds, xs, 0, d', h, e => by
    obtain ⟨y, ys, rfl, hy, hs⟩ := h.uncons
    simp at e; subst e; exact ⟨y, rfl, hy⟩
  | d :: ds, xs, i + 1, d', h, e => by
    obtain ⟨y, ys, rfl, hy, hs⟩ := h.uncons
    obtain ⟨x, e', h'⟩ := Rps.at (i := i) hs (by simpa using e)
    exact ⟨x, by simpa using e', h'⟩
theorem Rps.app : ∀ {ds es : List D} {xs ys : List V}, Rps F ds xs → Rps F es ys → Rps F (ds ++ es) (xs ++ ys)
  | [], es, xs, ys, h, k => by simp only [Rps] at h; subst h; exact k
  | d :: ds, es, xs, ys, h, k => by
    obtain ⟨y, ys', rfl, hy, hs⟩ := h.uncons
    exact Rps.cons hy (Rps.app hs k)
theorem Rps.snoc {ds : List D} {xs : List V} {d : D} {x : V} (h : Rps F ds xs) (k : Rp F d x) : Rps F (ds ++ [d]) (xs ++ [x]) := h.app (Rps.cons k Rps.nil)
theorem Rps.ints : ∀ {ns : List Int}, Rps F (ns.map D.int) (ns.map V.int)
  | [] => Rps.nil
  | n :: ns => Rps.cons (by simp only [Rp]) Rps.ints
theorem Rps.of_ints : ∀ {ns : List Int} {xs : List V}, Rps F (ns.map D.int) xs → xs = ns.map V.int
  | [], xs, h => by simpa only [List.map_nil, Rps] using h
  | n :: ns, xs, h => by
    rw [List.map_cons] at h
    obtain ⟨y, ys, rfl, hy, hs⟩ := h.uncons
    simp only [Rp] at hy
    rw [hy, Rps.of_ints hs, List.map_cons]
theorem Rp.int {i : Int} : Rp F (.int i) (.int i) := by simp only [Rp]
theorem Rp.str {i : Str} : Rp F (.str i) (.str i) := by simp only [Rp]
theorem Rp.bl {i : Bool} : Rp F (.bl i) (.bl i) := by simp only [Rp]
theorem Rp.non : Rp F .non .non := by simp only [Rp]
end

/-! ### a def by its name -/
section
variable (P : Program) (w : World) (K : PySem.W.Frag) (mg : Str → Option Value) (base : Heap)
/-- the module's name x is a def that keeps the promise sp -/
def Def (CX : CXT) (k : Nat) (x : Str) (ps : List Str) (dvs : List V) (sp : Sp) : Prop :=
  ∃ (f : Addr) (fd : FuncData) (ds : List Value), FnOk P w K mg base CX k f fd ps sp ∧ mg x = some (.ref f) ∧ PySem.W.keepIn K (.ref f) = true ∧ Binds K fd ps ds ∧ Vals dvs ds
/-- the class at C has the method m, that keeps sp -/
def MDef (C : Addr) (CX : CXT) (k : Nat) (m : Str) (ps : List Str) (dvs : List V) (sp : Sp) : Prop :=
  ∃ (f : Addr) (fd : FuncData) (ds : List Value), FnOk P w K mg base CX k f fd ps sp ∧ Meth K C m f ∧ Binds K fd ps ds ∧ Vals dvs ds
end

/-! ### further rules -/
section
variable {X : Cx}
/-- s * n, n from 0 to 16 million -/
theorem op_mulS : OpR X (binaryOp .Mult) (fun x y H Q => ∃ (z : Str) (n : Nat), x = .str z ∧ y = .int (n : Int) ∧ z.length * n ≤ 16777216 ∧ n ≤ 16777216 ∧ Q (.str ⟨((List.replicate n z.cps.toList).flatten).toArray⟩) H) := by
  intro pins s σ H x y v u Q I rx ry h
  obtain ⟨z, n, rfl, rfl, h1, h2, q⟩ := h
  obtain ⟨t, rfl⟩ := rx
  obtain ⟨t', rfl⟩ := ry
  have hfold : ∀ (k : Nat) (acc : Array Nat), ((List.replicate k z.cps).foldl (· ++ ·) acc).toList = acc.toList ++ (List.replicate k z.cps.toList).flatten := by
    intro k
    induction k with
    | zero => intro acc; simp
    | succ k ih => intro acc; rw [List.replicate_succ, List.foldl_cons, ih, List.replicate_succ, List.flatten_cons]; simp
  have hm : Txt.mul z (n : Int) = ⟨((List.replicate n z.cps.toList).flatten).toArray⟩ := by
    unfold Txt.mul
    by_cases h0 : n = 0
    · subst h0; rfl
    · have hn : ¬ ((n : Int) < 1) := by omega
      rw [if_neg hn]
      by_cases hc : (((n : Int) == 1) || z.length == 0) = true
      · rw [if_pos hc]
        rcases Bool.or_eq_true_iff.mp hc with e | e
        · have e1 : n = 1 := by have := eq_of_beq e; omega
          subst e1
          simp
        · have e1 : z.cps.toList = [] := by
            have := eq_of_beq e
            apply List.eq_nil_of_length_eq_zero
            simpa [Str.length] using this
          rw [e1]
          have e2 : z = ⟨#[]⟩ := by
            apply Str.ext'
            apply Array.toList_inj.mp
            simpa using e1
          rw [e2]
          congr 1
          apply Array.toList_inj.mp
          simp
      · rw [if_neg hc]
        congr 1
        apply Array.toList_inj.mp
        rw [Int.toNat_natCast, hfold]
        simp
  have hok : MulOk z (n : Int) := by
    have e63 : (2 : Int) ^ 63 = 9223372036854775808 := by decide
    have hprod : ((z.length * n : Nat) : Int) = (z.length : Int) * (n : Int) := by rw [Int.natCast_mul]
    refine ⟨?_, fun h1' _ => ?_, fun h1' _ => ?_⟩
    · have a1 : ¬ (n : Int) < -(2 ^ 63 : Int) := by omega
      have a2 : ¬ (n : Int) ≥ (2 ^ 63 : Int) := by omega
      rw [decide_eq_false a1, decide_eq_false a2]; rfl
    · have hpos : 0 < (n : Int) := by omega
      have h3 : (z.length : Int) * (n : Int) ≤ 2 ^ 63 - 1 := by rw [← hprod]; omega
      have h4 : (z.length : Int) ≤ (2 ^ 63 - 1) / (n : Int) := (Int.le_ediv_iff_mul_le hpos).mpr h3
      omega
    · have : z.length * (n : Int).toNat ≤ 16777216 := by rw [Int.toNat_natCast]; exact h1
      exact short24 this
  refine SB.mul hok fun t' k => ?_
  rw [hm]
  exact ⟨.str _, H, I.tok _, ⟨_, rfl⟩, q⟩

/-! enumerate over a text -/
def Ites (x : Str) : It :=
  ⟨fun i _ => i < x.cps.size, fun i H v H' => ∃ T c, v = .ref T ∧ H T = none ∧ H' = upd H T (.tup [.int (i : Nat), .str ⟨#[c]⟩]) ∧ x.cps[i]? = some c, fun i _ => x.cps.size ≤ i⟩
theorem turn_enumS {P : Program} {w : World} {K : PySem.W.Frag} {elts : List Expr} {kk : Nat} {tpos : Pos} (e it : Addr) (x : Str) (t : Tok) (ty : String) (hty : ty = "str_ascii_iterator" ∨ ty = "str_iterator") :
    Turn P w K (.Tuple elts kk tpos) (Ites x) [e, it] e (fun i h => i ≤ x.cps.size ∧ (∃ old, IsEnum h e it ((i : Nat) : Int) old) ∧ h.IsStrIter it ty x t i ∧ e ≠ it) where
  mem := by simp
  obj := fun i h st b hb => by
    obtain ⟨_, ⟨old, he⟩, ⟨o, ho, hc, hd⟩, _⟩ := st
    have e' : b = e ∨ b = it := by simpa using hb
    rcases e' with z | z
    · rw [z]; exact ⟨_, he, fun v q => nomatch q⟩
    · rw [z]; exact ⟨o, ho, fun v q => by rw [hd] at q; cases q⟩
  keep := fun i h h' st k => by
    obtain ⟨hi, ⟨old, he⟩, ⟨o, ho, r⟩, hne⟩ := st
    exact ⟨hi, ⟨old, k e (by simp) _ he⟩, ⟨o, k it (by simp) o ho, r⟩, hne⟩
  item := by
    intro X hP hw hK hc i pins s σ H E I hf st hg
    subst hP hw hK
    obtain ⟨hle, ⟨old, he⟩, hit, hne⟩ := st
    have hil' : i < x.cps.size := hg
    have D : Draws X.prog X.w X.A.in1 it [it] x.cps.size (fun i v => ∃ c u, x.cps[i]? = some c ∧ v = .str ⟨#[c]⟩ u) (fun i h => h.IsStrIter it ty x t i) := by
      rcases hty with e | e
      · rw [e]; exact Draws.strAscii (show X.A.in1.handled = none from I.ok.hd hc) it x t
      · rw [e]; exact Draws.strWide (show X.A.in1.handled = none from I.ok.hd hc) it x t
    have hel : e < s.heap.objs.size := Heap.lt_size he
    have hil : it < s.heap.objs.size := by obtain ⟨_, q, _⟩ := hit; exact Heap.lt_size q
    refine wpAny_pyNext_enum_itemD D he hit hil' hne (by simpa using hne) fun y h' tk hP ho hit' hT hsz hk => ?_
    obtain ⟨c, u, hcx, rfl⟩ := hP
    refine ⟨_, rfl, wpAny_letOwnedTupleGo_enum (s := { s with heap := h', toks := tk + 1 }) ho fun h'' he' sb => ?_⟩
    have hT2 : h''.get? s.heap.objs.size = some { cls := .type "tuple", data := .seq #[.int i tk, .str ⟨#[c]⟩ u] } := (sb.2 _ (Nat.ne_of_gt hel)).trans hT
    have new : ObjOk X.prog X.w (upd H s.heap.objs.size (.tup [.int (i : Nat), .str ⟨#[c]⟩])) h'' s.heap.objs.size (.tup [.int (i : Nat), .str ⟨#[c]⟩]) :=
      ⟨by show 2 ≤ sizeLine; decide, [.int i tk, .str ⟨#[c]⟩ u], .cons ⟨_, rfl⟩ (.cons ⟨_, rfl⟩ .nil), ⟨_, hT2, rfl, _, rfl⟩⟩
    have I1 : Inv X pins σ (upd H s.heap.objs.size (.tup [.int (i : Nat), .str ⟨#[c]⟩])) { s with heap := h'', toks := tk + 1 } :=
      I.turnedNew (ch := [e, it]) (fun b ob hb q => (sb.2 b (fun z => hb (by simp [z]))).trans (hk b ob (fun z => hb (by simp [z])) (fun z => hb (by simp [z])) q)) hf (Nat.le_refl _) new
    refine ⟨.ref s.heap.objs.size, _, I1, rfl, ⟨_, c, rfl, I.hok.fresh (Nat.le_refl _), rfl, hcx⟩, ⟨hil', ⟨.str ⟨#[c]⟩ u, ?_⟩, ?_, hne⟩, fun b hb => ?_⟩
    · have e1 : ((i + 1 : Nat) : Int) = (i : Int) + 1 := by omega
      rw [e1]; exact he'
    · obtain ⟨o, ho2, r⟩ := hit'
      exact ⟨o, (sb.2 it (Ne.symm hne)).trans ho2, r⟩
    · have hb' : b < s.heap.objs.size := by
        have e' : b = e ∨ b = it := by simpa using hb
        rcases e' with z | z
        · rw [z]; exact hel
        · rw [z]; exact hil
      rw [upd_ne (Nat.ne_of_lt hb')]
      exact (hf b hb).1
  done := by
    intro X hP hw hK hc i pins s σ H E I hf st hg
    subst hP hw hK
    obtain ⟨hle, ⟨old, he⟩, hit, hne⟩ := st
    obtain ⟨f0, f1, f2, f3, f4, f5⟩ := hf it (by simp)
    have hi : i = x.cps.size := Nat.le_antisymm hle hg
    subst hi
    have D : Draws X.prog X.w X.A.in1 it [it] x.cps.size (fun i v => ∃ c u, x.cps[i]? = some c ∧ v = .str ⟨#[c]⟩ u) (fun i h => h.IsStrIter it ty x t i) := by
      rcases hty with e | e
      · rw [e]; exact Draws.strAscii (show X.A.in1.handled = none from I.ok.hd hc) it x t
      · rw [e]; exact Draws.strWide (show X.A.in1.handled = none from I.ok.hd hc) it x t
    exact wpAny_pyNext_enum_endD D he hit fun h' eb => ⟨rfl, I.turned (t' := s.toks) (fun b o hb q => eb b o hb q) f0 f1 f3 f4 f5⟩
  self := fun A i s Q E st h => let ⟨_, ⟨_, he⟩, _⟩ := st; wpAny_pyIter_enum he h
def iEnumS (ta : TA) : TI := fun σ H R => ta σ H fun vs H1 => ∃ x, vs = [.str x] ∧ R (Ites x) H1
theorem pi_enumS {e : Expr} {ta : TA} {p pos tpos : Pos} {elts : List Expr} {kk : Nat} (hg : Gl X "enumerate") (hm : X.mg "enumerate" = none) (ha : PA X [e] ta) (hs : starEach [e] X.env = [(false, eval e X.env)] := by rfl) :
    PI X (.Tuple elts kk tpos) (.Call (.Name "enumerate" p) [e] [] pos) (iEnumS ta) := by
  refine ⟨fun pins s σ H R I h => ?_⟩
  refine Call_ (ld_blt I hg hm boot_enumerate (PyProof.Rows.callWith_type1 (thn (ha.run pos pins s σ H _ I h) fun us s1 ⟨vs, H1, I1, r1, q1⟩ => ?_) hs rfl))
  obtain ⟨x, ex, q⟩ := q1
  subst ex
  cases r1 with
  | cons r rr =>
    cases rr
    obtain ⟨t, rfl⟩ := r
    refine call_enumerate_str fun h' he hit hsz hk => wpAny_pyIter_enum he ?_
    have I2 : Inv X pins σ H1 { s1 with heap := h' } := I1.kept (t' := s1.toks) hk
    have hty : strIterType x = "str_ascii_iterator" ∨ strIterType x = "str_iterator" := by
      unfold strIterType
      split
      · exact .inl rfl
      · exact .inr rfl
    refine ⟨s1.heap.objs.size + 1, [s1.heap.objs.size + 1, s1.heap.objs.size], _, _, H1, rfl, I2, turn_enumS (s1.heap.objs.size + 1) s1.heap.objs.size x t _ hty, ⟨Nat.zero_le _, ⟨.none, he⟩, hit, Nat.succ_ne_self _⟩, fun b hb => ?_, q⟩
    have e' : b = s1.heap.objs.size + 1 ∨ b = s1.heap.objs.size := by simpa using hb
    have hle : s1.heap.objs.size ≤ b := by
      rcases e' with z | z
      · rw [z]; exact Nat.le_add_right _ _
      · rw [z]; exact Nat.le_refl _
    exact I1.fpOk hle (I1.hok.fresh hle)

/-! o.f = e, f a property with a setter -/
structure SetOf (K : PySem.W.Frag) (C : Addr) (f : Str) (p g : Addr) : Prop where
  tk : PySem.W.takerIn K C f = some (some (.ref p))
  ty : PySem.W.typeIn K (.ref p) = some (.type "property")
  rec_ : ∃ a rest, PySem.W.recIn K p "property" = some (a :: .ref g :: rest)
def sSet (C : Addr) (sp : Sp) (E : XK) (ta tv : TE) : TS := fun D σ H => tv σ H fun y H1 => ta σ H1 fun x H2 => ∃ a dx fs, x = .ref a ∧ H2 a = some (.ins C dx fs) ∧ sp [.ref a, y] H2 (fun _ H3 => D.nx σ H3) E
theorem ps_setter {CX : CXT} {k : Nat} {C p g : Addr} {f : Str} {fd : FuncData} {ps : List Str} {sp : Sp} {E : XK} {o value : Expr} {pos pos' : Pos} {ta tv : TE} (ha : PE X o ta) (hv : PE X value tv) (hs : swapsWith value (some (.Attribute o f pos')) pos.line X.env = pure false)
    (c : Cls X.K C) (hp : SetOf X.K C f p g) (F : FnOk X.prog X.w X.K X.mg X.base CX k g fd ps sp) (hr : Room (k + 2) X.A) (hb : Binds X.K fd ps []) (hx : Passes CX X.nox E) :
    PS X (.Assign [.Attribute o f pos'] value pos) (sSet C sp E ta tv) := by
  refine ⟨fun pins s σ H D I h => ?_⟩
  refine plainObj_wpAny_Assign_Attribute (thn (hv.run pins s σ H _ I h) fun u s1 ⟨y, H1, I1, ry, q⟩ => thn (ha.run pins s1 σ H1 _ I1 q) fun ov s2 ⟨x, H2, I2, rx, a, dx, fs, ex, ea, q2⟩ => ?_) hs
  subst ex
  obtain rfl : ov = Value.ref a := rx
  obtain ⟨mA, O, _, _, _, _⟩ := ins_get I2.hok ea
  obtain ⟨od, J, _⟩ := O.look
  obtain ⟨a0, rest, hrec⟩ := hp.rec_
  have I3 := I2.tok (s2.toks + 1)
  have hl : ([Value.ref a, u] ++ []).length = ps.length := by
    rw [← F.len _ _ _ _ q2]
    rfl
  refine PySem.W.set_plain I2.kIn J c.sa (PySem.W.osa_descr (s := { s2 with toks := s2.toks + 1 }) PySem.W.KF.slot_pset I2.kIn J c.po hp.tk hp.ty (PySem.W.prop_set (s := { s2 with toks := s2.toks + 1 }) I2.kIn hrec ?_))
  refine codeAny_mono (F.run X.A.in1.in1 X.stack { s2 with toks := s2.toks + 1 } H2 ⟨[.ref a, u], []⟩ ([.ref a, u] ++ []) [.ref a, y] _ E hr.in1.in1 I3.env0.in1.in1 (hb _ [.ref a, u] I3.kIn hl) (.cons rfl (.cons ry .nil)) q2) fun r s' hq => ?_
  cases r with
  | error er => exact False.elim (hx pins σ H2 { s2 with toks := s2.toks + 1 } er s' (I3.wish _) hq)
  | ok fl =>
    cases fl with
    | ret u' =>
      obtain ⟨v, H', I4, rv, q3⟩ := I3.after hq
      exact ⟨σ, H', I4, q3⟩
    | next => exact False.elim hq
    | brk => exact False.elim hq
    | cont => exact False.elim hq
end

/-! ### loops over a text -/
theorem size_mk (l : List Nat) : (⟨l.toArray⟩ : Str).cps.size = l.length := by simp
theorem for_str {l : List Nat} {g : TG} {tb : TS} {D : Ends} {σ : St} {H : Hp} (Pv : Nat → St → Hp → Prop) (h0 : Pv 0 σ H)
    (hs : ∀ i c σ H, l[i]? = some c → Pv i σ H → g (.str ⟨[c].toArray⟩) σ H fun σ2 H2 => tb { D with nx := Pv (i + 1), ct := Pv (i + 1), bk := D.nx } σ2 H2) (hd : ∀ σ H, Pv l.length σ H → D.nx σ H) :
    ∃ W : Nat → Nat → St → Hp → Prop, (∃ m, W 0 m σ H) ∧ ∀ i m σ H, W i m σ H →
      ((Its ⟨l.toArray⟩).stop i H ∧ D.nx σ H) ∨ ((Its ⟨l.toArray⟩).go i H ∧ ∃ N : St → Hp → Prop, (∀ σ' H', N σ' H' → ∃ m', m' < m ∧ W (i + 1) m' σ' H') ∧ ∀ x H', (Its ⟨l.toArray⟩).yld i H x H' → g x σ H' fun σ2 H2 => tb { D with nx := N, ct := N, bk := D.nx } σ2 H2) := by
  refine ⟨fun i m σ H => m = l.length - i ∧ i ≤ l.length ∧ Pv i σ H, ⟨l.length, by simp, Nat.zero_le _, h0⟩, ?_⟩
  rintro i m σ H ⟨rfl, hi, p⟩
  by_cases hlt : i < l.length
  · refine .inr ⟨(by show i < (⟨l.toArray⟩ : Str).cps.size; rw [size_mk]; exact hlt), Pv (i + 1), fun σ' H' p' => ⟨l.length - (i + 1), by omega, rfl, hlt, p'⟩, fun x H' y => ?_⟩
    obtain ⟨e, c, hc, ex⟩ := y
    subst e ex
    exact hs i c σ _ (by simpa using hc) p
  · have e : i = l.length := by omega
    subst e
    exact .inl ⟨(by show (⟨l.toArray⟩ : Str).cps.size ≤ l.length; rw [size_mk]; exact Nat.le_refl _), hd σ H p⟩
theorem lc_str {l : List Nat} {g : TG} {tt : TT} {te : TE} {vs : List Nat} {σ : St} {H1 : Hp} {D : Addr} {Qd : Hp → Prop} (Pv : Nat → Hp → Prop) (h0 : Pv 0 (upd H1 D (.lst [])))
    (hs : ∀ i c H, l[i]? = some c → Pv i H → g (.str ⟨[c].toArray⟩) (wipe σ vs) H fun σ2 H2 => wipe σ2 vs = wipe σ vs ∧ tt σ2 H2 fun b H3 =>
      if b = true then te σ2 H3 fun y H4 => ∃ acc, H4 D = some (.lst acc) ∧ acc.length < sizeLine ∧ Pv (i + 1) (upd H4 D (.lst (acc ++ [y]))) else Pv (i + 1) H3) (hd : ∀ H, Pv l.length H → Qd H) :
    ∃ W : Nat → Nat → Hp → Prop, (∃ m, W 0 m (upd H1 D (.lst []))) ∧ ∀ i m H, W i m H →
      ((Its ⟨l.toArray⟩).stop i H ∧ Qd H) ∨ ((Its ⟨l.toArray⟩).go i H ∧ ∃ Nx : Hp → Prop, (∀ H', Nx H' → ∃ m', m' < m ∧ W (i + 1) m' H') ∧ ∀ x H', (Its ⟨l.toArray⟩).yld i H x H' → g x (wipe σ vs) H' fun σ2 H2 => wipe σ2 vs = wipe σ vs ∧ tt σ2 H2 fun b H3 =>
        if b = true then te σ2 H3 fun y H4 => ∃ acc, H4 D = some (.lst acc) ∧ acc.length < sizeLine ∧ Nx (upd H4 D (.lst (acc ++ [y]))) else Nx H3) := by
  refine ⟨fun i m H => m = l.length - i ∧ i ≤ l.length ∧ Pv i H, ⟨l.length, by simp, Nat.zero_le _, h0⟩, ?_⟩
  rintro i m H ⟨rfl, hi, p⟩
  by_cases hlt : i < l.length
  · refine .inr ⟨(by show i < (⟨l.toArray⟩ : Str).cps.size; rw [size_mk]; exact hlt), Pv (i + 1), fun H' p' => ⟨l.length - (i + 1), by omega, rfl, hlt, p'⟩, fun x H' y => ?_⟩
    obtain ⟨e, c, hc, ex⟩ := y
    subst e ex
    exact hs i c _ (by simpa using hc) p
  · have e : i = l.length := by omega
    subst e
    exact .inl ⟨(by show (⟨l.toArray⟩ : Str).cps.size ≤ l.length; rw [size_mk]; exact Nat.le_refl _), hd H p⟩
/-- enumerate of a text: the pair is a new tuple at T -/
theorem for_enumS {l : List Nat} {g : TG} {tb : TS} {D : Ends} {σ : St} {H : Hp} (Pv : Nat → St → Hp → Prop) (h0 : Pv 0 σ H)
    (hs : ∀ i c σ H T, l[i]? = some c → Pv i σ H → H T = none → g (.ref T) σ (upd H T (.tup [.int (i : Nat), .str ⟨[c].toArray⟩])) fun σ2 H2 => tb { D with nx := Pv (i + 1), ct := Pv (i + 1), bk := D.nx } σ2 H2) (hd : ∀ σ H, Pv l.length σ H → D.nx σ H) :
    ∃ W : Nat → Nat → St → Hp → Prop, (∃ m, W 0 m σ H) ∧ ∀ i m σ H, W i m σ H →
      ((Ites ⟨l.toArray⟩).stop i H ∧ D.nx σ H) ∨ ((Ites ⟨l.toArray⟩).go i H ∧ ∃ N : St → Hp → Prop, (∀ σ' H', N σ' H' → ∃ m', m' < m ∧ W (i + 1) m' σ' H') ∧ ∀ x H', (Ites ⟨l.toArray⟩).yld i H x H' → g x σ H' fun σ2 H2 => tb { D with nx := N, ct := N, bk := D.nx } σ2 H2) := by
  refine ⟨fun i m σ H => m = l.length - i ∧ i ≤ l.length ∧ Pv i σ H, ⟨l.length, by simp, Nat.zero_le _, h0⟩, ?_⟩
  rintro i m σ H ⟨rfl, hi, p⟩
  by_cases hlt : i < l.length
  · refine .inr ⟨(by show i < (⟨l.toArray⟩ : Str).cps.size; rw [size_mk]; exact hlt), Pv (i + 1), fun σ' H' p' => ⟨l.length - (i + 1), by omega, rfl, hlt, p'⟩, fun x H' y => ?_⟩
    obtain ⟨T, c, ex, hT, e, hc⟩ := y
    subst e ex
    exact hs i c σ H T (by simpa using hc) p hT
  · have e : i = l.length := by omega
    subst e
    exact .inl ⟨(by show (⟨l.toArray⟩ : Str).cps.size ≤ l.length; rw [size_mk]; exact Nat.le_refl _), hd σ H p⟩
theorem if_T {c : Bool} {A B : Prop} (hc : c = true) (h : A) : if c = true then A else B := by rw [if_pos hc]; exact h
theorem if_F {c : Bool} {A B : Prop} (hc : c = false) (h : B) : if c = true then A else B := by rw [hc, if_neg Bool.false_ne_true]; exact h

/-! ### rules that name the written part K by a letter -/
section
variable {X : Cx} {K : PySem.W.Frag}
theorem ix_listK (h : X.K = K) : IxR X (rIxL K) := by subst h; exact ix_list
theorem ix_tupK (h : X.K = K) : IxR X (rIxT K) := by subst h; exact ix_tup
theorem ix_seqK (h : X.K = K) : IxR X (rIx K) := by subst h; exact ix_seq
theorem call_lenK (h : X.K = K) : CallR X (.builtin "len") (fun xs H Q => ∃ x n, xs = [x] ∧ LenV K x H n ∧ Q (.int n) H) := by subst h; exact call_len
theorem op_in_seqK (h : X.K = K) : OpR X (compareOp .In) (rIn K false) := by subst h; exact op_in_seq
theorem op_notIn_seqK (h : X.K = K) : OpR X (compareOp .NotIn) (rIn K true) := by subst h; exact op_notIn_seq
theorem call_list_ofK (h : X.K = K) : CallR X (.type "list") (fun xs H Q => ∃ p ys, xs = [.ref p] ∧ (SqL K H p ys ∨ SqT K H p ys) ∧ ∀ l, H l = none → Q (.ref l) (upd H l (.lst ys))) := by subst h; exact call_list_of
theorem sl_listK (h : X.K = K) : SlR X (rSlL K) := by subst h; exact sl_list
theorem sl_tupAK (h : X.K = K) : SlR X (rSlA K) := by subst h; exact sl_tupA
theorem op_catAK (h : X.K = K) : OpR X (binaryOp .Add) (rCatA K) := by subst h; exact op_catA
theorem mt_indexK (h : X.K = K) : MtR X "list.index" (rIndex K) := by subst h; exact mt_index
theorem call_isiK (h : X.K = K) : CallR X (.builtin "isinstance") (rIsi K) := by subst h; exact call_isi
theorem pi_listK (h : X.K = K) {tg l : Expr} {tl : TE} (hl : PE X l tl) : PI X tg l (iList K tl) := by subst h; exact pi_list hl
theorem pi_tupK (h : X.K = K) {tg l : Expr} {tl : TE} (hl : PE X l tl) : PI X tg l (iTup K tl) := by subst h; exact pi_tup hl
theorem pg_tupK (h : X.K = K) {es : List Expr} {k : Nat} {t : TGs} {n : Nat} {pos : Pos} (hc : X.calm = true) (hp : PGs X es t)
    (hn : (assignEach es X.env).length = n := by rfl) (hst : (assignEach es X.env).findIdx? (·.1) = none := by rfl) : PG X (.Tuple es k pos) (gTup K n t) := by subst h; exact pg_tup hc hp hn hst
theorem pe_fldK (h : X.K = K) {e : Expr} {ta : TE} {f : Str} {pos : Pos} (he : PE X e ta) (hb : attributeBase e f X.env (eval e X.env) = eval e X.env) : PE X (.Attribute e f pos) (tFld K ta f) := by subst h; exact pe_fld he hb
theorem pe_conK (h : X.K = K) {e : Expr} {ta : TE} {f : Str} {pos : Pos} (he : PE X e ta) (hb : attributeBase e f X.env (eval e X.env) = eval e X.env) : PE X (.Attribute e f pos) (tCon K ta f) := by subst h; exact pe_con he hb
theorem ps_fldK (h : X.K = K) {o value : Expr} {ta tv : TE} {f : Str} {pos pos' : Pos} (ha : PE X o ta) (hv : PE X value tv) (hs : swapsWith value (some (.Attribute o f pos')) pos.line X.env = pure false) : PS X (.Assign [.Attribute o f pos'] value pos) (sFld K ta tv f) := by subst h; exact ps_fld ha hv hs
theorem pe_tupleOfK (h : X.K = K) {a : Expr} {ta : TE} {p pos : Pos} (hg : Gl X "tuple") (hm : X.mg "tuple" = none) (ha : PE X a ta) (na : starEach [a] X.env = (false, eval a X.env) :: starEach [] X.env := by rfl) :
    PE X (.Call (.Name "tuple" p) [a] [] pos) (tThen ta (kTup K)) := by subst h; exact pe_tupleOf hg hm ha na
theorem pe_bmK (h : X.K = K) {T id : String} {name : Str} {r : V → List V → Hp → VK → Prop} {o e : Expr} {es : List Expr} {to : TE} {t : TA} {apos cpos : Pos} (pa : PlainAttrs T) (slot : Slot T name id) (hty : typeOf (.builtin id) = pure (.type "method_descriptor")) (hm : MtR X id r) (ho : PE X o to) (ha : PA X (e :: es) t)
    (hbase : attributeBase o name X.env (eval o X.env) = eval o X.env := by rfl)
    (hfew : ((backTo cpos (starEach (e :: es) X.env)).all (fun x => !x.1) && (backToKw cpos (keywordEach [] X.env)).all (fun x => x.1.isSome)
      && decide ((e :: es).length + ([] : List Keyword).length + (if ([] : List Keyword).isEmpty then 0 else 1) < 30)) = true := by rfl)
    (hline : (apos.endLine == cpos.line) = true := by rfl) (hs : starEach (e :: es) X.env = (false, eval e X.env) :: starEach es X.env := by rfl) (hplain : (backTo cpos (starEach es X.env)).any (·.1) = false := by rfl) :
    PE X (.Call (.Attribute o name apos) (e :: es) [] cpos) (tBM K T r to t) := by subst h; exact pe_bm pa slot hty hm ho ha hbase hfew hline hs hplain
theorem pt_truthK (h : X.K = K) {a : Expr} {ta : TE} (ha : PE X a ta) (he : ∀ whole, isTrue a X.env whole = (do let v ← whole; standAt a.pos; holding [v] (truthy v))) :
    PT X a (fun σ H Q => ta σ H fun x H' => ∃ k, TruV K x H' k ∧ Q k H') := by subst h; exact pt_truth ha he
theorem op_eqDK (h : X.K = K) (hu : X.A.units + 64 < cLine) : OpR X (compareOp .Eq) (rEqD K) := by subst h; exact op_eqD hu
theorem op_neDK (h : X.K = K) (hu : X.A.units + 64 < cLine) : OpR X (compareOp .NotEq) (rNeD K) := by subst h; exact op_neD hu
end

/-- as Fun.ok, for a def with defaults -/
theorem okD {P : Program} {w : World} {K : PySem.W.Frag} {mg : Str → Option Value} {base : Heap} {x qual : Str} {params : Arguments} {body : List Stmt} {scope : Scope} {dvs : List V} {kws : List (Str × V)} {f : Addr} {fd : FuncData} {N ps : List Str} {k : Nat} {sp : Sp}
    (F : FunD K x qual params body scope dvs kws f fd) (S : FnScope N ps scope) (len : ∀ vs H Q E, sp vs H Q E → vs.length = ps.length)
    (hbody : ∀ (cdv : Value) (A : Around) (outer : List Env) (s : Shared) (H : Hp) (vs : List V) (Q : VK) (E : XK), Room k (A.deeper (envOfC qual scope s.heap.objs.size f cdv)) → sp vs H Q E →
      ∃ t, PSs (cxOf CX0 P w K mg base N qual scope f cdv A outer s H E).nox body t ∧ t { nx := fun _ H' => Q .non H', rt := Q } (start N vs) H) : FnOk P w K mg base CX0 (k + 1) f fd ps sp :=
  F.ok S len fun cdv A outer s H vs Q E hr h => by
    obtain ⟨t, h1, h2⟩ := hbody cdv A outer s H vs Q E hr h
    exact ⟨t, h1.nox, h2⟩
end Tu
namespace Tu
open PySem PySem.Spec PyProof.Rows L2
def top (i : Nat) : Stmt := PySem.Challenge.pw_turtlestold_k52_whole_words_without_end.main.body.getD i (.Pass ⟨0, 0, 0, 0⟩)
/-- what the top has written -/
structure Txt (K : PySem.W.Frag) (mg : Str → Option Value) (C : Addr) : Prop where
  d__law_new : ∃ f fd, Fun K "_law_new" "_law_new" (top 38) f fd ∧ mg "_law_new" = some (.ref f)
  d__law_draw : ∃ f fd, Fun K "_law_draw" "_law_draw" (top 39) f fd ∧ mg "_law_draw" = some (.ref f)
  d__law_letters : ∃ f fd, Fun K "_law_letters" "_law_letters" (top 41) f fd ∧ mg "_law_letters" = some (.ref f)
  d__law_word : ∃ f fd, Fun K "_law_word" "_law_word" (top 42) f fd ∧ mg "_law_word" = some (.ref f)
  d__law_table : ∃ f fd, Fun K "_law_table" "_law_table" (top 43) f fd ∧ mg "_law_table" = some (.ref f)
  d__law_choice : ∃ f fd, Fun K "_law_choice" "_law_choice" (top 44) f fd ∧ mg "_law_choice" = some (.ref f)
  d__law_column : ∃ f fd, Fun K "_law_column" "_law_column" (top 45) f fd ∧ mg "_law_column" = some (.ref f)
  d__law_run : ∃ f fd, Fun K "_law_run" "_law_run" (top 46) f fd ∧ mg "_law_run" = some (.ref f)
  d__law_large : ∃ f fd, Fun K "_law_large" "_law_large" (top 47) f fd ∧ mg "_law_large" = some (.ref f)
  d__law_again_and_again : ∃ f fd, Fun K "_law_again_and_again" "_law_again_and_again" (top 48) f fd ∧ mg "_law_again_and_again" = some (.ref f)
  d__law_beginning : ∃ f fd, Fun K "_law_beginning" "_law_beginning" (top 49) f fd ∧ mg "_law_beginning" = some (.ref f)
  d__law_alike_words : ∃ f fd, Fun K "_law_alike_words" "_law_alike_words" (top 50) f fd ∧ mg "_law_alike_words" = some (.ref f)
  d__law_same : ∃ f fd, Fun K "_law_same" "_law_same" (top 40) f fd ∧ mg "_law_same" = some (.ref f)
  d__law_answers : ∃ f fd, Fun K "_law_answers" "_law_answers" (top 51) f fd ∧ mg "_law_answers" = some (.ref f)
  d__law_no_loop : ∃ f fd, Fun K "_law_no_loop" "_law_no_loop" (top 52) f fd ∧ mg "_law_no_loop" = some (.ref f)
  d__law_changed : ∃ f fd, Fun K "_law_changed" "_law_changed" (top 53) f fd ∧ mg "_law_changed" = some (.ref f)
  d_check_letters : ∃ f fd, Fun K "check_letters" "check_letters" (top 20) f fd ∧ mg "check_letters" = some (.ref f)
  d_check_word : ∃ f fd, Fun K "check_word" "check_word" (top 21) f fd ∧ mg "check_word" = some (.ref f)
  d_check_state : ∃ f fd, Fun K "check_state" "check_state" (top 32) f fd ∧ mg "check_state" = some (.ref f)
  d_chosen_states : ∃ f fd, Fun K "chosen_states" "chosen_states" (top 33) f fd ∧ mg "chosen_states" = some (.ref f)
  d_check_lasso : ∃ f fd, Fun K "check_lasso" "check_lasso" (top 24) f fd ∧ mg "check_lasso" = some (.ref f)
  d_settle : ∃ f fd, Fun K "settle" "settle" (top 25) f fd ∧ mg "settle" = some (.ref f)
  d_answers_for_ever : ∃ f fd, Fun K "answers_for_ever" "answers_for_ever" (top 26) f fd ∧ mg "answers_for_ever" = some (.ref f)
  d_often : ∃ f fd, Fun K "often" "often" (top 27) f fd ∧ mg "often" = some (.ref f)
  d_always : ∃ f fd, Fun K "always" "always" (top 28) f fd ∧ mg "always" = some (.ref f)
  d_prefix_of : ∃ f fd, Fun K "prefix_of" "prefix_of" (top 29) f fd ∧ mg "prefix_of" = some (.ref f)
  d_same_lasso : ∃ f fd, Fun K "same_lasso" "same_lasso" (top 30) f fd ∧ mg "same_lasso" = some (.ref f)
  d_law : ∃ f fd, Fun K "law" "law" (top 54) f fd ∧ mg "law" = some (.ref f)
  n_len : mg "len" = none
  n_int : mg "int" = none
  n_list : mg "list" = none
  n_tuple : mg "tuple" = none
  n_range : mg "range" = none
  n_enumerate : mg "enumerate" = none
  n_max : mg "max" = none
  n_isinstance : mg "isinstance" = none
  n_bool : mg "bool" = none
  n_str : mg "str" = none
  n_ValueError : mg "ValueError" = none
  g_MOST_LETTERS : ∃ t, mg "MOST_LETTERS" = some (.int 3 t)
  g_SMALL : ∃ t, mg "SMALL" = some (.str "abcdefghijklmnopqrstuvwxyz" t)
  g_MOST_PREFIX : ∃ t, mg "MOST_PREFIX" = some (.int 1000 t)
  cl_Machine : Cls K C
  m_Machine : mg "Machine" = some (.ref C)
  na_letters : NoAttr K C "letters"
  na_rows : NoAttr K C "rows"
  na_acc : NoAttr K C "_accepting"
  con_max : ∃ u, Con K C "MOST_STATES" (.int 32) u
  i_Machine : ∃ f fd dv, FunD K "__init__" "Machine.__init__" (defArgs (inClass (top 34) 1)) (defBody (inClass (top 34) 1)) (defScope (inClass (top 34) 1)) [dv] [] f fd ∧ Mk K C f
  run_Machine : ∃ f fd, FunD K "run" "Machine.run" (defArgs (inClass (top 34) 13)) (defBody (inClass (top 34) 13)) (defScope (inClass (top 34) 13)) [.int 0] [] f fd ∧ Meth K C "run" f
  choose_Machine : ∃ f fd, Fun K "choose" "Machine.choose" (inClass (top 34) 6) f fd ∧ Meth K C "choose" f
  acc_Machine : ∃ p f fd g gd, Fun K "accepting" "Machine.accepting" (inClass (top 34) 4) f fd ∧ PropOf K C "accepting" p f ∧ Fun K "accepting" "Machine.accepting" (inClass (top 34) 5) g gd ∧ SetOf K C "accepting" p g

/-! ### the draws' state -/
def BitsOk (c : Int) : Prop := c.natAbs < 2 ^ 1048576
theorem pow_big {n : Nat} (h : n ≤ 1048576) : 2 ^ n ≤ 2 ^ 1048576 := Nat.pow_le_pow_right (by decide) h
theorem bits_small {c : Int} (h : c.natAbs < 2 ^ 31) : BitsOk c := Nat.lt_of_lt_of_le h (pow_big (by decide))
theorem bits_of {c : Int} (h : Builtin.Int.intBits c ≤ 1048576) : BitsOk c := by
  by_cases h0 : c = 0
  · subst h0
    exact bits_small (by decide)
  · have h1 : c.natAbs.log2 + 1 ≤ 1048576 := by
      unfold Builtin.Int.intBits at h
      rw [if_neg (by simpa using h0)] at h
      exact h
    exact Nat.lt_of_lt_of_le (Nat.lt_log2_self (n := c.natAbs)) (pow_big h1)
theorem bits_le {c d : Int} (h : BitsOk c) (e : d.natAbs ≤ c.natAbs) : BitsOk d := Nat.lt_of_le_of_lt e h
theorem bits_mul {c d : Int} (h : BitsOk c) (hd : d.natAbs < 2 ^ 40) : CMulX c d := mulx_ok h hd (by decide)
/-- the state of the draws -/
def StOk (F : Hp) (o : HO) : Prop := ∃ (l : Addr) (ns : List Int) (pos : Nat) (c k m : Int), o = .lst [.ref l, .int pos, .int c, .int k, .int m] ∧ F l = some (.lst (ns.map V.int)) ∧ (∀ n ∈ ns, BitsOk n) ∧ pos ≤ ns.length ∧ ns.length ≤ 63 ∧ BitsOk c
theorem StOk.x {F F' : Hp} {o : HO} (h : StOk F o) (e : Same F F') : StOk F' o := by
  obtain ⟨l, ns, pos, c, k, m, h1, h2, h3⟩ := h
  exact ⟨l, ns, pos, c, k, m, h1, e _ _ h2, h3⟩
/-- the world with a good state at p, and M -/
def SW (F : Hp) (p : Addr) (M : List (Addr × HO)) (H : Hp) : Prop := ∃ o, StOk F o ∧ W F ((p, o) :: M) H
section
variable {F H : Hp} {M : List (Addr × HO)} {p q : Addr} {o : HO} {K : PySem.W.Frag} {xs : List V} {y : V}
theorem SW.w (s : SW F p M H) : W F M H := let ⟨_, _, w⟩ := s; w.tl
theorem SW.new (s : SW F p M H) (hq : H q = none) : SW F p ((q, o) :: M) (upd H q o) := by
  obtain ⟨u, hu, w⟩ := s
  exact ⟨u, hu, (w.new hq).swap⟩
theorem SW.frz (s : SW F p M H) (hq : H q = none) : SW (upd F q o) p M (upd H q o) := by
  obtain ⟨u, hu, w⟩ := s
  exact ⟨u, hu.x (same_upd (w.nF hq)), w.frz hq⟩
theorem SW.al {Q : VK} (s : SW F p M H) (h : ∀ q H', SW F p ((q, o) :: M) H' → Q (.ref q) H') : ∀ q, H q = none → Q (.ref q) (upd H q o) := fun q hq => by
  obtain ⟨u, hu, w⟩ := s
  exact h q _ ⟨u, hu, (w.new hq).swap⟩
theorem SW.alF {Q : VK} (s : SW F p M H) (h : ∀ q F' H', Same F F' → F' q = some o → SW F' p M H' → Q (.ref q) H') : ∀ q, H q = none → Q (.ref q) (upd H q o) := fun q hq => by
  obtain ⟨u, hu, w⟩ := s
  exact h q _ _ (same_upd (w.nF hq)) upd_same ⟨u, hu.x (same_upd (w.nF hq)), w.frz hq⟩
theorem SW.put {o' : HO} (s : SW F p ((q, o) :: M) H) : SW F p ((q, o') :: M) (upd H q o') := by
  obtain ⟨u, hu, w⟩ := s
  exact ⟨u, hu, w.swap.put.swap⟩
theorem SW.hd (s : SW F p ((q, o) :: M) H) : H q = some o := s.w.hd
theorem SW.fz (s : SW F p ((q, o) :: M) H) : SW (upd F q o) p M H := by
  obtain ⟨u, hu, w⟩ := s
  exact ⟨u, hu.x w.swap.ext, w.swap.fz⟩
theorem SW.ext (s : SW F p ((q, o) :: M) H) : Same F (upd F q o) := s.w.ext
theorem SW.appL {Q : VK} (s : SW F p ((q, .lst xs) :: M) H) (hz : xs.length < sizeLine) (h : ∀ H', SW F p ((q, .lst (xs ++ [y])) :: M) H' → Q .non H') :
    ∃ (l : Addr) (xs' : List V) (y' : V), V.ref q = .ref l ∧ [y] = [y'] ∧ H l = some (.lst xs') ∧ xs'.length < sizeLine ∧ Q .non (upd H l (.lst (xs' ++ [y']))) :=
  ⟨q, xs, y, rfl, rfl, s.hd, hz, h _ s.put⟩
theorem SW.tl (s : SW F p ((q, o) :: M) H) : SW F p M H := by
  obtain ⟨u, hu, w⟩ := s
  exact ⟨u, hu, w.swap.tl⟩
end
def spNew (K : PySem.W.Frag) : Sp := fun vs H Q _ => ∃ (a : Addr) (ns : List Int), vs = [.ref a] ∧ SqL K H a (ns.map V.int) ∧ ns.length ≤ 63 ∧ (∀ n ∈ ns, BitsOk n) ∧
  ∀ p F' H', SW F' p [] H' → Q (.ref p) H'
/-- a draw: the state is another good one, the number lies below many -/
def spDraw : Sp := fun vs H Q _ => ∃ (F : Hp) (M : List (Addr × HO)) (p : Addr) (many : Int), vs = [.ref p, .int many] ∧ SW F p M H ∧ 0 < many ∧ many < 1073741824 ∧
  ∀ (n : Nat) H', SW F p M H' → (n : Int) < many → Q (.int (n : Int)) H'
/-! ### steps of a reading -/
theorem div_ok {i j : Int} (h : 0 < j) (h2 : j < 1073741824) : CDivW i j := by
  refine ⟨h, ?_⟩
  have h3 : j.natAbs < 2 ^ 30 := by omega
  exact Nat.lt_trans (PySem.Flt.log2_lt_of (by decide) h3) (by decide)
theorem sub_le {c d : Int} (h0 : 0 ≤ d) (h : d ≤ c) : (c - d).natAbs ≤ c.natAbs := by omega
theorem k_lst {k : Nat} {xs : List V} (h : xs.length = k) (hk : k ≤ 100000) : xs.length ≤ sizeLine := by rw [h]; exact sz_of hk
local macro_rules | `(tactic| walk_at "sq") => `(tactic| first | assumption | exact W.lM (by assumption) | exact W.lF (by assumption) (by assumption) | exact W.tF (by assumption) (by assumption))
local macro_rules | `(tactic| walk_at "ix") => `(tactic| refine ⟨_, _, _, _, rfl, rfl, (by walk_at "sq"), (by first | rfl | assumption), ?_⟩)
local macro_rules | `(tactic| walk_at "len") => `(tactic| refine ⟨_, _, rfl, (by first | exact Or.inl ⟨_, (by walk_at "sq"), rfl⟩ | exact Or.inr ⟨_, (by walk_at "sq"), rfl⟩ | exact ⟨by assumption, rfl⟩), ?_⟩)
local macro_rules | `(tactic| walk_at "cond") => `(tactic| first
  | (with_reducible assumption)
  | ((with_reducible show (-(2 ^ 62) : Int) ≤ _); omega)
  | ((with_reducible show _ < (2 ^ 62 : Int)); omega)
  | ((with_reducible show (0 : Int) < _); first | (with_reducible assumption) | decide | omega)
  | ((with_reducible show CMulX _ _); exact bits_mul (by with_reducible assumption) (by decide))
  | ((with_reducible show CDivW _ _); exact div_ok (by first | (with_reducible assumption) | decide) (by first | (with_reducible assumption) | decide))
  | ((with_reducible show CPow _ _); exact ⟨by decide, by decide, by decide⟩)
  | ((with_reducible show List.length _ ≤ sizeLine); exact k_lst rfl (by decide))
  | ((with_reducible show scal _ _ = true); rfl)
  | ((with_reducible show wipe _ _ = wipe _ _); rfl)
  | ((with_reducible show [] = []); rfl)
  | (with_reducible rfl))
local macro_rules | `(tactic| walk_at "go1") => `(tactic| first
  | refine ⟨_, rfl, ?_⟩
  | refine ⟨_, _, rfl, rfl, ?_⟩
  | walk_at "ix"
  | walk_at "len"
  | refine And.intro (by walk_at "cond") ?_
  | refine Or.inl ⟨_, rfl, ?_⟩
  | refine iteF ?_
  | refine iteT ?_)
local macro_rules | `(tactic| walk_at "go") => `(tactic| repeat walk_at "go1")
local macro_rules | `(tactic| walk_at "ty") => `(tactic| first | assumption | exact TyX.base (.int _) | exact TyX.base (.bl _) | exact TyX.base (.str _) | exact TyX.base .non)
local macro_rules | `(tactic| walk_at "isT") => `(tactic| refine ⟨_, _, _, _, true, rfl, ClsV.ty _, (by walk_at "ty"), kit_ty (by decide +kernel), ?_⟩)
local macro_rules | `(tactic| walk_at "isF") => `(tactic| refine ⟨_, _, _, _, false, rfl, ClsV.ty _, (by walk_at "ty"), kit_ty (by decide +kernel), ?_⟩)
section
variable {P : Program} {w : World} {K : PySem.W.Frag} {mg : Str → Option Value} {base : Heap} {C : Addr}
theorem ok_new (T : Txt K mg C) : Def P w K mg base CX0 1 "_law_new" ["script"] [] (spNew K) := by
  obtain ⟨f, fd, F, hm⟩ := T.d__law_new
  have sc : FnScope ["script"] ["script"] (defScope (top 38)) := ⟨rfl, rfl, rfl, by decide +kernel, rfl, by decide +kernel, by decide +kernel⟩
  refine ⟨f, fd, [], F.ok sc (fun vs H Q E h => ?_) (fun cdv A outer s H vs Q E hr h => ?_), hm, F.kp, (F.binds fun _ _ _ _ _ _ us hl => match us, hl with | [_], _ => rfl), .nil⟩
  · obtain ⟨a, ns, rfl, _⟩ := h; rfl
  · obtain ⟨a, ns, rfl, hS, hl, hb, k⟩ := h
    refine ⟨_, (pss_one (ps_ret (pe_lst (pa_cons (pe_callTy (call_list_ofK (K := K) rfl) (by rfl) T.n_list boot_list (pa_cons (pv 0) pa_nil)) (pa_cons pe_int (pa_cons pe_int (pa_cons pe_int (pa_cons pe_int pa_nil)))))))), ?_⟩
    refine ⟨_, rfl, a, _, rfl, Or.inl hS, fun l hl' => ?_⟩
    refine ⟨by show 5 ≤ sizeLine; decide, fun p hp => ?_⟩
    have w0 : W (fun _ => none) [] H := W.start
    have w1 := (w0.frz hl' (o := .lst (ns.map V.int))).new hp (o := .lst [.ref l, .int 0, .int 0, .int 0, .int 0])
    exact k p _ _ ⟨_, ⟨l, ns, 0, 0, 0, 0, rfl, upd_same, hb, Nat.zero_le _, hl, bits_small (by decide)⟩, w1⟩
theorem ok_draw (T : Txt K mg C) : Def P w K mg base CX0 1 "_law_draw" ["state", "many"] [] spDraw := by
  obtain ⟨f, fd, F, hm⟩ := T.d__law_draw
  have sc : FnScope ["state", "many", "cell", "digit"] ["state", "many"] (defScope (top 39)) := ⟨rfl, rfl, rfl, by decide +kernel, rfl, by decide +kernel, by decide +kernel⟩
  refine ⟨f, fd, [], F.ok sc (fun vs H Q E h => ?_) (fun cdv A outer s H vs Q E hr h => ?_), hm, F.kp, (F.binds fun _ _ _ _ _ _ us hl => match us, hl with | [_, _], _ => rfl), .nil⟩
  · obtain ⟨F0, M, p, many, rfl, _⟩ := h; rfl
  · obtain ⟨F0, M, p, many, rfl, ⟨o, hst, wd⟩, hm1, hm2, k0⟩ := h
    have k : ∀ o' n H', StOk F0 o' → 0 ≤ n → n < many → W F0 ((p, o') :: M) H' → Q (.int n) H' := fun o' n H' h1 h2 h3 h4 => by
      have e : ((n.toNat : Nat) : Int) = n := Int.toNat_of_nonneg h2
      have := k0 n.toNat H' ⟨o', h1, h4⟩ (by rw [e]; exact h3)
      rw [e] at this
      exact this
    refine ⟨_, (C8.pss_cut (ps_if (PW.pt (pw_and (pt_cmpR op_eq (pe_ix (ix_listK (K := K) rfl) (pv 0) pe_int (fun _ _ => rfl)) pe_int (nomark _)) (pw_and1 (pt_cmpR op_lt (pe_ix (ix_listK (K := K) rfl) (pv 0) pe_int (fun _ _ => rfl)) (pe_callB (call_lenK (K := K) rfl) (by rfl) T.n_len boot_len (pa_cons (pe_ix (ix_listK (K := K) rfl) (pv 0) pe_int (fun _ _ => rfl)) pa_nil)) (nomark _))))) (pss_cons (ps_set (i := 2) sc.nd rfl (Or.inl rfl) (pe_ix (ix_listK (K := K) rfl) (pe_ix (ix_listK (K := K) rfl) (pv 0) pe_int (fun _ _ => rfl)) (pe_ix (ix_listK (K := K) rfl) (pv 0) pe_int (fun _ _ => rfl)) (fun _ _ => rfl)))
  (pss_cons (ps_asg (pe_op op_add (pe_ix (ix_listK (K := K) rfl) (pv 0) pe_int (fun _ _ => rfl)) pe_int) (pg_sub (pv 0) pe_int set_list))
  (pss_one (ps_if (pt_cmpR op_ge (pv 2) (pe_op op_pow pe_int pe_int) (nomark _)) (pss_cons (ps_asg (pe_op op_sub (pv 2) (pe_op op_pow pe_int pe_int)) (pg_sub (pv 0) pe_int set_list))
  (pss_cons (ps_asg pe_int (pg_sub (pv 0) pe_int set_list))
  (pss_one (ps_asg pe_int (pg_sub (pv 0) pe_int set_list))))) (pss_cons (ps_asg (pe_op op_mod (pe_callTy call_int1 (by rfl) T.n_int boot_int (pa_cons (pe_op op_mulX (pv 2) pe_int) pa_nil)) pe_int) (pg_sub (pv 0) pe_int set_list))
  (pss_cons (ps_asg pe_int (pg_sub (pv 0) pe_int set_list))
  (pss_one (ps_asg pe_int (pg_sub (pv 0) pe_int set_list))))))))) pss_nil)
  (pss_cons (ps_if (pt_cmpR op_eq (pe_ix (ix_listK (K := K) rfl) (pv 0) pe_int (fun _ _ => rfl)) pe_int (nomark _)) (pss_one (ps_ret pe_int)) pss_nil)
  (pss_cons (ps_asg (pe_op op_sub (pe_ix (ix_listK (K := K) rfl) (pv 0) pe_int (fun _ _ => rfl)) pe_int) (pg_sub (pv 0) pe_int set_list))
  (pss_cons (ps_if (pt_cmpR op_eq (pe_ix (ix_listK (K := K) rfl) (pv 0) pe_int (fun _ _ => rfl)) pe_int (nomark _)) (pss_cons (ps_set (i := 3) sc.nd rfl (Or.inl rfl) (pe_op op_mod (pe_callTy call_int1 (by rfl) T.n_int boot_int (pa_cons (pe_ix (ix_listK (K := K) rfl) (pv 0) pe_int (fun _ _ => rfl)) pa_nil)) (pv 1)))
  (pss_cons (ps_asg (pe_op op_fdivW (pe_ix (ix_listK (K := K) rfl) (pv 0) pe_int (fun _ _ => rfl)) (pv 1)) (pg_sub (pv 0) pe_int set_list))
  (pss_cons (ps_if (pt_cmpR op_eq (pe_ix (ix_listK (K := K) rfl) (pv 0) pe_int (fun _ _ => rfl)) pe_int (nomark _)) (pss_one (ps_asg pe_int (pg_sub (pv 0) pe_int set_list))) pss_nil)
  (pss_one (ps_ret (pv 3)))))) pss_nil)
  (pss_cons (ps_asg (pe_op op_mod (pe_callTy call_int1 (by rfl) T.n_int boot_int (pa_cons (pe_op op_mulX (pe_ix (ix_listK (K := K) rfl) (pv 0) pe_int (fun _ _ => rfl)) pe_int) pa_nil)) pe_int) (pg_sub (pv 0) pe_int set_list))
  (pss_one (ps_ret (pe_op op_mod (pe_callTy call_int1 (by rfl) T.n_int boot_int (pa_cons (pe_op op_fdivW (pe_ix (ix_listK (K := K) rfl) (pv 0) pe_int (fun _ _ => rfl)) pe_int) pa_nil)) (pv 1))))))))), ?_⟩
    obtain ⟨l, ns, pos, c, k3, m, rfl, hl, hb, hpos, hlen, hc⟩ := hst
    refine ⟨fun σ' H' => ∃ o' v, σ' = [some (.ref p), some (.int many), v, none] ∧ StOk F0 o' ∧ W F0 ((p, o') :: M) H', ?_, ?_⟩
    · walk_at "go"
      refine ib (fun e1 => ?_) (fun e1 => ?_)
      · have sl : SqL K H l (ns.map V.int) := wd.lF hl
        walk_at "go"
        refine ib (fun e2 => ?_) (fun e2 => ?_)
        · have hlt : pos < ns.length := by
            have e3 := of_decide_eq_true e2
            rw [List.length_map] at e3
            omega
          have hat : atI (ns.map V.int) (pos : Int) = some (.int ns[pos]) := by
            exact atI_nat (by rw [List.getElem?_map, List.getElem?_eq_getElem hlt]; rfl)
          have hcb : BitsOk ns[pos] := hb _ (List.getElem_mem hlt)
          walk_at "go"
          refine wd.setL (by rfl) fun H wd => ?_
          walk_at "go"
          refine ib (fun e3 => ?_) (fun e3 => ?_)
          · have hge := of_decide_eq_true e3
            walk_at "go"
            refine wd.setL (by rfl) fun H wd => ?_
            walk_at "go"
            refine wd.setL (by rfl) fun H wd => ?_
            walk_at "go"
            refine wd.setL (by rfl) fun H wd => ?_
            exact ⟨_, _, rfl, ⟨l, ns, pos + 1, _, 60, 1, rfl, hl, hb, hlt, hlen, bits_le hcb (sub_le (by decide) hge)⟩, wd⟩
          · walk_at "go"
            refine wd.setL (by rfl) fun H wd => ?_
            walk_at "go"
            refine wd.setL (by rfl) fun H wd => ?_
            walk_at "go"
            refine wd.setL (by rfl) fun H wd => ?_
            exact ⟨_, _, rfl, ⟨l, ns, pos + 1, _, 5, 0, rfl, hl, hb, hlt, hlen, bits_small (by omega)⟩, wd⟩
        · exact ⟨_, none, rfl, ⟨l, ns, pos, c, k3, m, rfl, hl, hb, hpos, hlen, hc⟩, wd⟩
      · refine iteF ?_
        exact ⟨_, none, rfl, ⟨l, ns, pos, c, k3, m, rfl, hl, hb, hpos, hlen, hc⟩, wd⟩
    · rintro σ' H ⟨o, v, rfl, ⟨l, ns, pos, c, k3, m, rfl, hl, hb, hpos, hlen, hc⟩, wd⟩
      walk_at "go"
      refine ib (fun e1 => ?_) (fun e1 => ?_)
      · exact k _ 0 H ⟨l, ns, pos, c, k3, m, rfl, hl, hb, hpos, hlen, hc⟩ (by decide) hm1 wd
      walk_at "go"
      refine wd.setL (by rfl) fun H wd => ?_
      walk_at "go"
      refine ib (fun e2 => ?_) (fun e2 => ?_)
      · walk_at "go"
        refine wd.setL (by rfl) fun H wd => ?_
        walk_at "go"
        have n0 : 0 ≤ c % many := Int.emod_nonneg _ (by omega)
        have n1 : c % many < many := Int.emod_lt_of_pos _ hm1
        have hd : BitsOk (c / many) := bits_le hc (Int.natAbs_ediv_le_natAbs _ _)
        refine ib (fun e3 => ?_) (fun e3 => ?_)
        · walk_at "go"
          refine wd.setL (by rfl) fun H wd => ?_
          walk_at "go"
          exact k _ _ H ⟨l, ns, pos, _, _, m, rfl, hl, hb, hpos, hlen, hd⟩ n0 n1 wd
        · walk_at "go"
          exact k _ _ H ⟨l, ns, pos, _, _, m, rfl, hl, hb, hpos, hlen, hd⟩ n0 n1 wd
      · walk_at "go"
        refine wd.setL (by rfl) fun H wd => ?_
        walk_at "go"
        exact k _ _ H ⟨l, ns, pos, _, _, m, rfl, hl, hb, hpos, hlen, bits_small (by omega)⟩ (Int.emod_nonneg _ (by omega)) (Int.emod_lt_of_pos _ hm1) wd
end

/-! ### texts -/
abbrev mk (l : List Nat) : Str := ⟨l.toArray⟩
theorem mk_len (l : List Nat) : (mk l).length = l.length := by simp [mk, Str.length]
theorem mk_app (a b : List Nat) : mk a ++ mk b = mk (a ++ b) := by
  apply TL.ext_tl
  rw [TL.tl_append]
theorem mk_inj {a b : List Nat} (h : mk a = mk b) : a = b := congrArg (fun x : Str => x.cps.toList) h
theorem dec_mk {a b : List Nat} : decide (V.str (mk a) = V.str (mk b)) = decide (a = b) := by
  by_cases h : a = b
  · subst h; simp
  · have h2 : ¬ V.str (mk a) = V.str (mk b) := fun e => h (mk_inj (V.str.inj e))
    rw [decide_eq_false h, decide_eq_false h2]
theorem small_cps : (Str.ofString "abcdefghijklmnopqrstuvwxyz").cps.toList = List.range' 97 26 := by decide +kernel
theorem small_at {i : Nat} (h : i < 26) : atI (Str.ofString "abcdefghijklmnopqrstuvwxyz").cps.toList (i : Int) = some (97 + i) := by
  rw [small_cps]
  refine atI_nat ?_
  rw [List.getElem?_range' (by omega)]
  simp
theorem small_atI {x : Int} (h0 : 0 ≤ x) (h : x < 26) : atI (Str.ofString "abcdefghijklmnopqrstuvwxyz").cps.toList x = some (97 + x.toNat) := by
  have e : ((x.toNat : Nat) : Int) = x := Int.toNat_of_nonneg h0
  rw [← e]
  exact small_at (by omega)
/-- an alphabet -/
structure Alpha (l : List Nat) : Prop where
  n0 : l ≠ []
  n3 : l.length ≤ 3
  up : l.Pairwise (· < ·)
  lo : ∀ c ∈ l, 97 ≤ c
  hi : ∀ c ∈ l, c ≤ 120
def spLetters : Sp := fun vs H Q _ => ∃ (F : Hp) (M : List (Addr × HO)) (p : Addr), vs = [.ref p, .int 3] ∧ SW F p M H ∧ ∀ l H', SW F p M H' → Alpha l → Q (.str (mk l)) H'
def spWord : Sp := fun vs H Q _ => ∃ (F : Hp) (M : List (Addr × HO)) (p : Addr) (l : List Nat) (most : Nat), vs = [.ref p, .str (mk l), .int (most : Int)] ∧ SW F p M H ∧ l ≠ [] ∧ l.length ≤ 3 ∧ most ≤ 1000 ∧
  ∀ u H', SW F p M H' → (∀ c ∈ u, c ∈ l) → u.length ≤ most → Q (.str (mk u)) H'
/-- rows of next states -/
def tab (rows : List (List Nat)) : D := D.lst (rows.map fun r => D.lst (r.map fun (n : Nat) => D.int (n : Int)))
def tabT (rows : List (List Nat)) : D := D.tup (rows.map fun r => D.tup (r.map fun (n : Nat) => D.int (n : Int)))
structure TabOk (rows : List (List Nat)) (k : Nat) : Prop where
  wid : ∀ r ∈ rows, r.length = k
  sta : ∀ r ∈ rows, ∀ x ∈ r, x < rows.length
  n0 : rows ≠ []
  n32 : rows.length ≤ 32
def spTable : Sp := fun vs H Q _ => ∃ (F : Hp) (M : List (Addr × HO)) (p : Addr) (l : List Nat) (most : Nat), vs = [.ref p, .str (mk l), .int (most : Int)] ∧ SW F p M H ∧ l.length ≤ 3 ∧ 0 < most ∧ most ≤ 32 ∧
  ∀ rows v F' H', Same F F' → SW F' p M H' → Rp F' (tab rows) v → TabOk rows l.length → rows.length ≤ most → Q v H'
def natsD (ns : List Nat) : D := D.lst (ns.map fun (n : Nat) => D.int (n : Int))
def spChoice : Sp := fun vs H Q _ => ∃ (F : Hp) (M : List (Addr × HO)) (p : Addr) (n : Nat), vs = [.ref p, .int (n : Int)] ∧ SW F p M H ∧ n ≤ 1000 ∧
  ∀ ch v F' H', Same F F' → SW F' p M H' → Rp F' (natsD ch) v → (∀ x ∈ ch, x < n) → ch.Pairwise (· < ·) → ch.length ≤ n → Q v H'
theorem idxOf_eq : ∀ {l : List Nat} {c i : Nat}, l[i]? = some c → (∀ j, j < i → l[j]? ≠ some c) → l.idxOf c = i
  | [], c, i, h, _ => by simp at h
  | x :: l, c, 0, h, _ => by simp at h; subst h; simp
  | x :: l, c, i + 1, h, hn => by
    have h0 : x ≠ c := fun e => hn 0 (Nat.succ_pos _) (by simp [e])
    have h1 := idxOf_eq (l := l) (c := c) (i := i) (by simpa using h) fun j hj e => hn (j + 1) (by omega) (by simpa using e)
    rw [List.idxOf_cons]
    have : (x == c) = false := by simpa using h0
    rw [this]; simp [h1]
def spColumn : Sp := fun vs H Q _ => ∃ (l : List Nat) (c : Nat), vs = [.str (mk l), .str (mk [c])] ∧ c ∈ l ∧ l.length ≤ 1000 ∧ Q (.int (l.idxOf c : Nat)) H
/-- the next state, the state behind a word -/
def stepL (rows : List (List Nat)) (q k : Nat) : Nat := (rows.getD q []).getD k 0
def runL (l : List Nat) (rows : List (List Nat)) : Nat → List Nat → Nat := List.foldl fun q c => stepL rows q (l.idxOf c)
def spLRun : Sp := fun vs H Q _ => ∃ (F : Hp) (l : List Nat) (rows : List (List Nat)) (q : Nat) (u : List Nat) (v : V), vs = [.str (mk l), v, .int (q : Int), .str (mk u)] ∧ Same F H ∧ Rp F (tab rows) v ∧ TabOk rows l.length ∧ q < rows.length ∧ (∀ c ∈ u, c ∈ l) ∧ l.length ≤ 1000 ∧ Q (.int (runL l rows q u : Nat)) H
theorem TabOk.step {rows : List (List Nat)} {k q j : Nat} (t : TabOk rows k) (hq : q < rows.length) (hj : j < k) : stepL rows q j < rows.length := by
  unfold stepL
  have h1 : rows.getD q [] = rows[q] := by simp [List.getD, hq]
  rw [h1]
  have hm : rows[q] ∈ rows := List.getElem_mem hq
  have hl := t.wid _ hm
  have h2 : rows[q].getD j 0 = rows[q][j]'(by omega) := by simp [List.getD, hl, hj]
  rw [h2]
  exact t.sta _ hm _ (List.getElem_mem _)
theorem Rps.nats {F : Hp} : ∀ {ns : List Nat}, Rps F (ns.map fun (n : Nat) => D.int (n : Int)) (ns.map fun (n : Nat) => V.int (n : Int))
  | [] => Rps.nil
  | n :: ns => Rps.cons Rp.int Rps.nats
theorem Rps.of_nats {F : Hp} : ∀ {ns : List Nat} {xs : List V}, Rps F (ns.map fun (n : Nat) => D.int (n : Int)) xs → xs = ns.map fun (n : Nat) => V.int (n : Int)
  | [], xs, h => by simpa only [List.map_nil, Rps] using h
  | n :: ns, xs, h => by
    rw [List.map_cons] at h
    obtain ⟨y, ys, rfl, hy, hs⟩ := h.uncons
    simp only [Rp] at hy
    rw [hy, Rps.of_nats hs, List.map_cons]
section
variable {P : Program} {w : World} {K : PySem.W.Frag} {mg : Str → Option Value} {base : Heap} {C : Addr}
theorem ok_letters (T : Txt K mg C) : Def P w K mg base CX0 2 "_law_letters" ["state", "most"] [] spLetters := by
  obtain ⟨f_draw, fd_draw, ds_draw, F_draw, m_draw, k_draw, b_draw, d_draw⟩ := ok_draw (P := P) (w := w) (base := base) T
  obtain ⟨f, fd, F, hm⟩ := T.d__law_letters
  have sc : FnScope ["state", "most", "small", "count", "at", "letters", "k"] ["state", "most"] (defScope (top 41)) := ⟨rfl, rfl, rfl, by decide +kernel, rfl, by decide +kernel, by decide +kernel⟩
  refine ⟨f, fd, [], F.ok sc (fun vs H Q E h => ?_) (fun cdv A outer s H vs Q E hr h => ?_), hm, F.kp, (F.binds fun _ _ _ _ _ _ us hl => match us, hl with | [_, _], _ => rfl), .nil⟩
  · obtain ⟨F0, M, p, rfl, _⟩ := h; rfl
  · obtain ⟨F0, M, p, rfl, s0, k⟩ := h
    refine ⟨_, (pss_cons (ps_set (i := 2) sc.nd rfl (Or.inl rfl) pe_str)
  (pss_cons (ps_set (i := 3) sc.nd rfl (Or.inl rfl) (pe_op op_add pe_int (pe_call F_draw (hr.mono (by first | decide | omega)) (by rfl) m_draw k_draw b_draw d_draw pass0 (pa_cons (pv 0) (pa_cons (pv 1) pa_nil)))))
  (pss_cons (ps_set (i := 4) sc.nd rfl (Or.inl rfl) (pe_call F_draw (hr.mono (by first | decide | omega)) (by rfl) m_draw k_draw b_draw d_draw pass0 (pa_cons (pv 0) (pa_cons pe_int pa_nil))))
  (pss_cons (ps_set (i := 5) sc.nd rfl (Or.inl rfl) (pe_ix ix_str (pv 2) (pv 4) (fun _ _ => rfl)))
  (pss_cons (ps_for PassesOwn.never rfl (pi_range1 (by rfl) T.n_range (pa_cons (pe_op op_sub (pv 3) pe_int) pa_nil)) (pg_name (i := 6) sc.nd rfl (Or.inl rfl))
   (pss_cons (ps_set (i := 4) sc.nd rfl (Or.inl rfl) (pe_op op_add (pe_op op_add (pv 4) pe_int) (pe_call F_draw (hr.mono (by first | decide | omega)) (by rfl) m_draw k_draw b_draw d_draw pass0 (pa_cons (pv 0) (pa_cons pe_int pa_nil)))))
  (pss_one (ps_set (i := 5) sc.nd rfl (Or.inl rfl) (pe_op op_add_str (pv 5) (pe_ix ix_str (pv 2) (pv 4) (fun _ _ => rfl)))))))
  (pss_one (ps_ret (pv 5)))))))), ?_⟩
    walk_at "go"
    refine ⟨F0, M, p, 3, rfl, s0, by decide, by decide, fun n H s0 hn => ?_⟩
    walk_at "go"
    refine ⟨F0, M, p, 8, rfl, s0, by decide, by decide, fun at0 H s0 ha => ?_⟩
    walk_at "go"
    refine ⟨_, _, _, rfl, rfl, by decide +kernel, small_at (by omega), ?_⟩
    walk_at "go"
    refine for_range (lo := 0) (n := (1 + (n : Int) - 1).toNat) (fun i σ H => ∃ (a : Nat) (l : List Nat) (v : Option V), σ = [some (.ref p), some (.int 3), some (.str "abcdefghijklmnopqrstuvwxyz"), some (.int (1 + (n : Int))), some (.int (a : Int)), some (.str (mk l)), v] ∧ SW F0 p M H ∧
      l.length = i + 1 ∧ a ≤ 7 + 8 * i ∧ l.Pairwise (· < ·) ∧ ∀ c ∈ l, 97 ≤ c ∧ c ≤ 97 + a) ?_ ?_ ?_
    · exact ⟨at0, [97 + at0], none, rfl, s0, rfl, by omega, List.pairwise_singleton _ _, fun c hc => by rw [List.mem_singleton.mp hc]; omega⟩
    · rintro i σ H hi ⟨a, l, v, rfl, s0, hl, ha, hp, hc⟩
      walk_at "go"
      refine ⟨F0, M, p, 8, rfl, s0, by decide, by decide, fun b H s0 hb => ?_⟩
      walk_at "go"
      refine ⟨_, _, _, rfl, rfl, by decide +kernel, small_at (i := a + 1 + b) (by omega), ?_⟩
      have hlen : (mk l).length + (mk [97 + (a + 1 + b)]).length ≤ sizeLine := by
        rw [mk_len, mk_len, hl]; exact sz_of (by simp; omega)
      refine ⟨_, _, rfl, rfl, hlen, ?_⟩
      refine ⟨a + 1 + b, l ++ [97 + (a + 1 + b)], _, by rw [← mk_app]; rfl, s0, by simp [hl], by omega, ?_, fun c hm => ?_⟩
      · rw [List.pairwise_append]
        exact ⟨hp, List.pairwise_singleton _ _, fun c h1 d h2 => by rw [List.mem_singleton.mp h2]; have := hc c h1; omega⟩
      · rcases List.mem_append.mp hm with h1 | h1
        · have := hc c h1; omega
        · rw [List.mem_singleton.mp h1]; omega
    · rintro σ H ⟨a, l, v, rfl, s0, hl, ha, hp, hc⟩
      walk_at "go"
      refine k l H s0 ⟨fun e => by rw [e] at hl; simp at hl, by omega, hp, fun c h => (hc c h).1, fun c h => by have := (hc c h).2; omega⟩
theorem ok_word (T : Txt K mg C) : Def P w K mg base CX0 2 "_law_word" ["state", "letters", "most"] [] spWord := by
  obtain ⟨f_draw, fd_draw, ds_draw, F_draw, m_draw, k_draw, b_draw, d_draw⟩ := ok_draw (P := P) (w := w) (base := base) T
  obtain ⟨f, fd, F, hm⟩ := T.d__law_word
  have sc : FnScope ["state", "letters", "most", "word", "k"] ["state", "letters", "most"] (defScope (top 42)) := ⟨rfl, rfl, rfl, by decide +kernel, rfl, by decide +kernel, by decide +kernel⟩
  refine ⟨f, fd, [], F.ok sc (fun vs H Q E h => ?_) (fun cdv A outer s H vs Q E hr h => ?_), hm, F.kp, (F.binds fun _ _ _ _ _ _ us hl => match us, hl with | [_, _, _], _ => rfl), .nil⟩
  · obtain ⟨F0, M, p, l, most, rfl, _⟩ := h; rfl
  · obtain ⟨F0, M, p, l, most, rfl, s0, hl0, hl3, hmost, k⟩ := h
    have hpos : 0 < l.length := List.length_pos_iff.mpr hl0
    refine ⟨_, (pss_cons (ps_set (i := 3) sc.nd rfl (Or.inl rfl) pe_str)
  (pss_cons (ps_for PassesOwn.never rfl (pi_range1 (by rfl) T.n_range (pa_cons (pe_call F_draw (hr.mono (by first | decide | omega)) (by rfl) m_draw k_draw b_draw d_draw pass0 (pa_cons (pv 0) (pa_cons (pe_op op_add (pv 2) pe_int) pa_nil))) pa_nil)) (pg_name (i := 4) sc.nd rfl (Or.inl rfl))
   (pss_one (ps_set (i := 3) sc.nd rfl (Or.inl rfl) (pe_op op_add_str (pv 3) (pe_ix ix_str (pv 1) (pe_call F_draw (hr.mono (by first | decide | omega)) (by rfl) m_draw k_draw b_draw d_draw pass0 (pa_cons (pv 0) (pa_cons (pe_callB (call_lenK (K := K) rfl) (by rfl) T.n_len boot_len (pa_cons (pv 1) pa_nil)) pa_nil))) (fun _ _ => rfl))))))
  (pss_one (ps_ret (pv 3))))), ?_⟩
    walk_at "go"
    refine ⟨F0, M, p, (most : Int) + 1, rfl, s0, by omega, by omega, fun n H s0 hn => ?_⟩
    walk_at "go"
    refine for_range (lo := 0) (n := (n : Int).toNat) (fun i σ H => ∃ (u : List Nat) (v : Option V), σ = [some (.ref p), some (.str (mk l)), some (.int (most : Int)), some (.str (mk u)), v] ∧ SW F0 p M H ∧ u.length = i ∧ ∀ c ∈ u, c ∈ l) ?_ ?_ ?_
    · exact ⟨[], none, rfl, s0, rfl, fun c h => by cases h⟩
    · rintro i σ H hi ⟨u, v, rfl, s0, hu, hc⟩
      walk_at "go"
      have hsz : (mk l).length ≤ sizeLine := by rw [mk_len]; exact sz_of (by omega)
      refine ⟨_, _, rfl, ⟨hsz, rfl⟩, ?_⟩
      refine ⟨F0, M, p, ((mk l).length : Int), rfl, s0, by rw [mk_len]; omega, by rw [mk_len]; omega, fun b H s0 hb => ?_⟩
      rw [mk_len] at hb
      have hb' : b < l.length := by omega
      have hat : atI (mk l).cps.toList (b : Int) = some l[b] := atI_nat (List.getElem?_eq_getElem hb')
      refine ⟨_, _, _, rfl, rfl, hsz, hat, ?_⟩
      have hlen : (mk u).length + (mk [l[b]]).length ≤ sizeLine := by
        rw [mk_len, mk_len, hu]; exact sz_of (by simp; omega)
      refine ⟨_, _, rfl, rfl, hlen, ?_⟩
      refine ⟨u ++ [l[b]], _, by rw [← mk_app]; rfl, s0, by simp [hu], fun c hm => ?_⟩
      rcases List.mem_append.mp hm with h1 | h1
      · exact hc c h1
      · rw [List.mem_singleton.mp h1]; exact List.getElem_mem hb'
    · rintro σ H ⟨u, v, rfl, s0, hu, hc⟩
      walk_at "go"
      exact k u H s0 hc (by omega)
end
end Tu
namespace Tu
open PySem PySem.Spec PyProof.Rows L2
local macro_rules | `(tactic| walk_at "sq") => `(tactic| first | assumption | exact W.lM (by assumption) | exact W.lF (by assumption) (by assumption) | exact W.tF (by assumption) (by assumption))
local macro_rules | `(tactic| walk_at "ix") => `(tactic| refine ⟨_, _, _, _, rfl, rfl, (by walk_at "sq"), (by first | rfl | assumption), ?_⟩)
local macro_rules | `(tactic| walk_at "len") => `(tactic| refine ⟨_, _, rfl, (by first | exact Or.inl ⟨_, (by walk_at "sq"), rfl⟩ | exact Or.inr ⟨_, (by walk_at "sq"), rfl⟩ | exact ⟨by assumption, rfl⟩), ?_⟩)
local macro_rules | `(tactic| walk_at "cond") => `(tactic| first
  | (with_reducible assumption)
  | ((with_reducible show (-(2 ^ 62) : Int) ≤ _); omega)
  | ((with_reducible show _ < (2 ^ 62 : Int)); omega)
  | ((with_reducible show (0 : Int) < _); first | (with_reducible assumption) | decide | omega)
  | ((with_reducible show CMulX _ _); exact bits_mul (by with_reducible assumption) (by decide))
  | ((with_reducible show CDivW _ _); exact div_ok (by first | (with_reducible assumption) | decide) (by first | (with_reducible assumption) | decide))
  | ((with_reducible show CPow _ _); exact ⟨by decide, by decide, by decide⟩)
  | ((with_reducible show List.length _ ≤ sizeLine); exact k_lst rfl (by decide))
  | ((with_reducible show scal _ _ = true); rfl)
  | ((with_reducible show wipe _ _ = wipe _ _); rfl)
  | ((with_reducible show [] = []); rfl)
  | (with_reducible rfl))
local macro_rules | `(tactic| walk_at "go1") => `(tactic| first
  | refine ⟨_, rfl, ?_⟩
  | refine ⟨_, _, rfl, rfl, ?_⟩
  | walk_at "ix"
  | walk_at "len"
  | refine And.intro (by walk_at "cond") ?_
  | refine Or.inl ⟨_, rfl, ?_⟩
  | refine iteF ?_
  | refine iteT ?_)
local macro_rules | `(tactic| walk_at "go") => `(tactic| repeat walk_at "go1")
local macro_rules | `(tactic| walk_at "ty") => `(tactic| first | assumption | exact TyX.base (.int _) | exact TyX.base (.bl _) | exact TyX.base (.str _) | exact TyX.base .non)
local macro_rules | `(tactic| walk_at "isT") => `(tactic| refine ⟨_, _, _, _, true, rfl, ClsV.ty _, (by walk_at "ty"), kit_ty (by decide +kernel), ?_⟩)
local macro_rules | `(tactic| walk_at "isF") => `(tactic| refine ⟨_, _, _, _, false, rfl, ClsV.ty _, (by walk_at "ty"), kit_ty (by decide +kernel), ?_⟩)
section
variable {P : Program} {w : World} {K : PySem.W.Frag} {mg : Str → Option Value} {base : Heap} {C : Addr}
theorem ok_table (T : Txt K mg C) : Def P w K mg base CX0 2 "_law_table" ["state", "letters", "most"] [] spTable := by
  obtain ⟨f_draw, fd_draw, ds_draw, F_draw, m_draw, k_draw, b_draw, d_draw⟩ := ok_draw (P := P) (w := w) (base := base) T
  obtain ⟨f, fd, F, hm⟩ := T.d__law_table
  have sc : FnScope ["state", "letters", "most", "count", "rows", "at", "k"] ["state", "letters", "most"] (defScope (top 43)) := ⟨rfl, rfl, rfl, by decide +kernel, rfl, by decide +kernel, by decide +kernel⟩
  refine ⟨f, fd, [], F.ok sc (fun vs H Q E h => ?_) (fun cdv A outer s H vs Q E hr h => ?_), hm, F.kp, (F.binds fun _ _ _ _ _ _ us hl => match us, hl with | [_, _, _], _ => rfl), .nil⟩
  · obtain ⟨F0, M, p, l, most, rfl, _⟩ := h; rfl
  · obtain ⟨F0, M, p, l, most, rfl, s0, hl3, hm0, hm1, k⟩ := h
    refine ⟨_, (pss_cons (ps_set (i := 3) sc.nd rfl (Or.inr rfl) (pe_op op_add pe_int (pe_call F_draw (hr.mono (by first | decide | omega)) (by rfl) m_draw k_draw b_draw d_draw pass0 (pa_cons (pv 0) (pa_cons (pv 2) pa_nil)))))
  (pss_cons (ps_set (i := 4) sc.nd rfl (Or.inl rfl) (pe_lst pa_nil))
  (pss_cons (ps_for PassesOwn.never rfl (pi_range1 (by rfl) T.n_range (pa_cons (pv 3) pa_nil)) (pg_name (i := 5) sc.nd rfl (Or.inl rfl))
   (pss_one (ps_expr (pe_bmK (K := K) rfl PySem.F.plainAttrs_list PySem.F.slot_list_append PySem.F.type_list_append mt_append (pv 4) (pa_cons (pe_lc (own := [("k", 6)]) (g := gName 6) rfl sc.nd (pi_range1 (by rfl) T.n_range (pa_cons (pe_callB (call_lenK (K := K) rfl) (by rfl) T.n_len boot_len (pa_cons (pv 1) pa_nil)) pa_nil)) (blkOk_by (N := ["state", "letters", "most", "count", "rows", "at", "k"]) (sc := defScope (top 43)) (by decide +kernel)) (fun _ _ _ _ _ => (pg_name (i := 6) sc.nd rfl (Or.inl rfl))) (fun _ _ _ _ _ => pts_nil) (fun _ _ _ _ _ => (pe_call F_draw (hr.mono (by first | decide | omega)) (by rfl) m_draw k_draw b_draw d_draw pass0 (pa_cons (pv 0) (pa_cons (pv 3) pa_nil))))) pa_nil)))))
  (pss_one (ps_ret (pv 4)))))), ?_⟩
    walk_at "go"
    refine ⟨F0, M, p, (most : Int), rfl, s0, by omega, by omega, fun n H s0 hn => ?_⟩
    walk_at "go"
    intro q hq
    have s0 := s0.new hq (o := .lst [])
    walk_at "go"
    have hcnt : ((1 + n : Nat) : Int) = 1 + (n : Int) := by omega
    have hsz : (mk l).length ≤ sizeLine := by rw [mk_len]; exact sz_of (by omega)
    have hml : (mk l).length = l.length := mk_len l
    refine for_range (lo := 0) (n := (1 + (n : Int)).toNat) (fun i σ H => ∃ (F' : Hp) (rows : List (List Nat)) (xs : List V) (v : Option V), σ = [some (.ref p), some (.str (mk l)), some (.int (most : Int)), some (.int (1 + (n : Int))), some (.ref q), v, none] ∧
      Same F0 F' ∧ SW F' p ((q, .lst xs) :: M) H ∧ Rps F' (rows.map fun r => D.lst (r.map fun (n : Nat) => D.int (n : Int))) xs ∧ rows.length = i ∧ (∀ r ∈ rows, r.length = l.length) ∧ ∀ r ∈ rows, ∀ x ∈ r, x < 1 + n) ?_ ?_ ?_
    · exact ⟨F0, [], [], none, rfl, Same.refl _, s0, Rps.nil, rfl, fun r h => (nomatch h), fun r h => (nomatch h)⟩
    · rintro i σ H hi ⟨F1, rows, xs, v, rfl, e1, s0, hR, hlen, hw, hx⟩
      walk_at "go"
      refine ⟨Or.inl ⟨rfl, _, .inl (.inl s0.hd)⟩, ?_⟩
      walk_at "go"
      intro D hD
      refine lc_range (lo := 0) (n := (((mk l).length : Nat) : Int).toNat) (fun j H => ∃ r : List Nat, SW F1 p ((D, .lst (r.map fun (n : Nat) => V.int (n : Int))) :: (q, .lst xs) :: M) H ∧ r.length = j ∧ ∀ x ∈ r, x < 1 + n) ?_ ?_ ?_
      · exact ⟨[], s0.new hD, rfl, fun x h => (nomatch h)⟩
      · rintro j H hj ⟨r, s1, hr1, hr2⟩
        walk_at "go"
        refine ⟨F1, _, p, 1 + (n : Int), rfl, s1, by omega, by omega, fun b H s1 hb => ?_⟩
        refine ⟨_, s1.hd, by rw [List.length_map, hr1]; exact sz_lt (by omega), r ++ [b], ?_, by simp [hr1], fun x hx => ?_⟩
        · rw [List.map_append]; exact s1.put
        · rcases List.mem_append.mp hx with h1 | h1
          · exact hr2 x h1
          · rw [List.mem_singleton.mp h1]; omega
      · rintro H ⟨r, s1, hr1, hr2⟩
        have s2 := s1.fz
        have e2 := s1.ext
        refine ⟨q, xs, _, rfl, rfl, s2.hd, by rw [hR.len]; simp only [List.length_map]; rw [hlen]; exact sz_lt (by omega), ?_⟩
        refine ⟨_, rows ++ [r], _, _, rfl, e1.trans e2, s2.put, ?_, by simp [hlen], fun r' hm => ?_, fun r' hm => ?_⟩
        · rw [List.map_append]
          exact (hR.x e2).snoc (Rp.ol upd_same Rps.nats)
        · rcases List.mem_append.mp hm with h1 | h1
          · exact hw r' h1
          · rw [List.mem_singleton.mp h1, hr1]; omega
        · rcases List.mem_append.mp hm with h1 | h1
          · exact hx r' h1
          · rw [List.mem_singleton.mp h1]; exact hr2
    · rintro σ H ⟨F1, rows, xs, v, rfl, e1, s0, hR, hlen, hw, hx⟩
      walk_at "go"
      have hn1 : rows.length = 1 + n := by rw [hlen]; omega
      refine k rows _ _ H (e1.trans s0.ext) s0.fz (Rp.ol upd_same (hR.x s0.ext)) ⟨hw, fun r h x h2 => by rw [hn1]; exact hx r h x h2, fun e => by rw [e] at hn1; simp at hn1; omega, by omega⟩ (by omega)
theorem ok_choice (T : Txt K mg C) : Def P w K mg base CX0 2 "_law_choice" ["state", "count"] [] spChoice := by
  obtain ⟨f_draw, fd_draw, ds_draw, F_draw, m_draw, k_draw, b_draw, d_draw⟩ := ok_draw (P := P) (w := w) (base := base) T
  obtain ⟨f, fd, F, hm⟩ := T.d__law_choice
  have sc : FnScope ["state", "count", "at"] ["state", "count"] (defScope (top 44)) := ⟨rfl, rfl, rfl, by decide +kernel, rfl, by decide +kernel, by decide +kernel⟩
  refine ⟨f, fd, [], F.ok sc (fun vs H Q E h => ?_) (fun cdv A outer s H vs Q E hr h => ?_), hm, F.kp, (F.binds fun _ _ _ _ _ _ us hl => match us, hl with | [_, _], _ => rfl), .nil⟩
  · obtain ⟨F0, M, p, n, rfl, _⟩ := h; rfl
  · obtain ⟨F0, M, p, n, rfl, s0, hn, k⟩ := h
    refine ⟨_, (pss_one (ps_ret (pe_lc (own := [("at", 2)]) (g := gName 2) rfl sc.nd (pi_range1 (by rfl) T.n_range (pa_cons (pv 1) pa_nil)) (blkOk_by (N := ["state", "count", "at"]) (sc := defScope (top 44)) (by decide +kernel)) (fun _ _ _ _ _ => (pg_name (i := 2) sc.nd rfl (Or.inl rfl))) (fun _ _ _ _ _ => (pts_one (pt_cmpR op_eq (pe_call F_draw (hr.mono (by first | decide | omega)) (by rfl) m_draw k_draw b_draw d_draw pass0 (pa_cons (pv 0) (pa_cons pe_int pa_nil))) pe_int (nomark _)))) (fun _ _ _ _ _ => (pv 2))))), ?_⟩
    walk_at "go"
    intro D hD
    refine lc_range (lo := 0) (n := (n : Int).toNat) (fun j H => ∃ r : List Nat, SW F0 p ((D, .lst (r.map fun (n : Nat) => V.int (n : Int))) :: M) H ∧ r.length ≤ j ∧ r.Pairwise (· < ·) ∧ ∀ x ∈ r, x < j) ?_ ?_ ?_
    · exact ⟨[], s0.new hD, Nat.le_refl _, List.Pairwise.nil, fun x h => (nomatch h)⟩
    · rintro j H hj ⟨r, s1, hr1, hp, hr2⟩
      walk_at "go"
      refine ⟨F0, _, p, 2, rfl, s1, by omega, by omega, fun b H s1 hb => ?_⟩
      walk_at "go"
      refine ib (fun e => ?_) (fun e => ?_)
      · walk_at "go"
        refine ⟨_, s1.hd, by rw [List.length_map]; exact sz_lt (by omega), r ++ [j], ?_, by simp; omega, ?_, fun x hx => ?_⟩
        · have e0 : (0 : Int) + (j : Int) = (j : Int) := by omega
          rw [List.map_append]
          show SW F0 p ((D, HO.lst (_ ++ [V.int (j : Int)])) :: M) (upd H D (HO.lst (_ ++ [V.int (0 + (j : Int))])))
          rw [e0]
          exact s1.put
        · rw [List.pairwise_append]
          exact ⟨hp, List.pairwise_singleton _ _, fun c h1 d h2 => by rw [List.mem_singleton.mp h2]; exact hr2 c h1⟩
        · rcases List.mem_append.mp hx with h1 | h1
          · have := hr2 x h1; omega
          · rw [List.mem_singleton.mp h1]; omega
      · exact ⟨r, s1, by omega, hp, fun x hx => by have := hr2 x hx; omega⟩
    · rintro H ⟨r, s1, hr1, hp, hr2⟩
      refine k r _ _ H s1.ext s1.fz (Rp.ol upd_same Rps.nats) (fun x h => by have := hr2 x h; omega) hp (by omega)
theorem ok_column (T : Txt K mg C) : Def P w K mg base CX0 1 "_law_column" ["letters", "letter"] [] spColumn := by
  obtain ⟨f, fd, F, hm⟩ := T.d__law_column
  have sc : FnScope ["letters", "letter", "k"] ["letters", "letter"] (defScope (top 45)) := ⟨rfl, rfl, rfl, by decide +kernel, rfl, by decide +kernel, by decide +kernel⟩
  refine ⟨f, fd, [], F.ok sc (fun vs H Q E h => ?_) (fun cdv A outer s H vs Q E hr h => ?_), hm, F.kp, (F.binds fun _ _ _ _ _ _ us hl => match us, hl with | [_, _], _ => rfl), .nil⟩
  · obtain ⟨l, c, rfl, _⟩ := h; rfl
  · obtain ⟨l, c, rfl, hc, hl, k⟩ := h
    refine ⟨_, (pss_cons (ps_for PassesOwn.never rfl (pi_range1 (by rfl) T.n_range (pa_cons (pe_callB (call_lenK (K := K) rfl) (by rfl) T.n_len boot_len (pa_cons (pv 0) pa_nil)) pa_nil)) (pg_name (i := 2) sc.nd rfl (Or.inl rfl))
   (pss_one (ps_if (pt_cmpR op_eq (pe_ix ix_str (pv 0) (pv 2) (fun _ _ => rfl)) (pv 1) (nomark _)) (pss_one (ps_ret (pv 2))) pss_nil)))
  (pss_one (ps_ret (pe_un un_neg pe_int)))), ?_⟩
    have hsz : (mk l).length ≤ sizeLine := by rw [mk_len]; exact sz_of (by omega)
    refine ⟨_, rfl, _, _, rfl, ⟨hsz, rfl⟩, ?_⟩
    rw [mk_len]
    walk_at "go"
    refine for_range (lo := 0) (n := ((l.length : Nat) : Int).toNat) (fun i σ H' => ∃ v, σ = [some (.str (mk l)), some (.str (mk [c])), v] ∧ H' = H ∧ ∀ j, j < i → l[j]? ≠ some c) ?_ ?_ ?_
    · exact ⟨none, rfl, rfl, fun j hj => absurd hj (Nat.not_lt_zero _)⟩
    · rintro i σ H' hi ⟨v, rfl, rfl, hle⟩
      have hi' : i < l.length := by omega
      walk_at "go"
      refine ⟨_, _, _, rfl, rfl, hsz, (show atI (mk l).cps.toList ((0 : Int) + (i : Int)) = some l[i] by rw [Int.zero_add]; exact atI_nat (List.getElem?_eq_getElem hi')), ?_⟩
      walk_at "go"
      refine ib (fun e => ?_) (fun e => ?_)
      · have e2 : [l[i]] = [c] := mk_inj (V.str.inj (of_decide_eq_true e))
        have e3 : l[i] = c := by injection e2
        walk_at "go"
        have e4 : l.idxOf c = i := idxOf_eq (by rw [List.getElem?_eq_getElem hi', e3]) hle
        have e5 : ((0 : Int) + (i : Int)) = ((l.idxOf c : Nat) : Int) := by rw [e4]; omega
        show Q (.int ((0 : Int) + (i : Int))) H'
        rw [e5]
        exact k
      · refine ⟨_, rfl, rfl, ?_⟩
        intro j hj e6
        by_cases h : j = i
        · subst h
          rw [List.getElem?_eq_getElem hi'] at e6
          have := of_decide_eq_false e
          exact this (by rw [Option.some.inj e6])
        · exact hle j (by omega) e6
    · rintro σ H' ⟨v, rfl, rfl, hle⟩
      obtain ⟨j, hj, e⟩ := List.mem_iff_getElem.mp hc
      exact absurd (by rw [List.getElem?_eq_getElem hj, e]) (hle j (by omega))
end
end Tu
namespace Tu
open PySem PySem.Spec PyProof.Rows L2
local macro_rules | `(tactic| walk_at "sq") => `(tactic| first | assumption | exact W.lM (by assumption) | exact W.lF (by assumption) (by assumption) | exact W.tF (by assumption) (by assumption))
local macro_rules | `(tactic| walk_at "ix") => `(tactic| refine ⟨_, _, _, _, rfl, rfl, (by walk_at "sq"), (by first | rfl | assumption), ?_⟩)
local macro_rules | `(tactic| walk_at "len") => `(tactic| refine ⟨_, _, rfl, (by first | exact Or.inl ⟨_, (by walk_at "sq"), rfl⟩ | exact Or.inr ⟨_, (by walk_at "sq"), rfl⟩ | exact ⟨by assumption, rfl⟩), ?_⟩)
local macro_rules | `(tactic| walk_at "cond") => `(tactic| first
  | (with_reducible assumption)
  | ((with_reducible show (-(2 ^ 62) : Int) ≤ _); omega)
  | ((with_reducible show _ < (2 ^ 62 : Int)); omega)
  | ((with_reducible show (0 : Int) < _); first | (with_reducible assumption) | decide | omega)
  | ((with_reducible show CMulX _ _); exact bits_mul (by with_reducible assumption) (by decide))
  | ((with_reducible show CDivW _ _); exact div_ok (by first | (with_reducible assumption) | decide) (by first | (with_reducible assumption) | decide))
  | ((with_reducible show CPow _ _); exact ⟨by decide, by decide, by decide⟩)
  | ((with_reducible show List.length _ ≤ sizeLine); exact k_lst rfl (by decide))
  | ((with_reducible show scal _ _ = true); rfl)
  | ((with_reducible show wipe _ _ = wipe _ _); rfl)
  | ((with_reducible show [] = []); rfl)
  | (with_reducible rfl))
local macro_rules | `(tactic| walk_at "go1") => `(tactic| first
  | refine ⟨_, rfl, ?_⟩
  | refine ⟨_, _, rfl, rfl, ?_⟩
  | walk_at "ix"
  | walk_at "len"
  | refine And.intro (by walk_at "cond") ?_
  | refine Or.inl ⟨_, rfl, ?_⟩
  | refine iteF ?_
  | refine iteT ?_)
local macro_rules | `(tactic| walk_at "go") => `(tactic| repeat walk_at "go1")
local macro_rules | `(tactic| walk_at "ty") => `(tactic| first | assumption | exact TyX.base (.int _) | exact TyX.base (.bl _) | exact TyX.base (.str _) | exact TyX.base .non)
local macro_rules | `(tactic| walk_at "isT") => `(tactic| refine ⟨_, _, _, _, true, rfl, ClsV.ty _, (by walk_at "ty"), kit_ty (by decide +kernel), ?_⟩)
local macro_rules | `(tactic| walk_at "isF") => `(tactic| refine ⟨_, _, _, _, false, rfl, ClsV.ty _, (by walk_at "ty"), kit_ty (by decide +kernel), ?_⟩)
/-! ### equal data are told equal -/
/-- no deeper than n, no list longer than 100000 -/
def D.ok : Nat → D → Prop
  | 0, _ => False
  | n + 1, .lst ds => ds.length ≤ 100000 ∧ ∀ x ∈ ds, D.ok n x
  | n + 1, .tup ds => ds.length ≤ 100000 ∧ ∀ x ∈ ds, D.ok n x
  | _ + 1, _ => True
def spSame (n : Nat) : Sp := fun vs H Q _ => ∃ (F : Hp) (d : D) (u v : V), vs = [u, v] ∧ Same F H ∧ Rp F d u ∧ Rp F d v ∧ D.ok n d ∧ Q (.bl true) H
theorem tab_row {F : Hp} {rows : List (List Nat)} {v : V} (h : Rp F (tab rows) v) : ∃ (p : Addr) (xs : List V), v = .ref p ∧ F p = some (.lst xs) ∧ xs.length = rows.length ∧
    ∀ (q : Nat) (r : List Nat), rows[q]? = some r → ∃ a : Addr, xs[q]? = some (.ref a) ∧ F a = some (.lst (r.map fun (n : Nat) => V.int (n : Int))) := by
  obtain ⟨p, xs, rfl, hp, hx⟩ := h.l
  refine ⟨p, xs, rfl, hp, by rw [hx.len, List.length_map], fun q r hq => ?_⟩
  obtain ⟨x, e, hr⟩ := hx.at (i := q) (d := D.lst (r.map fun (n : Nat) => D.int (n : Int))) (by rw [List.getElem?_map, hq]; rfl)
  obtain ⟨a, ys, rfl, ha, hy⟩ := hr.l
  rw [Rps.of_nats hy] at ha
  exact ⟨a, e, ha⟩
theorem stepL_at {rows : List (List Nat)} {q j : Nat} {r : List Nat} (hq : rows[q]? = some r) (hj : j < r.length) : r[j]? = some (stepL rows q j) := by
  unfold stepL
  simp [List.getD, hq, hj]
section
variable {P : Program} {w : World} {K : PySem.W.Frag} {mg : Str → Option Value} {base : Heap} {C : Addr}
theorem ok_lrun (T : Txt K mg C) : Def P w K mg base CX0 2 "_law_run" ["letters", "rows", "at", "word"] [] spLRun := by
  obtain ⟨f_column, fd_column, ds_column, F_column, m_column, k_column, b_column, d_column⟩ := ok_column (P := P) (w := w) (base := base) T
  obtain ⟨f, fd, F, hm⟩ := T.d__law_run
  have sc : FnScope ["letters", "rows", "at", "word", "letter"] ["letters", "rows", "at", "word"] (defScope (top 46)) := ⟨rfl, rfl, rfl, by decide +kernel, rfl, by decide +kernel, by decide +kernel⟩
  refine ⟨f, fd, [], F.ok sc (fun vs H Q E h => ?_) (fun cdv A outer s H vs Q E hr h => ?_), hm, F.kp, (F.binds fun _ _ _ _ _ _ us hl => match us, hl with | [_, _, _, _], _ => rfl), .nil⟩
  · obtain ⟨F0, l, rows, q, u, v, rfl, _⟩ := h; rfl
  · obtain ⟨F0, l, rows, q, u, v, rfl, hF, hR, hT, hq, hu, hl, k⟩ := h
    obtain ⟨p, xs, rfl, hp, hxl, hrow⟩ := tab_row hR
    refine ⟨_, (pss_cons (ps_for PassesOwn.never rfl (pi_str (pv 3)) (pg_name (i := 4) sc.nd rfl (Or.inl rfl))
   (pss_one (ps_set (i := 2) sc.nd rfl (Or.inl rfl) (pe_ix (ix_listK (K := K) rfl) (pe_ix (ix_listK (K := K) rfl) (pv 1) (pv 2) (fun _ _ => rfl)) (pe_call F_column (hr.mono (by first | decide | omega)) (by rfl) m_column k_column b_column d_column pass0 (pa_cons (pv 0) (pa_cons (pv 4) pa_nil))) (fun _ _ => rfl)))))
  (pss_one (ps_ret (pv 2)))), ?_⟩
    walk_at "go"
    refine for_str (l := u) (fun i σ H' => ∃ v, σ = [some (.str (mk l)), some (.ref p), some (.int (runL l rows q (u.take i) : Nat)), some (.str (mk u)), v] ∧ H' = H ∧ runL l rows q (u.take i) < rows.length) ?_ ?_ ?_
    · exact ⟨none, rfl, rfl, hq⟩
    · rintro i c σ H' hc ⟨v, rfl, rfl, hlt⟩
      have hcl : c ∈ l := hu c (List.mem_of_getElem? hc)
      have hr0 : rows[runL l rows q (u.take i)]? = some rows[runL l rows q (u.take i)] := List.getElem?_eq_getElem hlt
      obtain ⟨a, hxa, ha⟩ := hrow _ _ hr0
      have hix : l.idxOf c < l.length := List.idxOf_lt_length_iff.mpr hcl
      have hwid := hT.wid _ (List.getElem_mem hlt)
      have hat : atI xs ((runL l rows q (u.take i) : Nat) : Int) = some (.ref a) := atI_nat hxa
      have sl : SqL K H' p xs := .inl (.inl (hF p _ hp))
      have sa : SqL K H' a _ := .inl (.inl (hF a _ ha))
      walk_at "go"
      refine ⟨l, c, rfl, hcl, hl, ?_⟩
      have hat2 : atI ((rows[runL l rows q (u.take i)]).map fun (n : Nat) => V.int (n : Int)) ((l.idxOf c : Nat) : Int) = some (.int (stepL rows (runL l rows q (u.take i)) (l.idxOf c) : Nat)) :=
        atI_nat (by rw [List.getElem?_map, stepL_at hr0 (by omega)]; rfl)
      walk_at "go"
      have e : runL l rows q (u.take (i + 1)) = stepL rows (runL l rows q (u.take i)) (l.idxOf c) := by
        unfold runL
        rw [List.take_succ, hc, Option.toList_some, List.foldl_append]
        rfl
      refine ⟨some (.str (mk [c])), by rw [e]; rfl, rfl, ?_⟩
      rw [e]; exact hT.step hlt hix
    · rintro σ H' ⟨v, rfl, rfl, hlt⟩
      walk_at "go"
      rw [List.take_length]
      exact k
theorem ok_same (T : Txt K mg C) : ∀ n, Def P w K mg base CX0 (n + 1) "_law_same" ["actual", "expected"] [] (spSame n)
  | 0 => by
    obtain ⟨f, fd, F, hm⟩ := T.d__law_same
    refine ⟨f, fd, [], ⟨fun vs H Q E h => ?_, fun A outer s H args us vs Q E hr e0 hb hv h => ?_⟩, hm, F.kp, (F.binds fun _ _ _ _ _ _ us hl => match us, hl with | [_, _], _ => rfl), .nil⟩
    · obtain ⟨F0, d, u, v, _, _, _, _, h, _⟩ := h; exact h.elim
    · obtain ⟨F0, d, u, v, _, _, _, _, h, _⟩ := h; exact h.elim
  | n + 1 => by
    have ih := ok_same T n
    obtain ⟨f_same, fd_same, ds_same, F_same, m_same, k_same, b_same, d_same⟩ := ih
    obtain ⟨f, fd, F, hm⟩ := T.d__law_same
    have sc : FnScope ["actual", "expected", "k"] ["actual", "expected"] (defScope (top 40)) := ⟨rfl, rfl, rfl, by decide +kernel, rfl, by decide +kernel, by decide +kernel⟩
    refine ⟨f, fd, [], F.ok sc (fun vs H Q E h => ?_) (fun cdv A outer s H vs Q E hr h => ?_), hm, F.kp, (F.binds fun _ _ _ _ _ _ us hl => match us, hl with | [_, _], _ => rfl), .nil⟩
    · obtain ⟨F0, d, u, v, rfl, _⟩ := h; rfl
    · obtain ⟨F0, d, u, v, rfl, hF, hu, hv, hok, k⟩ := h
      refine ⟨_, (pss_cons (ps_if (pt_cmpR op_isN (pv 1) pe_non (nomark _)) (pss_one (ps_ret (pe_cmpR op_isN (pv 0) pe_non (nomark _)))) pss_nil)
  (pss_cons (ps_if (pt_val (pe_callB (call_isiK (K := K) rfl) (by rfl) T.n_isinstance boot_isinstance (pa_cons (pv 1) (pa_cons (pe_bltn (v := .ty "bool") (by rfl) T.n_bool boot_bool rfl) pa_nil)))) (pss_one (ps_ret (pe_and (pe_callB (call_isiK (K := K) rfl) (by rfl) T.n_isinstance boot_isinstance (pa_cons (pv 0) (pa_cons (pe_bltn (v := .ty "bool") (by rfl) T.n_bool boot_bool rfl) pa_nil))) (pe_one (pe_cmpR op_eq (pv 0) (pv 1) (nomark _)))))) pss_nil)
  (pss_cons (ps_if (pt_val (pe_callB (call_isiK (K := K) rfl) (by rfl) T.n_isinstance boot_isinstance (pa_cons (pv 1) (pa_cons (pe_bltn (v := .ty "int") (by rfl) T.n_int boot_int rfl) pa_nil)))) (pss_one (ps_ret (pe_and (pe_callB (call_isiK (K := K) rfl) (by rfl) T.n_isinstance boot_isinstance (pa_cons (pv 0) (pa_cons (pe_bltn (v := .ty "int") (by rfl) T.n_int boot_int rfl) pa_nil))) (pe_and (pe_not (pe_callB (call_isiK (K := K) rfl) (by rfl) T.n_isinstance boot_isinstance (pa_cons (pv 0) (pa_cons (pe_bltn (v := .ty "bool") (by rfl) T.n_bool boot_bool rfl) pa_nil)))) (pe_one (pe_cmpR op_eq (pv 0) (pv 1) (nomark _))))))) pss_nil)
  (pss_cons (ps_if (pt_val (pe_callB (call_isiK (K := K) rfl) (by rfl) T.n_isinstance boot_isinstance (pa_cons (pv 1) (pa_cons (pe_bltn (v := .ty "str") (by rfl) T.n_str boot_str rfl) pa_nil)))) (pss_one (ps_ret (pe_and (pe_callB (call_isiK (K := K) rfl) (by rfl) T.n_isinstance boot_isinstance (pa_cons (pv 0) (pa_cons (pe_bltn (v := .ty "str") (by rfl) T.n_str boot_str rfl) pa_nil))) (pe_one (pe_cmpR op_eq (pv 0) (pv 1) (nomark _)))))) pss_nil)
  (pss_cons (ps_if (PW.pt (pw_and (pt_val (pe_callB (call_isiK (K := K) rfl) (by rfl) T.n_isinstance boot_isinstance (pa_cons (pv 1) (pa_cons (pe_bltn (v := .ty "list") (by rfl) T.n_list boot_list rfl) pa_nil)))) (pw_and1 (pt_not (pt_val (pe_callB (call_isiK (K := K) rfl) (by rfl) T.n_isinstance boot_isinstance (pa_cons (pv 0) (pa_cons (pe_bltn (v := .ty "list") (by rfl) T.n_list boot_list rfl) pa_nil)))))))) (pss_one (ps_ret pe_bl)) pss_nil)
  (pss_cons (ps_if (PW.pt (pw_and (pt_val (pe_callB (call_isiK (K := K) rfl) (by rfl) T.n_isinstance boot_isinstance (pa_cons (pv 1) (pa_cons (pe_bltn (v := .ty "tuple") (by rfl) T.n_tuple boot_tuple rfl) pa_nil)))) (pw_and1 (pt_not (pt_val (pe_callB (call_isiK (K := K) rfl) (by rfl) T.n_isinstance boot_isinstance (pa_cons (pv 0) (pa_cons (pe_bltn (v := .ty "tuple") (by rfl) T.n_tuple boot_tuple rfl) pa_nil)))))))) (pss_one (ps_ret pe_bl)) pss_nil)
  (pss_cons (ps_if (pt_cmpR op_ne (pe_callB (call_lenK (K := K) rfl) (by rfl) T.n_len boot_len (pa_cons (pv 0) pa_nil)) (pe_callB (call_lenK (K := K) rfl) (by rfl) T.n_len boot_len (pa_cons (pv 1) pa_nil)) (nomark _)) (pss_one (ps_ret pe_bl)) pss_nil)
  (pss_cons (ps_for PassesOwn.never rfl (pi_range1 (by rfl) T.n_range (pa_cons (pe_callB (call_lenK (K := K) rfl) (by rfl) T.n_len boot_len (pa_cons (pv 1) pa_nil)) pa_nil)) (pg_name (i := 2) sc.nd rfl (Or.inl rfl))
   (pss_one (ps_if (pt_not (pt_val (pe_call F_same (hr.mono (by first | decide | omega)) (by rfl) m_same k_same b_same d_same pass0 (pa_cons (pe_ix (ix_seqK (K := K) rfl) (pv 0) (pv 2) (fun _ _ => rfl)) (pa_cons (pe_ix (ix_seqK (K := K) rfl) (pv 1) (pv 2) (fun _ _ => rfl)) pa_nil))))) (pss_one (ps_ret pe_bl)) pss_nil)))
  (pss_one (ps_ret pe_bl)))))))))), ?_⟩
      cases d with
      | non =>
        simp only [Rp] at hu hv
        subst hu hv
        walk_at "go"
        exact k
      | bl b =>
        simp only [Rp] at hu hv
        subst hu hv
        walk_at "go"
        walk_at "isT"
        walk_at "go"
        walk_at "isT"
        walk_at "go"
        rw [show decide (V.bl b = V.bl b) = true from decide_eq_true rfl]
        exact k
      | int i =>
        simp only [Rp] at hu hv
        subst hu hv
        walk_at "go"
        walk_at "isF"
        walk_at "go"
        walk_at "isT"
        walk_at "go"
        walk_at "isT"
        walk_at "go"
        walk_at "isF"
        walk_at "go"
        rw [show decide (V.int i = V.int i) = true from decide_eq_true rfl]
        exact k
      | str i =>
        simp only [Rp] at hu hv
        subst hu hv
        walk_at "go"
        walk_at "isF"
        walk_at "go"
        walk_at "isF"
        walk_at "go"
        walk_at "isT"
        walk_at "go"
        walk_at "isT"
        walk_at "go"
        rw [show decide (V.str i = V.str i) = true from decide_eq_true rfl]
        exact k
      | lst ds =>
        obtain ⟨p, xs, rfl, hp, hx⟩ := hu.l
        obtain ⟨q, ys, rfl, hq, hy⟩ := hv.l
        obtain ⟨hl, hd⟩ := hok
        have tp : TyX K H (.ref p) (.type "list") := .base (.lst (hF p _ hp))
        have tq : TyX K H (.ref q) (.type "list") := .base (.lst (hF q _ hq))
        have sp' : SqL K H p xs := .inl (.inl (hF p _ hp))
        have sq' : SqL K H q ys := .inl (.inl (hF q _ hq))
        walk_at "go"
        walk_at "isF"
        walk_at "go"
        walk_at "isF"
        walk_at "go"
        walk_at "isF"
        walk_at "go"
        walk_at "isT"
        walk_at "go"
        walk_at "isT"
        walk_at "go"
        walk_at "isF"
        walk_at "go"
        refine if_F (by rw [hx.len, hy.len]; simp) ?_
        walk_at "go"
        have hyl := hy.len
        walk_at "go"
        refine for_range (lo := 0) (n := ((ys.length : Nat) : Int).toNat) (fun i σ H' => ∃ v, σ = [some (.ref p), some (.ref q), v] ∧ H' = H) ⟨none, rfl, rfl⟩ ?_ ?_
        · rintro i σ H' hi ⟨v, rfl, rfl⟩
          have hi' : i < ds.length := by omega
          obtain ⟨x, ex, rx⟩ := hx.at (List.getElem?_eq_getElem hi')
          obtain ⟨y, ey, ry⟩ := hy.at (List.getElem?_eq_getElem hi')
          have ax : atI xs ((0 : Int) + (i : Int)) = some x := by rw [Int.zero_add]; exact atI_nat ex
          have ay : atI ys ((0 : Int) + (i : Int)) = some y := by rw [Int.zero_add]; exact atI_nat ey
          walk_at "go"
          refine Or.inl ⟨_, _, _, _, rfl, rfl, sp', ax, ?_⟩
          walk_at "go"
          refine Or.inl ⟨_, _, _, _, rfl, rfl, sq', ay, ?_⟩
          refine ⟨F0, ds[i], x, y, rfl, hF, rx, ry, hd _ (List.getElem_mem hi'), ?_⟩
          walk_at "go"
          rfl
        · rintro σ H' ⟨v, rfl, rfl⟩
          exact k
      | tup ds =>
        obtain ⟨p, xs, rfl, hp, hx⟩ := hu.t
        obtain ⟨q, ys, rfl, hq, hy⟩ := hv.t
        obtain ⟨hl, hd⟩ := hok
        have tp : TyX K H (.ref p) (.type "tuple") := .base (.tup (hF p _ hp))
        have tq : TyX K H (.ref q) (.type "tuple") := .base (.tup (hF q _ hq))
        have sp' : SqT K H p xs := .inl (.inl (hF p _ hp))
        have sq' : SqT K H q ys := .inl (.inl (hF q _ hq))
        walk_at "go"
        walk_at "isF"
        walk_at "go"
        walk_at "isF"
        walk_at "go"
        walk_at "isF"
        walk_at "go"
        walk_at "isF"
        walk_at "go"
        walk_at "isT"
        walk_at "go"
        walk_at "isT"
        walk_at "go"
        refine if_F (by rw [hx.len, hy.len]; simp) ?_
        walk_at "go"
        have hyl := hy.len
        walk_at "go"
        refine for_range (lo := 0) (n := ((ys.length : Nat) : Int).toNat) (fun i σ H' => ∃ v, σ = [some (.ref p), some (.ref q), v] ∧ H' = H) ⟨none, rfl, rfl⟩ ?_ ?_
        · rintro i σ H' hi ⟨v, rfl, rfl⟩
          have hi' : i < ds.length := by omega
          obtain ⟨x, ex, rx⟩ := hx.at (List.getElem?_eq_getElem hi')
          obtain ⟨y, ey, ry⟩ := hy.at (List.getElem?_eq_getElem hi')
          have ax : atI xs ((0 : Int) + (i : Int)) = some x := by rw [Int.zero_add]; exact atI_nat ex
          have ay : atI ys ((0 : Int) + (i : Int)) = some y := by rw [Int.zero_add]; exact atI_nat ey
          walk_at "go"
          refine Or.inr (Or.inl ⟨_, _, _, _, rfl, rfl, sp', ax, ?_⟩)
          walk_at "go"
          refine Or.inr (Or.inl ⟨_, _, _, _, rfl, rfl, sq', ay, ?_⟩)
          refine ⟨F0, ds[i], x, y, rfl, hF, rx, ry, hd _ (List.getElem_mem hi'), ?_⟩
          walk_at "go"
          rfl
        · rintro σ H' ⟨v, rfl, rfl⟩
          exact k
end
end Tu
namespace Tu
open PySem PySem.Spec PyProof.Rows L2
local macro_rules | `(tactic| walk_at "sq") => `(tactic| first | assumption | exact W.lM (by assumption) | exact W.lF (by assumption) (by assumption) | exact W.tF (by assumption) (by assumption))
local macro_rules | `(tactic| walk_at "ix") => `(tactic| refine ⟨_, _, _, _, rfl, rfl, (by walk_at "sq"), (by first | rfl | assumption), ?_⟩)
local macro_rules | `(tactic| walk_at "len") => `(tactic| refine ⟨_, _, rfl, (by first | exact Or.inl ⟨_, (by walk_at "sq"), rfl⟩ | exact Or.inr ⟨_, (by walk_at "sq"), rfl⟩ | exact ⟨by assumption, rfl⟩), ?_⟩)
local macro_rules | `(tactic| walk_at "cond") => `(tactic| first
  | (with_reducible assumption)
  | ((with_reducible show (-(2 ^ 62) : Int) ≤ _); omega)
  | ((with_reducible show _ < (2 ^ 62 : Int)); omega)
  | ((with_reducible show (0 : Int) < _); first | (with_reducible assumption) | decide | omega)
  | ((with_reducible show CMulX _ _); exact bits_mul (by with_reducible assumption) (by decide))
  | ((with_reducible show CDivW _ _); exact div_ok (by first | (with_reducible assumption) | decide) (by first | (with_reducible assumption) | decide))
  | ((with_reducible show CPow _ _); exact ⟨by decide, by decide, by decide⟩)
  | ((with_reducible show List.length _ ≤ sizeLine); exact k_lst rfl (by decide))
  | ((with_reducible show scal _ _ = true); rfl)
  | ((with_reducible show wipe _ _ = wipe _ _); rfl)
  | ((with_reducible show [] = []); rfl)
  | (with_reducible rfl))
local macro_rules | `(tactic| walk_at "go1") => `(tactic| first
  | refine ⟨_, rfl, ?_⟩
  | refine ⟨_, _, rfl, rfl, ?_⟩
  | walk_at "ix"
  | walk_at "len"
  | refine And.intro (by walk_at "cond") ?_
  | refine Or.inl ⟨_, rfl, ?_⟩
  | refine iteF ?_
  | refine iteT ?_)
local macro_rules | `(tactic| walk_at "go") => `(tactic| repeat walk_at "go1")
local macro_rules | `(tactic| walk_at "ty") => `(tactic| first | assumption | exact TyX.base (.int _) | exact TyX.base (.bl _) | exact TyX.base (.str _) | exact TyX.base .non)
local macro_rules | `(tactic| walk_at "isT") => `(tactic| refine ⟨_, _, _, _, true, rfl, ClsV.ty _, (by walk_at "ty"), kit_ty (by decide +kernel), ?_⟩)
local macro_rules | `(tactic| walk_at "isF") => `(tactic| refine ⟨_, _, _, _, false, rfl, ClsV.ty _, (by walk_at "ty"), kit_ty (by decide +kernel), ?_⟩)
/-! ### the machine -/
theorem find_one {l : List Nat} {c : Nat} (h : c ∈ l) : Txt.find (mk l) (mk [c]) = ((l.idxOf c : Nat) : Int) := by
  unfold Txt.find
  have hat : ∀ j, StrLaws.At (mk l) (mk [c]) (mk l).length j ↔ l[j]? = some c := fun j => StrLaws.subAt_one (mk l) c j
  rcases StrLaws.occ_head_from (mk l) (mk [c]) 0 1 (Nat.le_refl _) with ⟨h0, hn⟩ | ⟨k, r, h0, _, hk, hn⟩
  · obtain ⟨j, hj, e⟩ := List.mem_iff_getElem.mp h
    exact absurd ((hat j).mpr (by rw [List.getElem?_eq_getElem hj, e])) (hn j (Nat.zero_le _))
  · rw [h0]
    have e : l.idxOf c = k := idxOf_eq ((hat k).mp hk) fun j hj e => hn j (Nat.zero_le _) hj ((hat j).mpr e)
    rw [e]
theorem W.same {F H H' : Hp} {M : List (Addr × HO)} (wd : W F M H) (e : Same H H') : W F M H' := ⟨wd.f.trans e, fun x hx => ⟨e _ _ (wd.m x hx).1, (wd.m x hx).2⟩, wd.d⟩
theorem SW.same {F H H' : Hp} {p : Addr} {M : List (Addr × HO)} (s : SW F p M H) (e : Same H H') : SW F p M H' := let ⟨o, h, w⟩ := s; ⟨o, h, w.same e⟩
/-- a machine's attributes -/
def mfl (l : List Nat) (pr pa : Addr) : List (Str × V) := putF "_accepting" (.ref pa) (putF "rows" (.ref pr) (putF "letters" (.str (mk l)) []))
theorem nlr : ¬ (("letters" : Str) = "rows") := by decide +kernel
theorem nla : ¬ (("letters" : Str) = "_accepting") := by decide +kernel
theorem nra : ¬ (("rows" : Str) = "_accepting") := by decide +kernel
theorem mfl_l (l : List Nat) (pr pa : Addr) : (mfl l pr pa).lookup ("letters" : Str) = some (.str (mk l)) := by
  unfold mfl; rw [lookup_putF, if_neg nla, lookup_putF, if_neg nlr, lookup_putF, if_pos rfl]
theorem mfl_r (l : List Nat) (pr pa : Addr) : (mfl l pr pa).lookup ("rows" : Str) = some (.ref pr) := by
  unfold mfl; rw [lookup_putF, if_neg nra, lookup_putF, if_pos rfl]
theorem mfl_a (l : List Nat) (pr pa : Addr) : (mfl l pr pa).lookup ("_accepting" : Str) = some (.ref pa) := by
  unfold mfl; rw [lookup_putF, if_pos rfl]
theorem mfl_no (l : List Nat) (pr pa : Addr) {m : Str} (h1 : ¬ m = "letters") (h2 : ¬ m = "rows") (h3 : ¬ m = "_accepting") : (mfl l pr pa).lookup m = none := by
  unfold mfl; rw [lookup_putF, if_neg h3, lookup_putF, if_neg h2, lookup_putF, if_neg h1]; rfl
theorem mfl_put (l : List Nat) (pr pa pb : Addr) : putF "_accepting" (.ref pb) (mfl l pr pa) = mfl l pr pb := by
  have e : ∀ q, mfl l pr q = ([("letters", V.str (mk l)), ("rows", V.ref pr), ("_accepting", V.ref q)] : List (Str × V)) := fun q => by
    unfold mfl
    show (if ("letters" : Str) = "_accepting" then _ else (("letters" : Str), V.str (mk l)) :: (if ("rows" : Str) = "_accepting" then _ else _)) = _
    rw [if_neg nla, if_neg nra]
    rfl
  rw [e, e]
  show (if ("letters" : Str) = "_accepting" then _ else (("letters" : Str), V.str (mk l)) :: (if ("rows" : Str) = "_accepting" then _ else (("rows" : Str), V.ref pr) :: (if ("_accepting" : Str) = "_accepting" then _ else _))) = _
  rw [if_neg nla, if_neg nra, if_pos rfl]
theorem mfl_len (l : List Nat) (pr pa : Addr) : (mfl l pr pa).length ≤ 3 := by
  unfold mfl
  have h1 := length_putF "_accepting" (.ref pa) (putF "rows" (.ref pr) (putF "letters" (.str (mk l)) []))
  have h2 := length_putF "rows" (.ref pr) (putF "letters" (.str (mk l)) [])
  have h3 := length_putF "letters" (.str (mk l)) ([] : List (Str × V))
  simp at h3
  omega
/-- what a machine's attributes stand for -/
def MaOk (F : Hp) (l : List Nat) (rows : List (List Nat)) (acc : List Nat) (fs : List (Str × V)) : Prop := ∃ pr pa, fs = mfl l pr pa ∧ Rp F (tabT rows) (.ref pr) ∧ F pa = some (.tup (acc.map fun (n : Nat) => V.int (n : Int)))
theorem MaOk.x {F F' : Hp} {l : List Nat} {rows : List (List Nat)} {acc : List Nat} {fs : List (Str × V)} (h : MaOk F l rows acc fs) (e : Same F F') : MaOk F' l rows acc fs := by
  obtain ⟨pr, pa, h1, h2, h3⟩ := h
  exact ⟨pr, pa, h1, h2.x e, e _ _ h3⟩
/-- a machine stands at x -/
def MaAt (F H : Hp) (C x : Addr) (l : List Nat) (rows : List (List Nat)) (acc : List Nat) : Prop := ∃ dx fs, H x = some (.ins C dx fs) ∧ MaOk F l rows acc fs ∧ Same F H
theorem MaAt.same {F H H' : Hp} {C x : Addr} {l : List Nat} {rows : List (List Nat)} {acc : List Nat} (h : MaAt F H C x l rows acc) (e : Same H H') : MaAt F H' C x l rows acc := by
  obtain ⟨dx, fs, h1, h2, h3⟩ := h
  exact ⟨dx, fs, e _ _ h1, h2, h3.trans e⟩
theorem tabT_row {F : Hp} {rows : List (List Nat)} {v : V} (h : Rp F (tabT rows) v) : ∃ (p : Addr) (xs : List V), v = .ref p ∧ F p = some (.tup xs) ∧ xs.length = rows.length ∧
    ∀ (q : Nat) (r : List Nat), rows[q]? = some r → ∃ a : Addr, xs[q]? = some (.ref a) ∧ F a = some (.tup (r.map fun (n : Nat) => V.int (n : Int))) := by
  obtain ⟨p, xs, rfl, hp, hx⟩ := h.t
  refine ⟨p, xs, rfl, hp, by rw [hx.len, List.length_map], fun q r hq => ?_⟩
  obtain ⟨x, e, hr⟩ := hx.at (i := q) (d := D.tup (r.map fun (n : Nat) => D.int (n : Int))) (by rw [List.getElem?_map, hq]; rfl)
  obtain ⟨a, ys, rfl, ha, hy⟩ := hr.t
  rw [Rps.of_nats hy] at ha
  exact ⟨a, e, ha⟩
def spChkl : Sp := fun vs H Q _ => ∃ l, vs = [.str (mk l)] ∧ Alpha l ∧ Q (.str (mk l)) H
def spChkw : Sp := fun vs H Q _ => ∃ l u, vs = [.str (mk u), .str (mk l)] ∧ (∀ c ∈ u, c ∈ l) ∧ u.length ≤ 100000 ∧ ∀ H', Same H H' → Q (.str (mk u)) H'
def spChks : Sp := fun vs H Q _ => ∃ (q n : Nat), vs = [.int (q : Int), .int (n : Int)] ∧ q < n ∧ Q (.int (q : Int)) H
def spChosen (K : PySem.W.Frag) : Sp := fun vs H Q _ => ∃ (F : Hp) (M : List (Addr × HO)) (a : Addr) (ch : List Nat) (n : Nat), vs = [.ref a, .int (n : Int)] ∧ W F M H ∧ F a = some (.lst (ch.map fun (n : Nat) => V.int (n : Int))) ∧ (∀ x ∈ ch, x < n) ∧ ch.Pairwise (· < ·) ∧ n ≤ 32 ∧
  ∀ b F' H', Same F F' → W F' M H' → F' b = some (.tup (ch.map fun (n : Nat) => V.int (n : Int))) → Q (.ref b) H'
def spRun (C : Addr) : Sp := fun vs H Q _ => ∃ (F : Hp) (x : Addr) (l : List Nat) (rows : List (List Nat)) (acc : List Nat) (q : Nat) (u : List Nat), vs = [.ref x, .str (mk u), .int (q : Int)] ∧ MaAt F H C x l rows acc ∧ TabOk rows l.length ∧ q < rows.length ∧ (∀ c ∈ u, c ∈ l) ∧ u.length ≤ 100000 ∧
  ∀ H', Same H H' → Q (.int (runL l rows q u : Nat)) H'
section
variable {P : Program} {w : World} {K : PySem.W.Frag} {mg : Str → Option Value} {base : Heap} {C : Addr}
theorem ok_chkl (T : Txt K mg C) : Def P w K mg base CX0 1 "check_letters" ["letters"] [] spChkl := by
  obtain ⟨f, fd, F, hm⟩ := T.d_check_letters
  have sc : FnScope ["letters", "last", "letter"] ["letters"] (defScope (top 20)) := ⟨rfl, rfl, rfl, by decide +kernel, rfl, by decide +kernel, by decide +kernel⟩
  refine ⟨f, fd, [], F.ok sc (fun vs H Q E h => ?_) (fun cdv A outer s H vs Q E hr h => ?_), hm, F.kp, (F.binds fun _ _ _ _ _ _ us hl => match us, hl with | [_], _ => rfl), .nil⟩
  · obtain ⟨l, rfl, _⟩ := h; rfl
  · obtain ⟨l, rfl, ha, k⟩ := h
    have h0 := List.length_pos_iff.mpr ha.n0
    have h3 := ha.n3
    have hml := mk_len l
    have hsz : (mk l).length ≤ sizeLine := by rw [mk_len]; exact sz_of (by omega)
    refine ⟨_, (pss_cons (ps_if (pt_not (pt_chain op_le op_le pe_int (pe_callB (call_lenK (K := K) rfl) (by rfl) T.n_len boot_len (pa_cons (pv 0) pa_nil)) (pe_glob (v := .int 3) (by rfl) T.g_MOST_LETTERS.choose_spec ⟨_, rfl⟩))) (pss_one ps_never) pss_nil)
  (pss_cons (ps_set (i := 1) sc.nd rfl (Or.inl rfl) pe_str)
  (pss_cons (ps_for PassesOwn.never rfl (pi_str (pv 0)) (pg_name (i := 2) sc.nd rfl (Or.inl rfl))
   (pss_cons (ps_if (PW.pt (pw_or (pt_cmpR op_notIn_sign (pv 2) (pe_glob (v := .str "abcdefghijklmnopqrstuvwxyz") (by rfl) T.g_SMALL.choose_spec ⟨_, rfl⟩) (by rfl)) (pw_or1 (pt_cmpR op_le_str (pv 2) (pv 1) (nomark _))))) (pss_one ps_never) pss_nil)
  (pss_one (ps_set (i := 1) sc.nd rfl (Or.inl rfl) (pv 2)))))
  (pss_one (ps_ret (pv 0)))))), ?_⟩
    walk_at "go"
    refine if_T (by simp; omega) ?_
    walk_at "go"
    refine if_F (by simp; omega) ?_
    walk_at "go"
    refine for_str (l := l) (fun i σ H' => ∃ v last, σ = [some (.str (mk l)), some (.str (mk last)), v] ∧ H' = H ∧ (last = [] ∧ i = 0 ∨ ∃ c, last = [c] ∧ 0 < i ∧ l[i - 1]? = some c)) ?_ ?_ ?_
    · exact ⟨none, [], rfl, rfl, .inl ⟨rfl, rfl⟩⟩
    · rintro i c σ H' hc ⟨v, last, rfl, rfl, hlast⟩
      have hcm := List.mem_of_getElem? hc
      walk_at "go"
      have hlo := ha.lo c hcm
      have hhi := ha.hi c hcm
      have hsm : c ∈ (Str.ofString "abcdefghijklmnopqrstuvwxyz").cps.toList := by
        rw [small_cps, List.mem_range'_1]; omega
      refine if_F (by rw [decide_eq_true hsm]; rfl) ?_
      walk_at "go"
      have hlt : last < [c] := by
        rcases hlast with ⟨e, _⟩ | ⟨d, e, hi, hd⟩
        · rw [e]; exact List.nil_lt_cons _ _
        · rw [e]
          have hdc : d < c := by
            have hp := List.pairwise_iff_getElem.mp ha.up
            obtain ⟨h1, e1⟩ := List.getElem?_eq_some_iff.mp hc
            obtain ⟨h2, e2⟩ := List.getElem?_eq_some_iff.mp hd
            rw [← e1, ← e2]
            exact hp _ _ h2 h1 (by omega)
          exact List.cons_lt_cons_iff.mpr (.inl hdc)
      have hlt' : (mk last).cps.toList < (mk [c]).cps.toList := hlt
      refine if_F (by show (!decide ((mk last).cps.toList < (mk [c]).cps.toList)) = false; rw [decide_eq_true hlt']; rfl) ?_
      walk_at "go"
      exact .inr ⟨c, rfl, by omega, by simpa using hc⟩
    · rintro σ H' ⟨v, last, rfl, rfl, hlast⟩
      walk_at "go"
      exact k
theorem ok_chks (T : Txt K mg C) : Def P w K mg base CX0 1 "check_state" ["state", "count"] [] spChks := by
  obtain ⟨f, fd, F, hm⟩ := T.d_check_state
  have sc : FnScope ["state", "count"] ["state", "count"] (defScope (top 32)) := ⟨rfl, rfl, rfl, by decide +kernel, rfl, by decide +kernel, by decide +kernel⟩
  refine ⟨f, fd, [], F.ok sc (fun vs H Q E h => ?_) (fun cdv A outer s H vs Q E hr h => ?_), hm, F.kp, (F.binds fun _ _ _ _ _ _ us hl => match us, hl with | [_, _], _ => rfl), .nil⟩
  · obtain ⟨q, n, rfl, _⟩ := h; rfl
  · obtain ⟨q, n, rfl, hq, k⟩ := h
    refine ⟨_, (pss_cons (ps_if (pt_not (pt_chain op_le op_lt pe_int (pv 0) (pv 1))) (pss_one ps_never) pss_nil)
  (pss_one (ps_ret (pv 0)))), ?_⟩
    walk_at "go"
    refine if_F (by simp; omega) ?_
    walk_at "go"
    exact k
theorem ok_chkw (T : Txt K mg C) : Def P w K mg base CX0 1 "check_word" ["word", "letters"] [] spChkw := by
  obtain ⟨f, fd, F, hm⟩ := T.d_check_word
  have sc : FnScope ["word", "letters", "index", "letter"] ["word", "letters"] (defScope (top 21)) := ⟨rfl, rfl, rfl, by decide +kernel, rfl, by decide +kernel, by decide +kernel⟩
  refine ⟨f, fd, [], F.ok sc (fun vs H Q E h => ?_) (fun cdv A outer s H vs Q E hr h => ?_), hm, F.kp, (F.binds fun _ _ _ _ _ _ us hl => match us, hl with | [_, _], _ => rfl), .nil⟩
  · obtain ⟨l, u, rfl, _⟩ := h; rfl
  · obtain ⟨l, u, rfl, hu, hul, k⟩ := h
    refine ⟨_, (pss_cons (ps_for PassesOwn.never rfl (pi_enumS (by rfl) T.n_enumerate (pa_cons (pv 0) pa_nil)) (pg_tupK (K := K) rfl rfl (pgs_cons (pg_name (i := 2) sc.nd rfl (Or.inl rfl)) (pgs_cons (pg_name (i := 3) sc.nd rfl (Or.inl rfl)) pgs_nil)))
   (pss_one (ps_if (pt_cmpR op_notIn_sign (pv 3) (pv 1) (by rfl)) (pss_one ps_never) pss_nil)))
  (pss_one (ps_ret (pv 0)))), ?_⟩
    walk_at "go"
    refine for_enumS (l := u) (fun i σ H' => ∃ v1 v2, σ = [some (.str (mk u)), some (.str (mk l)), v1, v2] ∧ Same H H') ?_ ?_ ?_
    · exact ⟨none, none, rfl, Same.refl _⟩
    · rintro i c σ H' T0 hc ⟨v1, v2, rfl, e1⟩ hT0
      have hcm := hu c (List.mem_of_getElem? hc)
      refine ⟨_, _, rfl, SqT.of upd_same, rfl, _, _, rfl, _, _, rfl, rfl, ?_⟩
      walk_at "go"
      refine if_F (by show (!decide (c ∈ (mk l).cps.toList)) = false; rw [decide_eq_true (show c ∈ (mk l).cps.toList from hcm)]; rfl) ?_
      walk_at "go"
      exact ⟨_, _, rfl, e1.trans (same_upd hT0)⟩
    · rintro σ H' ⟨v1, v2, rfl, e1⟩
      walk_at "go"
      exact k H' e1
theorem sorted_ext : ∀ {a b : List Nat}, a.Pairwise (· < ·) → b.Pairwise (· < ·) → (∀ x, x ∈ a ↔ x ∈ b) → a = b
  | [], [], _, _, _ => rfl
  | [], y :: b, _, _, h => absurd ((h y).mpr (List.mem_cons_self ..)) (by simp)
  | x :: a, [], _, _, h => absurd ((h x).mp (List.mem_cons_self ..)) (by simp)
  | x :: a, y :: b, ha, hb, h => by
    have ha' := List.pairwise_cons.mp ha
    have hb' := List.pairwise_cons.mp hb
    have e : x = y := by
      rcases List.mem_cons.mp ((h x).mp (List.mem_cons_self ..)) with e | e
      · exact e
      · rcases List.mem_cons.mp ((h y).mpr (List.mem_cons_self ..)) with e' | e'
        · exact e'.symm
        · have := hb'.1 x e; have := ha'.1 y e'; omega
    subst e
    rw [sorted_ext ha'.2 hb'.2 fun z => ⟨fun hz => ?_, fun hz => ?_⟩]
    · rcases List.mem_cons.mp ((h z).mp (List.mem_cons_of_mem _ hz)) with e | e
      · subst e; exact absurd (ha'.1 z hz) (Nat.lt_irrefl _)
      · exact e
    · rcases List.mem_cons.mp ((h z).mpr (List.mem_cons_of_mem _ hz)) with e | e
      · subst e; exact absurd (hb'.1 z hz) (Nat.lt_irrefl _)
      · exact e
theorem filter_range {ch : List Nat} {n : Nat} (hp : ch.Pairwise (· < ·)) (hn : ∀ x ∈ ch, x < n) : (List.range n).filter (fun x => decide (x ∈ ch)) = ch :=
  sorted_ext (List.Pairwise.sublist List.filter_sublist List.pairwise_lt_range) hp fun x => by
    simp only [List.mem_filter, List.mem_range, decide_eq_true_eq]
    exact ⟨fun h => h.2, fun h => ⟨hn x h, h⟩⟩
theorem in_nats {ch : List Nat} {i : Nat} : inV (.int (i : Int)) (ch.map fun (n : Nat) => V.int (n : Int)) = decide (i ∈ ch) := by
  unfold inV
  rw [List.any_map]
  by_cases h : i ∈ ch
  · rw [decide_eq_true h, List.any_eq_true]
    exact ⟨i, h, by show eqV (.int (i : Int)) (.int (i : Int)) = true; simp [eqV]⟩
  · rw [decide_eq_false h, List.any_eq_false]
    intro x hx e
    have e' : eqV (.int (x : Int)) (.int (i : Int)) = true := e
    simp [eqV] at e'
    have e2 : x = i := by omega
    exact h (e2 ▸ hx)
theorem flat_nats {ch : List Nat} : (ch.map fun (n : Nat) => V.int (n : Int)).all flatV = true := by
  rw [List.all_map, List.all_eq_true]; intro x _; rfl
theorem ok_chosen (T : Txt K mg C) : Def P w K mg base CX0 2 "chosen_states" ["states", "count"] [] (spChosen K) := by
  obtain ⟨f_chks, fd_chks, ds_chks, F_chks, m_chks, k_chks, b_chks, d_chks⟩ := ok_chks (P := P) (w := w) (base := base) T
  obtain ⟨f, fd, F, hm⟩ := T.d_chosen_states
  have sc : FnScope ["states", "count", "state"] ["states", "count"] (defScope (top 33)) := ⟨rfl, rfl, rfl, by decide +kernel, rfl, by decide +kernel, by decide +kernel⟩
  refine ⟨f, fd, [], F.ok sc (fun vs H Q E h => ?_) (fun cdv A outer s H vs Q E hr h => ?_), hm, F.kp, (F.binds fun _ _ _ _ _ _ us hl => match us, hl with | [_, _], _ => rfl), .nil⟩
  · obtain ⟨F0, M, a, ch, n, rfl, _⟩ := h; rfl
  · obtain ⟨F0, M, a, ch, n, rfl, wd, ha, hc, hp, hn, k⟩ := h
    refine ⟨_, (pss_cons (ps_for PassesOwn.never rfl (pi_listK (K := K) rfl (pv 0)) (pg_name (i := 2) sc.nd rfl (Or.inl rfl))
   (pss_one (ps_expr (pe_call F_chks (hr.mono (by first | decide | omega)) (by rfl) m_chks k_chks b_chks d_chks pass0 (pa_cons (pv 2) (pa_cons (pv 1) pa_nil))))))
  (pss_one (ps_ret (pe_tupleOfK (K := K) rfl (by rfl) T.n_tuple (pe_lc (own := [("state", 2)]) (g := gName 2) rfl sc.nd (pi_range1 (by rfl) T.n_range (pa_cons (pv 1) pa_nil)) (blkOk_by (N := ["states", "count", "state"]) (sc := defScope (top 33)) (by decide +kernel)) (fun _ _ _ _ _ => (pg_name (i := 2) sc.nd rfl (Or.inl rfl))) (fun _ _ _ _ _ => (pts_one (pt_cmpR (op_in_seqK (K := K) rfl) (pv 2) (pv 0) (by rfl)))) (fun _ _ _ _ _ => (pv 2))))))), ?_⟩
    have sl : SqL K H a _ := wd.lF ha
    refine ⟨_, rfl, a, rfl, ⟨_, sl⟩, for_list (K := K) (a := a) (xs := ch.map fun (n : Nat) => V.int (n : Int)) (fun i σ H' => ∃ v, σ = [some (.ref a), some (.int (n : Int)), v] ∧ H' = H) ⟨none, rfl, rfl⟩ (fun i σ H' _ ⟨_, _, e⟩ => by rw [e]; exact sl) ?_ ?_⟩
    · rintro i x σ H' hx ⟨v, rfl, rfl⟩
      obtain ⟨y, hy, rfl⟩ : ∃ y, ch[i]? = some y ∧ x = V.int (y : Int) := by
        rw [List.getElem?_map] at hx
        cases e : ch[i]? with
        | none => rw [e] at hx; cases hx
        | some y => rw [e] at hx; exact ⟨y, rfl, (Option.some.inj hx).symm⟩
      walk_at "go"
      refine ⟨y, n, rfl, hc y (List.mem_of_getElem? hy), ?_⟩
      exact ⟨_, rfl, rfl⟩
    · rintro σ H' ⟨v, rfl, rfl⟩
      walk_at "go"
      intro D hD
      refine lc_range (lo := 0) (n := (n : Int).toNat) (fun j H => W F0 ((D, .lst (((List.range j).filter (fun x => decide (x ∈ ch))).map fun (n : Nat) => V.int (n : Int))) :: M) H) ?_ ?_ ?_
      · exact wd.new hD
      · rintro j H hj wd
        have sl : SqL K H a _ := wd.lF ha
        walk_at "go"
        refine ⟨a, _, rfl, Or.inl sl, rfl, flat_nats, ?_⟩
        walk_at "go"
        have ei : inV (.int ((0 : Int) + (j : Int))) (ch.map fun (n : Nat) => V.int (n : Int)) = decide (j ∈ ch) := by rw [Int.zero_add]; exact in_nats
        refine ib (fun e => ?_) (fun e => ?_)
        · have hjc : j ∈ ch := by
            have e2 : inV (.int ((0 : Int) + (j : Int))) (ch.map fun (n : Nat) => V.int (n : Int)) = true := e
            rw [ei] at e2; exact of_decide_eq_true e2
          walk_at "go"
          refine ⟨_, wd.hd, by rw [List.length_map]; exact sz_lt (Nat.lt_of_le_of_lt (List.length_filter_le _ _) (by rw [List.length_range]; omega)), ?_⟩
          have e3 : (List.range (j + 1)).filter (fun x => decide (x ∈ ch)) = (List.range j).filter (fun x => decide (x ∈ ch)) ++ [j] := by
            rw [List.range_succ, List.filter_append]; simp [hjc]
          rw [e3, List.map_append]
          show W F0 ((D, HO.lst (_ ++ [V.int (j : Int)])) :: M) (upd H D (HO.lst (_ ++ [V.int (0 + (j : Int))])))
          rw [Int.zero_add]
          exact wd.put
        · have hjc : j ∉ ch := by
            have e2 : inV (.int ((0 : Int) + (j : Int))) (ch.map fun (n : Nat) => V.int (n : Int)) = false := e
            rw [ei] at e2; exact of_decide_eq_false e2
          have e3 : (List.range (j + 1)).filter (fun x => decide (x ∈ ch)) = (List.range j).filter (fun x => decide (x ∈ ch)) := by
            rw [List.range_succ, List.filter_append]; simp [hjc]
          rw [e3]
          exact wd
      · rintro H wd
        rw [show (n : Int).toNat = n from rfl, filter_range hp hc] at wd
        refine Or.inl ⟨D, _, rfl, wd.lM, fun q hq => ?_⟩
        exact k q _ _ (same_upd (wd.nF hq)) (wd.frz hq).tl upd_same
end
end Tu
namespace Tu
open PySem PySem.Spec PyProof.Rows L2
local macro_rules | `(tactic| walk_at "sq") => `(tactic| first | assumption | exact W.lM (by assumption) | exact W.lF (by assumption) (by assumption) | exact W.tF (by assumption) (by assumption))
local macro_rules | `(tactic| walk_at "ix") => `(tactic| refine ⟨_, _, _, _, rfl, rfl, (by walk_at "sq"), (by first | rfl | assumption), ?_⟩)
local macro_rules | `(tactic| walk_at "len") => `(tactic| refine ⟨_, _, rfl, (by first | exact Or.inl ⟨_, (by walk_at "sq"), rfl⟩ | exact Or.inr ⟨_, (by walk_at "sq"), rfl⟩ | exact ⟨by assumption, rfl⟩), ?_⟩)
local macro_rules | `(tactic| walk_at "cond") => `(tactic| first
  | (with_reducible assumption)
  | ((with_reducible show (-(2 ^ 62) : Int) ≤ _); omega)
  | ((with_reducible show _ < (2 ^ 62 : Int)); omega)
  | ((with_reducible show (0 : Int) < _); first | (with_reducible assumption) | decide | omega)
  | ((with_reducible show CMulX _ _); exact bits_mul (by with_reducible assumption) (by decide))
  | ((with_reducible show CDivW _ _); exact div_ok (by first | (with_reducible assumption) | decide) (by first | (with_reducible assumption) | decide))
  | ((with_reducible show CPow _ _); exact ⟨by decide, by decide, by decide⟩)
  | ((with_reducible show List.length _ ≤ sizeLine); exact k_lst rfl (by decide))
  | ((with_reducible show scal _ _ = true); rfl)
  | ((with_reducible show wipe _ _ = wipe _ _); rfl)
  | ((with_reducible show [] = []); rfl)
  | (with_reducible rfl))
local macro_rules | `(tactic| walk_at "go1") => `(tactic| first
  | refine ⟨_, rfl, ?_⟩
  | refine ⟨_, _, rfl, rfl, ?_⟩
  | walk_at "ix"
  | walk_at "len"
  | refine And.intro (by walk_at "cond") ?_
  | refine Or.inl ⟨_, rfl, ?_⟩
  | refine iteF ?_
  | refine iteT ?_)
local macro_rules | `(tactic| walk_at "go") => `(tactic| repeat walk_at "go1")
local macro_rules | `(tactic| walk_at "ty") => `(tactic| first | assumption | exact TyX.base (.int _) | exact TyX.base (.bl _) | exact TyX.base (.str _) | exact TyX.base .non)
local macro_rules | `(tactic| walk_at "isT") => `(tactic| refine ⟨_, _, _, _, true, rfl, ClsV.ty _, (by walk_at "ty"), kit_ty (by decide +kernel), ?_⟩)
local macro_rules | `(tactic| walk_at "isF") => `(tactic| refine ⟨_, _, _, _, false, rfl, ClsV.ty _, (by walk_at "ty"), kit_ty (by decide +kernel), ?_⟩)
def spInit (C : Addr) : Sp := fun vs H Q _ => ∃ (F : Hp) (M : List (Addr × HO)) (x dx : Addr) (l : List Nat) (rows : List (List Nat)) (acc : List Nat) (v va : V), vs = [.ref x, .str (mk l), v, va] ∧ W F ((x, .ins C dx []) :: (dx, .own x) :: M) H ∧ Alpha l ∧
  Rp F (tab rows) v ∧ TabOk rows l.length ∧ Rp F (natsD acc) va ∧ (∀ q ∈ acc, q < rows.length) ∧ acc.Pairwise (· < ·) ∧
  ∀ fs F' H', Same F F' → W F' ((x, .ins C dx fs) :: (dx, .own x) :: M) H' → MaOk F' l rows acc fs → Q .non H'
/-- choose and the property's setter: other accepting states -/
def spSetAcc (C : Addr) : Sp := fun vs H Q _ => ∃ (F : Hp) (M : List (Addr × HO)) (x dx : Addr) (fs : List (Str × V)) (l : List Nat) (rows : List (List Nat)) (old acc : List Nat) (a : Addr), vs = [.ref x, .ref a] ∧ W F ((x, .ins C dx fs) :: M) H ∧ MaOk F l rows old fs ∧
  F a = some (.lst (acc.map fun (n : Nat) => V.int (n : Int))) ∧ (∀ q ∈ acc, q < rows.length) ∧ acc.Pairwise (· < ·) ∧ rows.length ≤ 32 ∧
  ∀ fs' F' H', Same F F' → W F' ((x, .ins C dx fs') :: M) H' → MaOk F' l rows acc fs' → Q .non H'
section
variable {P : Program} {w : World} {K : PySem.W.Frag} {mg : Str → Option Value} {base : Heap} {C : Addr}
theorem ok_acc (T : Txt K mg C) : ∃ (p f : Addr) (fd : FuncData), FnOk P w K mg base CX0 1 f fd ["self"] (getSp C "_accepting") ∧ PropOf K C "accepting" p f ∧ Binds K fd ["self"] [] := by
  obtain ⟨p, f, fd, g, gd, F, hp, _⟩ := T.acc_Machine
  have sc : FnScope ["self"] ["self"] (defScope (inClass (top 34) 4)) := ⟨rfl, rfl, rfl, by decide +kernel, rfl, by decide +kernel, by decide +kernel⟩
  refine ⟨p, f, fd, F.ok sc (fun vs H Q E h => ?_) (fun cdv A outer s H vs Q E hr h => ?_), hp, (F.binds fun _ _ _ _ _ _ us hl => match us, hl with | [_], _ => rfl)⟩
  · obtain ⟨a, dx, fs, v, rfl, _⟩ := h; rfl
  · obtain ⟨a, dx, fs, v, rfl, ha, hl, k⟩ := h
    refine ⟨_, (pss_one (ps_ret (pe_fldK (K := K) rfl (pv 0) rfl))), ?_⟩
    exact ⟨_, rfl, a, C, dx, fs, v, rfl, ha, T.cl_Machine, T.na_acc, hl, k⟩
theorem ok_setacc (T : Txt K mg C) : ∃ (p f : Addr) (fd : FuncData), FnOk P w K mg base CX0 3 f fd ["self", "states"] (spSetAcc C) ∧ SetOf K C "accepting" p f ∧ Binds K fd ["self", "states"] [] := by
  obtain ⟨f_chosen, fd_chosen, ds_chosen, F_chosen, m_chosen, k_chosen, b_chosen, d_chosen⟩ := ok_chosen (P := P) (w := w) (base := base) T
  obtain ⟨p, f0, fd0, f, fd, _, _, F, hp⟩ := T.acc_Machine
  have sc : FnScope ["self", "states"] ["self", "states"] (defScope (inClass (top 34) 5)) := ⟨rfl, rfl, rfl, by decide +kernel, rfl, by decide +kernel, by decide +kernel⟩
  refine ⟨p, f, fd, F.ok sc (fun vs H Q E h => ?_) (fun cdv A outer s H vs Q E hr h => ?_), hp, (F.binds fun _ _ _ _ _ _ us hl => match us, hl with | [_, _], _ => rfl)⟩
  · obtain ⟨F0, M, x, dx, fs, l, rows, old, acc, a, rfl, _⟩ := h; rfl
  · obtain ⟨F0, M, x, dx, fs, l, rows, old, acc, a, rfl, wd, ⟨pr, pa, rfl, hR, hA⟩, ha, hc, hp, hn, k⟩ := h
    refine ⟨_, (pss_one (ps_fldK (K := K) rfl (pv 0) (pe_call F_chosen (hr.mono (by first | decide | omega)) (by rfl) m_chosen k_chosen b_chosen d_chosen pass0 (pa_cons (pv 1) (pa_cons (pe_callB (call_lenK (K := K) rfl) (by rfl) T.n_len boot_len (pa_cons (pe_fldK (K := K) rfl (pv 0) rfl) pa_nil)) pa_nil))) rfl)), ?_⟩
    obtain ⟨p', xs, ep, hp', hxl, hrow⟩ := tabT_row hR
    cases ep
    have st : SqT K H pr xs := wd.tF hp'
    refine ⟨_, rfl, _, rfl, x, C, dx, _, _, rfl, wd.hd, T.cl_Machine, T.na_rows, mfl_r _ _ _, ?_⟩
    walk_at "go"
    rw [hxl]
    refine ⟨F0, _, a, acc, rows.length, rfl, wd, ha, hc, hp, hn, fun b F1 H1 e1 wd hb => ?_⟩
    refine ⟨_, rfl, x, C, dx, _, rfl, wd.hd, T.cl_Machine, T.na_acc, Nat.lt_of_le_of_lt (mfl_len _ _ _) (by decide), ?_⟩
    exact k _ F1 _ e1 wd.put ⟨pr, b, mfl_put _ _ _ _, hR.x e1, hb⟩
theorem ok_choose (T : Txt K mg C) : MDef P w K mg base C CX0 6 "choose" ["self", "states"] [] (spSetAcc C) := by
  obtain ⟨p_setacc, f_setacc, fd_setacc, F_setacc, pp_setacc, b_setacc⟩ := ok_setacc (P := P) (w := w) (base := base) T
  obtain ⟨f, fd, F, hm⟩ := T.choose_Machine
  have sc : FnScope ["self", "states"] ["self", "states"] (defScope (inClass (top 34) 6)) := ⟨rfl, rfl, rfl, by decide +kernel, rfl, by decide +kernel, by decide +kernel⟩
  refine ⟨f, fd, [], F.ok sc (fun vs H Q E h => ?_) (fun cdv A outer s H vs Q E hr h => ?_), hm, (F.binds fun _ _ _ _ _ _ us hl => match us, hl with | [_, _], _ => rfl), .nil⟩
  · obtain ⟨F0, M, x, dx, fs, l, rows, old, acc, a, rfl, _⟩ := h; rfl
  · have h0 := h
    obtain ⟨F0, M, x, dx, fs, l, rows, old, acc, a, rfl, wd, hM, ha, hc, hp, hn, k⟩ := h
    refine ⟨_, (pss_one (ps_setter (pv 0) (pv 1) rfl T.cl_Machine pp_setacc F_setacc (hr.mono (by first | decide | omega)) b_setacc pass0)), ?_⟩
    refine ⟨_, rfl, _, rfl, x, dx, fs, rfl, wd.hd, F0, M, x, dx, fs, l, rows, old, acc, a, rfl, wd, hM, ha, hc, hp, hn, fun fs' F' H' e1 wd' hM' => ?_⟩
    exact k fs' F' H' e1 wd' hM'
theorem ok_run (T : Txt K mg C) : MDef P w K mg base C CX0 3 "run" ["self", "word", "state"] [.int 0] (spRun C) ∧ MDef P w K mg base C CX0 3 "run" ["self", "word", "state"] [] (spRun C) := by
  obtain ⟨f_chks, fd_chks, ds_chks, F_chks, m_chks, k_chks, b_chks, d_chks⟩ := ok_chks (P := P) (w := w) (base := base) T
  obtain ⟨f_chkw, fd_chkw, ds_chkw, F_chkw, m_chkw, k_chkw, b_chkw, d_chkw⟩ := ok_chkw (P := P) (w := w) (base := base) T
  obtain ⟨f, fd, F, hm⟩ := T.run_Machine
  have sc : FnScope ["self", "word", "state", "letter"] ["self", "word", "state"] (defScope (inClass (top 34) 13)) := ⟨rfl, rfl, rfl, by decide +kernel, rfl, by decide +kernel, by decide +kernel⟩
  have G : FnOk P w K mg base CX0 3 f fd ["self", "word", "state"] (spRun C) := by
    refine okD F sc (fun vs H Q E h => ?_) (fun cdv A outer s H vs Q E hr h => ?_)
    · obtain ⟨F0, x, l, rows, acc, q, u, rfl, _⟩ := h; rfl
    · obtain ⟨F0, x, l, rows, acc, q, u, rfl, ⟨dx, fs, hx, ⟨pr, pa, rfl, hR, hA⟩, hF⟩, hT, hq, hu, hul, k⟩ := h
      refine ⟨_, (pss_cons (ps_expr (pe_call F_chks (hr.mono (by first | decide | omega)) (by rfl) m_chks k_chks b_chks d_chks pass0 (pa_cons (pv 2) (pa_cons (pe_callB (call_lenK (K := K) rfl) (by rfl) T.n_len boot_len (pa_cons (pe_fldK (K := K) rfl (pv 0) rfl) pa_nil)) pa_nil))))
  (pss_cons (ps_expr (pe_call F_chkw (hr.mono (by first | decide | omega)) (by rfl) m_chkw k_chkw b_chkw d_chkw pass0 (pa_cons (pv 1) (pa_cons (pe_fldK (K := K) rfl (pv 0) rfl) pa_nil))))
  (pss_cons (ps_for PassesOwn.never rfl (pi_str (pv 1)) (pg_name (i := 3) sc.nd rfl (Or.inl rfl))
   (pss_one (ps_set (i := 2) sc.nd rfl (Or.inl rfl) (pe_ix (ix_tupK (K := K) rfl) (pe_ix (ix_tupK (K := K) rfl) (pe_fldK (K := K) rfl (pv 0) rfl) (pv 2) (fun _ _ => rfl)) (pe_m1 PySem.F.slot_str_find PySem.F.type_str_find mt_find (pe_fldK (K := K) rfl (pv 0) rfl) (pv 3)) (fun _ _ => rfl)))))
  (pss_one (ps_ret (pv 2)))))), ?_⟩
      obtain ⟨p', xs, ep, hp', hxl, hrow⟩ := tabT_row hR
      cases ep
      have st : ∀ {H'}, Same H H' → SqT K H' pr xs := fun e => .inl (.inl (e _ _ (hF _ _ hp')))
      have sH : SqT K H pr xs := st (Same.refl _)
      refine ⟨_, rfl, _, rfl, x, C, dx, _, _, rfl, hx, T.cl_Machine, T.na_rows, mfl_r _ _ _, ?_⟩
      walk_at "go"
      refine ⟨q, rows.length, by rw [hxl]; rfl, hq, ?_⟩
      refine ⟨_, rfl, _, rfl, x, C, dx, _, _, rfl, hx, T.cl_Machine, T.na_letters, mfl_l _ _ _, ?_⟩
      refine ⟨l, u, rfl, hu, hul, fun H1 e1 => ?_⟩
      walk_at "go"
      refine for_str (l := u) (fun i σ H' => ∃ v, σ = [some (.ref x), some (.str (mk u)), some (.int (runL l rows q (u.take i) : Nat)), v] ∧ Same H H' ∧ runL l rows q (u.take i) < rows.length) ?_ ?_ ?_
      · exact ⟨none, rfl, e1, hq⟩
      · rintro i c σ H' hc ⟨v, rfl, e2, hlt⟩
        have hcl : c ∈ l := hu c (List.mem_of_getElem? hc)
        have hr0 : rows[runL l rows q (u.take i)]? = some rows[runL l rows q (u.take i)] := List.getElem?_eq_getElem hlt
        obtain ⟨a, hxa, ha⟩ := hrow _ _ hr0
        have hix : l.idxOf c < l.length := List.idxOf_lt_length_iff.mpr hcl
        have hwid := hT.wid _ (List.getElem_mem hlt)
        have hat : atI xs ((runL l rows q (u.take i) : Nat) : Int) = some (.ref a) := atI_nat hxa
        have sl : SqT K H' pr xs := st e2
        have sa : SqT K H' a _ := .inl (.inl (e2 _ _ (hF a _ ha)))
        have hat2 : atI ((rows[runL l rows q (u.take i)]).map fun (n : Nat) => V.int (n : Int)) ((l.idxOf c : Nat) : Int) = some (.int (stepL rows (runL l rows q (u.take i)) (l.idxOf c) : Nat)) :=
          atI_nat (by rw [List.getElem?_map, stepL_at hr0 (by omega)]; rfl)
        refine ⟨_, rfl, x, C, dx, _, _, rfl, e2 _ _ hx, T.cl_Machine, T.na_rows, mfl_r _ _ _, ?_⟩
        walk_at "go"
        refine ⟨x, C, dx, _, _, rfl, e2 _ _ hx, T.cl_Machine, T.na_letters, mfl_l _ _ _, ⟨_, rfl⟩, ?_⟩
        refine ⟨_, rfl, _, _, rfl, rfl, ?_⟩
        show _
        rw [find_one hcl]
        walk_at "go"
        have e : runL l rows q (u.take (i + 1)) = stepL rows (runL l rows q (u.take i)) (l.idxOf c) := by
          unfold runL
          rw [List.take_succ, hc, Option.toList_some, List.foldl_append]
          rfl
        refine ⟨some (.str (mk [c])), by rw [e]; rfl, e2, ?_⟩
        rw [e]; exact hT.step hlt hix
      · rintro σ H' ⟨v, rfl, e2, hlt⟩
        walk_at "go"
        rw [List.take_length]
        exact k H' e2
  obtain ⟨ds, hd, hb⟩ := F.binds1 (ps := ["self", "word", "state"]) 2 0 (by decide) rfl (fun T kV doc pm an cdv ct us its hl hi => match us, its, hl, hi with | [_, _], [_], _, _ => ⟨_, rfl, rfl⟩)
  obtain ⟨ds', hd', hb'⟩ := F.binds1 (ps := ["self", "word", "state"]) 3 1 (by decide) rfl (fun T kV doc pm an cdv ct us its hl hi => match us, its, hl, hi with | [_, _, _], [_], _, _ => ⟨_, rfl, rfl⟩)
  exact ⟨⟨f, fd, ds, G, hm, hb, hd⟩, ⟨f, fd, ds', G, hm, hb', hd'⟩⟩
theorem rows_at {F : Hp} {rows : List (List Nat)} {p : Addr} {xs : List V} (hxl : xs.length = rows.length)
    (hrow : ∀ (q : Nat) (r : List Nat), rows[q]? = some r → ∃ a : Addr, xs[q]? = some (.ref a) ∧ F a = some (.lst (r.map fun (n : Nat) => V.int (n : Int)))) {i : Nat} {x : V} (hx : xs[i]? = some x) :
    ∃ r a, rows[i]? = some r ∧ x = .ref a ∧ F a = some (.lst (r.map fun (n : Nat) => V.int (n : Int))) := by
  have hi : i < rows.length := by rw [← hxl]; exact (List.getElem?_eq_some_iff.mp hx).1
  obtain ⟨a, e, ha⟩ := hrow i _ (List.getElem?_eq_getElem hi)
  rw [e] at hx
  exact ⟨_, a, List.getElem?_eq_getElem hi, (Option.some.inj hx).symm, ha⟩
theorem nat_at {r : List Nat} {i : Nat} {x : V} (hx : (r.map fun (n : Nat) => V.int (n : Int))[i]? = some x) : ∃ y, r[i]? = some y ∧ x = .int (y : Int) := by
  rw [List.getElem?_map] at hx
  cases e : r[i]? with
  | none => rw [e] at hx; cases hx
  | some y => rw [e] at hx; exact ⟨y, rfl, (Option.some.inj hx).symm⟩
theorem lp {a b : Str} {v u : V} : (putF a v []).length < 1000 ∧ (putF b u (putF a v [])).length < 1000 := by
  have h1 := length_putF b u (putF a v [])
  have h2 := length_putF a v ([] : List (Str × V))
  simp at h2
  omega
theorem ok_mk (T : Txt K mg C) : ∃ (f : Addr) (fd : FuncData) (ds : List Value), FnOk P w K mg base CX0 3 f fd ["self", "letters", "rows", "accepting"] (spInit C) ∧ Mk K C f ∧ mg "Machine" = some (.ref C) ∧ Binds K fd ["self", "letters", "rows", "accepting"] ds ∧ Vals [] ds := by
  obtain ⟨f_chkl, fd_chkl, ds_chkl, F_chkl, m_chkl, k_chkl, b_chkl, d_chkl⟩ := ok_chkl (P := P) (w := w) (base := base) T
  obtain ⟨f_chks, fd_chks, ds_chks, F_chks, m_chks, k_chks, b_chks, d_chks⟩ := ok_chks (P := P) (w := w) (base := base) T
  obtain ⟨f_chosen, fd_chosen, ds_chosen, F_chosen, m_chosen, k_chosen, b_chosen, d_chosen⟩ := ok_chosen (P := P) (w := w) (base := base) T
  obtain ⟨f, fd, dv, F, hm⟩ := T.i_Machine
  have sc : FnScope ["self", "letters", "rows", "accepting", "row", "target"] ["self", "letters", "rows", "accepting"] (defScope (inClass (top 34) 1)) := ⟨rfl, rfl, rfl, by decide +kernel, rfl, by decide +kernel, by decide +kernel⟩
  have G : FnOk P w K mg base CX0 3 f fd ["self", "letters", "rows", "accepting"] (spInit C) := by
    refine okD F sc (fun vs H Q E h => ?_) (fun cdv A outer s H vs Q E hr h => ?_)
    · obtain ⟨F0, M, x, dx, l, rows, acc, v, va, rfl, _⟩ := h; rfl
    · obtain ⟨F0, M, x, dx, l, rows, acc, v, va, rfl, wd, hA, hR, hT, hAc, hac, hap, k⟩ := h
      obtain ⟨u, hcon⟩ := T.con_max
      obtain ⟨pr, xs, rfl, hp, hxl, hrow⟩ := tab_row hR
      obtain ⟨pa, ys, rfl, hpa, hy⟩ := hAc.l
      rw [Rps.of_nats hy] at hpa
      have hn0 : 0 < rows.length := List.length_pos_iff.mpr hT.n0
      have hn32 := hT.n32
      have hml := mk_len l
      have hl3 := hA.n3
      have hsz : (mk l).length ≤ sizeLine := by rw [mk_len]; exact sz_of (by omega)
      refine ⟨_, (pss_cons (ps_fldK (K := K) rfl (pv 0) (pe_call F_chkl (hr.mono (by first | decide | omega)) (by rfl) m_chkl k_chkl b_chkl d_chkl pass0 (pa_cons (pv 1) pa_nil)) rfl)
  (pss_cons (ps_if (pt_cmpR op_gt (pe_callB (call_lenK (K := K) rfl) (by rfl) T.n_len boot_len (pa_cons (pv 2) pa_nil)) (pe_conK (K := K) rfl (pv 0) rfl) (nomark _)) (pss_one ps_never) pss_nil)
  (pss_cons (ps_if (pt_cmpR op_eq (pe_callB (call_lenK (K := K) rfl) (by rfl) T.n_len boot_len (pa_cons (pv 2) pa_nil)) pe_int (nomark _)) (pss_one ps_never) pss_nil)
  (pss_cons (ps_for PassesOwn.never rfl (pi_listK (K := K) rfl (pv 2)) (pg_name (i := 4) sc.nd rfl (Or.inl rfl))
   (pss_one (ps_if (pt_cmpR op_ne (pe_callB (call_lenK (K := K) rfl) (by rfl) T.n_len boot_len (pa_cons (pv 4) pa_nil)) (pe_callB (call_lenK (K := K) rfl) (by rfl) T.n_len boot_len (pa_cons (pv 1) pa_nil)) (nomark _)) (pss_one ps_never) pss_nil)))
  (pss_cons (ps_for PassesOwn.never rfl (pi_listK (K := K) rfl (pv 2)) (pg_name (i := 4) sc.nd rfl (Or.inl rfl))
   (pss_one (ps_for PassesOwn.never rfl (pi_listK (K := K) rfl (pv 4)) (pg_name (i := 5) sc.nd rfl (Or.inl rfl))
   (pss_one (ps_expr (pe_call F_chks (hr.mono (by first | decide | omega)) (by rfl) m_chks k_chks b_chks d_chks pass0 (pa_cons (pv 5) (pa_cons (pe_callB (call_lenK (K := K) rfl) (by rfl) T.n_len boot_len (pa_cons (pv 2) pa_nil)) pa_nil))))))))
  (pss_cons (ps_fldK (K := K) rfl (pv 0) (pe_tupleOfK (K := K) rfl (by rfl) T.n_tuple (pe_lc (own := [("row", 4)]) (g := gName 4) rfl sc.nd (pi_listK (K := K) rfl (pv 2)) (blkOk_by (N := ["self", "letters", "rows", "accepting", "row", "target"]) (sc := defScope (inClass (top 34) 1)) (by decide +kernel)) (fun _ _ _ _ _ => (pg_name (i := 4) sc.nd rfl (Or.inl rfl))) (fun _ _ _ _ _ => pts_nil) (fun _ _ _ _ _ => (pe_tupleOfK (K := K) rfl (by rfl) T.n_tuple (pv 4))))) rfl)
  (pss_one (ps_fldK (K := K) rfl (pv 0) (pe_call F_chosen (hr.mono (by first | decide | omega)) (by rfl) m_chosen k_chosen b_chosen d_chosen pass0 (pa_cons (pv 3) (pa_cons (pe_callB (call_lenK (K := K) rfl) (by rfl) T.n_len boot_len (pa_cons (pv 2) pa_nil)) pa_nil))) rfl)))))))), ?_⟩
      -- self.letters = check_letters(letters)
      walk_at "go"
      refine ⟨x, C, dx, [], rfl, wd.hd, T.cl_Machine, T.na_letters, by decide, ?_⟩
      have wd := wd.put (o' := .ins C dx (putF "letters" (.str (mk l)) []))
      have sl : SqL K (upd H x (.ins C dx (putF "letters" (.str (mk l)) []))) pr xs := wd.lF hp
      -- if len(rows) > self.MOST_STATES
      walk_at "go"
      refine ⟨x, C, dx, _, _, u, rfl, wd.hd, T.cl_Machine, hcon, by rw [lookup_putF, if_neg (by decide +kernel)]; rfl, ?_⟩
      walk_at "go"
      refine if_F (decide_eq_false (by omega)) ?_
      walk_at "go"
      refine if_F (decide_eq_false (by intro e; have := V.int.inj e; omega)) ?_
      walk_at "go"
      -- for row in rows: the lengths
      generalize hHg : upd H x (.ins C dx (putF "letters" (.str (mk l)) [])) = Hg at *
      refine ⟨⟨_, sl⟩, for_list (K := K) (a := pr) (xs := xs) (fun i σ H' => ∃ v, σ = [some (.ref x), some (.str (mk l)), some (.ref pr), some (.ref pa), v, none] ∧ H' = Hg) ⟨none, rfl, rfl⟩ (fun i σ H' _ ⟨_, _, e⟩ => by rw [e]; exact sl) ?_ ?_⟩
      · rintro i y σ H' hy ⟨v, rfl, rfl⟩
        obtain ⟨r, a, hr1, rfl, ha⟩ := rows_at (p := pr) hxl hrow hy
        have sa : SqL K H' a _ := wd.lF ha
        walk_at "go"
        refine if_F (by rw [List.length_map, hT.wid r (List.mem_of_getElem? hr1), hml]; simp) ?_
        exact ⟨_, rfl, rfl⟩
      rintro σ H' ⟨v, rfl, rfl⟩
      -- for row in rows: for target in row
      refine ⟨_, rfl, pr, rfl, ⟨_, sl⟩, for_list (K := K) (a := pr) (xs := xs) (fun i σ H'' => ∃ v v2, σ = [some (.ref x), some (.str (mk l)), some (.ref pr), some (.ref pa), v, v2] ∧ H'' = H') ⟨v, none, rfl, rfl⟩ (fun i σ H'' _ ⟨_, _, _, e⟩ => by rw [e]; exact sl) ?_ ?_⟩
      · rintro i y σ H'' hy ⟨v, v2, rfl, rfl⟩
        obtain ⟨r, a, hr1, rfl, ha⟩ := rows_at (p := pr) hxl hrow hy
        have sa : SqL K H'' a _ := wd.lF ha
        refine ⟨_, rfl, a, rfl, ⟨_, sa⟩, for_list (K := K) (a := a) (xs := r.map fun (n : Nat) => V.int (n : Int)) (fun i σ H' => ∃ v2, σ = [some (.ref x), some (.str (mk l)), some (.ref pr), some (.ref pa), some (.ref a), v2] ∧ H' = H'') ⟨v2, rfl, rfl⟩ (fun i σ H' _ ⟨_, _, e⟩ => by rw [e]; exact sa) ?_ ?_⟩
        · rintro j z σ H' hz ⟨v2, rfl, rfl⟩
          obtain ⟨y, hy2, rfl⟩ := nat_at hz
          walk_at "go"
          refine ⟨y, xs.length, rfl, by rw [hxl]; exact hT.sta r (List.mem_of_getElem? hr1) y (List.mem_of_getElem? hy2), ?_⟩
          exact ⟨_, rfl, rfl⟩
        · rintro σ H' ⟨v2, rfl, rfl⟩
          exact ⟨_, _, rfl, rfl⟩
      rintro σ H'' ⟨v, v2, rfl, rfl⟩
      -- self.rows = tuple([tuple(row) for row in rows])
      refine ⟨_, rfl, pr, rfl, ⟨_, sl⟩, ?_⟩
      intro q0 hD
      refine lc_list (K := K) (a := pr) (xs := xs) (fun j H => ∃ (F' : Hp) (ds : List V), Same F0 F' ∧ W F' ((q0, .lst ds) :: (x, .ins C dx (putF "letters" (.str (mk l)) [])) :: (dx, .own x) :: M) H ∧ Rps F' ((rows.take j).map fun r => D.tup (r.map fun (n : Nat) => D.int (n : Int))) ds) ?_ ?_ ?_ ?_
      · exact ⟨F0, [], Same.refl _, wd.new hD, Rps.nil⟩
      · rintro j H _ ⟨F1, ds, e1, wd, hds⟩
        exact wd.lF (e1 _ _ hp)
      · rintro j y H hy ⟨F1, ds, e1, wd, hds⟩
        obtain ⟨r, a, hr1, rfl, ha⟩ := rows_at (p := pr) hxl hrow hy
        have sa : SqL K H a _ := wd.lF (e1 _ _ ha)
        walk_at "go"
        refine Or.inl ⟨a, _, rfl, sa, fun q hq => ?_⟩
        have wd2 := wd.frz hq (o := .tup (r.map fun (n : Nat) => V.int (n : Int)))
        have e2 := same_upd (o := .tup (r.map fun (n : Nat) => V.int (n : Int))) (wd.nF hq)
        refine ⟨ds, wd2.hd, by rw [hds.len, List.length_map, List.length_take]; exact sz_lt (by omega), _, ds ++ [.ref q], e1.trans e2, wd2.put, ?_⟩
        rw [List.take_succ, hr1, Option.toList_some, List.map_append]
        exact (hds.x e2).snoc (Rp.ot upd_same Rps.nats)
      · rintro H ⟨F1, ds, e1, wd, hds⟩
        rw [hxl, List.take_length] at hds
        refine Or.inl ⟨q0, ds, rfl, wd.lM, fun q hq => ?_⟩
        have e2 := same_upd (o := .tup ds) (wd.nF hq)
        have wd := (wd.frz hq (o := .tup ds)).tl
        refine ⟨_, rfl, x, C, dx, _, rfl, wd.hd, T.cl_Machine, T.na_rows, (lp (b := "rows") (u := .non)).1, ?_⟩
        have wd := wd.put (o' := .ins C dx (putF "rows" (.ref q) (putF "letters" (.str (mk l)) [])))
        generalize upd (upd H q (HO.tup ds)) x _ = Hh at *
        have sl : SqL K Hh pr xs := wd.lF (e2 _ _ (e1 _ _ hp))
        walk_at "go"
        refine ⟨_, _, pa, acc, xs.length, rfl, wd, e2 _ _ (e1 _ _ hpa), fun q hq => by rw [hxl]; exact hac q hq, hap, by omega, fun b F2 H2 e3 wd hb => ?_⟩
        refine ⟨_, rfl, x, C, dx, _, rfl, wd.hd, T.cl_Machine, T.na_acc, lp.2, ?_⟩
        refine k _ F2 _ ((e1.trans e2).trans e3) wd.put ⟨q, b, rfl, ?_, hb⟩
        exact (Rp.ot upd_same (hds.x e2)).x e3
  obtain ⟨ds', hd', hb'⟩ := F.binds1 (ps := ["self", "letters", "rows", "accepting"]) 4 1 (List.cons_ne_nil _ _) rfl (fun T kV doc pm an cdv ct us its hl hi => match us, its, hl, hi with | [_, _, _, _], [_], _, _ => ⟨_, rfl, rfl⟩)
  exact ⟨f, fd, ds', G, hm, T.m_Machine, hb', hd'⟩
end
end Tu
namespace Tu
/-! ### words without end -/
theorem pigeon : ∀ (n : Nat) (l : List Nat), l.Nodup → (∀ x ∈ l, x < n) → l.length ≤ n
  | 0, l, _, h => by
    cases l with
    | nil => exact Nat.le_refl _
    | cons x l => exact absurd (h x (List.mem_cons_self ..)) (Nat.not_lt_zero _)
  | n + 1, l, hn, h => by
    by_cases hm : n ∈ l
    · have h1 := pigeon n (l.erase n) (hn.erase n) fun x hx => by
        have h2 := (hn.mem_erase_iff).mp hx
        have h3 := h x h2.2
        have h4 := h2.1
        omega
      rw [List.length_erase_of_mem hm] at h1
      omega
    · have := pigeon n l hn fun x hx => by
        have h3 := h x hx
        have : x ≠ n := fun e => hm (e ▸ hx)
        omega
      omega
theorem dup_of {n : Nat} {s : Nat → Nat} (h : ∀ i, s i < n) : ∃ i j, i < j ∧ j ≤ n ∧ s i = s j := by
  refine Classical.byContradiction fun hc => ?_
  have hnd : ((List.range (n + 1)).map s).Nodup := by
    rw [List.Nodup, List.pairwise_map]
    refine List.Pairwise.imp_of_mem (fun {a b} ha hb hab e => hc ⟨a, b, hab, by have := List.mem_range.mp hb; omega, e⟩) List.pairwise_lt_range
  have := pigeon n _ hnd fun x hx => by
    obtain ⟨i, _, e⟩ := List.mem_map.mp hx
    rw [← e]; exact h i
  rw [List.length_map, List.length_range] at this
  omega
theorem reach {p N : Nat} (hp : 0 < p) : ∀ d i, i + d = N → ∃ b, N ≤ i + p * b ∧ i + p * b < N + p := by
  intro d
  induction d using Nat.strongRecOn with
  | ind d ih =>
    intro i e
    by_cases h0 : d = 0
    · exact ⟨0, by omega, by omega⟩
    · by_cases h1 : d < p
      · exact ⟨1, by omega, by omega⟩
      · obtain ⟨b, h2, h3⟩ := ih (d - p) (by omega) (i + p) (by omega)
        exact ⟨b + 1, by rw [Nat.mul_add]; omega, by rw [Nat.mul_add]; omega⟩
/-- a word again and again -/
def rep (n : Nat) (u : List Nat) : List Nat := (List.replicate n u).flatten
theorem rep_zero (u : List Nat) : rep 0 u = [] := rfl
theorem rep_succ (n : Nat) (u : List Nat) : rep (n + 1) u = u ++ rep n u := by unfold rep; rw [List.replicate_succ, List.flatten_cons]
theorem rep_add (n m : Nat) (u : List Nat) : rep (n + m) u = rep n u ++ rep m u := by unfold rep; rw [← List.replicate_append_replicate, List.flatten_append]
theorem rep_succ' (n : Nat) (u : List Nat) : rep (n + 1) u = rep n u ++ u := by rw [rep_add, rep_succ 0, rep_zero, List.append_nil]
theorem rep_len (n : Nat) (u : List Nat) : (rep n u).length = n * u.length := by
  induction n with
  | zero => rw [rep_zero]; simp
  | succ n ih => rw [rep_succ, List.length_append, ih, Nat.succ_mul]; omega
theorem rep_at {u : List Nat} (hu : u ≠ []) : ∀ (n i : Nat), i < n * u.length → (rep n u)[i]? = some (u.getD (i % u.length) 0)
  | 0, i, h => by simp at h
  | n + 1, i, h => by
    have hpos := List.length_pos_iff.mpr hu
    rw [rep_succ]
    by_cases hi : i < u.length
    · rw [List.getElem?_append_left hi, Nat.mod_eq_of_lt hi, List.getElem?_eq_getElem hi]
      simp [List.getD, hi]
    · rw [List.getElem?_append_right (by omega), rep_at hu n (i - u.length) (by rw [Nat.succ_mul] at h; omega), ← Nat.mod_eq_sub_mod (by omega)]
/-- the letter of a word without end at i -/
def om (a b : List Nat) (i : Nat) : Nat := if i < a.length then a.getD i 0 else b.getD ((i - a.length) % b.length) 0
theorem om_at {a b : List Nat} (hb : b ≠ []) (n i : Nat) (h : i < a.length + n * b.length) : (a ++ rep n b)[i]? = some (om a b i) := by
  unfold om
  by_cases hi : i < a.length
  · rw [if_pos hi, List.getElem?_append_left hi, List.getElem?_eq_getElem hi]
    simp [List.getD, hi]
  · rw [if_neg hi, List.getElem?_append_right (by omega), rep_at hb n _ (by omega)]
theorem om_list {a b : List Nat} (hb : b ≠ []) (n m : Nat) (h : m ≤ a.length + n * b.length) : (a ++ rep n b).take m = (List.range m).map (om a b) := by
  apply List.ext_getElem?
  intro i
  by_cases hi : i < m
  · rw [List.getElem?_take_of_lt hi, om_at hb n i (by omega), List.getElem?_map, List.getElem?_range hi]
    rfl
  · rw [List.getElem?_eq_none (by rw [List.length_take]; omega), List.getElem?_eq_none (by simp; omega)]
theorem om_whole {a b : List Nat} (hb : b ≠ []) (n : Nat) : a ++ rep n b = (List.range (a.length + n * b.length)).map (om a b) := by
  rw [← om_list hb n _ (Nat.le_refl _), List.take_of_length_le]
  rw [List.length_append, rep_len]; exact Nat.le_refl _
/-- the first n letters -/
def pre (a b : List Nat) (n : Nat) : List Nat := (a ++ rep n b).take n
theorem pre_om {a b : List Nat} (hb : b ≠ []) (n : Nat) : pre a b n = (List.range n).map (om a b) :=
  om_list hb n n (by have := List.length_pos_iff.mpr hb; have := Nat.le_mul_of_pos_right n this; omega)
theorem pre_eq {a b c d : List Nat} (hb : b ≠ []) (hd : d ≠ []) (n : Nat) : pre a b n = pre c d n ↔ ∀ i, i < n → om a b i = om c d i := by
  rw [pre_om hb, pre_om hd]
  constructor
  · intro h i hi
    have := congrArg (fun l => l[i]?) h
    simpa [List.getElem?_map, List.getElem?_range hi] using this
  · intro h
    exact List.map_congr_left fun i hi => h i (List.mem_range.mp hi)
theorem om_per {a b : List Nat} (hb : b ≠ []) {i : Nat} (h : a.length ≤ i) : om a b (i + b.length) = om a b i := by
  unfold om
  rw [if_neg (by omega), if_neg (by omega)]
  have : i + b.length - a.length = (i - a.length) + b.length := by omega
  rw [this, Nat.add_mod_right]
theorem om_per_mul {a b : List Nat} (hb : b ≠ []) (k : Nat) {i : Nat} (h : a.length ≤ i) : om a b (i + k * b.length) = om a b i := by
  induction k with
  | zero => rw [Nat.zero_mul, Nat.add_zero]
  | succ k ih => rw [Nat.succ_mul, ← Nat.add_assoc, om_per hb (by omega), ih]
/-- Fine and Wilf, the easy length -/
theorem fw {f g : Nat → Nat} {N p q : Nat} (hp : 0 < p) (hq : 0 < q) (pf : ∀ i, N ≤ i → f (i + p) = f i) (pg : ∀ i, N ≤ i → g (i + q) = g i) (h : ∀ i, i < N + p + q → f i = g i) : ∀ i, f i = g i := by
  intro i
  induction i using Nat.strongRecOn with
  | ind i ih =>
    by_cases hi : i < N + p + q
    · exact h i hi
    · have e1 : f i = f (i - p) := by have := pf (i - p) (by omega); rw [Nat.sub_add_cancel (by omega)] at this; exact this
      have e2 : g (i - p) = g (i - p - q) := by have := pg (i - p - q) (by omega); rw [Nat.sub_add_cancel (by omega)] at this; exact this
      have e3 : f (i - q) = f (i - q - p) := by have := pf (i - q - p) (by omega); rw [Nat.sub_add_cancel (by omega)] at this; exact this
      have e4 : g i = g (i - q) := by have := pg (i - q) (by omega); rw [Nat.sub_add_cancel (by omega)] at this; exact this
      have e5 : i - p - q = i - q - p := by omega
      rw [e1, ih (i - p) (by omega), e2, e5, ← ih (i - q - p) (by omega), ← e3, ih (i - q) (by omega), ← e4]
theorem same_om {a b c d : List Nat} (hb : b ≠ []) (hd : d ≠ []) : pre a b (max a.length c.length + b.length + d.length) = pre c d (max a.length c.length + b.length + d.length) ↔ ∀ i, om a b i = om c d i := by
  have h1 := List.length_pos_iff.mpr hb
  have h2 := List.length_pos_iff.mpr hd
  rw [pre_eq hb hd]
  exact ⟨fun h => fw (N := max a.length c.length) h1 h2 (fun i hi => om_per hb (by omega)) (fun i hi => om_per hd (by omega)) h, fun h i _ => h i⟩
theorem same_om2 {a b c d : List Nat} (hb : b ≠ []) (hd : d ≠ []) : pre a b (max a.length c.length + b.length * d.length) = pre c d (max a.length c.length + b.length * d.length) ↔ ∀ i, om a b i = om c d i := by
  have h1 := List.length_pos_iff.mpr hb
  have h2 := List.length_pos_iff.mpr hd
  rw [pre_eq hb hd]
  refine ⟨fun h i => ?_, fun h i _ => h i⟩
  induction i using Nat.strongRecOn with
  | ind i ih =>
    by_cases hi : i < max a.length c.length + b.length * d.length
    · exact h i hi
    · have hpos : 0 < b.length * d.length := Nat.mul_pos h1 h2
      have e1 := om_per_mul (a := a) hb d.length (i := i - b.length * d.length) (by omega)
      have e2 := om_per_mul (a := c) hd b.length (i := i - b.length * d.length) (by omega)
      rw [Nat.mul_comm d.length, Nat.sub_add_cancel (by omega)] at e1
      rw [Nat.sub_add_cancel (by omega)] at e2
      rw [e1, e2]
      exact ih _ (by omega)
/-! the same word without end, written anew -/
theorem turn_rep (u : List Nat) (t m : Nat) : u.take t ++ rep m (u.drop t ++ u.take t) = rep m u ++ u.take t := by
  induction m with
  | zero => rw [rep_zero, rep_zero, List.append_nil, List.nil_append]
  | succ m ih =>
    rw [rep_succ', ← List.append_assoc, ih, List.append_assoc, ← List.append_assoc (u.take t), List.take_append_drop, ← List.append_assoc, ← rep_succ']
theorem rep_rep (n b : Nat) (u : List Nat) : rep n (rep b u) = rep (n * b) u := by
  induction n with
  | zero => rw [Nat.zero_mul, rep_zero, rep_zero]
  | succ n ih => rw [rep_succ, ih, Nat.succ_mul, Nat.add_comm, rep_add]
theorem om_form {lead loop : List Nat} (hl : loop ≠ []) (a b t : Nat) (hb : 0 < b) : ∀ i, om (lead ++ rep a loop ++ loop.take t) (rep b (loop.drop t ++ loop.take t)) i = om lead loop i := by
  intro i
  have hpos := List.length_pos_iff.mpr hl
  have hturn : (loop.drop t ++ loop.take t).length = loop.length := by
    rw [List.length_append, List.length_drop, List.length_take]; omega
  have hne : rep b (loop.drop t ++ loop.take t) ≠ [] := fun e => by
    have := congrArg List.length e
    rw [rep_len, hturn] at this
    have h2 : 0 < b * loop.length := Nat.mul_pos hb hpos
    simp at this
    omega
  have hlen2 : (rep b (loop.drop t ++ loop.take t)).length = b * loop.length := by rw [rep_len, hturn]
  have h2 := om_at (a := lead ++ rep a loop ++ loop.take t) hne (i + 1) i (by
    rw [hlen2]
    have h3 : 0 < b * loop.length := Nat.mul_pos hb hpos
    have := Nat.le_mul_of_pos_right (i + 1) h3
    omega)
  have h1 := om_at (a := lead) hl (a + (i + 1) * b + 1) i (by
    have := Nat.le_mul_of_pos_right (a + (i + 1) * b + 1) hpos
    have h4 := Nat.le_mul_of_pos_right (i + 1) hb
    omega)
  have e : lead ++ rep a loop ++ loop.take t ++ rep (i + 1) (rep b (loop.drop t ++ loop.take t)) = lead ++ rep (a + (i + 1) * b) loop ++ loop.take t := by
    rw [rep_rep, List.append_assoc (lead ++ rep a loop), turn_rep, rep_add]
    simp only [List.append_assoc]
  rw [e] at h2
  have hpre : (lead ++ rep (a + (i + 1) * b) loop ++ loop.take t)[i]? = (lead ++ rep (a + (i + 1) * b + 1) loop)[i]? := by
    rw [rep_succ', ← List.append_assoc]
    have hlt : i < (lead ++ rep (a + (i + 1) * b) loop).length := by
      rw [List.length_append, rep_len]
      have := Nat.le_mul_of_pos_right (a + (i + 1) * b) hpos
      have h4 := Nat.le_mul_of_pos_right (i + 1) hb
      omega
    rw [List.getElem?_append_left hlt, List.getElem?_append_left hlt]
  rw [hpre, h1] at h2
  exact (Option.some.inj h2).symm
/-! ### the states that come again and again -/
section
variable {l : List Nat} {rows : List (List Nat)}
theorem runL_app (q : Nat) (u v : List Nat) : runL l rows q (u ++ v) = runL l rows (runL l rows q u) v := List.foldl_append
theorem runL_lt (t : TabOk rows l.length) {q : Nat} (hq : q < rows.length) : ∀ {u : List Nat}, (∀ c ∈ u, c ∈ l) → runL l rows q u < rows.length := by
  intro u
  induction u generalizing q with
  | nil => intro _; exact hq
  | cons c u ih =>
    intro h
    exact ih (t.step hq (List.idxOf_lt_length_iff.mpr (h c (List.mem_cons_self ..)))) fun d hd => h d (List.mem_cons_of_mem _ hd)
def sAt (l : List Nat) (rows : List (List Nat)) (lead loop : List Nat) (i : Nat) : Nat := runL l rows 0 (lead ++ rep i loop)
theorem sAt_succ (lead loop : List Nat) (i : Nat) : sAt l rows lead loop (i + 1) = runL l rows (sAt l rows lead loop i) loop := by
  unfold sAt; rw [rep_succ', ← List.append_assoc, runL_app]
theorem mem_rep {n : Nat} {u : List Nat} {c : Nat} (h : c ∈ rep n u) : c ∈ u := by
  unfold rep at h
  obtain ⟨v, hv, hc⟩ := List.mem_flatten.mp h
  rw [List.eq_of_mem_replicate hv] at hc
  exact hc
theorem sAt_lt (t : TabOk rows l.length) {lead loop : List Nat} (h1 : ∀ c ∈ lead, c ∈ l) (h2 : ∀ c ∈ loop, c ∈ l) (i : Nat) : sAt l rows lead loop i < rows.length :=
  runL_lt t (List.length_pos_iff.mpr t.n0) fun c hc => (List.mem_append.mp hc).elim (h1 c) fun h => h2 c (mem_rep h)
/-- the states behind each letter -/
def visL (l : List Nat) (rows : List (List Nat)) (q : Nat) (u : List Nat) : List Nat := (List.range u.length).map fun k => runL l rows q (u.take (k + 1))
def foundL (l : List Nat) (rows : List (List Nat)) (lead loop : List Nat) : List Nat := (List.range rows.length).flatMap fun i => visL l rows (sAt l rows lead loop (rows.length + i)) loop
def cycL (l : List Nat) (rows : List (List Nat)) (lead loop : List Nat) (i0 j : Nat) : List Nat := (List.range' i0 (j - i0)).flatMap fun i => visL l rows (sAt l rows lead loop i) loop
theorem sAt_per {lead loop : List Nat} {i0 j : Nat} (hj : i0 < j) (e : sAt l rows lead loop j = sAt l rows lead loop i0) : ∀ a, sAt l rows lead loop (j + a) = sAt l rows lead loop (i0 + a) := by
  intro a
  induction a with
  | zero => exact e
  | succ a ih => rw [← Nat.add_assoc, ← Nat.add_assoc, sAt_succ, sAt_succ, ih]
theorem sAt_mul {lead loop : List Nat} {i0 j : Nat} (hj : i0 < j) (e : sAt l rows lead loop j = sAt l rows lead loop i0) (a b : Nat) : sAt l rows lead loop (i0 + a + (j - i0) * b) = sAt l rows lead loop (i0 + a) := by
  induction b with
  | zero => rw [Nat.mul_zero, Nat.add_zero]
  | succ b ih =>
    have : i0 + a + (j - i0) * (b + 1) = j + (a + (j - i0) * b) := by rw [Nat.mul_add]; omega
    rw [this, sAt_per hj e, ← Nat.add_assoc, ih]
theorem sAt_in {lead loop : List Nat} {i0 j n : Nat} (hj : i0 < j) (hn : j ≤ n) (e : sAt l rows lead loop j = sAt l rows lead loop i0) {i : Nat} (hi : i0 ≤ i) : ∃ k, k < n ∧ sAt l rows lead loop (n + k) = sAt l rows lead loop i := by
  have hp : 0 < j - i0 := by omega
  have hm : (i - i0) % (j - i0) < j - i0 := Nat.mod_lt _ hp
  have e1 : sAt l rows lead loop i = sAt l rows lead loop (i0 + (i - i0) % (j - i0)) := by
    have h1 := sAt_mul hj e ((i - i0) % (j - i0)) ((i - i0) / (j - i0))
    rw [← h1]
    congr 1
    have := Nat.mod_add_div (i - i0) (j - i0)
    omega
  obtain ⟨b, h1, h2⟩ := reach (N := n) hp (n - (i0 + (i - i0) % (j - i0))) (i0 + (i - i0) % (j - i0)) (by omega)
  refine ⟨i0 + (i - i0) % (j - i0) + (j - i0) * b - n, by omega, ?_⟩
  have h3 : n + (i0 + (i - i0) % (j - i0) + (j - i0) * b - n) = i0 + (i - i0) % (j - i0) + (j - i0) * b := by omega
  rw [h3, sAt_mul hj e, ← e1]
theorem cyc_mem {lead loop : List Nat} {i0 j : Nat} (hj : i0 < j) (hn : j ≤ rows.length) (e : sAt l rows lead loop j = sAt l rows lead loop i0) (x : Nat) : x ∈ cycL l rows lead loop i0 j ↔ x ∈ foundL l rows lead loop := by
  unfold cycL foundL
  simp only [List.mem_flatMap, List.mem_range'_1, List.mem_range]
  constructor
  · rintro ⟨i, hi, hx⟩
    obtain ⟨k, hk, h⟩ := sAt_in hj hn e hi.1
    exact ⟨k, hk, by rw [h]; exact hx⟩
  · rintro ⟨k, hk, hx⟩
    have hp : 0 < j - i0 := by omega
    have hm : (rows.length + k - i0) % (j - i0) < j - i0 := Nat.mod_lt _ hp
    refine ⟨i0 + (rows.length + k - i0) % (j - i0), by omega, ?_⟩
    have h1 := sAt_mul hj e ((rows.length + k - i0) % (j - i0)) ((rows.length + k - i0) / (j - i0))
    have h2 : i0 + (rows.length + k - i0) % (j - i0) + (j - i0) * ((rows.length + k - i0) / (j - i0)) = rows.length + k := by
      have := Nat.mod_add_div (rows.length + k - i0) (j - i0)
      omega
    rw [h2] at h1
    rw [← h1]; exact hx
/-- the state behind m letters -/
def qAt (l : List Nat) (rows : List (List Nat)) (w : Nat → Nat) (m : Nat) : Nat := runL l rows 0 ((List.range m).map w)
theorem qAt_om {lead loop : List Nat} (hl : loop ≠ []) (i k : Nat) (hk : k ≤ loop.length) : qAt l rows (om lead loop) (lead.length + i * loop.length + k) = runL l rows (sAt l rows lead loop i) (loop.take k) := by
  unfold qAt sAt
  rw [← runL_app, ← om_list hl (i + 1) _ (by rw [Nat.succ_mul]; omega), rep_succ', ← List.append_assoc, List.take_append]
  congr 1
  have h1 : (lead ++ rep i loop).length = lead.length + i * loop.length := by rw [List.length_append, rep_len]
  rw [List.take_of_length_le (by rw [h1]; omega), h1]
  congr 1
  congr 1
  omega
theorem found_inf (t : TabOk rows l.length) {lead loop : List Nat} (h1 : ∀ c ∈ lead, c ∈ l) (h2 : ∀ c ∈ loop, c ∈ l) (hl : loop ≠ []) (x : Nat) :
    x ∈ foundL l rows lead loop ↔ ∀ N, ∃ m, N ≤ m ∧ qAt l rows (om lead loop) m = x := by
  have hpos := List.length_pos_iff.mpr hl
  obtain ⟨i0, j, hj, hn, e⟩ := dup_of (sAt_lt t h1 h2)
  have e := e.symm
  have hp : 0 < j - i0 := by omega
  unfold foundL visL
  simp only [List.mem_flatMap, List.mem_map, List.mem_range]
  constructor
  · rintro ⟨k, hk, i, hi, hx⟩ N
    refine ⟨lead.length + (rows.length + k + (j - i0) * N) * loop.length + (i + 1), ?_, ?_⟩
    · have a1 : N ≤ (j - i0) * N := Nat.le_mul_of_pos_left N hp
      have a2 := Nat.le_mul_of_pos_right (rows.length + k + (j - i0) * N) hpos
      omega
    · rw [qAt_om hl _ _ (by omega)]
      have h3 := sAt_mul hj e (rows.length + k - i0) N
      have h4 : i0 + (rows.length + k - i0) = rows.length + k := by omega
      rw [h4] at h3
      rw [h3]; exact hx
  · intro h
    obtain ⟨m, hm, hx⟩ := h (lead.length + rows.length * loop.length + 1)
    have hmod : (m - 1 - lead.length) % loop.length < loop.length := Nat.mod_lt _ hpos
    have hdm := Nat.div_add_mod (m - 1 - lead.length) loop.length
    have hi : rows.length ≤ (m - 1 - lead.length) / loop.length := by
      rw [Nat.le_div_iff_mul_le hpos]; omega
    have e2 := qAt_om (l := l) (rows := rows) (lead := lead) hl ((m - 1 - lead.length) / loop.length) ((m - 1 - lead.length) % loop.length + 1) (by omega)
    have e3 : lead.length + (m - 1 - lead.length) / loop.length * loop.length + ((m - 1 - lead.length) % loop.length + 1) = m := by
      rw [Nat.mul_comm]; omega
    rw [e3, hx] at e2
    obtain ⟨k, hk, h3⟩ := sAt_in (l := l) (rows := rows) hj hn e (i := (m - 1 - lead.length) / loop.length) (by omega)
    exact ⟨k, hk, (m - 1 - lead.length) % loop.length, hmod, by rw [h3]; exact e2.symm⟩
theorem found_eq (t : TabOk rows l.length) {a b c d : List Nat} (h1 : ∀ x ∈ a, x ∈ l) (h2 : ∀ x ∈ b, x ∈ l) (hb : b ≠ []) (h3 : ∀ x ∈ c, x ∈ l) (h4 : ∀ x ∈ d, x ∈ l) (hd : d ≠ []) (e : ∀ i, om a b i = om c d i) (x : Nat) :
    x ∈ foundL l rows a b ↔ x ∈ foundL l rows c d := by
  rw [found_inf t h1 h2 hb, found_inf t h3 h4 hd]
  have : om a b = om c d := funext e
  rw [this]
end
end Tu
namespace Tu
open PySem PySem.Spec PyProof.Rows L2
local macro_rules | `(tactic| walk_at "sq") => `(tactic| first | assumption | exact W.lM (by assumption) | exact W.lF (by assumption) (by assumption) | exact W.tF (by assumption) (by assumption))
local macro_rules | `(tactic| walk_at "ix") => `(tactic| refine ⟨_, _, _, _, rfl, rfl, (by walk_at "sq"), (by first | rfl | assumption), ?_⟩)
local macro_rules | `(tactic| walk_at "len") => `(tactic| refine ⟨_, _, rfl, (by first | exact Or.inl ⟨_, (by walk_at "sq"), rfl⟩ | exact Or.inr ⟨_, (by walk_at "sq"), rfl⟩ | exact ⟨by assumption, rfl⟩), ?_⟩)
local macro_rules | `(tactic| walk_at "cond") => `(tactic| first
  | (with_reducible assumption)
  | ((with_reducible show (-(2 ^ 62) : Int) ≤ _); omega)
  | ((with_reducible show _ < (2 ^ 62 : Int)); omega)
  | ((with_reducible show (0 : Int) < _); first | (with_reducible assumption) | decide | omega)
  | ((with_reducible show CMulX _ _); exact bits_mul (by with_reducible assumption) (by decide))
  | ((with_reducible show CDivW _ _); exact div_ok (by first | (with_reducible assumption) | decide) (by first | (with_reducible assumption) | decide))
  | ((with_reducible show CPow _ _); exact ⟨by decide, by decide, by decide⟩)
  | ((with_reducible show List.length _ ≤ sizeLine); exact k_lst rfl (by decide))
  | ((with_reducible show scal _ _ = true); rfl)
  | ((with_reducible show wipe _ _ = wipe _ _); rfl)
  | ((with_reducible show [] = []); rfl)
  | (with_reducible rfl))
local macro_rules | `(tactic| walk_at "go1") => `(tactic| first
  | refine ⟨_, rfl, ?_⟩
  | refine ⟨_, _, rfl, rfl, ?_⟩
  | walk_at "ix"
  | walk_at "len"
  | refine And.intro (by walk_at "cond") ?_
  | refine Or.inl ⟨_, rfl, ?_⟩
  | refine iteF ?_
  | refine iteT ?_)
local macro_rules | `(tactic| walk_at "go") => `(tactic| repeat walk_at "go1")
local macro_rules | `(tactic| walk_at "ty") => `(tactic| first | assumption | exact TyX.base (.int _) | exact TyX.base (.bl _) | exact TyX.base (.str _) | exact TyX.base .non)
local macro_rules | `(tactic| walk_at "isT") => `(tactic| refine ⟨_, _, _, _, true, rfl, ClsV.ty _, (by walk_at "ty"), kit_ty (by decide +kernel), ?_⟩)
local macro_rules | `(tactic| walk_at "isF") => `(tactic| refine ⟨_, _, _, _, false, rfl, ClsV.ty _, (by walk_at "ty"), kit_ty (by decide +kernel), ?_⟩)
/-! ### lassos -/
def spChkLasso : Sp := fun vs H Q _ => ∃ l a b, vs = [.str (mk l), .str (mk a), .str (mk b)] ∧ b ≠ [] ∧ (∀ c ∈ a, c ∈ l) ∧ (∀ c ∈ b, c ∈ l) ∧ a.length ≤ 100000 ∧ b.length ≤ 100000 ∧ ∀ H', Same H H' → Q .non H'
/-- a machine and a lasso -/
def MaLa (F H : Hp) (C x : Addr) (l : List Nat) (rows : List (List Nat)) (acc a b : List Nat) : Prop := MaAt F H C x l rows acc ∧ TabOk rows l.length ∧ b ≠ [] ∧ (∀ c ∈ a, c ∈ l) ∧ (∀ c ∈ b, c ∈ l) ∧ a.length ≤ 100000 ∧ b.length ≤ 100
def cyc (l : List Nat) (rows : List (List Nat)) (a b : List Nat) (i0 j : Nat) : List Nat := (List.range' i0 (j - i0)).map (sAt l rows a b)
def spSettle (C : Addr) : Sp := fun vs H Q _ => ∃ (F : Hp) (x : Addr) (l : List Nat) (rows : List (List Nat)) (acc a b : List Nat), vs = [.ref x, .str (mk a), .str (mk b)] ∧ MaLa F H C x l rows acc a b ∧
  ∀ i0 j p q H', Same H H' → i0 < j → j ≤ rows.length → sAt l rows a b j = sAt l rows a b i0 → H' q = some (.tup ((cyc l rows a b i0 j).map fun (n : Nat) => V.int (n : Int))) → H' p = some (.tup [.int (i0 : Int), .ref q]) → Q (.ref p) H'
theorem W.self (H : Hp) : W H [] H := ⟨Same.refl _, fun _ h => (nomatch h), List.nodup_nil⟩
theorem cut_cyc {l : List Nat} {rows : List (List Nat)} {a b : List Nat} {i0 n : Nat} (h : i0 ≤ n) : cutV (((List.range (n + 1)).map (sAt l rows a b)).map fun (n : Nat) => V.int (n : Int)) (some (i0 : Int)) none = (cyc l rows a b i0 (n + 1)).map fun (n : Nat) => V.int (n : Int) := by
  unfold cutV cyc
  rw [HT.sIx_nat, HT.sIx_none, List.length_map, List.length_map, List.length_range, Nat.min_eq_left (by omega), ← List.map_drop, ← List.map_drop, ← List.map_take, ← List.map_take]
  congr 2
  apply List.ext_getElem?
  intro i
  by_cases hi : i < n + 1 - i0
  · rw [List.getElem?_take_of_lt hi, List.getElem?_drop, List.getElem?_range (by omega), List.getElem?_range' hi]
    simp
  · rw [List.getElem?_eq_none (by simp; omega), List.getElem?_eq_none (by simp; omega)]
section
variable {P : Program} {w : World} {K : PySem.W.Frag} {mg : Str → Option Value} {base : Heap} {C : Addr}
theorem str_ne {b : List Nat} (h : b ≠ []) : decide (V.str (mk b) = V.str "") = false :=
  decide_eq_false fun e => h (mk_inj (b := []) (V.str.inj e))
theorem ok_chklasso (T : Txt K mg C) : Def P w K mg base CX0 3 "check_lasso" ["letters", "lead", "loop"] [] spChkLasso := by
  obtain ⟨f_chkw, fd_chkw, ds_chkw, F_chkw, m_chkw, k_chkw, b_chkw, d_chkw⟩ := ok_chkw (P := P) (w := w) (base := base) T
  obtain ⟨f, fd, F, hm⟩ := T.d_check_lasso
  have sc : FnScope ["letters", "lead", "loop"] ["letters", "lead", "loop"] (defScope (top 24)) := ⟨rfl, rfl, rfl, by decide +kernel, rfl, by decide +kernel, by decide +kernel⟩
  refine ⟨f, fd, [], F.ok sc (fun vs H Q E h => ?_) (fun cdv A outer s H vs Q E hr h => ?_), hm, F.kp, (F.binds fun _ _ _ _ _ _ us hl => match us, hl with | [_, _, _], _ => rfl), .nil⟩
  · obtain ⟨l, a, b, rfl, _⟩ := h; rfl
  · obtain ⟨l, a, b, rfl, hb, h1, h2, h3, h4, k⟩ := h
    refine ⟨_, (pss_cons (ps_if (pt_cmpR op_eq (pv 2) pe_str (nomark _)) (pss_one ps_never) pss_nil)
  (pss_cons (ps_expr (pe_call F_chkw (hr.mono (by first | decide | omega)) (by rfl) m_chkw k_chkw b_chkw d_chkw pass0 (pa_cons (pv 1) (pa_cons (pv 0) pa_nil))))
  (pss_one (ps_expr (pe_call F_chkw (hr.mono (by first | decide | omega)) (by rfl) m_chkw k_chkw b_chkw d_chkw pass0 (pa_cons (pv 2) (pa_cons (pv 0) pa_nil))))))), ?_⟩
    walk_at "go"
    refine if_F (str_ne hb) ?_
    walk_at "go"
    refine ⟨l, a, rfl, h1, h3, fun H1 e1 => ?_⟩
    walk_at "go"
    refine ⟨l, b, rfl, h2, h4, fun H2 e2 => ?_⟩
    exact k H2 (e1.trans e2)
theorem ok_settle (T : Txt K mg C) : Def P w K mg base CX0 5 "settle" ["machine", "lead", "loop"] [] (spSettle C) := by
  obtain ⟨f_chklasso, fd_chklasso, ds_chklasso, F_chklasso, m_chklasso, k_chklasso, b_chklasso, d_chklasso⟩ := ok_chklasso (P := P) (w := w) (base := base) T
  obtain ⟨⟨f_run, fd_run, ds_run, F_run, mm_run, b_run, d_run⟩, ⟨f_run2, fd_run2, ds_run2, F_run2, mm_run2, b_run2, d_run2⟩⟩ := ok_run (P := P) (w := w) (base := base) T
  obtain ⟨f, fd, F, hm⟩ := T.d_settle
  have sc : FnScope ["machine", "lead", "loop", "states", "state", "index"] ["machine", "lead", "loop"] (defScope (top 25)) := ⟨rfl, rfl, rfl, by decide +kernel, rfl, by decide +kernel, by decide +kernel⟩
  refine ⟨f, fd, [], F.ok sc (fun vs H Q E h => ?_) (fun cdv A outer s H vs Q E hr h => ?_), hm, F.kp, (F.binds fun _ _ _ _ _ _ us hl => match us, hl with | [_, _, _], _ => rfl), .nil⟩
  · obtain ⟨F0, x, l, rows, acc, a, b, rfl, _⟩ := h; rfl
  · obtain ⟨F0, x, l, rows, acc, a, b, rfl, ⟨hM, hT, hb, h1, h2, h3, h4⟩, k⟩ := h
    refine ⟨_, (pss_cons (ps_expr (pe_call F_chklasso (hr.mono (by first | decide | omega)) (by rfl) m_chklasso k_chklasso b_chklasso d_chklasso pass0 (pa_cons (pe_fldK (K := K) rfl (pv 0) rfl) (pa_cons (pv 1) (pa_cons (pv 2) pa_nil)))))
  (pss_cons (ps_set (i := 3) sc.nd rfl (Or.inl rfl) (pe_lst (pa_cons (pe_meth (pv 0) T.cl_Machine mm_run F_run (hr.mono (by first | decide | omega)) b_run d_run pass0 (pa_cons (pv 1) pa_nil)) pa_nil)))
  (pss_one (ps_while PassesOwn.never (pt_val pe_bl) (pss_cons (ps_set (i := 4) sc.nd rfl (Or.inl rfl) (pe_meth (pv 0) T.cl_Machine mm_run2 F_run2 (hr.mono (by first | decide | omega)) b_run2 d_run2 pass0 (pa_cons (pv 2) (pa_cons (pe_ix (ix_listK (K := K) rfl) (pv 3) (pe_un un_neg pe_int) (fun _ _ => rfl)) pa_nil))))
  (pss_cons (ps_if (pt_cmpR (op_in_seqK (K := K) rfl) (pv 4) (pv 3) (by rfl)) (pss_cons (ps_set (i := 5) sc.nd rfl (Or.inl rfl) (pe_bmK (K := K) rfl PySem.F.plainAttrs_list PySem.F.slot_list_index PySem.F.type_list_index (mt_indexK (K := K) rfl) (pv 3) (pa_cons (pv 4) pa_nil)))
  (pss_one (ps_ret (pe_tup (pa_cons (pv 5) (pa_cons (pe_tupleOfK (K := K) rfl (by rfl) T.n_tuple (pe_slice (sl_listK (K := K) rfl) (pv 3) (po_some (pv 5)) po_none)) pa_nil)))))) pss_nil)
  (pss_one (ps_expr (pe_bmK (K := K) rfl PySem.F.plainAttrs_list PySem.F.slot_list_append PySem.F.type_list_append mt_append (pv 3) (pa_cons (pv 4) pa_nil)))))))))), ?_⟩
    have hM0 := hM
    obtain ⟨dx, fs, hx, ⟨pr, pa, rfl, hR, hA⟩, hF⟩ := hM
    walk_at "go"
    refine ⟨x, C, dx, _, _, rfl, hx, T.cl_Machine, T.na_letters, mfl_l _ _ _, ?_⟩
    walk_at "go"
    refine ⟨l, a, b, rfl, hb, h1, h2, h3, by omega, fun H1 e1 => ?_⟩
    walk_at "go"
    have hM1 := hM0.same e1
    refine ⟨x, dx, _, rfl, e1 _ _ hx, mfl_no _ _ _ (by decide +kernel) (by decide +kernel) (by decide +kernel), ?_⟩
    walk_at "go"
    refine ⟨F0, x, l, rows, acc, 0, a, rfl, hM1, hT, List.length_pos_iff.mpr hT.n0, h1, h3, fun H2 e2 => ?_⟩
    refine ⟨by show 1 ≤ sizeLine; decide, fun s hs => ?_⟩
    have e12 := e1.trans e2
    have s0 : sAt l rows a b 0 = runL l rows 0 a := by unfold sAt; rw [rep_zero, List.append_nil]
    have wd : W H2 [(s, .lst (((List.range (0 + 1)).map (sAt l rows a b)).map fun (n : Nat) => V.int (n : Int)))] (upd H2 s (.lst [.int (runL l rows 0 a : Nat)])) := by
      have h := (W.self H2).new hs (o := .lst [.int (runL l rows 0 a : Nat)])
      show W H2 [(s, .lst [.int (sAt l rows a b 0 : Nat)])] _
      rw [s0]; exact h
    clear s0
    generalize upd H2 s _ = H3 at *
    have hlt := fun i => sAt_lt hT h1 h2 i
    refine ⟨fun m σ H' => ∃ (k : Nat) (v : Option V), m + k + 1 = rows.length ∧ σ = [some (.ref x), some (.str (mk a)), some (.str (mk b)), some (.ref s), v, none] ∧ W H2 [(s, .lst (((List.range (k + 1)).map (sAt l rows a b)).map fun (n : Nat) => V.int (n : Int)))] H' ∧ ((List.range (k + 1)).map (sAt l rows a b)).Nodup, ⟨rows.length - 1, 0, none, ?_, rfl, wd, ?_⟩, ?_⟩
    · have := List.length_pos_iff.mpr hT.n0
      omega
    · exact List.nodup_cons.mpr ⟨fun h => (nomatch h), List.nodup_nil⟩
    rintro m σ H' ⟨n, v, hn, rfl, wd, hnd⟩
    have hM2 := (hM0.same e12).same wd.f
    have hx2 := wd.f _ _ (e12 _ _ hx)
    have hlast : atI (((List.range (n + 1)).map (sAt l rows a b)).map fun (n : Nat) => V.int (n : Int)) (-1) = some (.int (sAt l rows a b n : Nat)) := by
      rw [List.range_succ, List.map_append, List.map_append]
      exact atI_last _ _
    walk_at "go"
    refine ⟨_, fun σ' H' h => h, ?_⟩
    walk_at "go"
    refine ⟨x, dx, _, rfl, hx2, mfl_no _ _ _ (by decide +kernel) (by decide +kernel) (by decide +kernel), ?_⟩
    walk_at "go"
    refine ⟨F0, x, l, rows, acc, sAt l rows a b n, b, rfl, hM2, hT, hlt n, h2, by omega, fun H4 e3 => ?_⟩
    rw [← sAt_succ]
    have wd := wd.same e3
    have sl : SqL K H4 s _ := wd.lM
    walk_at "go"
    refine ⟨s, _, rfl, Or.inl sl, rfl, flat_nats, ?_⟩
    rw [in_nats]
    walk_at "go"
    refine ib (fun e4 => ?_) (fun e4 => ?_)
    · have hin := of_decide_eq_true e4
      walk_at "go"
      refine ⟨Or.inl ⟨rfl, _, sl⟩, ?_⟩
      walk_at "go"
      obtain ⟨i0, hi0, ei0⟩ := List.mem_map.mp hin
      have hi0 := List.mem_range.mp hi0
      refine ⟨s, _, _, i0, .int (sAt l rows a b i0 : Nat), rfl, rfl, sl, rfl, flat_nats, ?_, ?_, ?_, ?_⟩
      · rw [List.getElem?_map, List.getElem?_map, List.getElem?_range hi0]; rfl
      · rw [ei0]; simp [eqV]
      · intro m z' hm hz
        rw [List.getElem?_map, List.getElem?_map, List.getElem?_range (by omega)] at hz
        cases hz
        have hne : sAt l rows a b m ≠ sAt l rows a b i0 := by
          have := List.pairwise_iff_getElem.mp hnd m i0 (by simp; omega) (by simp; omega) hm
          simpa using this
        rw [ei0] at hne
        show eqV (.int _) (.int _) = false
        simp [eqV]
        omega
      walk_at "go"
      refine ⟨s, _, rfl, sl, fun p hp => ?_⟩
      rw [cut_cyc (by omega)]
      have wd := wd.new hp (o := .lst ((cyc l rows a b i0 (n + 1)).map fun (n : Nat) => V.int (n : Int)))
      refine Or.inl ⟨p, _, rfl, wd.lM, fun q hq => ?_⟩
      have wd := wd.frz hq (o := .tup ((cyc l rows a b i0 (n + 1)).map fun (n : Nat) => V.int (n : Int)))
      refine ⟨by show 2 ≤ sizeLine; decide, fun r hr => ?_⟩
      have e6 := same_upd (o := HO.tup [V.int (i0 : Int), V.ref q]) hr
      have hq2 := wd.f q _ upd_same
      have e7 : Same H2 (upd H2 q (HO.tup ((cyc l rows a b i0 (n + 1)).map fun (n : Nat) => V.int (n : Int)))) := same_upd (by
        have := wd.tl.nF hr
        exact (W.nF ‹_› hq))
      refine k i0 (n + 1) r q _ ?_ (by omega) (by omega) ei0.symm (e6 _ _ hq2) upd_same
      exact (e12.trans e7).trans (wd.f.trans e6)
    · have hnin := of_decide_eq_false e4
      walk_at "go"
      refine ⟨Or.inl ⟨rfl, _, sl⟩, ?_⟩
      walk_at "go"
      have hnd2 : ((List.range (n + 1 + 1)).map (sAt l rows a b)).Nodup := by
        rw [List.range_succ, List.map_append, List.nodup_append]
        refine ⟨hnd, List.nodup_cons.mpr ⟨fun h => (nomatch h), List.nodup_nil⟩, fun y hy z hz => ?_⟩
        rw [List.mem_singleton.mp hz]
        exact fun e => hnin (e ▸ hy)
      have hle : n + 1 + 1 ≤ rows.length := by
        have := pigeon rows.length _ hnd2 fun y hy => by
          obtain ⟨i, _, e⟩ := List.mem_map.mp hy
          rw [← e]; exact hlt i
        simpa using this
      have h32 := hT.n32
      refine ⟨s, _, _, rfl, rfl, wd.hd, by rw [List.length_map, List.length_map, List.length_range]; exact sz_lt (by omega), ?_⟩
      have wd := wd.put (o' := .lst ((((List.range (n + 1)).map (sAt l rows a b)).map fun (n : Nat) => V.int (n : Int)) ++ [.int (sAt l rows a b (n + 1) : Nat)]))
      refine ⟨m - 1, by omega, n + 1, some (.int (sAt l rows a b (n + 1) : Nat)), by omega, rfl, ?_, hnd2⟩
      rw [List.range_succ, List.map_append, List.map_append]
      exact wd
end
end Tu
namespace Tu
open PySem PySem.Spec PyProof.Rows L2
local macro_rules | `(tactic| walk_at "sq") => `(tactic| first | assumption | exact W.lM (by assumption) | exact W.lF (by assumption) (by assumption) | exact W.tF (by assumption) (by assumption))
local macro_rules | `(tactic| walk_at "ix") => `(tactic| refine ⟨_, _, _, _, rfl, rfl, (by walk_at "sq"), (by first | rfl | assumption), ?_⟩)
local macro_rules | `(tactic| walk_at "len") => `(tactic| refine ⟨_, _, rfl, (by first | exact Or.inl ⟨_, (by walk_at "sq"), rfl⟩ | exact Or.inr ⟨_, (by walk_at "sq"), rfl⟩ | exact ⟨by assumption, rfl⟩), ?_⟩)
local macro_rules | `(tactic| walk_at "cond") => `(tactic| first
  | (with_reducible assumption)
  | ((with_reducible show (-(2 ^ 62) : Int) ≤ _); omega)
  | ((with_reducible show _ < (2 ^ 62 : Int)); omega)
  | ((with_reducible show (0 : Int) < _); first | (with_reducible assumption) | decide | omega)
  | ((with_reducible show CMulX _ _); exact bits_mul (by with_reducible assumption) (by decide))
  | ((with_reducible show CDivW _ _); exact div_ok (by first | (with_reducible assumption) | decide) (by first | (with_reducible assumption) | decide))
  | ((with_reducible show CPow _ _); exact ⟨by decide, by decide, by decide⟩)
  | ((with_reducible show List.length _ ≤ sizeLine); exact k_lst rfl (by decide))
  | ((with_reducible show scal _ _ = true); rfl)
  | ((with_reducible show wipe _ _ = wipe _ _); rfl)
  | ((with_reducible show [] = []); rfl)
  | (with_reducible rfl))
local macro_rules | `(tactic| walk_at "go1") => `(tactic| first
  | refine ⟨_, rfl, ?_⟩
  | refine ⟨_, _, rfl, rfl, ?_⟩
  | walk_at "ix"
  | walk_at "len"
  | refine And.intro (by walk_at "cond") ?_
  | refine Or.inl ⟨_, rfl, ?_⟩
  | refine iteF ?_
  | refine iteT ?_)
local macro_rules | `(tactic| walk_at "go") => `(tactic| repeat walk_at "go1")
local macro_rules | `(tactic| walk_at "ty") => `(tactic| first | assumption | exact TyX.base (.int _) | exact TyX.base (.bl _) | exact TyX.base (.str _) | exact TyX.base .non)
local macro_rules | `(tactic| walk_at "isT") => `(tactic| refine ⟨_, _, _, _, true, rfl, ClsV.ty _, (by walk_at "ty"), kit_ty (by decide +kernel), ?_⟩)
local macro_rules | `(tactic| walk_at "isF") => `(tactic| refine ⟨_, _, _, _, false, rfl, ClsV.ty _, (by walk_at "ty"), kit_ty (by decide +kernel), ?_⟩)
/-! ### the answers for ever -/
def spAfe (C : Addr) : Sp := fun vs H Q _ => ∃ (F : Hp) (x : Addr) (l : List Nat) (rows : List (List Nat)) (acc a b : List Nat), vs = [.ref x, .str (mk a), .str (mk b)] ∧ MaLa F H C x l rows acc a b ∧
  ∀ i0 j p H', Same H H' → i0 < j → j ≤ rows.length → sAt l rows a b j = sAt l rows a b i0 → H' p = some (.lst ((cycL l rows a b i0 j).map fun s => V.bl (decide (s ∈ acc)))) → Q (.ref p) H'
def oftenB (found acc : List Nat) : Bool := found.any fun s => decide (s ∈ acc)
def alwaysB (found acc : List Nat) : Bool := !(found.any fun s => !decide (s ∈ acc))
def spOften (C : Addr) : Sp := fun vs H Q _ => ∃ (F : Hp) (x : Addr) (l : List Nat) (rows : List (List Nat)) (acc a b : List Nat), vs = [.ref x, .str (mk a), .str (mk b)] ∧ MaLa F H C x l rows acc a b ∧ ∀ H', Same H H' → Q (.bl (oftenB (foundL l rows a b) acc)) H'
def spAlways (C : Addr) : Sp := fun vs H Q _ => ∃ (F : Hp) (x : Addr) (l : List Nat) (rows : List (List Nat)) (acc a b : List Nat), vs = [.ref x, .str (mk a), .str (mk b)] ∧ MaLa F H C x l rows acc a b ∧ ∀ H', Same H H' → Q (.bl (alwaysB (foundL l rows a b) acc)) H'
theorem any_mem {A B : List Nat} {f : Nat → Bool} (h : ∀ x, x ∈ A ↔ x ∈ B) : A.any f = B.any f := by
  rw [Bool.eq_iff_iff, List.any_eq_true, List.any_eq_true]
  exact ⟨fun ⟨x, h1, h2⟩ => ⟨x, (h x).mp h1, h2⟩, fun ⟨x, h1, h2⟩ => ⟨x, (h x).mpr h1, h2⟩⟩
theorem in_blT {A : List Nat} {f : Nat → Bool} : inV (.bl true) (A.map fun s => V.bl (f s)) = A.any f := by
  unfold inV
  rw [List.any_map]
  congr 1
  funext s
  show eqV (.bl (f s)) (.bl true) = f s
  cases f s <;> rfl
theorem in_blF {A : List Nat} {f : Nat → Bool} : inV (.bl false) (A.map fun s => V.bl (f s)) = A.any fun s => !f s := by
  unfold inV
  rw [List.any_map]
  congr 1
  funext s
  show eqV (.bl (f s)) (.bl false) = !f s
  cases f s <;> rfl
theorem flat_bls {A : List Nat} {f : Nat → Bool} : (A.map fun s => V.bl (f s)).all flatV = true := by
  rw [List.all_map, List.all_eq_true]; intro x _; rfl
theorem visL_len (l : List Nat) (rows : List (List Nat)) (q : Nat) (u : List Nat) : (visL l rows q u).length = u.length := by
  unfold visL; rw [List.length_map, List.length_range]
theorem visL_take {l : List Nat} {rows : List (List Nat)} {q : Nat} {u : List Nat} {k : Nat} (hk : k < u.length) : (visL l rows q u).take (k + 1) = (visL l rows q u).take k ++ [runL l rows q (u.take (k + 1))] := by
  have h : (visL l rows q u)[k]? = some (runL l rows q (u.take (k + 1))) := by
    unfold visL; rw [List.getElem?_map, List.getElem?_range hk]; rfl
  rw [List.take_succ, h]; rfl
theorem runL_snoc {l : List Nat} {rows : List (List Nat)} {q k c : Nat} {u : List Nat} (h : u[k]? = some c) : runL l rows q (u.take (k + 1)) = runL l rows (runL l rows q (u.take k)) [c] := by
  rw [List.take_succ, h, Option.toList_some, runL_app]
/-- the states of i rounds from i0 -/
def ptL (l : List Nat) (rows : List (List Nat)) (a b : List Nat) (i0 i : Nat) : List Nat := (List.range' i0 i).flatMap fun i => visL l rows (sAt l rows a b i) b
theorem ptL_succ {l : List Nat} {rows : List (List Nat)} {a b : List Nat} {i0 i : Nat} : ptL l rows a b i0 (i + 1) = ptL l rows a b i0 i ++ visL l rows (sAt l rows a b (i0 + i)) b := by
  unfold ptL; rw [List.range'_1_concat, List.flatMap_append]; simp
theorem ptL_len {l : List Nat} {rows : List (List Nat)} {a b : List Nat} {i0 : Nat} : ∀ i, (ptL l rows a b i0 i).length = i * b.length
  | 0 => by simp [ptL]
  | i + 1 => by rw [ptL_succ, List.length_append, ptL_len i, visL_len, Nat.succ_mul]
def spPrefix : Sp := fun vs H Q _ => ∃ (a b : List Nat) (n : Nat), vs = [.str (mk a), .str (mk b), .int (n : Int)] ∧ b ≠ [] ∧ n ≤ 1000 ∧ a.length ≤ 1000 ∧ b.length ≤ 50 ∧ Q (.str (mk (pre a b n))) H
def spLasso : Sp := fun vs H Q _ => ∃ (a b c d : List Nat), vs = [.str (mk a), .str (mk b), .str (mk c), .str (mk d)] ∧ b ≠ [] ∧ d ≠ [] ∧ a.length ≤ 100 ∧ b.length ≤ 100 ∧ c.length ≤ 100 ∧ d.length ≤ 100 ∧ ∀ e : Bool, (e = true ↔ ∀ i, om a b i = om c d i) → Q (.bl e) H
theorem cut_pre {a b : List Nat} {n : Nat} : cutS (mk (a ++ rep n b)) none (some (n : Int)) = mk (pre a b n) := by
  unfold cutS pre
  rw [HT.sIx_none, HT.sIx_nat, mk_len, List.drop_zero, Nat.sub_zero]
  congr 2
  by_cases h : n ≤ (a ++ rep n b).length
  · rw [Nat.min_eq_left h]
  · rw [Nat.min_eq_right (by omega), List.take_length, List.take_of_length_le (by omega)]
section
variable {P : Program} {w : World} {K : PySem.W.Frag} {mg : Str → Option Value} {base : Heap} {C : Addr}
theorem ok_afe (T : Txt K mg C) : Def P w K mg base CX0 7 "answers_for_ever" ["machine", "lead", "loop"] [] (spAfe C) := by
  obtain ⟨f_settle, fd_settle, ds_settle, F_settle, m_settle, k_settle, b_settle, d_settle⟩ := ok_settle (P := P) (w := w) (base := base) T
  obtain ⟨⟨f_run, fd_run, ds_run, F_run, mm_run, b_run, d_run⟩, ⟨f_run2, fd_run2, ds_run2, F_run2, mm_run2, b_run2, d_run2⟩⟩ := ok_run (P := P) (w := w) (base := base) T
  obtain ⟨f, fd, F, hm⟩ := T.d_answers_for_ever
  have sc : FnScope ["machine", "lead", "loop", "index", "cycle", "answers", "state", "letter"] ["machine", "lead", "loop"] (defScope (top 26)) := ⟨rfl, rfl, rfl, by decide +kernel, rfl, by decide +kernel, by decide +kernel⟩
  obtain ⟨p_acc, f_acc, fd_acc, F_acc, pg_acc, b_acc⟩ := ok_acc (P := P) (w := w) (base := base) T
  refine ⟨f, fd, [], F.ok sc (fun vs H Q E h => ?_) (fun cdv A outer s H vs Q E hr h => ?_), hm, F.kp, (F.binds fun _ _ _ _ _ _ us hl => match us, hl with | [_, _, _], _ => rfl), .nil⟩
  · obtain ⟨F0, x, l, rows, acc, a, b, rfl, _⟩ := h; rfl
  · obtain ⟨F0, x, l, rows, acc, a, b, rfl, hL, k⟩ := h
    refine ⟨_, (pss_cons (ps_asg (pe_call F_settle (hr.mono (by first | decide | omega)) (by rfl) m_settle k_settle b_settle d_settle pass0 (pa_cons (pv 0) (pa_cons (pv 1) (pa_cons (pv 2) pa_nil)))) (pg_tupK (K := K) rfl rfl (pgs_cons (pg_name (i := 3) sc.nd rfl (Or.inl rfl)) (pgs_cons (pg_name (i := 4) sc.nd rfl (Or.inl rfl)) pgs_nil))))
  (pss_cons (ps_set (i := 5) sc.nd rfl (Or.inl rfl) (pe_lst pa_nil))
  (pss_cons (ps_for PassesOwn.never rfl (pi_tupK (K := K) rfl (pv 4)) (pg_name (i := 6) sc.nd rfl (Or.inl rfl))
   (pss_one (ps_for PassesOwn.never rfl (pi_str (pv 2)) (pg_name (i := 7) sc.nd rfl (Or.inl rfl))
   (pss_cons (ps_set (i := 6) sc.nd rfl (Or.inl rfl) (pe_meth (pv 0) T.cl_Machine mm_run2 F_run2 (hr.mono (by first | decide | omega)) b_run2 d_run2 pass0 (pa_cons (pv 7) (pa_cons (pv 6) pa_nil))))
  (pss_one (ps_expr (pe_bmK (K := K) rfl PySem.F.plainAttrs_list PySem.F.slot_list_append PySem.F.type_list_append mt_append (pv 5) (pa_cons (pe_cmpR (op_in_seqK (K := K) rfl) (pv 6) (pe_prop (pv 0) T.cl_Machine pg_acc F_acc (hr.mono (by first | decide | omega)) b_acc .nil pass0 rfl) (by rfl)) pa_nil))))))))
  (pss_one (ps_ret (pv 5)))))), ?_⟩
    obtain ⟨hM, hT, hb, h1, h2, h3, h4⟩ := hL
    have hM0 := hM
    obtain ⟨dx, fs, hx, ⟨pr, pa, rfl, hR, hA⟩, hF⟩ := hM
    walk_at "go"
    refine ⟨F0, x, l, rows, acc, a, b, rfl, ⟨hM0, hT, hb, h1, h2, h3, h4⟩, fun i0 j p q H1 e1 hj hn hs hq hp => ?_⟩
    walk_at "go"
    refine ⟨_, _, rfl, .inl (.inl hp), rfl, _, _, rfl, _, _, rfl, rfl, ?_⟩
    walk_at "go"
    intro s hs'
    have wd := (W.self H1).new hs' (o := .lst [])
    generalize upd H1 s _ = H2 at *
    have hlt := fun i => sAt_lt hT h1 h2 i
    have h32 := hT.n32
    walk_at "go"
    have hcl : ((cyc l rows a b i0 j).map fun (n : Nat) => V.int (n : Int)).length = j - i0 := by unfold cyc; simp
    refine ⟨⟨_, wd.tF hq⟩, for_tup (K := K) (a := q) (xs := (cyc l rows a b i0 j).map fun (n : Nat) => V.int (n : Int)) (fun i σ H' => ∃ v v2, σ = [some (.ref x), some (.str (mk a)), some (.str (mk b)), some (.int (i0 : Int)), some (.ref q), some (.ref s), v, v2] ∧ i ≤ j - i0 ∧ W H1 [(s, .lst ((ptL l rows a b i0 i).map fun s => V.bl (decide (s ∈ acc))))] H') ⟨none, none, rfl, Nat.zero_le _, wd⟩ (fun i σ H' _ ⟨_, _, _, _, wd⟩ => wd.tF hq) ?_ ?_⟩
    · rintro i y σ H' hy ⟨v, v2, rfl, hi, wd⟩
      have hil : i < j - i0 := by rw [← hcl]; exact (List.getElem?_eq_some_iff.mp hy).1
      obtain ⟨z, hz, rfl⟩ := nat_at hy
      have hz2 : z = sAt l rows a b (i0 + i) := by
        unfold cyc at hz
        rw [List.getElem?_map, List.getElem?_range' hil] at hz
        simpa using hz.symm
      subst hz2
      walk_at "go"
      refine for_str (l := b) (fun k σ H' => ∃ v2, σ = [some (.ref x), some (.str (mk a)), some (.str (mk b)), some (.int (i0 : Int)), some (.ref q), some (.ref s), some (.int (runL l rows (sAt l rows a b (i0 + i)) (b.take k) : Nat)), v2] ∧ W H1 [(s, .lst ((ptL l rows a b i0 i ++ (visL l rows (sAt l rows a b (i0 + i)) b).take k).map fun s => V.bl (decide (s ∈ acc))))] H') ?_ ?_ ?_
      · exact ⟨v2, rfl, by rw [List.take_zero, List.append_nil]; exact wd⟩
      · rintro k c σ H' hc ⟨v2, rfl, wd⟩
        have hkl := (List.getElem?_eq_some_iff.mp hc).1
        have hM2 := (hM0.same e1).same wd.f
        have hx2 := wd.f _ _ (e1 _ _ hx)
        walk_at "go"
        refine ⟨x, dx, _, rfl, hx2, mfl_no _ _ _ (by decide +kernel) (by decide +kernel) (by decide +kernel), ?_⟩
        walk_at "go"
        refine ⟨F0, x, l, rows, acc, _, [c], rfl, hM2, hT, runL_lt hT (hlt _) (fun d hd => h2 d (List.mem_of_mem_take hd)), fun d hd => by rw [List.mem_singleton.mp hd]; exact h2 c (List.mem_of_getElem? hc), by simp, fun H4 e3 => ?_⟩
        rw [← runL_snoc hc]
        have wd := wd.same e3
        walk_at "go"
        have hx3 := wd.f _ _ (e1 _ _ hx)
        have hpa : SqT K H4 pa _ := .inl (.inl (wd.f _ _ (e1 _ _ (hF _ _ hA))))
        refine ⟨Or.inl ⟨rfl, _, wd.lM⟩, ?_⟩
        walk_at "go"
        refine ⟨x, dx, _, rfl, hx3, x, dx, _, .ref pa, rfl, hx3, mfl_a _ _ _, ?_⟩
        refine ⟨pa, _, rfl, Or.inr hpa, rfl, flat_nats, ?_⟩
        rw [in_nats]
        walk_at "go"
        have hlen : (ptL l rows a b i0 i ++ (visL l rows (sAt l rows a b (i0 + i)) b).take k).length ≤ 4000 := by
          rw [List.length_append, ptL_len, List.length_take, visL_len]
          have : i * b.length ≤ 32 * 100 := Nat.mul_le_mul (by omega) h4
          omega
        refine ⟨s, _, _, rfl, rfl, wd.hd, by rw [List.length_map]; exact sz_lt (by omega), ?_⟩
        refine ⟨_, rfl, ?_⟩
        rw [visL_take hkl, ← List.append_assoc, List.map_append]
        exact wd.put
      · rintro σ H' ⟨v2, rfl, wd⟩
        refine ⟨_, v2, rfl, by omega, ?_⟩
        rw [List.take_of_length_le (by rw [visL_len]; exact Nat.le_refl _), ← ptL_succ] at wd
        exact wd
    · rintro σ H' ⟨v, v2, rfl, hi, wd⟩
      rw [hcl] at wd
      walk_at "go"
      exact k i0 j s H' (e1.trans wd.f) hj hn hs wd.hd
theorem ok_often (T : Txt K mg C) : Def P w K mg base CX0 8 "often" ["machine", "lead", "loop"] [] (spOften C) := by
  obtain ⟨f_afe, fd_afe, ds_afe, F_afe, m_afe, k_afe, b_afe, d_afe⟩ := ok_afe (P := P) (w := w) (base := base) T
  obtain ⟨f, fd, F, hm⟩ := T.d_often
  have sc : FnScope ["machine", "lead", "loop"] ["machine", "lead", "loop"] (defScope (top 27)) := ⟨rfl, rfl, rfl, by decide +kernel, rfl, by decide +kernel, by decide +kernel⟩
  refine ⟨f, fd, [], F.ok sc (fun vs H Q E h => ?_) (fun cdv A outer s H vs Q E hr h => ?_), hm, F.kp, (F.binds fun _ _ _ _ _ _ us hl => match us, hl with | [_, _, _], _ => rfl), .nil⟩
  · obtain ⟨F0, x, l, rows, acc, a, b, rfl, _⟩ := h; rfl
  · obtain ⟨F0, x, l, rows, acc, a, b, rfl, hL, k⟩ := h
    refine ⟨_, (pss_one (ps_ret (pe_cmpR (op_in_seqK (K := K) rfl) pe_bl (pe_call F_afe (hr.mono (by first | decide | omega)) (by rfl) m_afe k_afe b_afe d_afe pass0 (pa_cons (pv 0) (pa_cons (pv 1) (pa_cons (pv 2) pa_nil)))) (by rfl)))), ?_⟩
    walk_at "go"
    refine ⟨F0, x, l, rows, acc, a, b, rfl, hL, fun i0 j p H1 e1 hj hn hs hp => ?_⟩
    refine ⟨p, _, rfl, Or.inl (.inl (.inl hp)), rfl, flat_bls, ?_⟩
    rw [in_blT, any_mem (cyc_mem hj hn hs)]
    walk_at "go"
    exact k H1 e1
theorem ok_always (T : Txt K mg C) : Def P w K mg base CX0 8 "always" ["machine", "lead", "loop"] [] (spAlways C) := by
  obtain ⟨f_afe, fd_afe, ds_afe, F_afe, m_afe, k_afe, b_afe, d_afe⟩ := ok_afe (P := P) (w := w) (base := base) T
  obtain ⟨f, fd, F, hm⟩ := T.d_always
  have sc : FnScope ["machine", "lead", "loop"] ["machine", "lead", "loop"] (defScope (top 28)) := ⟨rfl, rfl, rfl, by decide +kernel, rfl, by decide +kernel, by decide +kernel⟩
  refine ⟨f, fd, [], F.ok sc (fun vs H Q E h => ?_) (fun cdv A outer s H vs Q E hr h => ?_), hm, F.kp, (F.binds fun _ _ _ _ _ _ us hl => match us, hl with | [_, _, _], _ => rfl), .nil⟩
  · obtain ⟨F0, x, l, rows, acc, a, b, rfl, _⟩ := h; rfl
  · obtain ⟨F0, x, l, rows, acc, a, b, rfl, hL, k⟩ := h
    refine ⟨_, (pss_one (ps_ret (pe_cmpR (op_notIn_seqK (K := K) rfl) pe_bl (pe_call F_afe (hr.mono (by first | decide | omega)) (by rfl) m_afe k_afe b_afe d_afe pass0 (pa_cons (pv 0) (pa_cons (pv 1) (pa_cons (pv 2) pa_nil)))) (by rfl)))), ?_⟩
    walk_at "go"
    refine ⟨F0, x, l, rows, acc, a, b, rfl, hL, fun i0 j p H1 e1 hj hn hs hp => ?_⟩
    refine ⟨p, _, rfl, Or.inl (.inl (.inl hp)), rfl, flat_bls, ?_⟩
    rw [in_blF, any_mem (cyc_mem hj hn hs)]
    walk_at "go"
    exact k H1 e1
theorem ok_prefix (T : Txt K mg C) : Def P w K mg base CX0 1 "prefix_of" ["lead", "loop", "count"] [] spPrefix := by
  obtain ⟨f, fd, F, hm⟩ := T.d_prefix_of
  have sc : FnScope ["lead", "loop", "count"] ["lead", "loop", "count"] (defScope (top 29)) := ⟨rfl, rfl, rfl, by decide +kernel, rfl, by decide +kernel, by decide +kernel⟩
  refine ⟨f, fd, [], F.ok sc (fun vs H Q E h => ?_) (fun cdv A outer s H vs Q E hr h => ?_), hm, F.kp, (F.binds fun _ _ _ _ _ _ us hl => match us, hl with | [_, _, _], _ => rfl), .nil⟩
  · obtain ⟨a, b, n, rfl, _⟩ := h; rfl
  · obtain ⟨a, b, n, rfl, hb, hn, ha, hb2, k⟩ := h
    refine ⟨_, (pss_cons (ps_if (pt_cmpR op_eq (pv 1) pe_str (nomark _)) (pss_one ps_never) pss_nil)
  (pss_cons (ps_if (pt_not (pt_chain op_le op_le pe_int (pv 2) (pe_glob (v := .int 1000) (by rfl) T.g_MOST_PREFIX.choose_spec ⟨_, rfl⟩))) (pss_one ps_never) pss_nil)
  (pss_one (ps_ret (pe_slice sl_str (pe_op op_add_str (pv 0) (pe_op op_mulS (pv 1) (pv 2))) po_none (po_some (pv 2))))))), ?_⟩
    walk_at "go"
    refine if_F (str_ne hb) ?_
    walk_at "go"
    refine if_F (by simp; omega) ?_
    walk_at "go"
    have hm1 : (mk b).length * n ≤ 50 * 1000 := by rw [mk_len]; exact Nat.mul_le_mul hb2 hn
    refine ⟨by omega, by omega, ?_⟩
    have hl2 : (mk a).length + (mk (rep n b)).length ≤ sizeLine := by
      rw [mk_len] at hm1
      rw [mk_len, mk_len, rep_len, Nat.mul_comm]
      exact sz_of (by omega)
    refine ⟨_, mk (rep n b), rfl, rfl, hl2, ?_⟩
    have hl3 : (mk a ++ mk (rep n b)).length ≤ sizeLine := by rw [mk_app, mk_len, List.length_append]; rw [mk_len, mk_len] at hl2; exact hl2
    walk_at "go"
    rw [mk_app, cut_pre]
    exact k
theorem ok_lasso (T : Txt K mg C) : Def P w K mg base CX0 1 "same_lasso" ["lead", "loop", "other_lead", "other_loop"] [] spLasso := by
  obtain ⟨f, fd, F, hm⟩ := T.d_same_lasso
  have sc : FnScope ["lead", "loop", "other_lead", "other_loop", "count"] ["lead", "loop", "other_lead", "other_loop"] (defScope (top 30)) := ⟨rfl, rfl, rfl, by decide +kernel, rfl, by decide +kernel, by decide +kernel⟩
  refine ⟨f, fd, [], F.ok sc (fun vs H Q E h => ?_) (fun cdv A outer s H vs Q E hr h => ?_), hm, F.kp, (F.binds fun _ _ _ _ _ _ us hl => match us, hl with | [_, _, _, _], _ => rfl), .nil⟩
  · obtain ⟨a, b, c, d, rfl, _⟩ := h; rfl
  · obtain ⟨a, b, c, d, rfl, hb, hd, h1, h2, h3, h4, k⟩ := h
    refine ⟨_, (pss_cons (ps_if (PW.pt (pw_or (pt_cmpR op_eq (pv 1) pe_str (nomark _)) (pw_or1 (pt_cmpR op_eq (pv 3) pe_str (nomark _))))) (pss_one ps_never) pss_nil)
  (pss_cons (ps_set (i := 4) sc.nd rfl (Or.inl rfl) (pe_op op_add (pe_op op_add (pe_callB (call_max2 rfl) (by rfl) T.n_max boot_max (pa_cons (pe_callB (call_lenK (K := K) rfl) (by rfl) T.n_len boot_len (pa_cons (pv 0) pa_nil)) (pa_cons (pe_callB (call_lenK (K := K) rfl) (by rfl) T.n_len boot_len (pa_cons (pv 2) pa_nil)) pa_nil))) (pe_callB (call_lenK (K := K) rfl) (by rfl) T.n_len boot_len (pa_cons (pv 1) pa_nil))) (pe_callB (call_lenK (K := K) rfl) (by rfl) T.n_len boot_len (pa_cons (pv 3) pa_nil))))
  (pss_one (ps_ret (pe_cmpR op_eq (pe_slice sl_str (pe_op op_add_str (pv 0) (pe_op op_mulS (pv 1) (pv 4))) po_none (po_some (pv 4))) (pe_slice sl_str (pe_op op_add_str (pv 2) (pe_op op_mulS (pv 3) (pv 4))) po_none (po_some (pv 4))) (nomark _)))))), ?_⟩
    have hsz : ∀ {u : List Nat}, u.length ≤ 100 → (mk u).length ≤ sizeLine := fun h => by rw [mk_len]; exact sz_of (by omega)
    have hza := hsz h1
    have hzb := hsz h2
    have hzc := hsz h3
    have hzd := hsz h4
    walk_at "go"
    refine if_F (str_ne hb) ?_
    walk_at "go"
    refine if_F (str_ne hd) ?_
    walk_at "go"
    refine ⟨_, _, rfl, ?_⟩
    have hif : (if ((mk c).length : Int) > ((mk a).length : Int) then ((mk c).length : Int) else ((mk a).length : Int)) = ((max a.length c.length : Nat) : Int) := by
      rw [mk_len, mk_len]
      by_cases h : a.length < c.length
      · rw [if_pos (by omega), Nat.max_eq_right (by omega)]
      · rw [if_neg (by omega), Nat.max_eq_left (by omega)]
    rw [hif]
    walk_at "go"
    have hN : ∀ {u : List Nat}, u.length ≤ 100 → (mk u).length * (max a.length c.length + (mk b).length + (mk d).length) ≤ 100 * 300 := fun h => by
      rw [mk_len, mk_len, mk_len]; exact Nat.mul_le_mul h (by omega)
    have hl2 : ∀ {u v : List Nat}, u.length ≤ 100 → v.length ≤ 100 → (mk u).length + (mk (rep (max a.length c.length + (mk b).length + (mk d).length) v)).length ≤ sizeLine := fun {u v} h1 h2 => by
      have := hN h2
      rw [mk_len] at this
      rw [mk_len u, mk_len (rep _ _), rep_len, Nat.mul_comm]
      exact sz_of (by omega)
    have hl3 : ∀ {u v : List Nat}, u.length ≤ 100 → v.length ≤ 100 → (mk u ++ mk (rep (max a.length c.length + (mk b).length + (mk d).length) v)).length ≤ sizeLine := fun {u v} h1 h2 => by
      have := hl2 h1 h2
      rw [mk_len, mk_len] at this
      rw [mk_app, mk_len, List.length_append]
      exact this
    refine ⟨Nat.le_trans (hN h2) (by decide), by rw [mk_len, mk_len]; omega, ?_⟩
    refine ⟨_, mk (rep _ b), rfl, rfl, hl2 h1 h2, ?_⟩
    have hl4 := hl3 h1 h2
    walk_at "go"
    refine ⟨Nat.le_trans (hN h4) (by decide), by rw [mk_len, mk_len]; omega, ?_⟩
    refine ⟨_, mk (rep _ d), rfl, rfl, hl2 h3 h4, ?_⟩
    have hl5 := hl3 h3 h4
    walk_at "go"
    have hc : ((max a.length c.length : Nat) : Int) + ((mk b).length : Int) + ((mk d).length : Int) = ((max a.length c.length + (mk b).length + (mk d).length : Nat) : Int) := by omega
    rw [mk_app, mk_app, hc, cut_pre, cut_pre, dec_mk, mk_len, mk_len]
    exact k _ (by rw [decide_eq_true_iff]; exact same_om hb hd)
end
end Tu
namespace Tu
open PySem PySem.Spec PyProof.Rows L2
local macro_rules | `(tactic| walk_at "sq") => `(tactic| first | assumption | exact W.lM (by assumption) | exact W.lF (by assumption) (by assumption) | exact W.tF (by assumption) (by assumption))
local macro_rules | `(tactic| walk_at "ix") => `(tactic| refine ⟨_, _, _, _, rfl, rfl, (by walk_at "sq"), (by first | rfl | assumption), ?_⟩)
local macro_rules | `(tactic| walk_at "len") => `(tactic| refine ⟨_, _, rfl, (by first | exact Or.inl ⟨_, (by walk_at "sq"), rfl⟩ | exact Or.inr ⟨_, (by walk_at "sq"), rfl⟩ | exact ⟨by assumption, rfl⟩), ?_⟩)
local macro_rules | `(tactic| walk_at "cond") => `(tactic| first
  | (with_reducible assumption)
  | ((with_reducible show (-(2 ^ 62) : Int) ≤ _); omega)
  | ((with_reducible show _ < (2 ^ 62 : Int)); omega)
  | ((with_reducible show (0 : Int) < _); first | (with_reducible assumption) | decide | omega)
  | ((with_reducible show CMulX _ _); exact bits_mul (by with_reducible assumption) (by decide))
  | ((with_reducible show CDivW _ _); exact div_ok (by first | (with_reducible assumption) | decide) (by first | (with_reducible assumption) | decide))
  | ((with_reducible show CPow _ _); exact ⟨by decide, by decide, by decide⟩)
  | ((with_reducible show List.length _ ≤ sizeLine); exact k_lst rfl (by decide))
  | ((with_reducible show scal _ _ = true); rfl)
  | ((with_reducible show wipe _ _ = wipe _ _); rfl)
  | ((with_reducible show [] = []); rfl)
  | (with_reducible rfl))
local macro_rules | `(tactic| walk_at "go1") => `(tactic| first
  | refine ⟨_, rfl, ?_⟩
  | refine ⟨_, _, rfl, rfl, ?_⟩
  | walk_at "ix"
  | walk_at "len"
  | refine And.intro (by walk_at "cond") ?_
  | refine Or.inl ⟨_, rfl, ?_⟩
  | refine iteF ?_
  | refine iteT ?_)
local macro_rules | `(tactic| walk_at "go") => `(tactic| repeat walk_at "go1")
local macro_rules | `(tactic| walk_at "ty") => `(tactic| first | assumption | exact TyX.base (.int _) | exact TyX.base (.bl _) | exact TyX.base (.str _) | exact TyX.base .non)
local macro_rules | `(tactic| walk_at "isT") => `(tactic| refine ⟨_, _, _, _, true, rfl, ClsV.ty _, (by walk_at "ty"), kit_ty (by decide +kernel), ?_⟩)
local macro_rules | `(tactic| walk_at "isF") => `(tactic| refine ⟨_, _, _, _, false, rfl, ClsV.ty _, (by walk_at "ty"), kit_ty (by decide +kernel), ?_⟩)
/-! ### the law's own defs -/
theorem W.old {F H H' : Hp} {M : List (Addr × HO)} {p : Addr} {o : HO} (wd : W F M H) (e : Same H H') (hp : H p = none) (ho : H' p = some o) : Same F (upd F p o) ∧ W (upd F p o) M H' := by
  have hF := wd.nF hp
  refine ⟨same_upd hF, ⟨fun b u h => ?_, fun x hx => ?_, wd.d⟩⟩
  · by_cases hb : b = p
    · subst hb; rw [upd_same] at h; rw [ho]; exact h
    · rw [upd_ne hb] at h; exact e _ _ (wd.f _ _ h)
  · have h := wd.m x hx
    refine ⟨e _ _ h.1, ?_⟩
    rw [upd_ne (ne_of_none h.1 hp)]; exact h.2
theorem SW.old {F H H' : Hp} {M : List (Addr × HO)} {p q : Addr} {o : HO} (s : SW F p M H) (e : Same H H') (hp : H q = none) (ho : H' q = some o) : Same F (upd F q o) ∧ SW (upd F q o) p M H' := by
  obtain ⟨u, hu, w⟩ := s
  obtain ⟨h1, h2⟩ := w.old e hp ho
  exact ⟨h1, u, hu.x h1, h2⟩
def spAgain : Sp := fun vs H Q _ => ∃ (F : Hp) (l : List Nat) (rows : List (List Nat)) (a b : List Nat) (v : V), vs = [.str (mk l), v, .str (mk a), .str (mk b)] ∧ Same F H ∧ Rp F (tab rows) v ∧ TabOk rows l.length ∧ (∀ c ∈ a, c ∈ l) ∧ (∀ c ∈ b, c ∈ l) ∧ l.length ≤ 1000 ∧ b.length ≤ 100 ∧
  ∀ p H', Same H H' → H p = none → H' p = some (.lst ((foundL l rows a b).map fun (n : Nat) => V.int (n : Int))) → Q (.ref p) H'
def spBegin : Sp := fun vs H Q _ => ∃ (a b : List Nat) (n : Nat), vs = [.str (mk a), .str (mk b), .int (n : Int)] ∧ n ≤ 10200 ∧ a.length ≤ 1000 ∧ b.length ≤ 100 ∧ Q (.str (mk (pre a b n))) H
def fdL (l : List Nat) (rows : List (List Nat)) (a b : List Nat) (i : Nat) : List Nat := (List.range i).flatMap fun i => visL l rows (sAt l rows a b (rows.length + i)) b
theorem fdL_succ {l : List Nat} {rows : List (List Nat)} {a b : List Nat} {i : Nat} : fdL l rows a b (i + 1) = fdL l rows a b i ++ visL l rows (sAt l rows a b (rows.length + i)) b := by
  unfold fdL; rw [List.range_succ, List.flatMap_append]; simp
theorem fdL_len {l : List Nat} {rows : List (List Nat)} {a b : List Nat} : ∀ i, (fdL l rows a b i).length = i * b.length
  | 0 => by simp [fdL]
  | i + 1 => by rw [fdL_succ, List.length_append, fdL_len i, visL_len, Nat.succ_mul]
theorem vis_last {l : List Nat} {rows : List (List Nat)} {q : Nat} {b : List Nat} : runL l rows q (b.take b.length) = runL l rows q b := by rw [List.take_length]
/-- the forms of a word without end -/
def formD (f : List Nat × List Nat) : D := D.lst [D.str (mk f.1), D.str (mk f.2)]
def spAnswers (C : Addr) : Sp := fun vs H Q _ => ∃ (F : Hp) (x : Addr) (l : List Nat) (rows : List (List Nat)) (acc : List Nat) (ch fo : Addr) (found : List Nat) (v : V) (fms : List (List Nat × List Nat)), vs = [.ref x, .ref ch, .ref fo, v] ∧ MaAt F H C x l rows acc ∧ TabOk rows l.length ∧
  F ch = some (.lst (acc.map fun (n : Nat) => V.int (n : Int))) ∧ F fo = some (.lst (found.map fun (n : Nat) => V.int (n : Int))) ∧ Rp F (D.lst (fms.map formD)) v ∧ found.length ≤ 4000 ∧
  (∀ f ∈ fms, f.2 ≠ [] ∧ (∀ c ∈ f.1, c ∈ l) ∧ (∀ c ∈ f.2, c ∈ l) ∧ f.1.length ≤ 100000 ∧ f.2.length ≤ 100 ∧ ∀ s, s ∈ foundL l rows f.1 f.2 ↔ s ∈ found) ∧ ∀ H', Same H H' → Q (.bl true) H'
theorem form_row {F : Hp} {f : List Nat × List Nat} {v : V} (h : Rp F (formD f) v) : ∃ q, v = .ref q ∧ F q = some (.lst [.str (mk f.1), .str (mk f.2)]) := by
  obtain ⟨q, xs, rfl, hq, hx⟩ := Rp.l h
  obtain ⟨y, ys, rfl, hy, hx⟩ := hx.uncons
  obtain ⟨z, zs, rfl, hz, hx⟩ := hx.uncons
  simp only [Rps] at hx
  simp only [Rp] at hy hz
  subst hx hy hz
  exact ⟨q, rfl, hq⟩
section
variable {P : Program} {w : World} {K : PySem.W.Frag} {mg : Str → Option Value} {base : Heap} {C : Addr}
theorem ok_again (T : Txt K mg C) : Def P w K mg base CX0 3 "_law_again_and_again" ["letters", "rows", "lead", "loop"] [] spAgain := by
  obtain ⟨f_lrun, fd_lrun, ds_lrun, F_lrun, m_lrun, k_lrun, b_lrun, d_lrun⟩ := ok_lrun (P := P) (w := w) (base := base) T
  obtain ⟨f, fd, F, hm⟩ := T.d__law_again_and_again
  have sc : FnScope ["letters", "rows", "lead", "loop", "at", "turn", "found", "letter"] ["letters", "rows", "lead", "loop"] (defScope (top 48)) := ⟨rfl, rfl, rfl, by decide +kernel, rfl, by decide +kernel, by decide +kernel⟩
  refine ⟨f, fd, [], F.ok sc (fun vs H Q E h => ?_) (fun cdv A outer s H vs Q E hr h => ?_), hm, F.kp, (F.binds fun _ _ _ _ _ _ us hl => match us, hl with | [_, _, _, _], _ => rfl), .nil⟩
  · obtain ⟨F0, l, rows, a, b, v, rfl, _⟩ := h; rfl
  · obtain ⟨F0, l, rows, a, b, v, rfl, hF, hR, hT, h1, h2, hl, hb, k⟩ := h
    obtain ⟨p, xs, rfl, hp, hxl, hrow⟩ := tab_row hR
    have hn0 : 0 < rows.length := List.length_pos_iff.mpr hT.n0
    have h32 := hT.n32
    have hlt := fun i => sAt_lt hT h1 h2 i
    have hpH : SqL K H p xs := .inl (.inl (hF _ _ hp))
    refine ⟨_, (pss_cons (ps_set (i := 4) sc.nd rfl (Or.inl rfl) (pe_call F_lrun (hr.mono (by first | decide | omega)) (by rfl) m_lrun k_lrun b_lrun d_lrun pass0 (pa_cons (pv 0) (pa_cons (pv 1) (pa_cons pe_int (pa_cons (pv 2) pa_nil))))))
  (pss_cons (ps_for PassesOwn.never rfl (pi_range1 (by rfl) T.n_range (pa_cons (pe_callB (call_lenK (K := K) rfl) (by rfl) T.n_len boot_len (pa_cons (pv 1) pa_nil)) pa_nil)) (pg_name (i := 5) sc.nd rfl (Or.inl rfl))
   (pss_one (ps_set (i := 4) sc.nd rfl (Or.inl rfl) (pe_call F_lrun (hr.mono (by first | decide | omega)) (by rfl) m_lrun k_lrun b_lrun d_lrun pass0 (pa_cons (pv 0) (pa_cons (pv 1) (pa_cons (pv 4) (pa_cons (pv 3) pa_nil))))))))
  (pss_cons (ps_set (i := 6) sc.nd rfl (Or.inl rfl) (pe_lst pa_nil))
  (pss_cons (ps_for PassesOwn.never rfl (pi_range1 (by rfl) T.n_range (pa_cons (pe_callB (call_lenK (K := K) rfl) (by rfl) T.n_len boot_len (pa_cons (pv 1) pa_nil)) pa_nil)) (pg_name (i := 5) sc.nd rfl (Or.inl rfl))
   (pss_one (ps_for PassesOwn.never rfl (pi_str (pv 3)) (pg_name (i := 7) sc.nd rfl (Or.inl rfl))
   (pss_cons (ps_set (i := 4) sc.nd rfl (Or.inl rfl) (pe_call F_lrun (hr.mono (by first | decide | omega)) (by rfl) m_lrun k_lrun b_lrun d_lrun pass0 (pa_cons (pv 0) (pa_cons (pv 1) (pa_cons (pv 4) (pa_cons (pv 7) pa_nil))))))
  (pss_one (ps_expr (pe_bmK (K := K) rfl PySem.F.plainAttrs_list PySem.F.slot_list_append PySem.F.type_list_append mt_append (pv 6) (pa_cons (pv 4) pa_nil))))))))
  (pss_one (ps_ret (pv 6))))))), ?_⟩
    walk_at "go"
    refine ⟨F0, l, rows, 0, a, .ref p, rfl, hF, hR, hT, hn0, h1, hl, ?_⟩
    have s0 : runL l rows 0 a = sAt l rows a b 0 := by unfold sAt; rw [rep_zero, List.append_nil]
    rw [s0]
    walk_at "go"
    rw [hxl]
    refine for_range (lo := 0) (n := ((rows.length : Nat) : Int).toNat) (fun i σ H' => ∃ v, σ = [some (.str (mk l)), some (.ref p), some (.str (mk a)), some (.str (mk b)), some (.int (sAt l rows a b i : Nat)), v, none, none] ∧ H' = H) ?_ ?_ ?_
    · exact ⟨none, rfl, rfl⟩
    · rintro i σ H' hi ⟨v, rfl, rfl⟩
      walk_at "go"
      refine ⟨F0, l, rows, sAt l rows a b i, b, .ref p, rfl, hF, hR, hT, hlt i, h2, hl, ?_⟩
      rw [← sAt_succ]
      exact ⟨_, rfl, rfl⟩
    rintro σ H' ⟨v, rfl, rfl⟩
    rw [show (((rows.length : Nat) : Int)).toNat = rows.length from rfl]
    walk_at "go"
    intro s hs
    have wd := (W.self H').new hs (o := .lst [])
    generalize upd H' s _ = H2 at *
    have sl2 : SqL K H2 p xs := wd.lF (hF _ _ hp)
    walk_at "go"
    rw [hxl]
    refine for_range (lo := 0) (n := ((rows.length : Nat) : Int).toNat) (fun i σ H2 => ∃ v v2, σ = [some (.str (mk l)), some (.ref p), some (.str (mk a)), some (.str (mk b)), some (.int (sAt l rows a b (rows.length + i) : Nat)), v, some (.ref s), v2] ∧ W H' [(s, .lst ((fdL l rows a b i).map fun (n : Nat) => V.int (n : Int)))] H2) ?_ ?_ ?_
    · exact ⟨v, none, rfl, wd⟩
    · rintro i σ H3 hi ⟨v, v2, rfl, wd⟩
      have hi' : i < rows.length := by omega
      walk_at "go"
      refine for_str (l := b) (fun k σ H2 => ∃ v2, σ = [some (.str (mk l)), some (.ref p), some (.str (mk a)), some (.str (mk b)), some (.int (runL l rows (sAt l rows a b (rows.length + i)) (b.take k) : Nat)), some (.int ((0 : Int) + (i : Int))), some (.ref s), v2] ∧ W H' [(s, .lst ((fdL l rows a b i ++ (visL l rows (sAt l rows a b (rows.length + i)) b).take k).map fun (n : Nat) => V.int (n : Int)))] H2) ?_ ?_ ?_
      · exact ⟨v2, rfl, by rw [List.take_zero, List.append_nil]; exact wd⟩
      · rintro k c σ H4 hc ⟨v2, rfl, wd⟩
        have hkl := (List.getElem?_eq_some_iff.mp hc).1
        walk_at "go"
        refine ⟨F0, l, rows, _, [c], .ref p, rfl, hF.trans wd.f, hR, hT, runL_lt hT (hlt _) (fun d hd => h2 d (List.mem_of_mem_take hd)), fun d hd => by rw [List.mem_singleton.mp hd]; exact h2 c (List.mem_of_getElem? hc), hl, ?_⟩
        rw [← runL_snoc hc]
        walk_at "go"
        refine ⟨Or.inl ⟨rfl, _, wd.lM⟩, ?_⟩
        walk_at "go"
        have hlen : (fdL l rows a b i ++ (visL l rows (sAt l rows a b (rows.length + i)) b).take k).length ≤ 4000 := by
          rw [List.length_append, fdL_len, List.length_take, visL_len]
          have : i * b.length ≤ 32 * 100 := Nat.mul_le_mul (by omega) hb
          omega
        refine ⟨s, _, _, rfl, rfl, wd.hd, by rw [List.length_map]; exact sz_lt (by omega), ?_⟩
        refine ⟨_, rfl, ?_⟩
        rw [visL_take hkl, ← List.append_assoc, List.map_append]
        exact wd.put
      · rintro σ H4 ⟨v2, rfl, wd⟩
        rw [List.take_of_length_le (by rw [visL_len]; exact Nat.le_refl _), ← fdL_succ] at wd
        rw [vis_last, ← sAt_succ]
        exact ⟨_, v2, rfl, wd⟩
    · rintro σ H3 ⟨v, v2, rfl, wd⟩
      walk_at "go"
      exact k s H3 wd.f hs wd.hd
theorem ok_beginning (T : Txt K mg C) : Def P w K mg base CX0 1 "_law_beginning" ["lead", "loop", "count"] [] spBegin := by
  obtain ⟨f, fd, F, hm⟩ := T.d__law_beginning
  have sc : FnScope ["lead", "loop", "count"] ["lead", "loop", "count"] (defScope (top 49)) := ⟨rfl, rfl, rfl, by decide +kernel, rfl, by decide +kernel, by decide +kernel⟩
  refine ⟨f, fd, [], F.ok sc (fun vs H Q E h => ?_) (fun cdv A outer s H vs Q E hr h => ?_), hm, F.kp, (F.binds fun _ _ _ _ _ _ us hl => match us, hl with | [_, _, _], _ => rfl), .nil⟩
  · obtain ⟨a, b, n, rfl, _⟩ := h; rfl
  · obtain ⟨a, b, n, rfl, hn, ha, hb2, k⟩ := h
    refine ⟨_, (pss_one (ps_ret (pe_slice sl_str (pe_op op_add_str (pv 0) (pe_op op_mulS (pv 1) (pv 2))) po_none (po_some (pv 2))))), ?_⟩
    walk_at "go"
    have hm1 : (mk b).length * n ≤ 100 * 10200 := by rw [mk_len]; exact Nat.mul_le_mul hb2 hn
    refine ⟨by omega, by omega, ?_⟩
    have hl2 : (mk a).length + (mk (rep n b)).length ≤ sizeLine := by
      rw [mk_len] at hm1
      rw [mk_len, mk_len, rep_len, Nat.mul_comm]
      exact Nat.le_trans (m := 2000000) (by omega) (by decide)
    refine ⟨_, mk (rep n b), rfl, rfl, hl2, ?_⟩
    have hl3 : (mk a ++ mk (rep n b)).length ≤ sizeLine := by rw [mk_app, mk_len, List.length_append]; rw [mk_len, mk_len] at hl2; exact hl2
    walk_at "go"
    rw [mk_app, cut_pre]
    exact k
theorem ok_alike (T : Txt K mg C) : Def P w K mg base CX0 2 "_law_alike_words" ["lead", "loop", "other_lead", "other_loop"] [] spLasso := by
  obtain ⟨f_beginning, fd_beginning, ds_beginning, F_beginning, m_beginning, k_beginning, b_beginning, d_beginning⟩ := ok_beginning (P := P) (w := w) (base := base) T
  obtain ⟨f, fd, F, hm⟩ := T.d__law_alike_words
  have sc : FnScope ["lead", "loop", "other_lead", "other_loop", "count"] ["lead", "loop", "other_lead", "other_loop"] (defScope (top 50)) := ⟨rfl, rfl, rfl, by decide +kernel, rfl, by decide +kernel, by decide +kernel⟩
  refine ⟨f, fd, [], F.ok sc (fun vs H Q E h => ?_) (fun cdv A outer s H vs Q E hr h => ?_), hm, F.kp, (F.binds fun _ _ _ _ _ _ us hl => match us, hl with | [_, _, _, _], _ => rfl), .nil⟩
  · obtain ⟨a, b, c, d, rfl, _⟩ := h; rfl
  · obtain ⟨a, b, c, d, rfl, hb, hd, h1, h2, h3, h4, k⟩ := h
    refine ⟨_, (pss_cons (ps_set (i := 4) sc.nd rfl (Or.inl rfl) (pe_op op_add (pe_callB (call_max2 rfl) (by rfl) T.n_max boot_max (pa_cons (pe_callB (call_lenK (K := K) rfl) (by rfl) T.n_len boot_len (pa_cons (pv 0) pa_nil)) (pa_cons (pe_callB (call_lenK (K := K) rfl) (by rfl) T.n_len boot_len (pa_cons (pv 2) pa_nil)) pa_nil))) (pe_op op_mulX (pe_callB (call_lenK (K := K) rfl) (by rfl) T.n_len boot_len (pa_cons (pv 1) pa_nil)) (pe_callB (call_lenK (K := K) rfl) (by rfl) T.n_len boot_len (pa_cons (pv 3) pa_nil)))))
  (pss_one (ps_ret (pe_cmpR op_eq (pe_call F_beginning (hr.mono (by first | decide | omega)) (by rfl) m_beginning k_beginning b_beginning d_beginning pass0 (pa_cons (pv 0) (pa_cons (pv 1) (pa_cons (pv 4) pa_nil)))) (pe_call F_beginning (hr.mono (by first | decide | omega)) (by rfl) m_beginning k_beginning b_beginning d_beginning pass0 (pa_cons (pv 2) (pa_cons (pv 3) (pa_cons (pv 4) pa_nil)))) (nomark _))))), ?_⟩
    have hsz : ∀ {u : List Nat}, u.length ≤ 100 → (mk u).length ≤ sizeLine := fun h => by rw [mk_len]; exact sz_of (by omega)
    have hza := hsz h1
    have hzb := hsz h2
    have hzc := hsz h3
    have hzd := hsz h4
    walk_at "go"
    refine ⟨_, _, rfl, ?_⟩
    have hif : (if ((mk c).length : Int) > ((mk a).length : Int) then ((mk c).length : Int) else ((mk a).length : Int)) = ((max a.length c.length : Nat) : Int) := by
      rw [mk_len, mk_len]
      by_cases h : a.length < c.length
      · rw [if_pos (by omega), Nat.max_eq_right (by omega)]
      · rw [if_neg (by omega), Nat.max_eq_left (by omega)]
    rw [hif]
    walk_at "go"
    have hmul : (mk b).length * (mk d).length ≤ 100 * 100 := by rw [mk_len, mk_len]; exact Nat.mul_le_mul h2 h4
    have hNN : max a.length c.length + (mk b).length * (mk d).length ≤ 10200 := by omega
    have hlb := mk_len b
    have hld := mk_len d
    refine ⟨bits_mul (bits_small (by omega)) (by omega), ?_⟩
    walk_at "go"
    refine ⟨a, b, max a.length c.length + (mk b).length * (mk d).length, rfl, hNN, by omega, h2, ?_⟩
    walk_at "go"
    refine ⟨c, d, max a.length c.length + (mk b).length * (mk d).length, rfl, hNN, by omega, h4, ?_⟩
    walk_at "go"
    rw [dec_mk, mk_len, mk_len]
    exact k _ (by rw [decide_eq_true_iff]; exact same_om2 hb hd)
theorem ok_same4 (T : Txt K mg C) : Def P w K mg base CX0 5 "_law_same" ["actual", "expected"] [] (spSame 4) := ok_same T 4
theorem ok_answers (T : Txt K mg C) : Def P w K mg base CX0 9 "_law_answers" ["machine", "chosen", "found", "forms"] [] (spAnswers C) := by
  obtain ⟨f_same, fd_same, ds_same, F_same, m_same, k_same, b_same, d_same⟩ := ok_same4 (P := P) (w := w) (base := base) T
  obtain ⟨f_often, fd_often, ds_often, F_often, m_often, k_often, b_often, d_often⟩ := ok_often (P := P) (w := w) (base := base) T
  obtain ⟨f_always, fd_always, ds_always, F_always, m_always, k_always, b_always, d_always⟩ := ok_always (P := P) (w := w) (base := base) T
  obtain ⟨f, fd, F, hm⟩ := T.d__law_answers
  have sc : FnScope ["machine", "chosen", "found", "forms", "due_often", "at", "due_always", "form"] ["machine", "chosen", "found", "forms"] (defScope (top 51)) := ⟨rfl, rfl, rfl, by decide +kernel, rfl, by decide +kernel, by decide +kernel⟩
  refine ⟨f, fd, [], F.ok sc (fun vs H Q E h => ?_) (fun cdv A outer s H vs Q E hr h => ?_), hm, F.kp, (F.binds fun _ _ _ _ _ _ us hl => match us, hl with | [_, _, _, _], _ => rfl), .nil⟩
  · obtain ⟨F0, x, l, rows, acc, ch, fo, found, v, fms, rfl, _⟩ := h; rfl
  · obtain ⟨F0, x, l, rows, acc, ch, fo, found, v, fms, rfl, hM, hT, hch, hfo, hR, hfl, hfms, k⟩ := h
    obtain ⟨p, xs, rfl, hp, hxs⟩ := hR.l
    refine ⟨_, (pss_cons (ps_set (i := 4) sc.nd rfl (Or.inl rfl) (pe_cmpR (op_in_seqK (K := K) rfl) pe_bl (pe_lc (own := [("at", 5)]) (g := gName 5) rfl sc.nd (pi_listK (K := K) rfl (pv 2)) (blkOk_by (N := ["machine", "chosen", "found", "forms", "due_often", "at", "due_always", "form"]) (sc := defScope (top 51)) (by decide +kernel)) (fun _ _ _ _ _ => (pg_name (i := 5) sc.nd rfl (Or.inl rfl))) (fun _ _ _ _ _ => pts_nil) (fun _ _ _ _ _ => (pe_cmpR (op_in_seqK (K := K) rfl) (pv 5) (pv 1) (by rfl)))) (by rfl)))
  (pss_cons (ps_set (i := 6) sc.nd rfl (Or.inl rfl) (pe_cmpR (op_notIn_seqK (K := K) rfl) pe_bl (pe_lc (own := [("at", 5)]) (g := gName 5) rfl sc.nd (pi_listK (K := K) rfl (pv 2)) (blkOk_by (N := ["machine", "chosen", "found", "forms", "due_often", "at", "due_always", "form"]) (sc := defScope (top 51)) (by decide +kernel)) (fun _ _ _ _ _ => (pg_name (i := 5) sc.nd rfl (Or.inl rfl))) (fun _ _ _ _ _ => pts_nil) (fun _ _ _ _ _ => (pe_cmpR (op_in_seqK (K := K) rfl) (pv 5) (pv 1) (by rfl)))) (by rfl)))
  (pss_cons (ps_for PassesOwn.never rfl (pi_listK (K := K) rfl (pv 3)) (pg_name (i := 7) sc.nd rfl (Or.inl rfl))
   (pss_cons (ps_if (pt_not (pt_val (pe_call F_same (hr.mono (by first | decide | omega)) (by rfl) m_same k_same b_same d_same pass0 (pa_cons (pe_call F_often (hr.mono (by first | decide | omega)) (by rfl) m_often k_often b_often d_often pass0 (pa_cons (pv 0) (pa_cons (pe_ix (ix_listK (K := K) rfl) (pv 7) pe_int (fun _ _ => rfl)) (pa_cons (pe_ix (ix_listK (K := K) rfl) (pv 7) pe_int (fun _ _ => rfl)) pa_nil)))) (pa_cons (pv 4) pa_nil))))) (pss_one (ps_ret pe_bl)) pss_nil)
  (pss_one (ps_if (pt_not (pt_val (pe_call F_same (hr.mono (by first | decide | omega)) (by rfl) m_same k_same b_same d_same pass0 (pa_cons (pe_call F_always (hr.mono (by first | decide | omega)) (by rfl) m_always k_always b_always d_always pass0 (pa_cons (pv 0) (pa_cons (pe_ix (ix_listK (K := K) rfl) (pv 7) pe_int (fun _ _ => rfl)) (pa_cons (pe_ix (ix_listK (K := K) rfl) (pv 7) pe_int (fun _ _ => rfl)) pa_nil)))) (pa_cons (pv 6) pa_nil))))) (pss_one (ps_ret pe_bl)) pss_nil))))
  (pss_one (ps_ret pe_bl))))), ?_⟩
    have hF : Same F0 H := by obtain ⟨_, _, _, _, h⟩ := hM; exact h
    walk_at "go"
    have sfo : ∀ {H'}, Same H H' → SqL K H' fo _ := fun e => .inl (.inl (e _ _ (hF _ _ hfo)))
    have sch : ∀ {H'}, Same H H' → SqL K H' ch _ := fun e => .inl (.inl (e _ _ (hF _ _ hch)))
    refine ⟨⟨_, sfo (Same.refl _)⟩, ?_⟩
    have wd0 := W.self H
    intro D hD
    refine lc_list (K := K) (a := fo) (xs := found.map fun (n : Nat) => V.int (n : Int)) (fun j H' => W H [(D, .lst ((found.take j).map fun s => V.bl (decide (s ∈ acc))))] H') (wd0.new hD) (fun j H' _ wd => sfo wd.f) ?_ ?_
    · rintro j y H' hy wd
      obtain ⟨z, hz, rfl⟩ := nat_at hy
      have sc' : SqL K H' ch _ := sch wd.f
      walk_at "go"
      refine ⟨ch, _, rfl, Or.inl sc', rfl, flat_nats, ?_⟩
      rw [in_nats]
      have hlen : ((found.take j).map fun s => V.bl (decide (s ∈ acc))).length < sizeLine := by
        rw [List.length_map, List.length_take]; exact sz_lt (by omega)
      refine ⟨_, wd.hd, hlen, ?_⟩
      rw [List.take_succ, hz, Option.toList_some, List.map_append]
      exact wd.put
    rintro H1 wd1
    rw [List.length_map, List.take_length] at wd1
    refine ⟨D, _, rfl, Or.inl wd1.lM, rfl, flat_bls, ?_⟩
    rw [in_blT, if_neg Bool.false_ne_true]
    walk_at "go"
    have e1 := wd1.f
    refine ⟨⟨_, sfo e1⟩, ?_⟩
    have wd2 := W.self H1
    intro D2 hD2
    refine lc_list (K := K) (a := fo) (xs := found.map fun (n : Nat) => V.int (n : Int)) (fun j H' => W H1 [(D2, .lst ((found.take j).map fun s => V.bl (decide (s ∈ acc))))] H') (wd2.new hD2) (fun j H' _ wd => sfo (e1.trans wd.f)) ?_ ?_
    · rintro j y H' hy wd
      obtain ⟨z, hz, rfl⟩ := nat_at hy
      have sc' : SqL K H' ch _ := sch (e1.trans wd.f)
      walk_at "go"
      refine ⟨ch, _, rfl, Or.inl sc', rfl, flat_nats, ?_⟩
      rw [in_nats]
      have hlen : ((found.take j).map fun s => V.bl (decide (s ∈ acc))).length < sizeLine := by
        rw [List.length_map, List.length_take]; exact sz_lt (by omega)
      refine ⟨_, wd.hd, hlen, ?_⟩
      rw [List.take_succ, hz, Option.toList_some, List.map_append]
      exact wd.put
    rintro H2 wd2
    rw [List.length_map, List.take_length] at wd2
    have e2 := e1.trans wd2.f
    refine ⟨D2, _, rfl, Or.inl wd2.lM, rfl, flat_bls, ?_⟩
    rw [in_blF, if_pos rfl]
    walk_at "go"
    have spp : ∀ {H'}, Same H H' → SqL K H' p _ := fun e => .inl (.inl (e _ _ (hF _ _ hp)))
    refine ⟨⟨_, spp e2⟩, for_list (K := K) (a := p) (xs := xs) (fun i σ H' => ∃ v, σ = [some (.ref x), some (.ref ch), some (.ref fo), some (.ref p), some (.bl (oftenB found acc)), none, some (.bl (alwaysB found acc)), v] ∧ Same H H') ⟨none, rfl, e2⟩ (fun i σ H' _ ⟨_, _, e⟩ => spp e) ?_ ?_⟩
    · rintro i y σ H' hy ⟨v, rfl, e3⟩
      obtain ⟨d, hd, hr1⟩ := hxs.get hy
      obtain ⟨fm, hfm, rfl⟩ : ∃ fm, fms[i]? = some fm ∧ d = formD fm := by
        rw [List.getElem?_map] at hd
        cases e : fms[i]? with
        | none => rw [e] at hd; cases hd
        | some y => rw [e] at hd; exact ⟨y, rfl, (Option.some.inj hd).symm⟩
      obtain ⟨q, rfl, hq⟩ := form_row hr1
      obtain ⟨g1, g2, g3, g4, g5, g6⟩ := hfms fm (List.mem_of_getElem? hfm)
      have hL : ∀ {H'}, Same H H' → MaLa F0 H' C x l rows acc fm.1 fm.2 := fun e => ⟨hM.same e, hT, g1, g2, g3, g4, g5⟩
      have sq' : SqL K H' q _ := .inl (.inl (e3 _ _ (hF _ _ hq)))
      walk_at "go"
      refine ⟨F0, x, l, rows, acc, fm.1, fm.2, rfl, hL e3, fun H4 e4 => ?_⟩
      rw [show oftenB (foundL l rows fm.1 fm.2) acc = oftenB found acc from any_mem g6]
      have e5 := e3.trans e4
      walk_at "go"
      refine ⟨F0, .bl (oftenB found acc), _, _, rfl, hF.trans e5, Rp.bl, Rp.bl, trivial, ?_⟩
      have sq2 : SqL K H4 q _ := .inl (.inl (e5 _ _ (hF _ _ hq)))
      walk_at "go"
      refine ⟨F0, x, l, rows, acc, fm.1, fm.2, rfl, hL e5, fun H6 e6 => ?_⟩
      rw [show alwaysB (foundL l rows fm.1 fm.2) acc = alwaysB found acc from congrArg (!·) (any_mem g6)]
      have e7 := e5.trans e6
      walk_at "go"
      refine ⟨F0, .bl (alwaysB found acc), _, _, rfl, hF.trans e7, Rp.bl, Rp.bl, trivial, ?_⟩
      walk_at "go"
      exact e7
    · rintro σ H' ⟨v, rfl, e3⟩
      walk_at "go"
      exact k H' e3
end
end Tu
namespace Tu
open PySem PySem.Spec PyProof.Rows L2
local macro_rules | `(tactic| walk_at "sq") => `(tactic| first | assumption | exact W.lM (by assumption) | exact W.lF (by assumption) (by assumption) | exact W.tF (by assumption) (by assumption))
local macro_rules | `(tactic| walk_at "ix") => `(tactic| refine ⟨_, _, _, _, rfl, rfl, (by walk_at "sq"), (by first | rfl | assumption), ?_⟩)
local macro_rules | `(tactic| walk_at "len") => `(tactic| refine ⟨_, _, rfl, (by first | exact Or.inl ⟨_, (by walk_at "sq"), rfl⟩ | exact Or.inr ⟨_, (by walk_at "sq"), rfl⟩ | exact ⟨by assumption, rfl⟩), ?_⟩)
local macro_rules | `(tactic| walk_at "cond") => `(tactic| first
  | (with_reducible assumption)
  | ((with_reducible show (-(2 ^ 62) : Int) ≤ _); omega)
  | ((with_reducible show _ < (2 ^ 62 : Int)); omega)
  | ((with_reducible show (0 : Int) < _); first | (with_reducible assumption) | decide | omega)
  | ((with_reducible show CMulX _ _); exact bits_mul (by with_reducible assumption) (by decide))
  | ((with_reducible show CDivW _ _); exact div_ok (by first | (with_reducible assumption) | decide) (by first | (with_reducible assumption) | decide))
  | ((with_reducible show CPow _ _); exact ⟨by decide, by decide, by decide⟩)
  | ((with_reducible show List.length _ ≤ sizeLine); exact k_lst rfl (by decide))
  | ((with_reducible show scal _ _ = true); rfl)
  | ((with_reducible show wipe _ _ = wipe _ _); rfl)
  | ((with_reducible show [] = []); rfl)
  | (with_reducible rfl))
local macro_rules | `(tactic| walk_at "go1") => `(tactic| first
  | refine ⟨_, rfl, ?_⟩
  | refine ⟨_, _, rfl, rfl, ?_⟩
  | walk_at "ix"
  | walk_at "len"
  | refine And.intro (by walk_at "cond") ?_
  | refine Or.inl ⟨_, rfl, ?_⟩
  | refine iteF ?_
  | refine iteT ?_)
local macro_rules | `(tactic| walk_at "go") => `(tactic| repeat walk_at "go1")
local macro_rules | `(tactic| walk_at "ty") => `(tactic| first | assumption | exact TyX.base (.int _) | exact TyX.base (.bl _) | exact TyX.base (.str _) | exact TyX.base .non)
local macro_rules | `(tactic| walk_at "isT") => `(tactic| refine ⟨_, _, _, _, true, rfl, ClsV.ty _, (by walk_at "ty"), kit_ty (by decide +kernel), ?_⟩)
local macro_rules | `(tactic| walk_at "isF") => `(tactic| refine ⟨_, _, _, _, false, rfl, ClsV.ty _, (by walk_at "ty"), kit_ty (by decide +kernel), ?_⟩)
/-! ### another word without end -/
def spChanged : Sp := fun vs H Q _ => ∃ (F : Hp) (M : List (Addr × HO)) (p : Addr) (l : List Nat) (fm : List Nat × List Nat) (v : V), vs = [.ref p, .str (mk l), v] ∧ SW F p M H ∧ Alpha l ∧ Rp F (formD fm) v ∧ fm.2 ≠ [] ∧ (∀ c ∈ fm.1, c ∈ l) ∧ (∀ c ∈ fm.2, c ∈ l) ∧ fm.1.length ≤ 100 ∧ fm.2.length ≤ 100 ∧
  ∀ (g : List Nat × List Nat) q F' H', Same F F' → SW F' p M H' → Rp F' (formD g) (.ref q) → g.1.length = fm.1.length → g.2.length = fm.2.length → g.1 ++ g.2 ≠ fm.1 ++ fm.2 → Q (.ref q) H'
theorem signs_ne {l : List Nat} (h : Alpha l) {c i k : Nat} (hc : l.idxOf c = k) (hcl : c ∈ l) (hi : i ≤ l.length) (hne : i ≠ k) : (l ++ [122])[i]? ≠ some c := by
  intro e
  by_cases hil : i < l.length
  · rw [List.getElem?_append_left hil] at e
    have hk : k < l.length := by rw [← hc]; exact List.idxOf_lt_length_iff.mpr hcl
    have e2 : l[k] = c := by subst hc; exact List.getElem_idxOf hk
    have e3 : l[i] = c := by rw [List.getElem?_eq_getElem hil] at e; exact Option.some.inj e
    have hp := List.pairwise_iff_getElem.mp h.up
    rcases Nat.lt_or_gt_of_ne hne with hlt | hlt
    · have := hp _ _ hil hk hlt; omega
    · have := hp _ _ hk hil hlt; omega
  · have e2 : i = l.length := by omega
    subst e2
    rw [List.getElem?_append_right (by omega)] at e
    simp at e
    have := h.hi c hcl
    omega
theorem om_ne {a b c d : List Nat} (hb : b ≠ []) (h1 : c.length = a.length) (h2 : d.length = b.length) (hne : c ++ d ≠ a ++ b) : ¬ ∀ i, om c d i = om a b i := by
  intro h
  have hd : d ≠ [] := fun e => hb (List.eq_nil_of_length_eq_zero (by rw [← h2, e]; rfl))
  have e1 := om_whole (a := a) hb 1
  have e2 := om_whole (a := c) hd 1
  rw [rep_succ, rep_zero, List.append_nil] at e1 e2
  rw [e1, e2, h1, h2] at hne
  exact hne (List.map_congr_left fun i _ => h i)
theorem cutS_mk {l : List Nat} {lo hi : Option Int} : cutS (mk l) lo hi = mk ((l.drop (HT.sIx l.length 0 lo)).take (HT.sIx l.length l.length hi - HT.sIx l.length 0 lo)) := by
  unfold cutS; rw [mk_len]
theorem cut_to {l : List Nat} {n : Nat} (h : n ≤ l.length) : cutS (mk l) none (some (n : Int)) = mk (l.take n) := by
  rw [cutS_mk, HT.sIx_none, HT.sIx_nat, Nat.min_eq_left h, List.drop_zero, Nat.sub_zero]
theorem cut_from {l : List Nat} {n : Nat} (h : n ≤ l.length) : cutS (mk l) (some (n : Int)) none = mk (l.drop n) := by
  rw [cutS_mk, HT.sIx_none, HT.sIx_nat, Nat.min_eq_left h, List.take_of_length_le (by simp)]
section
variable {P : Program} {w : World} {K : PySem.W.Frag} {mg : Str → Option Value} {base : Heap} {C : Addr}
theorem ok_changed (T : Txt K mg C) : Def P w K mg base CX0 2 "_law_changed" ["state", "letters", "form"] [] spChanged := by
  obtain ⟨f_draw, fd_draw, ds_draw, F_draw, m_draw, k_draw, b_draw, d_draw⟩ := ok_draw (P := P) (w := w) (base := base) T
  obtain ⟨f_column, fd_column, ds_column, F_column, m_column, k_column, b_column, d_column⟩ := ok_column (P := P) (w := w) (base := base) T
  obtain ⟨f, fd, F, hm⟩ := T.d__law_changed
  have sc : FnScope ["state", "letters", "form", "word", "at", "signs", "sign"] ["state", "letters", "form"] (defScope (top 53)) := ⟨rfl, rfl, rfl, by decide +kernel, rfl, by decide +kernel, by decide +kernel⟩
  refine ⟨f, fd, [], F.ok sc (fun vs H Q E h => ?_) (fun cdv A outer s H vs Q E hr h => ?_), hm, F.kp, (F.binds fun _ _ _ _ _ _ us hl => match us, hl with | [_, _, _], _ => rfl), .nil⟩
  · obtain ⟨F0, M, p, l, fm, v, rfl, _⟩ := h; rfl
  · obtain ⟨F0, M, p, l, fm, v, rfl, s0, hA, hR, hb, h1, h2, h3, h4, k⟩ := h
    obtain ⟨a, b⟩ := fm
    obtain ⟨q, rfl, hq⟩ := form_row hR
    dsimp only at hb h1 h2 h3 h4 hq
    refine ⟨_, (pss_cons (ps_set (i := 3) sc.nd rfl (Or.inl rfl) (pe_op op_add_str (pe_ix (ix_listK (K := K) rfl) (pv 2) pe_int (fun _ _ => rfl)) (pe_ix (ix_listK (K := K) rfl) (pv 2) pe_int (fun _ _ => rfl))))
  (pss_cons (ps_set (i := 4) sc.nd rfl (Or.inl rfl) (pe_call F_draw (hr.mono (by first | decide | omega)) (by rfl) m_draw k_draw b_draw d_draw pass0 (pa_cons (pv 0) (pa_cons (pe_callB (call_lenK (K := K) rfl) (by rfl) T.n_len boot_len (pa_cons (pv 3) pa_nil)) pa_nil))))
  (pss_cons (ps_set (i := 5) sc.nd rfl (Or.inl rfl) (pe_op op_add_str (pv 1) pe_str))
  (pss_cons (ps_set (i := 6) sc.nd rfl (Or.inl rfl) (pe_ix ix_str (pv 5) (pe_op op_mod (pe_callTy call_int1 (by rfl) T.n_int boot_int (pa_cons (pe_op op_add (pe_op op_add (pe_call F_column (hr.mono (by first | decide | omega)) (by rfl) m_column k_column b_column d_column pass0 (pa_cons (pv 1) (pa_cons (pe_ix ix_str (pv 3) (pv 4) (fun _ _ => rfl)) pa_nil))) pe_int) (pe_call F_draw (hr.mono (by first | decide | omega)) (by rfl) m_draw k_draw b_draw d_draw pass0 (pa_cons (pv 0) (pa_cons (pe_callB (call_lenK (K := K) rfl) (by rfl) T.n_len boot_len (pa_cons (pv 1) pa_nil)) pa_nil)))) pa_nil)) (pe_callB (call_lenK (K := K) rfl) (by rfl) T.n_len boot_len (pa_cons (pv 5) pa_nil))) (fun _ _ => rfl)))
  (pss_cons (ps_set (i := 3) sc.nd rfl (Or.inl rfl) (pe_op op_add_str (pe_op op_add_str (pe_slice sl_str (pv 3) po_none (po_some (pv 4))) (pv 6)) (pe_slice sl_str (pv 3) (po_some (pe_op op_add (pv 4) pe_int)) po_none)))
  (pss_one (ps_ret (pe_lst (pa_cons (pe_slice sl_str (pv 3) po_none (po_some (pe_callB (call_lenK (K := K) rfl) (by rfl) T.n_len boot_len (pa_cons (pe_ix (ix_listK (K := K) rfl) (pv 2) pe_int (fun _ _ => rfl)) pa_nil)))) (pa_cons (pe_slice sl_str (pv 3) (po_some (pe_callB (call_lenK (K := K) rfl) (by rfl) T.n_len boot_len (pa_cons (pe_ix (ix_listK (K := K) rfl) (pv 2) pe_int (fun _ _ => rfl)) pa_nil))) po_none) pa_nil)))))))))), ?_⟩
    have hsz : ∀ {u : List Nat}, u.length ≤ 1000 → (mk u).length ≤ sizeLine := fun h => by rw [mk_len]; exact sz_of (by omega)
    have hza := hsz (u := a) (by omega)
    have hzb := hsz (u := b) (by omega)
    have hl3 := hA.n3
    have hl0 := List.length_pos_iff.mpr hA.n0
    have hb0 := List.length_pos_iff.mpr hb
    have hzl := hsz (u := l) (by omega)
    have sl : SqL K H q _ := s0.w.lF hq
    have hab : (mk a).length + (mk b).length ≤ sizeLine := by rw [mk_len, mk_len]; exact sz_of (by omega)
    walk_at "go"
    have hzab := hsz (u := a ++ b) (by rw [List.length_append]; omega)
    rw [mk_app]
    walk_at "go"
    have hlab : ((mk (a ++ b)).length : Int) = (a.length + b.length : Nat) := by rw [mk_len, List.length_append]
    rw [hlab]
    refine ⟨F0, M, p, ((a.length + b.length : Nat) : Int), rfl, s0, by omega, by omega, fun n H s0 hn => ?_⟩
    have hn' : n < (a ++ b).length := by rw [List.length_append]; omega
    have hzz : Str.ofString "z" = mk [122] := by decide +kernel
    walk_at "go"
    rw [hzz]
    have hlz : (mk l).length + (mk [122]).length ≤ sizeLine := by rw [mk_len, mk_len]; exact sz_of (by simp; omega)
    walk_at "go"
    rw [mk_app]
    have hzs := hsz (u := l ++ [122]) (by simp; omega)
    walk_at "go"
    have hcm : (a ++ b)[n] ∈ l := by
      rcases List.mem_append.mp (List.getElem_mem hn') with h | h
      · exact h1 _ h
      · exact h2 _ h
    generalize hcd : (a ++ b)[n] = c at hcm
    have hat : atI (mk (a ++ b)).cps.toList (n : Int) = some c := atI_nat (by rw [← hcd]; exact List.getElem?_eq_getElem hn')
    refine ⟨_, _, _, rfl, rfl, hzab, hat, ?_⟩
    walk_at "go"
    refine ⟨l, c, rfl, hcm, by omega, ?_⟩
    walk_at "go"
    have hll := mk_len l
    refine ⟨F0, M, p, ((mk l).length : Int), rfl, s0, by omega, by omega, fun r H s0 hr1 => ?_⟩
    walk_at "go"
    have hlz2 : ((mk (l ++ [122])).length : Int) = ((l.length + 1 : Nat) : Int) := by rw [mk_len]; simp
    have hid : l.idxOf c < l.length := List.idxOf_lt_length_iff.mpr hcm
    have hr2 : r < l.length := by omega
    have hJ : (l.idxOf c + 1 + r) % (l.length + 1) ≤ l.length ∧ (l.idxOf c + 1 + r) % (l.length + 1) ≠ l.idxOf c := by
      refine ⟨Nat.le_of_lt_succ (Nat.mod_lt _ (by omega)), ?_⟩
      by_cases h : l.idxOf c + 1 + r < l.length + 1
      · rw [Nat.mod_eq_of_lt h]; omega
      · rw [Nat.mod_eq_sub_mod (by omega), Nat.mod_eq_of_lt (by omega)]; omega
    generalize hJd : (l.idxOf c + 1 + r) % (l.length + 1) = J at hJ
    have hJl : J < (l ++ [122]).length := by simp; omega
    have hat2 : atI (mk (l ++ [122])).cps.toList ((((l.idxOf c : Nat) : Int) + 1 + (r : Int)) % ((mk (l ++ [122])).length : Int)) = some (l ++ [122])[J] := by
      rw [hlz2]
      have e : (((l.idxOf c : Nat) : Int) + 1 + (r : Int)) % ((l.length + 1 : Nat) : Int) = (J : Int) := by
        rw [← hJd, Int.natCast_emod]; congr 1
      rw [e]
      exact atI_nat (List.getElem?_eq_getElem hJl)
    have hsc : (l ++ [122])[J] ≠ c := fun e => signs_ne hA rfl hcm hJ.1 hJ.2 (by rw [List.getElem?_eq_getElem hJl, e])
    generalize (l ++ [122])[J] = sg at hat2 hsc
    refine ⟨by show (0 : Int) < _; rw [hlz2]; omega, ?_⟩
    refine ⟨_, _, _, rfl, rfl, hzs, hat2, ?_⟩
    have hz1 : ∀ (u : List Nat), u.length ≤ 1000 → (mk u).length ≤ sizeLine := fun u h => hsz h
    walk_at "go"
    have hnab : n < a.length + b.length := by rw [List.length_append] at hn'; exact hn'
    rw [cut_to (by omega)]
    have hz2 : (mk ((a ++ b).take n)).length + (mk [sg]).length ≤ sizeLine := by rw [mk_len, mk_len, List.length_take]; exact sz_of (by simp; omega)
    walk_at "go"
    have e9 : mk ((a ++ b).take n) ++ (⟨#[sg]⟩ : Str) = mk ((a ++ b).take n ++ [sg]) := mk_app _ _
    have e10 : cutS (mk (a ++ b)) (some ((n : Int) + 1)) none = mk ((a ++ b).drop (n + 1)) := cut_from (n := n + 1) (by omega)
    rw [e9, e10, mk_app]
    have hnew : ((a ++ b).take n ++ [sg] ++ (a ++ b).drop (n + 1)).length = a.length + b.length := by
      simp only [List.length_append, List.length_take, List.length_drop, List.length_singleton]
      omega
    have hnn : (a ++ b).take n ++ [sg] ++ (a ++ b).drop (n + 1) ≠ a ++ b := fun e => by
      have := congrArg (fun u => u[n]?) e
      rw [List.append_assoc] at this
      rw [List.getElem?_append_right (by rw [List.length_take]; omega), List.length_take, Nat.min_eq_left (by omega), Nat.sub_self, List.getElem?_eq_getElem hn', hcd] at this
      exact hsc (Option.some.inj this)
    have hz3 : (mk ((a ++ b).take n ++ [sg])).length + (mk ((a ++ b).drop (n + 1))).length ≤ sizeLine := by
      rw [mk_len, mk_len, ← List.length_append, hnew]; exact sz_of (by omega)
    generalize (a ++ b).take n ++ [sg] ++ (a ++ b).drop (n + 1) = nw at hnew hnn
    have hznw := hsz (u := nw) (by omega)
    refine ⟨hz3, ?_⟩
    have sl2 : SqL K H q _ := s0.w.lF hq
    walk_at "go"
    rw [mk_len, cut_to (by omega)]
    walk_at "go"
    rw [cut_from (by omega)]
    refine ⟨by show 2 ≤ sizeLine; decide, fun r2 hr2 => ?_⟩
    obtain ⟨o, ho, wd⟩ := s0
    have wd2 := wd.frz hr2 (o := .lst [.str (mk (nw.take a.length)), .str (mk (nw.drop a.length))])
    have e2 := same_upd (o := HO.lst [.str (mk (nw.take a.length)), .str (mk (nw.drop a.length))]) (wd.nF hr2)
    refine k (nw.take a.length, nw.drop a.length) r2 _ _ e2 ⟨o, ho.x e2, wd2⟩ ?_ ?_ ?_ ?_
    · exact Rp.ol upd_same (Rps.cons Rp.str (Rps.cons Rp.str Rps.nil))
    · show (nw.take a.length).length = a.length
      rw [List.length_take]; omega
    · show (nw.drop a.length).length = b.length
      rw [List.length_drop]; omega
    · show nw.take a.length ++ nw.drop a.length ≠ a ++ b
      rw [List.take_append_drop]; exact hnn
end
end Tu
namespace Tu
open PySem PySem.Spec PyProof.Rows L2
local macro_rules | `(tactic| walk_at "sq") => `(tactic| first | assumption | exact W.lM (by assumption) | exact W.lF (by assumption) (by assumption) | exact W.tF (by assumption) (by assumption))
local macro_rules | `(tactic| walk_at "ix") => `(tactic| refine ⟨_, _, _, _, rfl, rfl, (by walk_at "sq"), (by first | rfl | assumption), ?_⟩)
local macro_rules | `(tactic| walk_at "len") => `(tactic| refine ⟨_, _, rfl, (by first | exact Or.inl ⟨_, (by walk_at "sq"), rfl⟩ | exact Or.inr ⟨_, (by walk_at "sq"), rfl⟩ | exact ⟨by assumption, rfl⟩), ?_⟩)
local macro_rules | `(tactic| walk_at "cond") => `(tactic| first
  | (with_reducible assumption)
  | ((with_reducible show (-(2 ^ 62) : Int) ≤ _); omega)
  | ((with_reducible show _ < (2 ^ 62 : Int)); omega)
  | ((with_reducible show (0 : Int) < _); first | (with_reducible assumption) | decide | omega)
  | ((with_reducible show CMulX _ _); exact bits_mul (by with_reducible assumption) (by decide))
  | ((with_reducible show CDivW _ _); exact div_ok (by first | (with_reducible assumption) | decide) (by first | (with_reducible assumption) | decide))
  | ((with_reducible show CPow _ _); exact ⟨by decide, by decide, by decide⟩)
  | ((with_reducible show List.length _ ≤ sizeLine); exact k_lst rfl (by decide))
  | ((with_reducible show scal _ _ = true); rfl)
  | ((with_reducible show wipe _ _ = wipe _ _); rfl)
  | ((with_reducible show [] = []); rfl)
  | (with_reducible rfl))
local macro_rules | `(tactic| walk_at "go1") => `(tactic| first
  | refine ⟨_, rfl, ?_⟩
  | refine ⟨_, _, rfl, rfl, ?_⟩
  | walk_at "ix"
  | walk_at "len"
  | refine And.intro (by walk_at "cond") ?_
  | refine Or.inl ⟨_, rfl, ?_⟩
  | refine iteF ?_
  | refine iteT ?_)
local macro_rules | `(tactic| walk_at "go") => `(tactic| repeat walk_at "go1")
local macro_rules | `(tactic| walk_at "ty") => `(tactic| first | assumption | exact TyX.base (.int _) | exact TyX.base (.bl _) | exact TyX.base (.str _) | exact TyX.base .non)
local macro_rules | `(tactic| walk_at "isT") => `(tactic| refine ⟨_, _, _, _, true, rfl, ClsV.ty _, (by walk_at "ty"), kit_ty (by decide +kernel), ?_⟩)
local macro_rules | `(tactic| walk_at "isF") => `(tactic| refine ⟨_, _, _, _, false, rfl, ClsV.ty _, (by walk_at "ty"), kit_ty (by decide +kernel), ?_⟩)
/-! ### a large table: rows that are changed in place -/
theorem blkOk_nf {N : List Str} {sc sc0 scope : Scope} {own : List (Str × Nat)} (h : blkC N sc0 scope own = true) (hf : (scope.names.all fun y => match y.2 with | .free => false | _ => true) = true) : BlkOk N sc scope own := by
  have b := blkOk_by h
  refine ⟨b.kind, b.uniq, b.ix, fun y hy e => ?_, b.own⟩
  have := List.all_eq_true.mp hf y hy
  rw [e] at this
  cases this
theorem W.perm {F H : Hp} {M M' : List (Addr × HO)} (e : M.Perm M') (wd : W F M H) : W F M' H :=
  ⟨wd.f, fun x hx => wd.m x (e.mem_iff.mpr hx), (e.map _).nodup_iff.mp wd.d⟩
theorem W.putAt {F H : Hp} {M1 M2 : List (Addr × HO)} {a : Addr} {o o' : HO} (wd : W F (M1 ++ (a, o) :: M2) H) : W F (M1 ++ (a, o') :: M2) (upd H a o') :=
  ((wd.perm List.perm_middle).put (o' := o')).perm List.perm_middle.symm
theorem SW.perm {F H : Hp} {p : Addr} {M M' : List (Addr × HO)} (e : M.Perm M') (s : SW F p M H) : SW F p M' H :=
  let ⟨o, h, w⟩ := s; ⟨o, h, w.perm (e.cons _)⟩
theorem SW.putAt {F H : Hp} {p : Addr} {M1 M2 : List (Addr × HO)} {a : Addr} {o o' : HO} (s : SW F p (M1 ++ (a, o) :: M2) H) : SW F p (M1 ++ (a, o') :: M2) (upd H a o') :=
  ((s.perm List.perm_middle).put (o' := o')).perm List.perm_middle.symm
def rowO (r : List Nat) : HO := .lst (r.map fun (n : Nat) => V.int (n : Int))
theorem rowO_snoc (r : List Nat) (x : Nat) : rowO (r ++ [x]) = .lst ((r.map fun (n : Nat) => V.int (n : Int)) ++ [V.int (x : Int)]) := by unfold rowO; rw [List.map_append]; rfl
def zipM : List Addr → List (List Nat) → List (Addr × HO)
  | a :: as, r :: rs => (a, rowO r) :: zipM as rs
  | _, _ => []
theorem zipM_set : ∀ {as : List Addr} {rows : List (List Nat)} {j : Nat} {a : Addr} {r : List Nat}, as[j]? = some a → rows[j]? = some r → ∃ M1 M2, ∀ r', zipM as (rows.set j r') = M1 ++ (a, rowO r') :: M2
  | [], rows, j, a, r, h, _ => by simp at h
  | b :: as, [], j, a, r, _, h => by simp at h
  | b :: as, s :: rows, 0, a, r, h, h2 => by
    simp at h
    subst h
    exact ⟨[], zipM as rows, fun r' => rfl⟩
  | b :: as, s :: rows, j + 1, a, r, h, h2 => by
    obtain ⟨M1, M2, e⟩ := zipM_set (as := as) (rows := rows) (j := j) (by simpa using h) (by simpa using h2)
    exact ⟨(b, rowO s) :: M1, M2, fun r' => by rw [List.set_cons_succ, zipM, e]; rfl⟩
theorem zipM_app : ∀ {as bs : List Addr} {rows ss : List (List Nat)}, as.length = rows.length → zipM (as ++ bs) (rows ++ ss) = zipM as rows ++ zipM bs ss
  | [], bs, [], ss, _ => rfl
  | a :: as, bs, r :: rows, ss, h => by
    show (a, rowO r) :: zipM (as ++ bs) (rows ++ ss) = _
    rw [zipM_app (by simpa using h)]; rfl
theorem W.zip {H : Hp} {M : List (Addr × HO)} : ∀ {as : List Addr} {rows : List (List Nat)} {F : Hp}, as.length = rows.length → W F (zipM as rows ++ M) H →
    ∃ F', Same F F' ∧ W F' M H ∧ Rps F' (rows.map fun r => D.lst (r.map fun (n : Nat) => D.int (n : Int))) (as.map V.ref)
  | [], [], F, _, wd => ⟨F, Same.refl _, wd, Rps.nil⟩
  | a :: as, r :: rows, F, h, wd => by
    have wd : W F ((a, rowO r) :: (zipM as rows ++ M)) H := wd
    obtain ⟨F', e, wd', hr⟩ := W.zip (as := as) (rows := rows) (by simpa using h) wd.fz
    refine ⟨F', wd.ext.trans e, wd', ?_⟩
    rw [List.map_cons, List.map_cons]
    exact Rps.cons ((Rp.ol upd_same Rps.nats).x e) hr
structure Good (rows : List (List Nat)) (n k : Nat) : Prop where
  len : rows.length = n
  wid : ∀ r ∈ rows, r.length = k
  sta : ∀ r ∈ rows, ∀ x ∈ r, x < n
theorem Good.set {rows : List (List Nat)} {n k j i x : Nat} {r : List Nat} (g : Good rows n k) (hr : rows[j]? = some r) (hx : x < n) : Good (rows.set j (r.set i x)) n k := by
  have hm : r ∈ rows := List.mem_of_getElem? hr
  refine ⟨by rw [List.length_set]; exact g.len, fun s hs => ?_, fun s hs y hy => ?_⟩
  · rcases List.mem_or_eq_of_mem_set hs with h | h
    · exact g.wid s h
    · rw [h, List.length_set]; exact g.wid r hm
  · rcases List.mem_or_eq_of_mem_set hs with h | h
    · exact g.sta s h y hy
    · rw [h] at hy
      rcases List.mem_or_eq_of_mem_set hy with h2 | h2
      · exact g.sta r hm y h2
      · rw [h2]; exact hx
def spLarge : Sp := fun vs H Q _ => ∃ (F : Hp) (M : List (Addr × HO)) (p : Addr) (l : List Nat), vs = [.ref p, .str (mk l)] ∧ SW F p M H ∧ l.length ≤ 3 ∧
  ∀ rows v F' H', Same F F' → SW F' p M H' → Rp F' (tab rows) v → TabOk rows l.length → rows.length ≤ 32 → Q v H'
section
variable {P : Program} {w : World} {K : PySem.W.Frag} {mg : Str → Option Value} {base : Heap} {C : Addr}
theorem ok_large (T : Txt K mg C) : Def P w K mg base CX0 2 "_law_large" ["state", "letters"] [] spLarge := by
  obtain ⟨f_draw, fd_draw, ds_draw, F_draw, m_draw, k_draw, b_draw, d_draw⟩ := ok_draw (P := P) (w := w) (base := base) T
  obtain ⟨f, fd, F, hm⟩ := T.d__law_large
  have sc : FnScope ["state", "letters", "count", "rows", "at", "letter", "k", "times", "plus", "row"] ["state", "letters"] (defScope (top 47)) := ⟨rfl, rfl, rfl, by decide +kernel, rfl, by decide +kernel, by decide +kernel⟩
  refine ⟨f, fd, [], F.ok sc (fun vs H Q E h => ?_) (fun cdv A outer s H vs Q E hr h => ?_), hm, F.kp, (F.binds fun _ _ _ _ _ _ us hl => match us, hl with | [_, _], _ => rfl), .nil⟩
  · obtain ⟨F0, M, p, l, rfl, _⟩ := h; rfl
  · obtain ⟨F0, M, p, l, rfl, s0, hl3, k⟩ := h
    refine ⟨_, (pss_cons (ps_set (i := 2) sc.nd rfl (Or.inl rfl) (pe_op op_add pe_int (pe_call F_draw (hr.mono (by first | decide | omega)) (by rfl) m_draw k_draw b_draw d_draw pass0 (pa_cons (pv 0) (pa_cons pe_int pa_nil)))))
  (pss_cons (ps_setLc (i := 3) (own := [("at", 4)]) (g := gName 4) rfl sc.nd rfl rfl (sw_true rfl rfl rfl (by decide +kernel)) (pi_range1 (by rfl) T.n_range (pa_cons (pv 2) pa_nil)) (blkOk_by (N := ["state", "letters", "count", "rows", "at", "letter", "k", "times", "plus", "row"]) (sc := defScope (top 47)) (by decide +kernel)) (fun _ _ _ _ _ => (pg_name (i := 4) sc.nd rfl (Or.inl rfl))) (fun _ _ _ _ _ => pts_nil) (fun _ _ _ _ _ => (pe_lc (own := [("letter", 5)]) (g := gName 5) rfl sc.nd (pi_str (pv 1)) (blkOk_nf (N := ["state", "letters", "count", "rows", "at", "letter", "k", "times", "plus", "row"]) (sc0 := defScope (top 47)) (by decide +kernel) (by decide +kernel)) (fun _ _ _ _ _ => (pg_name (i := 5) sc.nd rfl (Or.inl rfl))) (fun _ _ _ _ _ => pts_nil) (fun _ _ _ _ _ => pe_int))))
  (pss_cons (ps_for PassesOwn.never rfl (pi_range1 (by rfl) T.n_range (pa_cons (pe_callB (call_lenK (K := K) rfl) (by rfl) T.n_len boot_len (pa_cons (pv 1) pa_nil)) pa_nil)) (pg_name (i := 6) sc.nd rfl (Or.inl rfl))
   (pss_cons (ps_set (i := 7) sc.nd rfl (Or.inl rfl) (pe_call F_draw (hr.mono (by first | decide | omega)) (by rfl) m_draw k_draw b_draw d_draw pass0 (pa_cons (pv 0) (pa_cons (pv 2) pa_nil))))
  (pss_cons (ps_set (i := 8) sc.nd rfl (Or.inl rfl) (pe_call F_draw (hr.mono (by first | decide | omega)) (by rfl) m_draw k_draw b_draw d_draw pass0 (pa_cons (pv 0) (pa_cons (pv 2) pa_nil))))
  (pss_one (ps_for PassesOwn.never rfl (pi_range1 (by rfl) T.n_range (pa_cons (pv 2) pa_nil)) (pg_name (i := 4) sc.nd rfl (Or.inl rfl))
   (pss_cons (ps_set (i := 9) sc.nd rfl (Or.inl rfl) (pe_ix (ix_listK (K := K) rfl) (pv 3) (pv 4) (fun _ _ => rfl)))
  (pss_one (ps_asg (pe_op op_mod (pe_callTy call_int1 (by rfl) T.n_int boot_int (pa_cons (pe_op op_add (pe_op op_mulX (pv 4) (pv 7)) (pv 8)) pa_nil)) (pv 2)) (pg_sub (pv 9) (pv 6) set_list)))))))))
  (pss_one (ps_ret (pv 3)))))), ?_⟩
    walk_at "go"
    refine ⟨F0, M, p, 32, rfl, s0, by decide, by decide, fun n H s0 hn => ?_⟩
    walk_at "go"
    intro D hD
    generalize hz : List.replicate l.length 0 = zr
    have hzl : zr.length = l.length := by rw [← hz, List.length_replicate]
    have hz0 : ∀ x ∈ zr, x = 0 := fun x h => by rw [← hz] at h; exact List.eq_of_mem_replicate h
    refine lc_range (lo := 0) (n := (1 + (n : Int)).toNat) (fun j H => ∃ as : List Addr, as.length = j ∧ SW F0 p ((D, .lst (as.map V.ref)) :: (zipM as (List.replicate j zr) ++ M)) H) ?_ ?_ ?_
    · exact ⟨[], rfl, s0.new hD⟩
    · rintro j H hj ⟨as, hal, s1⟩
      walk_at "go"
      intro D2 hD2
      refine lc_str (l := l) (fun i H => SW F0 p ((D2, rowO (List.replicate i 0)) :: (D, .lst (as.map V.ref)) :: (zipM as (List.replicate j zr) ++ M)) H) ?_ ?_ ?_
      · exact s1.new hD2
      · rintro i c H hc s2
        have hil := (List.getElem?_eq_some_iff.mp hc).1
        walk_at "go"
        refine ⟨(List.replicate i 0).map fun (n : Nat) => V.int (n : Int), s2.hd, by rw [List.length_map, List.length_replicate]; exact sz_lt (by omega), ?_⟩
        rw [List.replicate_succ', rowO_snoc]
        exact s2.put
      · rintro H s2
        rw [hz] at s2
        have s3 : SW F0 p ((D, .lst (as.map V.ref)) :: (D2, rowO zr) :: (zipM as (List.replicate j zr) ++ M)) H := s2.perm (List.Perm.swap _ _ _)
        refine ⟨_, s3.hd, by rw [List.length_map]; exact sz_lt (by omega), as ++ [D2], by simp [hal], ?_⟩
        have s4 := s3.put (o' := .lst (as.map V.ref ++ [V.ref D2]))
        rw [List.map_append, List.replicate_succ', zipM_app (by rw [hal, List.length_replicate]), List.append_assoc]
        exact s4.perm (List.Perm.cons _ List.perm_middle.symm)
    rintro H ⟨as, hal, s1⟩
    have hcnt : as.length = 1 + n := by omega
    have g0 : Good (List.replicate (1 + (n : Int)).toNat zr) (1 + n) l.length := ⟨by rw [List.length_replicate, ← hal]; exact hcnt, fun r hr => by rw [List.eq_of_mem_replicate hr]; exact hzl, fun r hr x hx => by rw [List.eq_of_mem_replicate hr] at hx; rw [hz0 x hx]; omega⟩
    generalize List.replicate (1 + (n : Int)).toNat zr = rows at s1 g0
    have hml := mk_len l
    have hsl : (mk l).length ≤ sizeLine := by rw [mk_len]; exact sz_of (by omega)
    clear hal hz hz0 hzl
    walk_at "go"
    rw [hml]
    have hout : ∀ σ H, (∃ (rows : List (List Nat)) (v1 v3 v4 v5 v6 : Option V), σ = [some (.ref p), some (.str (mk l)), some (.int (1 + (n : Int))), some (.ref D), v1, none, v3, v4, v5, v6] ∧ Good rows (1 + n) l.length ∧ SW F0 p ((D, .lst (as.map V.ref)) :: (zipM as rows ++ M)) H) →
        tRet (tVar 3) { nx := fun _ H' => Q .non H', rt := Q } σ H := by
      rintro σ H ⟨rows, v1, v3, v4, v5, v6, rfl, g, s1⟩
      walk_at "go"
      obtain ⟨o, ho, wd⟩ := s1
      have wd2 : W F0 (zipM as rows ++ ((D, .lst (as.map V.ref)) :: (p, o) :: M)) H := wd.perm (by
        refine (List.Perm.swap _ _ _).trans ?_
        refine (List.Perm.cons _ List.perm_middle.symm).trans ?_
        exact List.perm_middle.symm)
      obtain ⟨F1, e1, wd3, hr⟩ := wd2.zip (by rw [hcnt, g.len])
      have wd4 := wd3.fz
      have e2 := wd3.ext
      refine k rows (.ref D) _ H (e1.trans e2) ⟨o, ho.x (e1.trans e2), wd4⟩ (Rp.ol upd_same (hr.x e2)) ⟨g.wid, fun r hr x hx => by rw [g.len]; exact g.sta r hr x hx, fun e => by have := g.len; rw [e] at this; simp at this; omega, by rw [g.len]; omega⟩ (by rw [g.len]; omega)
    refine for_range (lo := 0) (n := ((l.length : Nat) : Int).toNat) (fun j σ H => ∃ (rows : List (List Nat)) (v1 v3 v4 v5 v6 : Option V), σ = [some (.ref p), some (.str (mk l)), some (.int (1 + (n : Int))), some (.ref D), v1, none, v3, v4, v5, v6] ∧ Good rows (1 + n) l.length ∧ SW F0 p ((D, .lst (as.map V.ref)) :: (zipM as rows ++ M)) H) ?_ ?_ ?_
    · exact ⟨rows, none, none, none, none, none, rfl, g0, s1⟩
    · rintro j σ H hj ⟨rows, v1, v3, v4, v5, v6, rfl, g, s1⟩
      have hj' : j < l.length := by omega
      walk_at "go"
      refine ⟨F0, _, p, 1 + (n : Int), rfl, s1, by omega, by omega, fun ti H s1 hti => ?_⟩
      walk_at "go"
      refine ⟨F0, _, p, 1 + (n : Int), rfl, s1, by omega, by omega, fun pl H s1 hpl => ?_⟩
      walk_at "go"
      refine for_range (lo := 0) (n := (1 + (n : Int)).toNat) (fun i σ H => ∃ (rows : List (List Nat)) (v1 v6 : Option V), σ = [some (.ref p), some (.str (mk l)), some (.int (1 + (n : Int))), some (.ref D), v1, none, some (.int ((0 : Int) + (j : Int))), some (.int (ti : Int)), some (.int (pl : Int)), v6] ∧ Good rows (1 + n) l.length ∧ SW F0 p ((D, .lst (as.map V.ref)) :: (zipM as rows ++ M)) H) ?_ ?_ ?_
      · exact ⟨rows, v1, v6, rfl, g, s1⟩
      · rintro i σ H hi ⟨rows, v1, v6, rfl, g, s1⟩
        have hi' : i < as.length := by omega
        have sD : SqL K H D _ := s1.w.lM
        have hat : atI (as.map V.ref) ((0 : Int) + (i : Int)) = some (.ref as[i]) := by
          rw [Int.zero_add]; exact atI_nat (by rw [List.getElem?_map, List.getElem?_eq_getElem hi']; rfl)
        have hir : i < rows.length := by rw [g.len]; omega
        obtain ⟨M1, M2, hM⟩ := zipM_set (as := as) (rows := rows) (j := i) (List.getElem?_eq_getElem hi') (List.getElem?_eq_getElem hir)
        have e0 : zipM as rows = M1 ++ (as[i], rowO rows[i]) :: M2 := by rw [← hM, List.set_getElem_self]
        walk_at "go"
        refine ⟨bits_mul (bits_small (by omega)) (by omega), ?_⟩
        walk_at "go"
        have hx : (((0 : Int) + (i : Int)) * (ti : Int) + (pl : Int)) % (1 + (n : Int)) = (((i * ti + pl) % (1 + n) : Nat) : Int) := by
          rw [Int.zero_add, Int.natCast_emod]; congr 1
        have hxl : (i * ti + pl) % (1 + n) < 1 + n := Nat.mod_lt _ (by omega)
        generalize (i * ti + pl) % (1 + n) = x at hx hxl
        have hrow : H as[i] = some (rowO rows[i]) := (s1.w.m (as[i], rowO rows[i]) (by rw [e0]; simp)).1
        have hwid := g.wid _ (List.getElem_mem hir)
        have hix : ixN ((rows[i]).map fun (n : Nat) => V.int (n : Int)).length ((0 : Int) + (j : Int)) = some j := by
          unfold ixN
          rw [if_pos (by omega), if_pos (by rw [List.length_map, hwid]; omega)]; simp
        refine ⟨as[i], _, _, j, rfl, rfl, hrow, hix, ?_⟩
        show ∃ _, _
        rw [show ((rows[i]).map fun (n : Nat) => V.int (n : Int)).set j (V.int ((((0 : Int) + (i : Int)) * (ti : Int) + (pl : Int)) % (1 + (n : Int)))) = ((rows[i]).set j x).map fun (n : Nat) => V.int (n : Int) by rw [hx, List.map_set]]
        refine ⟨rows.set i ((rows[i]).set j x), _, _, rfl, g.set (List.getElem?_eq_getElem hir) hxl, ?_⟩
        have s2 : SW F0 p (((D, .lst (as.map V.ref)) :: M1) ++ (as[i], rowO rows[i]) :: (M2 ++ M)) H := by
          rw [e0] at s1
          simpa using s1
        have s3 := s2.putAt (o' := rowO ((rows[i]).set j x))
        rw [hM]
        have s4 : SW F0 p ((D, .lst (as.map V.ref)) :: (M1 ++ (as[i], rowO ((rows[i]).set j x)) :: M2 ++ M)) (upd H as[i] (rowO ((rows[i]).set j x))) := by simpa using s3
        exact s4
      · rintro σ H ⟨rows, v1, v6, rfl, g, s1⟩
        exact ⟨rows, v1, _, _, _, v6, rfl, g, s1⟩
    · rintro σ H h
      exact hout σ H h
end
end Tu
namespace Tu
open PySem PySem.Spec PyProof.Rows L2
local macro_rules | `(tactic| walk_at "sq") => `(tactic| first | assumption | exact W.lM (by assumption) | exact W.lF (by assumption) (by assumption) | exact W.tF (by assumption) (by assumption))
local macro_rules | `(tactic| walk_at "ix") => `(tactic| refine ⟨_, _, _, _, rfl, rfl, (by walk_at "sq"), (by first | rfl | assumption), ?_⟩)
local macro_rules | `(tactic| walk_at "len") => `(tactic| refine ⟨_, _, rfl, (by first | exact Or.inl ⟨_, (by walk_at "sq"), rfl⟩ | exact Or.inr ⟨_, (by walk_at "sq"), rfl⟩ | exact ⟨by assumption, rfl⟩), ?_⟩)
local macro_rules | `(tactic| walk_at "cond") => `(tactic| first
  | (with_reducible assumption)
  | ((with_reducible show (-(2 ^ 62) : Int) ≤ _); omega)
  | ((with_reducible show _ < (2 ^ 62 : Int)); omega)
  | ((with_reducible show (0 : Int) < _); first | (with_reducible assumption) | decide | omega)
  | ((with_reducible show CMulX _ _); exact bits_mul (by with_reducible assumption) (by decide))
  | ((with_reducible show CDivW _ _); exact div_ok (by first | (with_reducible assumption) | decide) (by first | (with_reducible assumption) | decide))
  | ((with_reducible show CPow _ _); exact ⟨by decide, by decide, by decide⟩)
  | ((with_reducible show List.length _ ≤ sizeLine); exact k_lst rfl (by decide))
  | ((with_reducible show scal _ _ = true); rfl)
  | ((with_reducible show wipe _ _ = wipe _ _); rfl)
  | ((with_reducible show [] = []); rfl)
  | (with_reducible rfl))
local macro_rules | `(tactic| walk_at "go1") => `(tactic| first
  | refine ⟨_, rfl, ?_⟩
  | refine ⟨_, _, rfl, rfl, ?_⟩
  | walk_at "ix"
  | walk_at "len"
  | refine And.intro (by walk_at "cond") ?_
  | refine Or.inl ⟨_, rfl, ?_⟩
  | refine iteF ?_
  | refine iteT ?_)
local macro_rules | `(tactic| walk_at "go") => `(tactic| repeat walk_at "go1")
local macro_rules | `(tactic| walk_at "ty") => `(tactic| first | assumption | exact TyX.base (.int _) | exact TyX.base (.bl _) | exact TyX.base (.str _) | exact TyX.base .non)
local macro_rules | `(tactic| walk_at "isT") => `(tactic| refine ⟨_, _, _, _, true, rfl, ClsV.ty _, (by walk_at "ty"), kit_ty (by decide +kernel), ?_⟩)
local macro_rules | `(tactic| walk_at "isF") => `(tactic| refine ⟨_, _, _, _, false, rfl, ClsV.ty _, (by walk_at "ty"), kit_ty (by decide +kernel), ?_⟩)
/-! ### the error -/
/-- what the top says of the classes of errors: L that is raised, A and B that it is not -/
structure TxtX (K : PySem.W.Frag) (mg : Str → Option Value) (L A B : Addr) : Prop where
  gL : mg "LassoError" = some (.ref L)
  gA : mg "LetterError" = some (.ref A)
  gB : mg "LimitError" = some (.ref B)
  xL : PySem.W.excIn K L [.type "ValueError", .type "Exception", .type "BaseException", .type "object"] "ValueError.__new__" = true
  kL : PySem.W.keepIn K (.ref L) = true
  bL : PySem.W.subIn K (.ref L) (.type "BaseException") = some true
  tL : PySem.W.typeIn K (.ref L) = some (.type "type")
  eL : PySem.W.exmOne K (.ref L) (.ref L) = some true
  cL : ExcC K L
  vL : PySem.W.kitOne K (.ref L) (.type "ValueError") = some true
  aL : PySem.W.kitOne K (.ref L) (.ref A) = some false
  lL : PySem.W.kitOne K (.ref L) (.ref B) = some false
theorem kit_type {K : PySem.W.Frag} {L : Addr} {t : String} {b : Bool} (hm : PySem.W.kitMeta t = true) (h : PySem.W.subIn K (.ref L) (.type t) = some b) : PySem.W.kitOne K (.ref L) (.type t) = some b := by
  unfold PySem.W.kitOne
  have e : ((Value.ref L) == (Value.type t)) = false := Bool.eq_false_iff.mpr fun q => by have := eq_of_beq q; cases this
  rw [e, if_neg Bool.false_ne_true]
  unfold PySem.W.kitCls
  show (if PySem.W.kitMeta t = true then PySem.W.subIn K (.ref L) (.type t) else none) = _
  rw [if_pos hm, h]
theorem kit_no {K : PySem.W.Frag} {L A : Addr} (hs : PySem.W.subIn K (.ref L) (.ref L) = some true) (hi : PySem.W.isClsIn K A = true) (ht : PySem.W.typeIn K (.ref A) = some (.type "type")) (h : PySem.W.subIn K (.ref L) (.ref A) = some false) : PySem.W.kitOne K (.ref L) (.ref A) = some false := by
  have hne : ¬ L = A := fun e => by rw [← e, hs] at h; cases h
  unfold PySem.W.kitOne
  have e : ((Value.ref L) == (Value.ref A)) = false := Bool.eq_false_iff.mpr fun q => hne (Value.ref.inj (eq_of_beq q))
  rw [e, if_neg Bool.false_ne_true]
  unfold PySem.W.kitCls
  have e2 : ((PySem.W.clsIn K A).isSome && PySem.W.typeIn K (.ref A) == some (.type "type")) = true := by
    rw [show (PySem.W.clsIn K A).isSome = true from hi, ht] <;> rfl
  show (if ((PySem.W.clsIn K A).isSome && PySem.W.typeIn K (.ref A) == some (.type "type")) = true then PySem.W.subIn K (.ref L) (.ref A) else none) = _
  rw [if_pos e2, h]
theorem exm_refl {K : PySem.W.Frag} {C : Addr} (h1 : PySem.W.subIn K (.ref C) (.type "BaseException") = some true) (hi : PySem.W.isClsIn K C = true) (ht : PySem.W.typeIn K (.ref C) = some (.type "type")) (h : PySem.W.subIn K (.ref C) (.ref C) = some true) : PySem.W.exmOne K (.ref C) (.ref C) = some true := by
  unfold PySem.W.exmOne
  have e1 : (PySem.W.subIn K (.ref C) (.type "BaseException") == some true) = true := by rw [h1] <;> rfl
  rw [if_pos e1]
  unfold PySem.W.kitCls
  have e2 : ((PySem.W.clsIn K C).isSome && PySem.W.typeIn K (.ref C) == some (.type "type")) = true := by
    rw [show (PySem.W.clsIn K C).isSome = true from hi, ht] <;> rfl
  show (if ((PySem.W.clsIn K C).isSome && PySem.W.typeIn K (.ref C) == some (.type "type")) = true then PySem.W.subIn K (.ref C) (.ref C) else none) = _
  rw [if_pos e2, h]
theorem pss_if {X : Cx} {p : Prop} {st : List Stmt} {t : TS} (h : p → PSs X st t) : PSs X st (fun D σ H => p ∧ t D σ H) :=
  ⟨fun pins s σ H D I hh => (h hh.1).run pins s σ H D I hh.2⟩
def spLassoX (L : Addr) : Sp := fun vs H _ E => ∃ (a b c d : List Nat), vs = [.str (mk a), .str (mk b), .str (mk c), .str (mk d)] ∧ (b = [] ∨ d = []) ∧ E (.ref L) none H
def spNoLoop : Sp := fun vs H Q _ => ∃ (a b c d : List Nat), vs = [.str (mk a), .str (mk b), .str (mk c), .str (mk d)] ∧ (b = [] ∨ d = []) ∧ Q (.bl true) H
def t_isE (K : PySem.W.Frag) (L a : Addr) (c : V) : TE := tCB (rIsE K L a) (tCons (tVar 4) (tCons (tC c) tNil))
def t_suite (K : PySem.W.Frag) (L A B : Addr) : Addr → Value → Option Addr → TS := fun a cls d D σ H => (cls = .ref L ∧ d = none) ∧ tRet (tAndV (t_isE K L a (.ty "ValueError")) (tAndV (tNotV (t_isE K L a (.ref A))) (tNotV (t_isE K L a (.ref B))))) D σ H
section
variable {P : Program} {w : World} {K : PySem.W.Frag} {mg : Str → Option Value} {base : Heap} {C L A B : Addr}
theorem ok_lassoX (T : Txt K mg C) (TX : TxtX K mg L A B) : Def P w K mg base (L2.CX P w) 1 "same_lasso" ["lead", "loop", "other_lead", "other_loop"] [] (spLassoX L) := by
  obtain ⟨f, fd, F, hm⟩ := T.d_same_lasso
  have sc : FnScope ["lead", "loop", "other_lead", "other_loop", "count"] ["lead", "loop", "other_lead", "other_loop"] (defScope (top 30)) := ⟨rfl, rfl, rfl, by decide +kernel, rfl, by decide +kernel, by decide +kernel⟩
  refine ⟨f, fd, [], F.okX sc (fun vs H Q E h => ?_) (fun cdv A' outer s H vs Q E hr h => ?_), hm, F.kp, (F.binds fun _ _ _ _ _ _ us hl => match us, hl with | [_, _, _, _], _ => rfl), .nil⟩
  · obtain ⟨a, b, c, d, rfl, _⟩ := h; rfl
  · obtain ⟨a, b, c, d, rfl, hbd, k⟩ := h
    refine ⟨_, (pss_cons (ps_if (PW.pt (pw_or (pt_cmpR op_eq (pv 1) pe_str (nomark _)) (pw_or1 (pt_cmpR op_eq (pv 3) pe_str (nomark _))))) (pss_one (ps_raise rfl (takes_of rfl rfl rfl rfl) (pmk_own PySem.F.excBase_ValueError TX.xL TX.gL TX.kL (raises_own TX.bL TX.tL) rfl))) pss_nil)
  (pss_cons ps_never
  (pss_one ps_never))), ?_⟩
    walk_at "go"
    refine ib (fun e1 => ?_) (fun e1 => ?_)
    · refine if_T rfl ?_
      exact k
    · walk_at "go"
      have hb : b ≠ [] := fun e => by subst e; exact absurd rfl (of_decide_eq_false e1)
      have hd : d = [] := hbd.resolve_left hb
      subst hd
      refine if_T (decide_eq_true rfl) ?_
      exact k
theorem ok_noloop (T : Txt K mg C) (TX : TxtX K mg L A B) : Def P w K mg base CX0 3 "_law_no_loop" ["lead", "loop", "other_lead", "other_loop"] [] spNoLoop := by
  obtain ⟨f_lassoX, fd_lassoX, ds_lassoX, F_lassoX, m_lassoX, k_lassoX, b_lassoX, d_lassoX⟩ := ok_lassoX (P := P) (w := w) (base := base) T TX
  cases d_lassoX
  obtain ⟨f, fd, F, hm⟩ := T.d__law_no_loop
  have sc : FnScope ["lead", "loop", "other_lead", "other_loop", "e"] ["lead", "loop", "other_lead", "other_loop"] (defScope (top 52)) := ⟨rfl, rfl, rfl, by decide +kernel, rfl, by decide +kernel, by decide +kernel⟩
  refine ⟨f, fd, [], F.ok sc (fun vs H Q E h => ?_) (fun cdv A' outer s H vs Q E hr h => ?_), hm, F.kp, (F.binds fun _ _ _ _ _ _ us hl => match us, hl with | [_, _, _, _], _ => rfl), .nil⟩
  · obtain ⟨a, b, c, d, rfl, _⟩ := h; rfl
  · obtain ⟨a, b, c, d, rfl, hbd, k⟩ := h
    have hr1 : Room 1 _ := hr.mono (by decide)
    refine ⟨_, pss_cons (ps_try_as (i := 4) (ts := t_suite K L A B) (Wout := fun _ _ _ _ => False) rfl rfl sc.nd rfl rfl ⟨rfl, by decide, Or.inl TX.gL⟩ takes0
      (fun W pn xe tk _ => pss_one (ps_expr (by exact (pe_callS F_lassoX hr1 (by rfl) m_lassoX k_lassoX b_lassoX (fun σ => passAt tk σ) (by exact (pa_cons (pv 0) (pa_cons (pv 1) (pa_cons (pv 2) (pa_cons (pv 3) pa_nil)))))))))
      (fun a oe cls d pn hz hf => pss_if (fun e => by
        obtain ⟨rfl, rfl⟩ := e
        exact pss_one (ps_ret (pe_and (pe_callB (call_isE TX.cL hz hf) (by rfl) T.n_isinstance boot_isinstance (pa_cons (pv 4) (pa_cons (pe_bltn (v := .ty "ValueError") (by rfl) T.n_ValueError (by rfl) rfl) pa_nil)))
          (pe_and (pe_not (pe_callB (call_isE TX.cL hz hf) (by rfl) T.n_isinstance boot_isinstance (pa_cons (pv 4) (pa_cons (pe_glob (v := .ref A) (by rfl) TX.gA rfl) pa_nil))))
            (pe_one (pe_not (pe_callB (call_isE TX.cL hz hf) (by rfl) T.n_isinstance boot_isinstance (pa_cons (pv 4) (pa_cons (pe_glob (v := .ref B) (by rfl) TX.gB rfl) pa_nil)))))))))))
      (pss_one (ps_ret pe_bl)), ?_⟩
    walk_at "go"
    refine ⟨a, b, c, d, rfl, hbd, true, TX.eL, fun _ x hx => ?_, fun q => nomatch q⟩
    refine ⟨⟨rfl, rfl⟩, ?_⟩
    walk_at "go"
    refine ⟨_, .type "ValueError", true, rfl, fun u r => r, TX.vL, ?_⟩
    walk_at "go"
    refine ⟨_, .ref A, false, rfl, fun u r => r, TX.aL, ?_⟩
    walk_at "go"
    refine ⟨_, .ref B, false, rfl, fun u r => r, TX.lL, ?_⟩
    walk_at "go"
    exact k
end
end Tu
namespace Tu
open PySem PySem.Spec PyProof.Rows L2
local macro_rules | `(tactic| walk_at "sq") => `(tactic| first | assumption | exact W.lM (by assumption) | exact W.lF (by assumption) (by assumption) | exact W.tF (by assumption) (by assumption))
local macro_rules | `(tactic| walk_at "ix") => `(tactic| refine ⟨_, _, _, _, rfl, rfl, (by walk_at "sq"), (by first | rfl | assumption), ?_⟩)
local macro_rules | `(tactic| walk_at "len") => `(tactic| refine ⟨_, _, rfl, (by first | exact Or.inl ⟨_, (by walk_at "sq"), rfl⟩ | exact Or.inr ⟨_, (by walk_at "sq"), rfl⟩ | exact ⟨by assumption, rfl⟩), ?_⟩)
local macro_rules | `(tactic| walk_at "cond") => `(tactic| first
  | (with_reducible assumption)
  | ((with_reducible show (-(2 ^ 62) : Int) ≤ _); omega)
  | ((with_reducible show _ < (2 ^ 62 : Int)); omega)
  | ((with_reducible show (0 : Int) < _); first | (with_reducible assumption) | decide | omega)
  | ((with_reducible show CMulX _ _); exact bits_mul (by with_reducible assumption) (by decide))
  | ((with_reducible show CDivW _ _); exact div_ok (by first | (with_reducible assumption) | decide) (by first | (with_reducible assumption) | decide))
  | ((with_reducible show CPow _ _); exact ⟨by decide, by decide, by decide⟩)
  | ((with_reducible show List.length _ ≤ sizeLine); exact k_lst rfl (by decide))
  | ((with_reducible show scal _ _ = true); rfl)
  | ((with_reducible show wipe _ _ = wipe _ _); rfl)
  | ((with_reducible show [] = []); rfl)
  | (with_reducible rfl))
local macro_rules | `(tactic| walk_at "go1") => `(tactic| first
  | refine ⟨_, rfl, ?_⟩
  | refine ⟨_, _, rfl, rfl, ?_⟩
  | walk_at "ix"
  | walk_at "len"
  | refine And.intro (by walk_at "cond") ?_
  | refine Or.inl ⟨_, rfl, ?_⟩
  | refine iteF ?_
  | refine iteT ?_)
local macro_rules | `(tactic| walk_at "go") => `(tactic| repeat walk_at "go1")
local macro_rules | `(tactic| walk_at "ty") => `(tactic| first | assumption | exact TyX.base (.int _) | exact TyX.base (.bl _) | exact TyX.base (.str _) | exact TyX.base .non)
local macro_rules | `(tactic| walk_at "isT") => `(tactic| refine ⟨_, _, _, _, true, rfl, ClsV.ty _, (by walk_at "ty"), kit_ty (by decide +kernel), ?_⟩)
local macro_rules | `(tactic| walk_at "isF") => `(tactic| refine ⟨_, _, _, _, false, rfl, ClsV.ty _, (by walk_at "ty"), kit_ty (by decide +kernel), ?_⟩)
/-! ### the law: behind the machine -/
def spLaw (K : PySem.W.Frag) : Sp := fun vs H Q _ => ∃ (a : Addr) (ns : List Int), vs = [.ref a] ∧ SqL K H a (ns.map V.int) ∧ ns.length ≤ 63 ∧ (∀ n ∈ ns, BitsOk n) ∧ ∀ H', Q (.bl true) H'
theorem SW.frzE {F H : Hp} {M : List (Addr × HO)} {p q : Addr} {o : HO} (s : SW F p M H) (hq : H q = none) : ∃ F', Same F F' ∧ F' q = some o ∧ SW F' p M (upd H q o) := by
  obtain ⟨u, hu, w⟩ := s
  exact ⟨_, same_upd (w.nF hq), upd_same, u, hu.x (same_upd (w.nF hq)), w.frz hq⟩
theorem form_of {F : Hp} {q : Addr} {a b : List Nat} (h : F q = some (.lst [.str (mk a), .str (mk b)])) : Rp F (formD (a, b)) (.ref q) := Rp.ol h (Rps.cons Rp.str (Rps.cons Rp.str Rps.nil))

structure MidOk (F : Hp) (pr q4 qc ach asd : Addr) (l : List Nat) (rows : List (List Nat)) (lead loop ol oo tl to : List Nat) (cn : Nat) (ch sd : List Nat) (g : List Nat × List Nat) (fs : List (Str × V)) : Prop where
  hM : MaOk F l rows ch fs
  hA : Alpha l
  hT : TabOk rows l.length
  hR : Rp F (tab rows) (.ref pr)
  r4 : Rp F (D.lst ([(lead, loop), (ol, oo), (lead, loop)].map formD)) (.ref q4)
  rc : Rp F (formD g) (.ref qc)
  hch : F ach = some (.lst (ch.map fun (n : Nat) => V.int (n : Int)))
  hsd : F asd = some (.lst (sd.map fun (n : Nat) => V.int (n : Int)))
  sd1 : ∀ x ∈ sd, x < rows.length
  sd2 : sd.Pairwise (· < ·)
  wo : (∀ c ∈ lead, c ∈ l) ∧ lead.length ≤ 16 ∧ (∀ c ∈ loop, c ∈ l) ∧ loop ≠ [] ∧ loop.length ≤ 12 ∧ (∀ c ∈ ol, c ∈ l) ∧ ol.length ≤ 16 ∧ (∀ c ∈ oo, c ∈ l) ∧ oo ≠ [] ∧ oo.length ≤ 12 ∧ tl.length ≤ 16 ∧ to ≠ [] ∧ to.length ≤ 12 ∧ cn ≤ 61 ∧ om ol oo = om lead loop ∧ g.1.length = ol.length ∧ g.2.length = oo.length ∧ g.1 ++ g.2 ≠ ol ++ oo
theorem nats_ok {r : List Nat} (h : r.length ≤ 100000) : ∀ n, D.ok (n + 2) (D.tup (r.map fun (n : Nat) => D.int (n : Int))) := fun n => by
  refine ⟨by rw [List.length_map]; exact h, fun x hx => ?_⟩
  obtain ⟨y, _, rfl⟩ := List.mem_map.mp hx
  trivial
theorem tabT_ok {rows : List (List Nat)} {k : Nat} (hT : TabOk rows k) (hk : k ≤ 3) : D.ok 4 (tabT rows) := by
  have h32 := hT.n32
  refine ⟨by rw [List.length_map]; omega, fun x hx => ?_⟩
  obtain ⟨r, hr, rfl⟩ := List.mem_map.mp hx
  exact nats_ok (by rw [hT.wid r hr]; omega) 1
def LawMid (C : Addr) (σ : St) (H : Hp) : Prop := ∃ (a p pr q4 qc ach asd x dx : Addr) (l : List Nat) (rows : List (List Nat)) (lead loop ol oo tl to : List Nat) (t cn : Nat) (ch sd : List Nat) (g : List Nat × List Nat) (fs : List (Str × V)) (M : List (Addr × HO)) (F : Hp),
  σ = [some (.ref a), some (.ref p), some (.str (mk l)), some (.ref pr), some (.str (mk lead)), some (.str (mk loop)), some (.int (t : Int)), some (.str (mk ol)), some (.str (mk oo)), some (.ref q4), some (.ref qc), some (.str (mk tl)), some (.str (mk to)), some (.int (cn : Int)), some (.ref ach), some (.ref asd), some (.ref x), none, none, none, none] ∧
  W F ((x, .ins C dx fs) :: M) H ∧ MidOk F pr q4 qc ach asd l rows lead loop ol oo tl to cn ch sd g fs
section
variable {P : Program} {w : World} {K : PySem.W.Frag} {mg : Str → Option Value} {base : Heap} {C L A B : Addr}
theorem law_tail (T : Txt K mg C) (TX : TxtX K mg L A B) {f : Addr} {cdv : Value} {A' : Around} {outer : List Env} {s : Shared} {H0 : Hp} {E : XK} (hr : Room 12 (A'.deeper (envOfC "law" (defScope (top 54)) s.heap.objs.size f cdv))) :
    ∃ t, PSs (cxOf CX0 P w K mg base ["script", "state", "letters", "rows", "lead", "loop", "at", "other_lead", "other_loop", "forms", "changed", "third_lead", "third_loop", "count", "chosen", "second", "machine", "row", "found", "form", "due"] "law" (defScope (top 54)) f cdv A' outer s H0 E).nox (List.drop 16 (defBody (top 54))) t ∧ ∀ (σ : St) (H : Hp) (Q : VK), LawMid C σ H → (∀ H', Q (.bl true) H') → t { nx := fun _ H' => Q .non H', rt := Q } σ H := by
  obtain ⟨f_again, fd_again, ds_again, F_again, m_again, k_again, b_again, d_again⟩ := ok_again (P := P) (w := w) (base := base) T
  obtain ⟨f_answers, fd_answers, ds_answers, F_answers, m_answers, k_answers, b_answers, d_answers⟩ := ok_answers (P := P) (w := w) (base := base) T
  obtain ⟨f_choose, fd_choose, ds_choose, F_choose, mm_choose, b_choose, d_choose⟩ := ok_choose (P := P) (w := w) (base := base) T
  obtain ⟨f_same, fd_same, ds_same, F_same, m_same, k_same, b_same, d_same⟩ := ok_same4 (P := P) (w := w) (base := base) T
  obtain ⟨f_beginning, fd_beginning, ds_beginning, F_beginning, m_beginning, k_beginning, b_beginning, d_beginning⟩ := ok_beginning (P := P) (w := w) (base := base) T
  obtain ⟨f_prefix, fd_prefix, ds_prefix, F_prefix, m_prefix, k_prefix, b_prefix, d_prefix⟩ := ok_prefix (P := P) (w := w) (base := base) T
  obtain ⟨f_lasso, fd_lasso, ds_lasso, F_lasso, m_lasso, k_lasso, b_lasso, d_lasso⟩ := ok_lasso (P := P) (w := w) (base := base) T
  obtain ⟨f_alike, fd_alike, ds_alike, F_alike, m_alike, k_alike, b_alike, d_alike⟩ := ok_alike (P := P) (w := w) (base := base) T
  obtain ⟨f_noloop, fd_noloop, ds_noloop, F_noloop, m_noloop, k_noloop, b_noloop, d_noloop⟩ := ok_noloop (P := P) (w := w) (base := base) T TX
  obtain ⟨p_acc, f_acc, fd_acc, F_acc, pg_acc, b_acc⟩ := ok_acc (P := P) (w := w) (base := base) T
  have sc : FnScope ["script", "state", "letters", "rows", "lead", "loop", "at", "other_lead", "other_loop", "forms", "changed", "third_lead", "third_loop", "count", "chosen", "second", "machine", "row", "found", "form", "due"] ["script"] (defScope (top 54)) := ⟨rfl, rfl, rfl, by decide +kernel, rfl, by decide +kernel, by decide +kernel⟩
  refine ⟨_, (pss_cons (ps_set (i := 18) sc.nd rfl (Or.inl rfl) (pe_call F_again (hr.mono (by first | decide | omega)) (by rfl) m_again k_again b_again d_again pass0 (pa_cons (pv 2) (pa_cons (pv 3) (pa_cons (pv 4) (pa_cons (pv 5) pa_nil))))))
  (pss_cons (ps_if (pt_not (pt_val (pe_call F_answers (hr.mono (by first | decide | omega)) (by rfl) m_answers k_answers b_answers d_answers pass0 (pa_cons (pv 16) (pa_cons (pv 14) (pa_cons (pv 18) (pa_cons (pv 9) pa_nil))))))) (pss_one (ps_ret pe_bl)) pss_nil)
  (pss_cons (ps_if (PW.pt (pw_or (pt_cmpR op_notN (pe_meth (pv 16) T.cl_Machine mm_choose F_choose (hr.mono (by first | decide | omega)) b_choose d_choose pass0 (pa_cons (pe_callTy (call_list_ofK (K := K) rfl) (by rfl) T.n_list boot_list (pa_cons (pv 15) pa_nil)) pa_nil)) pe_non (nomark _)) (pw_or1 (pt_not (pt_val (pe_call F_answers (hr.mono (by first | decide | omega)) (by rfl) m_answers k_answers b_answers d_answers pass0 (pa_cons (pv 16) (pa_cons (pv 15) (pa_cons (pv 18) (pa_cons (pv 9) pa_nil)))))))))) (pss_one (ps_ret pe_bl)) pss_nil)
  (pss_cons (ps_if (PW.pt (pw_or (pt_not (pt_val (pe_call F_same (hr.mono (by first | decide | omega)) (by rfl) m_same k_same b_same d_same pass0 (pa_cons (pe_fldK (K := K) rfl (pv 16) rfl) (pa_cons (pe_tupleOfK (K := K) rfl (by rfl) T.n_tuple (pe_lc (own := [("row", 17)]) (g := gName 17) rfl sc.nd (pi_listK (K := K) rfl (pv 3)) (blkOk_by (N := ["script", "state", "letters", "rows", "lead", "loop", "at", "other_lead", "other_loop", "forms", "changed", "third_lead", "third_loop", "count", "chosen", "second", "machine", "row", "found", "form", "due"]) (sc := defScope (top 54)) (by decide +kernel)) (fun _ _ _ _ _ => (pg_name (i := 17) sc.nd rfl (Or.inl rfl))) (fun _ _ _ _ _ => pts_nil) (fun _ _ _ _ _ => (pe_tupleOfK (K := K) rfl (by rfl) T.n_tuple (pv 17))))) pa_nil))))) (pw_or1 (pt_not (pt_val (pe_call F_same (hr.mono (by first | decide | omega)) (by rfl) m_same k_same b_same d_same pass0 (pa_cons (pe_prop (pv 16) T.cl_Machine pg_acc F_acc (hr.mono (by first | decide | omega)) b_acc .nil pass0 rfl) (pa_cons (pe_tupleOfK (K := K) rfl (by rfl) T.n_tuple (pv 15)) pa_nil)))))))) (pss_one (ps_ret pe_bl)) pss_nil)
  (pss_cons (ps_for PassesOwn.never rfl (pi_listK (K := K) rfl (pv 9)) (pg_name (i := 19) sc.nd rfl (Or.inl rfl))
   (pss_cons (ps_if (pt_not (pt_val (pe_call F_same (hr.mono (by first | decide | omega)) (by rfl) m_same k_same b_same d_same pass0 (pa_cons (pe_call F_prefix (hr.mono (by first | decide | omega)) (by rfl) m_prefix k_prefix b_prefix d_prefix pass0 (pa_cons (pe_ix (ix_listK (K := K) rfl) (pv 19) pe_int (fun _ _ => rfl)) (pa_cons (pe_ix (ix_listK (K := K) rfl) (pv 19) pe_int (fun _ _ => rfl)) (pa_cons (pv 13) pa_nil)))) (pa_cons (pe_call F_beginning (hr.mono (by first | decide | omega)) (by rfl) m_beginning k_beginning b_beginning d_beginning pass0 (pa_cons (pv 4) (pa_cons (pv 5) (pa_cons (pv 13) pa_nil)))) pa_nil))))) (pss_one (ps_ret pe_bl)) pss_nil)
  (pss_cons (ps_if (pt_not (pt_val (pe_call F_same (hr.mono (by first | decide | omega)) (by rfl) m_same k_same b_same d_same pass0 (pa_cons (pe_call F_lasso (hr.mono (by first | decide | omega)) (by rfl) m_lasso k_lasso b_lasso d_lasso pass0 (pa_cons (pv 4) (pa_cons (pv 5) (pa_cons (pe_ix (ix_listK (K := K) rfl) (pv 19) pe_int (fun _ _ => rfl)) (pa_cons (pe_ix (ix_listK (K := K) rfl) (pv 19) pe_int (fun _ _ => rfl)) pa_nil))))) (pa_cons pe_bl pa_nil))))) (pss_one (ps_ret pe_bl)) pss_nil)
  (pss_cons (ps_if (pt_not (pt_val (pe_call F_same (hr.mono (by first | decide | omega)) (by rfl) m_same k_same b_same d_same pass0 (pa_cons (pe_call F_lasso (hr.mono (by first | decide | omega)) (by rfl) m_lasso k_lasso b_lasso d_lasso pass0 (pa_cons (pe_ix (ix_listK (K := K) rfl) (pv 19) pe_int (fun _ _ => rfl)) (pa_cons (pe_ix (ix_listK (K := K) rfl) (pv 19) pe_int (fun _ _ => rfl)) (pa_cons (pv 4) (pa_cons (pv 5) pa_nil))))) (pa_cons pe_bl pa_nil))))) (pss_one (ps_ret pe_bl)) pss_nil)
  (pss_one (ps_if (pt_not (pt_val (pe_call F_same (hr.mono (by first | decide | omega)) (by rfl) m_same k_same b_same d_same pass0 (pa_cons (pe_call F_lasso (hr.mono (by first | decide | omega)) (by rfl) m_lasso k_lasso b_lasso d_lasso pass0 (pa_cons (pe_ix (ix_listK (K := K) rfl) (pv 10) pe_int (fun _ _ => rfl)) (pa_cons (pe_ix (ix_listK (K := K) rfl) (pv 10) pe_int (fun _ _ => rfl)) (pa_cons (pe_ix (ix_listK (K := K) rfl) (pv 19) pe_int (fun _ _ => rfl)) (pa_cons (pe_ix (ix_listK (K := K) rfl) (pv 19) pe_int (fun _ _ => rfl)) pa_nil))))) (pa_cons pe_bl pa_nil))))) (pss_one (ps_ret pe_bl)) pss_nil))))))
  (pss_cons (ps_set (i := 20) sc.nd rfl (Or.inl rfl) (pe_call F_alike (hr.mono (by first | decide | omega)) (by rfl) m_alike k_alike b_alike d_alike pass0 (pa_cons (pv 7) (pa_cons (pv 8) (pa_cons (pv 11) (pa_cons (pv 12) pa_nil))))))
  (pss_cons (ps_if (pt_not (pt_val (pe_call F_same (hr.mono (by first | decide | omega)) (by rfl) m_same k_same b_same d_same pass0 (pa_cons (pe_call F_lasso (hr.mono (by first | decide | omega)) (by rfl) m_lasso k_lasso b_lasso d_lasso pass0 (pa_cons (pv 11) (pa_cons (pv 12) (pa_cons (pv 7) (pa_cons (pv 8) pa_nil))))) (pa_cons (pv 20) pa_nil))))) (pss_one (ps_ret pe_bl)) pss_nil)
  (pss_cons (ps_if (PW.pt (pw_or (pt_not (pt_val (pe_call F_noloop (hr.mono (by first | decide | omega)) (by rfl) m_noloop k_noloop b_noloop d_noloop pass0 (pa_cons (pv 4) (pa_cons pe_str (pa_cons (pv 11) (pa_cons (pv 12) pa_nil))))))) (pw_or1 (pt_not (pt_val (pe_call F_noloop (hr.mono (by first | decide | omega)) (by rfl) m_noloop k_noloop b_noloop d_noloop pass0 (pa_cons (pv 4) (pa_cons (pv 5) (pa_cons (pv 11) (pa_cons pe_str pa_nil)))))))))) (pss_one (ps_ret pe_bl)) pss_nil)
  (pss_one (ps_ret (pe_call F_noloop (hr.mono (by first | decide | omega)) (by rfl) m_noloop k_noloop b_noloop d_noloop pass0 (pa_cons (pv 4) (pa_cons pe_str (pa_cons (pv 11) (pa_cons pe_str pa_nil))))))))))))))), ?_⟩
  rintro σ H Q ⟨a, p, pr, q4, qc, ach, asd, x, dx, l, rows, lead, loop, ol, oo, tl, to, t, cn, ch, sd, g, fs, M, F, rfl, wd, hm⟩ k
  obtain ⟨hM, hA, hT, hR, r4, rc, hch, hsd, sd1, sd2, hlead, hleadn, hloop, hloop0, hloopn, hol, holn, hoo, hoo0, hoon, htln, hto0, hton, hcn, e10, g1, g2, g3⟩ := hm
  have hl3 := hA.n3
  have h32 := hT.n32
  have hn0 := List.length_pos_iff.mpr hT.n0
  have hfms : ∀ fm ∈ [(lead, loop), (ol, oo), (lead, loop)], fm.2 ≠ [] ∧ (∀ c ∈ fm.1, c ∈ l) ∧ (∀ c ∈ fm.2, c ∈ l) ∧ fm.1.length ≤ 16 ∧ fm.2.length ≤ 12 ∧ om fm.1 fm.2 = om lead loop := fun fm h => by
    rcases List.mem_cons.mp h with e | h
    · subst e; exact ⟨hloop0, hlead, hloop, hleadn, hloopn, rfl⟩
    · rcases List.mem_cons.mp h with e | h
      · subst e; exact ⟨hoo0, hol, hoo, holn, hoon, e10⟩
      · rw [List.mem_singleton.mp h]; exact ⟨hloop0, hlead, hloop, hleadn, hloopn, rfl⟩
  have hfnd : ∀ fm ∈ [(lead, loop), (ol, oo), (lead, loop)], fm.2 ≠ [] ∧ (∀ c ∈ fm.1, c ∈ l) ∧ (∀ c ∈ fm.2, c ∈ l) ∧ fm.1.length ≤ 100000 ∧ fm.2.length ≤ 100 ∧ ∀ s, s ∈ foundL l rows fm.1 fm.2 ↔ s ∈ foundL l rows lead loop := fun fm h => by
    obtain ⟨a1, a2, a3, a4, a5, a6⟩ := hfms fm h
    exact ⟨a1, a2, a3, by omega, by omega, found_eq hT a2 a3 a1 hlead hloop hloop0 fun i => congrFun a6 i⟩
  have hfl : (foundL l rows lead loop).length ≤ 4000 := by
    show (fdL l rows lead loop rows.length).length ≤ 4000
    rw [fdL_len]
    have : rows.length * loop.length ≤ 32 * 12 := Nat.mul_le_mul (by omega) hloopn
    omega
  walk_at "go"
  refine ⟨F, l, rows, lead, loop, .ref pr, rfl, wd.f, hR, hT, hlead, hloop, by omega, by omega, fun fo H1 e1 hfo1 hfo2 => ?_⟩
  obtain ⟨f1, wd⟩ := wd.old e1 hfo1 hfo2
  have hfo : upd F fo _ fo = some (.lst ((foundL l rows lead loop).map fun (n : Nat) => V.int (n : Int))) := upd_same
  generalize upd F fo _ = F1 at *
  have hMA : MaAt F1 H1 C x l rows ch := ⟨dx, fs, wd.hd, hM.x f1, wd.f⟩
  walk_at "go"
  refine ⟨F1, x, l, rows, ch, ach, fo, _, .ref q4, _, rfl, hMA, hT, f1 _ _ hch, hfo, r4.x f1, hfl, hfnd, fun H2 e2 => ?_⟩
  have wd := wd.same e2
  walk_at "go"
  refine ⟨x, dx, fs, rfl, wd.hd, by obtain ⟨_, _, rfl, _, _⟩ := hM; exact mfl_no _ _ _ (by decide +kernel) (by decide +kernel) (by decide +kernel), ?_⟩
  walk_at "go"
  refine ⟨asd, _, rfl, .inl (wd.lF (f1 _ _ hsd)), fun q hq => ?_⟩
  have f2 := same_upd (o := .lst (sd.map fun (n : Nat) => V.int (n : Int))) (wd.nF hq)
  have wd := wd.frz hq (o := .lst (sd.map fun (n : Nat) => V.int (n : Int)))
  have hq2 : upd F1 q (.lst (sd.map fun (n : Nat) => V.int (n : Int))) q = _ := upd_same
  generalize upd F1 q _ = F2 at *
  generalize upd H2 q _ = H3 at *
  walk_at "go"
  refine ⟨F2, M, x, dx, fs, l, rows, ch, sd, q, rfl, wd, hM.x (f1.trans f2), hq2, sd1, sd2, h32, fun fs F3 H4 f3 wd hM => ?_⟩
  have f13 := f1.trans (f2.trans f3)
  have f23 := f2.trans f3
  clear hMA
  have hMA : MaAt F3 H4 C x l rows sd := ⟨dx, fs, wd.hd, hM, wd.f⟩
  walk_at "go"
  refine ⟨F3, x, l, rows, sd, asd, fo, _, .ref q4, _, rfl, hMA, hT, f13 _ _ hsd, f23 _ _ hfo, r4.x f13, hfl, hfnd, fun H5 e5 => ?_⟩
  have wd := wd.same e5
  have hMA := hMA.same e5
  obtain ⟨pr2, pa, hfs, hR2, hA2⟩ := hM
  subst hfs
  have hR2' := hR2
  obtain ⟨pr2', xs2, ep, hpr2, hxl2, hrow2⟩ := tabT_row hR2
  cases ep
  have hR := hR.x f13
  obtain ⟨pr', xs, ep, hpr, hxl, hrow⟩ := tab_row hR
  cases ep
  walk_at "go"
  refine ⟨x, C, dx, _, _, rfl, wd.hd, T.cl_Machine, T.na_rows, mfl_r _ _ _, ?_⟩
  walk_at "go"
  refine ⟨⟨_, wd.lF hpr⟩, ?_⟩
  intro q0 hq0
  refine lc_list (K := K) (a := pr) (xs := xs) (fun j H => ∃ (F' : Hp) (ds : List V), Same F3 F' ∧ W F' ((q0, .lst ds) :: (x, .ins C dx (mfl l pr2 pa)) :: M) H ∧ Rps F' ((rows.take j).map fun r => D.tup (r.map fun (n : Nat) => D.int (n : Int))) ds) ?_ ?_ ?_ ?_
  · exact ⟨F3, [], Same.refl _, wd.new hq0, Rps.nil⟩
  · rintro j H _ ⟨F1, ds, e1, wd, hds⟩
    exact wd.lF (e1 _ _ hpr)
  · rintro j y H hy ⟨F1, ds, e1, wd, hds⟩
    obtain ⟨r, b, hr1, rfl, hb⟩ := rows_at (p := pr) hxl hrow hy
    have sa : SqL K H b _ := wd.lF (e1 _ _ hb)
    walk_at "go"
    refine Or.inl ⟨b, _, rfl, sa, fun q hq => ?_⟩
    have wd2 := wd.frz hq (o := .tup (r.map fun (n : Nat) => V.int (n : Int)))
    have e2 := same_upd (o := .tup (r.map fun (n : Nat) => V.int (n : Int))) (wd.nF hq)
    refine ⟨ds, wd2.hd, by rw [hds.len, List.length_map, List.length_take]; exact sz_lt (by omega), _, ds ++ [.ref q], e1.trans e2, wd2.put, ?_⟩
    rw [List.take_succ, hr1, Option.toList_some, List.map_append]
    exact (hds.x e2).snoc (Rp.ot upd_same Rps.nats)
  rintro H ⟨F4, ds, e4, wd, hds⟩
  rw [hxl, List.take_length] at hds
  refine Or.inl ⟨q0, ds, rfl, wd.lM, fun q9 hq9 => ?_⟩
  have e6 := same_upd (o := .tup ds) (wd.nF hq9)
  have wd := (wd.frz hq9 (o := .tup ds)).tl
  have hq9' : Rp (upd F4 q9 (.tup ds)) (tabT rows) (.ref q9) := Rp.ot upd_same (hds.x e6)
  have e46 := e4.trans e6
  clear hds e4 e6
  generalize upd F4 q9 _ = F5 at *
  generalize upd H q9 _ = H6 at *
  walk_at "go"
  refine ⟨F5, tabT rows, _, _, rfl, wd.f, hR2.x e46, hq9', tabT_ok hT hl3, ?_⟩
  walk_at "go"
  refine ⟨x, dx, _, rfl, wd.hd, x, dx, _, .ref pa, rfl, wd.hd, mfl_a _ _ _, ?_⟩
  walk_at "go"
  have hsd5 : F5 asd = some _ := e46 _ _ (f13 _ _ hsd)
  refine Or.inl ⟨asd, _, rfl, wd.lF hsd5, fun q10 hq10 => ?_⟩
  have e7 := same_upd (o := .tup (sd.map fun (n : Nat) => V.int (n : Int))) (wd.nF hq10)
  have wd := wd.frz hq10 (o := .tup (sd.map fun (n : Nat) => V.int (n : Int)))
  have hq10' : upd F5 q10 (.tup (sd.map fun (n : Nat) => V.int (n : Int))) q10 = _ := upd_same
  have e47 := e46.trans e7
  generalize upd F5 q10 _ = F7 at *
  generalize upd H6 q10 _ = H7 at *
  have hsdl := pigeon rows.length sd (sd2.imp fun h => Nat.ne_of_lt h) sd1
  walk_at "go"
  refine ⟨F7, D.tup (sd.map fun (n : Nat) => D.int (n : Int)), _, _, rfl, wd.f, Rp.ot (e47 _ _ hA2) Rps.nats, Rp.ot hq10' Rps.nats, nats_ok (by omega) 2, ?_⟩
  have r4 := r4.x (f13.trans e47)
  have rc := rc.x (f13.trans e47)
  obtain ⟨p4, xs4, ep, hp4, hx4⟩ := r4.l
  cases ep
  obtain ⟨qc', ep, hqc⟩ := form_row rc
  cases ep
  have hF7 := wd.f
  have sqc : SqL K H7 qc _ := wd.lF hqc
  have sp4 : SqL K H7 q4 _ := wd.lF hp4
  walk_at "go"
  refine ⟨⟨_, sp4⟩, for_list (K := K) (a := q4) (xs := xs4) (fun i σ H' => ∃ v, σ = [some (.ref a), some (.ref p), some (.str (mk l)), some (.ref pr), some (.str (mk lead)), some (.str (mk loop)), some (.int (t : Int)), some (.str (mk ol)), some (.str (mk oo)), some (.ref q4), some (.ref qc), some (.str (mk tl)), some (.str (mk to)), some (.int (cn : Int)), some (.ref ach), some (.ref asd), some (.ref x), none, some (.ref fo), v, none] ∧ H' = H7) ⟨none, rfl, rfl⟩ (fun i σ H' _ ⟨_, _, e⟩ => by rw [e]; exact sp4) ?_ ?_⟩
  · rintro i y σ H' hy ⟨v, rfl, rfl⟩
    obtain ⟨d, hd, hr1⟩ := hx4.get hy
    obtain ⟨fm, hfm, rfl⟩ : ∃ fm, [(lead, loop), (ol, oo), (lead, loop)][i]? = some fm ∧ d = formD fm := by
      rw [List.getElem?_map] at hd
      cases e : [(lead, loop), (ol, oo), (lead, loop)][i]? with
      | none => rw [e] at hd; cases hd
      | some y => rw [e] at hd; exact ⟨y, rfl, (Option.some.inj hd).symm⟩
    obtain ⟨q, rfl, hq⟩ := form_row hr1
    obtain ⟨b1, b2, b3, b4, b5, b6⟩ := hfms fm (List.mem_of_getElem? hfm)
    have sq' : SqL K H' q _ := wd.lF hq
    walk_at "go"
    refine ⟨fm.1, fm.2, cn, rfl, b1, by omega, by omega, by omega, ?_⟩
    rw [pre_om b1, b6, ← pre_om hloop0]
    walk_at "go"
    refine ⟨lead, loop, cn, rfl, by omega, by omega, by omega, ?_⟩
    walk_at "go"
    refine ⟨F7, .str (mk (pre lead loop cn)), _, _, rfl, hF7, Rp.str, Rp.str, trivial, ?_⟩
    walk_at "go"
    refine ⟨lead, loop, fm.1, fm.2, rfl, hloop0, b1, by omega, by omega, by omega, by omega, fun e he => ?_⟩
    rw [he.mpr fun i => (congrFun b6 i).symm]
    walk_at "go"
    refine ⟨F7, .bl true, _, _, rfl, hF7, Rp.bl, Rp.bl, trivial, ?_⟩
    walk_at "go"
    refine ⟨fm.1, fm.2, lead, loop, rfl, b1, hloop0, by omega, by omega, by omega, by omega, fun e he => ?_⟩
    rw [he.mpr fun i => congrFun b6 i]
    walk_at "go"
    refine ⟨F7, .bl true, _, _, rfl, hF7, Rp.bl, Rp.bl, trivial, ?_⟩
    walk_at "go"
    have hg2 : g.2 ≠ [] := fun e => hoo0 (List.eq_nil_of_length_eq_zero (by rw [← g2, e]; rfl))
    refine ⟨g.1, g.2, fm.1, fm.2, rfl, hg2, b1, by omega, by omega, by omega, by omega, fun e he => ?_⟩
    have hne : e = false := by
      cases e with
      | false => rfl
      | true => exact absurd (fun i => by rw [he.mp rfl i, congrFun b6 i, congrFun e10 i]) (om_ne hoo0 g1 g2 g3)
    rw [hne]
    walk_at "go"
    refine ⟨F7, .bl false, _, _, rfl, hF7, Rp.bl, Rp.bl, trivial, ?_⟩
    walk_at "go"
    rfl
  rintro σ H' ⟨v, rfl, rfl⟩
  walk_at "go"
  refine ⟨ol, oo, tl, to, rfl, hoo0, hto0, by omega, by omega, by omega, by omega, fun e he => ?_⟩
  walk_at "go"
  refine ⟨tl, to, ol, oo, rfl, hto0, hoo0, by omega, by omega, by omega, by omega, fun e' he' => ?_⟩
  have hee : e' = e := by
    rw [Bool.eq_iff_iff, he, he']
    exact ⟨fun h i => (h i).symm, fun h i => (h i).symm⟩
  subst hee
  walk_at "go"
  refine ⟨F7, .bl e', _, _, rfl, hF7, Rp.bl, Rp.bl, trivial, ?_⟩
  walk_at "go"
  refine ⟨lead, [], tl, to, rfl, .inl rfl, ?_⟩
  walk_at "go"
  refine ⟨lead, loop, tl, [], rfl, .inr rfl, ?_⟩
  walk_at "go"
  refine ⟨lead, [], tl, [], rfl, .inl rfl, ?_⟩
  exact k H'
end
end Tu
namespace Tu
open PySem PySem.Spec PyProof.Rows L2
local macro_rules | `(tactic| walk_at "sq") => `(tactic| first | assumption | exact W.lM (by assumption) | exact W.lF (by assumption) (by assumption) | exact W.tF (by assumption) (by assumption))
local macro_rules | `(tactic| walk_at "ix") => `(tactic| refine ⟨_, _, _, _, rfl, rfl, (by walk_at "sq"), (by first | rfl | assumption), ?_⟩)
local macro_rules | `(tactic| walk_at "len") => `(tactic| refine ⟨_, _, rfl, (by first | exact Or.inl ⟨_, (by walk_at "sq"), rfl⟩ | exact Or.inr ⟨_, (by walk_at "sq"), rfl⟩ | exact ⟨by assumption, rfl⟩), ?_⟩)
local macro_rules | `(tactic| walk_at "cond") => `(tactic| first
  | (with_reducible assumption)
  | ((with_reducible show (-(2 ^ 62) : Int) ≤ _); omega)
  | ((with_reducible show _ < (2 ^ 62 : Int)); omega)
  | ((with_reducible show (0 : Int) < _); first | (with_reducible assumption) | decide | omega)
  | ((with_reducible show CMulX _ _); exact bits_mul (by with_reducible assumption) (by decide))
  | ((with_reducible show CDivW _ _); exact div_ok (by first | (with_reducible assumption) | decide) (by first | (with_reducible assumption) | decide))
  | ((with_reducible show CPow _ _); exact ⟨by decide, by decide, by decide⟩)
  | ((with_reducible show List.length _ ≤ sizeLine); exact k_lst rfl (by decide))
  | ((with_reducible show scal _ _ = true); rfl)
  | ((with_reducible show wipe _ _ = wipe _ _); rfl)
  | ((with_reducible show [] = []); rfl)
  | (with_reducible rfl))
local macro_rules | `(tactic| walk_at "go1") => `(tactic| first
  | refine ⟨_, rfl, ?_⟩
  | refine ⟨_, _, rfl, rfl, ?_⟩
  | walk_at "ix"
  | walk_at "len"
  | refine And.intro (by walk_at "cond") ?_
  | refine Or.inl ⟨_, rfl, ?_⟩
  | refine iteF ?_
  | refine iteT ?_)
local macro_rules | `(tactic| walk_at "go") => `(tactic| repeat walk_at "go1")
local macro_rules | `(tactic| walk_at "ty") => `(tactic| first | assumption | exact TyX.base (.int _) | exact TyX.base (.bl _) | exact TyX.base (.str _) | exact TyX.base .non)
local macro_rules | `(tactic| walk_at "isT") => `(tactic| refine ⟨_, _, _, _, true, rfl, ClsV.ty _, (by walk_at "ty"), kit_ty (by decide +kernel), ?_⟩)
local macro_rules | `(tactic| walk_at "isF") => `(tactic| refine ⟨_, _, _, _, false, rfl, ClsV.ty _, (by walk_at "ty"), kit_ty (by decide +kernel), ?_⟩)
/-! ### the law -/
section
variable {P : Program} {w : World} {K : PySem.W.Frag} {mg : Str → Option Value} {base : Heap} {C L A B : Addr}
theorem ok_law (T : Txt K mg C) (TX : TxtX K mg L A B) {f : Addr} {fd : FuncData} (F : Fun K "law" "law" (top 54) f fd) : FnOk P w K mg base CX0 13 f fd ["script"] (spLaw K) := by
  obtain ⟨f_new, fd_new, ds_new, F_new, m_new, k_new, b_new, d_new⟩ := ok_new (P := P) (w := w) (base := base) T
  obtain ⟨f_letters, fd_letters, ds_letters, F_letters, m_letters, k_letters, b_letters, d_letters⟩ := ok_letters (P := P) (w := w) (base := base) T
  obtain ⟨f_draw, fd_draw, ds_draw, F_draw, m_draw, k_draw, b_draw, d_draw⟩ := ok_draw (P := P) (w := w) (base := base) T
  obtain ⟨f_large, fd_large, ds_large, F_large, m_large, k_large, b_large, d_large⟩ := ok_large (P := P) (w := w) (base := base) T
  obtain ⟨f_table, fd_table, ds_table, F_table, m_table, k_table, b_table, d_table⟩ := ok_table (P := P) (w := w) (base := base) T
  obtain ⟨f_word, fd_word, ds_word, F_word, m_word, k_word, b_word, d_word⟩ := ok_word (P := P) (w := w) (base := base) T
  obtain ⟨f_changed, fd_changed, ds_changed, F_changed, m_changed, k_changed, b_changed, d_changed⟩ := ok_changed (P := P) (w := w) (base := base) T
  obtain ⟨f_choice, fd_choice, ds_choice, F_choice, m_choice, k_choice, b_choice, d_choice⟩ := ok_choice (P := P) (w := w) (base := base) T
  obtain ⟨f_mk, fd_mk, ds_mk, F_mk, M_mk, m_mk, b_mk, d_mk⟩ := ok_mk (P := P) (w := w) (base := base) T
  have sc : FnScope ["script", "state", "letters", "rows", "lead", "loop", "at", "other_lead", "other_loop", "forms", "changed", "third_lead", "third_loop", "count", "chosen", "second", "machine", "row", "found", "form", "due"] ["script"] (defScope (top 54)) := ⟨rfl, rfl, rfl, by decide +kernel, rfl, by decide +kernel, by decide +kernel⟩
  refine F.ok sc (fun vs H Q E h => ?_) (fun cdv A' outer s H vs Q E hr h => ?_)
  · obtain ⟨a, ns, rfl, _⟩ := h; rfl
  · obtain ⟨a, ns, rfl, hS, hl, hbits, k⟩ := h
    obtain ⟨ttail, ptail, htail⟩ := law_tail (P := P) (w := w) (base := base) T TX (f := f) (cdv := cdv) (A' := A') (outer := outer) (s := s) (H0 := H) (E := E) hr
    refine ⟨_, (pss_cons (ps_set (i := 1) sc.nd rfl (Or.inl rfl) (pe_call F_new (hr.mono (by first | decide | omega)) (by rfl) m_new k_new b_new d_new pass0 (pa_cons (pv 0) pa_nil)))
  (pss_cons (ps_set (i := 2) sc.nd rfl (Or.inl rfl) (pe_call F_letters (hr.mono (by first | decide | omega)) (by rfl) m_letters k_letters b_letters d_letters pass0 (pa_cons (pv 1) (pa_cons pe_int pa_nil))))
  (C8.pss_cut (ps_if (pt_cmpR op_eq (pe_call F_draw (hr.mono (by first | decide | omega)) (by rfl) m_draw k_draw b_draw d_draw pass0 (pa_cons (pv 1) (pa_cons pe_int pa_nil))) pe_int (nomark _)) (pss_one (ps_set (i := 3) sc.nd rfl (Or.inl rfl) (pe_call F_large (hr.mono (by first | decide | omega)) (by rfl) m_large k_large b_large d_large pass0 (pa_cons (pv 1) (pa_cons (pv 2) pa_nil))))) (pss_one (ps_set (i := 3) sc.nd rfl (Or.inl rfl) (pe_call F_table (hr.mono (by first | decide | omega)) (by rfl) m_table k_table b_table d_table pass0 (pa_cons (pv 1) (pa_cons (pv 2) (pa_cons pe_int pa_nil)))))))
  (pss_cons (ps_set (i := 4) sc.nd rfl (Or.inl rfl) (pe_call F_word (hr.mono (by first | decide | omega)) (by rfl) m_word k_word b_word d_word pass0 (pa_cons (pv 1) (pa_cons (pv 2) (pa_cons pe_int pa_nil)))))
  (pss_cons (ps_set (i := 5) sc.nd rfl (Or.inl rfl) (pe_op op_add_str (pe_ix ix_str (pv 2) (pe_call F_draw (hr.mono (by first | decide | omega)) (by rfl) m_draw k_draw b_draw d_draw pass0 (pa_cons (pv 1) (pa_cons (pe_callB (call_lenK (K := K) rfl) (by rfl) T.n_len boot_len (pa_cons (pv 2) pa_nil)) pa_nil))) (fun _ _ => rfl)) (pe_call F_word (hr.mono (by first | decide | omega)) (by rfl) m_word k_word b_word d_word pass0 (pa_cons (pv 1) (pa_cons (pv 2) (pa_cons pe_int pa_nil))))))
  (pss_cons (ps_set (i := 6) sc.nd rfl (Or.inl rfl) (pe_call F_draw (hr.mono (by first | decide | omega)) (by rfl) m_draw k_draw b_draw d_draw pass0 (pa_cons (pv 1) (pa_cons (pe_callB (call_lenK (K := K) rfl) (by rfl) T.n_len boot_len (pa_cons (pv 5) pa_nil)) pa_nil))))
  (pss_cons (ps_set (i := 7) sc.nd rfl (Or.inl rfl) (pe_op op_add_str (pe_op op_add_str (pv 4) (pe_op op_mulS (pv 5) (pe_call F_draw (hr.mono (by first | decide | omega)) (by rfl) m_draw k_draw b_draw d_draw pass0 (pa_cons (pv 1) (pa_cons pe_int pa_nil))))) (pe_slice sl_str (pv 5) po_none (po_some (pv 6)))))
  (pss_cons (ps_set (i := 8) sc.nd rfl (Or.inl rfl) (pe_op op_mulS (pe_op op_add_str (pe_slice sl_str (pv 5) (po_some (pv 6)) po_none) (pe_slice sl_str (pv 5) po_none (po_some (pv 6)))) (pe_op op_add pe_int (pe_call F_draw (hr.mono (by first | decide | omega)) (by rfl) m_draw k_draw b_draw d_draw pass0 (pa_cons (pv 1) (pa_cons pe_int pa_nil))))))
  (pss_cons (ps_set (i := 9) sc.nd rfl (Or.inl rfl) (pe_lst (pa_cons (pe_lst (pa_cons (pv 4) (pa_cons (pv 5) pa_nil))) (pa_cons (pe_lst (pa_cons (pv 7) (pa_cons (pv 8) pa_nil))) (pa_cons (pe_lst (pa_cons (pv 4) (pa_cons (pv 5) pa_nil))) pa_nil)))))
  (pss_cons (ps_set (i := 10) sc.nd rfl (Or.inl rfl) (pe_call F_changed (hr.mono (by first | decide | omega)) (by rfl) m_changed k_changed b_changed d_changed pass0 (pa_cons (pv 1) (pa_cons (pv 2) (pa_cons (pe_ix (ix_listK (K := K) rfl) (pv 9) pe_int (fun _ _ => rfl)) pa_nil)))))
  (pss_cons (ps_set (i := 11) sc.nd rfl (Or.inl rfl) (pe_call F_word (hr.mono (by first | decide | omega)) (by rfl) m_word k_word b_word d_word pass0 (pa_cons (pv 1) (pa_cons (pv 2) (pa_cons pe_int pa_nil)))))
  (pss_cons (ps_set (i := 12) sc.nd rfl (Or.inl rfl) (pe_op op_add_str (pe_ix ix_str (pv 2) (pe_call F_draw (hr.mono (by first | decide | omega)) (by rfl) m_draw k_draw b_draw d_draw pass0 (pa_cons (pv 1) (pa_cons (pe_callB (call_lenK (K := K) rfl) (by rfl) T.n_len boot_len (pa_cons (pv 2) pa_nil)) pa_nil))) (fun _ _ => rfl)) (pe_call F_word (hr.mono (by first | decide | omega)) (by rfl) m_word k_word b_word d_word pass0 (pa_cons (pv 1) (pa_cons (pv 2) (pa_cons pe_int pa_nil))))))
  (pss_cons (ps_set (i := 13) sc.nd rfl (Or.inl rfl) (pe_call F_draw (hr.mono (by first | decide | omega)) (by rfl) m_draw k_draw b_draw d_draw pass0 (pa_cons (pv 1) (pa_cons pe_int pa_nil))))
  (pss_cons (ps_set (i := 14) sc.nd rfl (Or.inl rfl) (pe_call F_choice (hr.mono (by first | decide | omega)) (by rfl) m_choice k_choice b_choice d_choice pass0 (pa_cons (pv 1) (pa_cons (pe_callB (call_lenK (K := K) rfl) (by rfl) T.n_len boot_len (pa_cons (pv 3) pa_nil)) pa_nil))))
  (pss_cons (ps_set (i := 15) sc.nd rfl (Or.inl rfl) (pe_call F_choice (hr.mono (by first | decide | omega)) (by rfl) m_choice k_choice b_choice d_choice pass0 (pa_cons (pv 1) (pa_cons (pe_callB (call_lenK (K := K) rfl) (by rfl) T.n_len boot_len (pa_cons (pv 3) pa_nil)) pa_nil))))
  (C8.pss_cut (ps_set (i := 16) sc.nd rfl (Or.inl rfl) (pe_make M_mk F_mk (hr.mono (by first | decide | omega)) (by rfl) m_mk b_mk d_mk pass0 (pa_cons (pv 2) (pa_cons (pe_lc (own := [("row", 17)]) (g := gName 17) rfl sc.nd (pi_listK (K := K) rfl (pv 3)) (blkOk_by (N := ["script", "state", "letters", "rows", "lead", "loop", "at", "other_lead", "other_loop", "forms", "changed", "third_lead", "third_loop", "count", "chosen", "second", "machine", "row", "found", "form", "due"]) (sc := defScope (top 54)) (by decide +kernel)) (fun _ _ _ _ _ => (pg_name (i := 17) sc.nd rfl (Or.inl rfl))) (fun _ _ _ _ _ => pts_nil) (fun _ _ _ _ _ => (pe_callTy (call_list_ofK (K := K) rfl) (by rfl) T.n_list boot_list (pa_cons (pv 17) pa_nil)))) (pa_cons (pe_callTy (call_list_ofK (K := K) rfl) (by rfl) T.n_list boot_list (pa_cons (pv 14) pa_nil)) pa_nil)))))
  ptail)))))))))))))))), ?_⟩
    walk_at "go"
    refine ⟨a, ns, rfl, hS, hl, hbits, fun p F H s0 => ?_⟩
    walk_at "go"
    refine ⟨F, [], p, rfl, s0, fun l H s0 hA => ?_⟩
    walk_at "go"
    have hl3 := hA.n3
    have hl0 := List.length_pos_iff.mpr hA.n0
    refine ⟨fun σ' H' => ∃ (F : Hp) (rows : List (List Nat)) (v : V), σ' = [some (.ref a), some (.ref p), some (.str (mk l)), some v, none, none, none, none, none, none, none, none, none, none, none, none, none, none, none, none, none] ∧ SW F p [] H' ∧ Rp F (tab rows) v ∧ TabOk rows l.length, ?_, ?_⟩
    · walk_at "go"
      refine ⟨F, [], p, 3, rfl, s0, by decide, by decide, fun n H s0 hn => ?_⟩
      walk_at "go"
      refine ib (fun e1 => ?_) (fun e1 => ?_)
      · walk_at "go"
        refine ⟨F, [], p, l, rfl, s0, hl3, fun rows v F' H' e s0 hR hT _ => ?_⟩
        exact ⟨F', rows, v, rfl, s0, hR, hT⟩
      · walk_at "go"
        refine ⟨F, [], p, l, 4, rfl, s0, hl3, by decide, by decide, fun rows v F' H' e s0 hR hT _ => ?_⟩
        exact ⟨F', rows, v, rfl, s0, hR, hT⟩
    clear s0
    rintro σ H ⟨F, rows, v, rfl, s0, hR, hT⟩
    walk_at "go"
    refine ⟨F, [], p, l, 4, rfl, s0, hA.n0, hl3, by decide, fun lead H s0 hlead hleadn => ?_⟩
    have hzl : (mk l).length ≤ sizeLine := by rw [mk_len]; exact sz_of (by omega)
    have hml := mk_len l
    walk_at "go"
    refine ⟨F, [], p, ((mk l).length : Int), rfl, s0, by omega, by omega, fun n H s0 hn => ?_⟩
    have hn' : n < l.length := by omega
    have hat : atI (mk l).cps.toList (n : Int) = some l[n] := atI_nat (List.getElem?_eq_getElem hn')
    refine ⟨_, _, _, rfl, rfl, hzl, hat, ?_⟩
    walk_at "go"
    refine ⟨F, [], p, l, 3, rfl, s0, hA.n0, hl3, by decide, fun lw H s0 hlw hlwn => ?_⟩
    have hmp : (mk [l[n]]).length + (mk lw).length ≤ sizeLine := by rw [mk_len, mk_len]; exact sz_of (by simp; omega)
    refine ⟨_, _, rfl, rfl, hmp, ?_⟩
    rw [show (⟨#[l[n]]⟩ : Str) ++ mk lw = mk ([l[n]] ++ lw) from mk_app _ _]
    have hloop0 : [l[n]] ++ lw ≠ [] := by simp
    have hloopn : ([l[n]] ++ lw).length ≤ 4 := by simp; omega
    have hloop : ∀ c ∈ [l[n]] ++ lw, c ∈ l := fun c hc => by
      rcases List.mem_append.mp hc with h | h
      · rw [List.mem_singleton.mp h]; exact List.getElem_mem hn'
      · exact hlw c h
    generalize [l[n]] ++ lw = loop at *
    clear hmp hat hlw
    have hzloop : (mk loop).length ≤ sizeLine := by rw [mk_len]; exact sz_of (by omega)
    have hmloop := mk_len loop
    have hloop1 := List.length_pos_iff.mpr hloop0
    walk_at "go"
    refine ⟨F, [], p, ((mk loop).length : Int), rfl, s0, by omega, by omega, fun t H s0 ht => ?_⟩
    walk_at "go"
    refine ⟨F, [], p, 3, rfl, s0, by decide, by decide, fun ra H s0 hra => ?_⟩
    have hsz2 : ∀ {u v : List Nat}, u.length ≤ 1000 → v.length ≤ 1000 → (mk u).length + (mk v).length ≤ sizeLine := fun h1 h2 => by rw [mk_len, mk_len]; exact sz_of (by omega)
    have hm1 : (mk loop).length * ra ≤ 4 * 2 := by rw [mk_len]; exact Nat.mul_le_mul (by omega) (by omega)
    have hrep : (rep ra loop).length ≤ 8 := by rw [rep_len, Nat.mul_comm]; rw [mk_len] at hm1; omega
    refine ⟨mk loop, ra, rfl, rfl, by omega, by omega, ?_⟩
    refine ⟨_, mk (rep ra loop), rfl, rfl, hsz2 (by omega) (by omega), ?_⟩
    rw [mk_app]
    have ht' : t ≤ loop.length := by omega
    walk_at "go"
    rw [cut_to ht']
    have htk : (loop.take t).length ≤ 4 := by rw [List.length_take]; omega
    have hdr : (loop.drop t).length ≤ 4 := by rw [List.length_drop]; omega
    refine ⟨hsz2 (by rw [List.length_append]; omega) (by omega), ?_⟩
    rw [mk_app]
    walk_at "go"
    rw [cut_from ht', cut_to ht']
    refine ⟨hsz2 (by omega) (by omega), ?_⟩
    rw [mk_app]
    walk_at "go"
    refine ⟨F, [], p, 3, rfl, s0, by decide, by decide, fun rb H s0 hrb => ?_⟩
    have hum : (loop.drop t ++ loop.take t).length = loop.length := by rw [List.length_append, List.length_drop, List.length_take]; omega
    have hm2 : (mk (loop.drop t ++ loop.take t)).length * (1 + rb) ≤ 4 * 3 := by rw [mk_len, hum]; exact Nat.mul_le_mul (by omega) (by omega)
    have e10 : om (lead ++ rep ra loop ++ loop.take t) (rep (1 + rb) (loop.drop t ++ loop.take t)) = om lead loop := funext (om_form hloop0 ra (1 + rb) t (by omega))
    have hol : (lead ++ rep ra loop ++ loop.take t).length ≤ 16 := by rw [List.length_append, List.length_append]; omega
    have hoo : (rep (1 + rb) (loop.drop t ++ loop.take t)).length ≤ 12 := by rw [rep_len, Nat.mul_comm]; rw [mk_len] at hm2; omega
    have hoo1 : 0 < (rep (1 + rb) (loop.drop t ++ loop.take t)).length := by rw [rep_len, hum]; exact Nat.mul_pos (by omega) hloop1
    have hol2 : ∀ c ∈ lead ++ rep ra loop ++ loop.take t, c ∈ l := fun c hc => by
      rcases List.mem_append.mp hc with h | h
      · rcases List.mem_append.mp h with h | h
        · exact hlead c h
        · exact hloop c (mem_rep h)
      · exact hloop c (List.mem_of_mem_take h)
    have hoo2 : ∀ c ∈ rep (1 + rb) (loop.drop t ++ loop.take t), c ∈ l := fun c hc => by
      rcases List.mem_append.mp (mem_rep hc) with h | h
      · exact hloop c (List.mem_of_mem_drop h)
      · exact hloop c (List.mem_of_mem_take h)
    refine ⟨_, _, rfl, rfl, ?_⟩
    refine ⟨mk (loop.drop t ++ loop.take t), 1 + rb, rfl, rfl, by omega, by omega, ?_⟩
    show _
    rw [show (⟨((List.replicate (1 + rb) (mk (loop.drop t ++ loop.take t)).cps.toList).flatten).toArray⟩ : Str) = mk (rep (1 + rb) (loop.drop t ++ loop.take t)) from rfl]
    generalize lead ++ rep ra loop ++ loop.take t = ol at *
    generalize rep (1 + rb) (loop.drop t ++ loop.take t) = oo at *
    have hoo0 : oo ≠ [] := List.length_pos_iff.mp hoo1
    walk_at "go"
    refine ⟨by show 2 ≤ sizeLine; decide, fun q1 hq1 => ?_⟩
    obtain ⟨F1, f1, hf1, s0⟩ := s0.frzE hq1 (o := .lst [.str (mk lead), .str (mk loop)])
    generalize upd H q1 _ = H at *
    walk_at "go"
    refine ⟨by show 2 ≤ sizeLine; decide, fun q2 hq2 => ?_⟩
    obtain ⟨F2, f2, hf2, s0⟩ := s0.frzE hq2 (o := .lst [.str (mk ol), .str (mk oo)])
    generalize upd H q2 _ = H at *
    walk_at "go"
    refine ⟨by show 2 ≤ sizeLine; decide, fun q3 hq3 => ?_⟩
    obtain ⟨F3, f3, hf3, s0⟩ := s0.frzE hq3 (o := .lst [.str (mk lead), .str (mk loop)])
    generalize upd H q3 _ = H at *
    walk_at "go"
    refine ⟨by show 3 ≤ sizeLine; decide, fun q4 hq4 => ?_⟩
    obtain ⟨F4, f4, hf4, s0⟩ := s0.frzE hq4 (o := .lst [.ref q1, .ref q2, .ref q3])
    generalize upd H q4 _ = H at *
    have r1 : Rp F4 (formD (lead, loop)) (.ref q1) := (form_of hf1).x (f2.trans (f3.trans f4))
    have r2 : Rp F4 (formD (ol, oo)) (.ref q2) := (form_of hf2).x (f3.trans f4)
    have r3 : Rp F4 (formD (lead, loop)) (.ref q3) := (form_of hf3).x f4
    have r4 : Rp F4 (D.lst ([(lead, loop), (ol, oo), (lead, loop)].map formD)) (.ref q4) := Rp.ol hf4 (Rps.cons r1 (Rps.cons r2 (Rps.cons r3 Rps.nil)))
    have hR := hR.x (f1.trans (f2.trans (f3.trans f4)))
    have sq4 : SqL K H q4 _ := s0.w.lF hf4
    clear hf1 hf2 hf3 r1 r3 f1 f2 f3 f4
    walk_at "go"
    refine ⟨F4, [], p, l, (ol, oo), .ref q2, rfl, s0, hA, r2, hoo0, hol2, hoo2, by show ol.length ≤ 100; omega, by show oo.length ≤ 100; omega, fun g qc F5 H f5 s0 rc g1 g2 g3 => ?_⟩
    walk_at "go"
    refine ⟨F5, [], p, l, 3, rfl, s0, hA.n0, hl3, by decide, fun tl H s0 htl htln => ?_⟩
    walk_at "go"
    refine ⟨F5, [], p, ((mk l).length : Int), rfl, s0, by omega, by omega, fun n2 H s0 hn2 => ?_⟩
    have hn2' : n2 < l.length := by omega
    have hat2 : atI (mk l).cps.toList (n2 : Int) = some l[n2] := atI_nat (List.getElem?_eq_getElem hn2')
    refine ⟨_, _, _, rfl, rfl, hzl, hat2, ?_⟩
    walk_at "go"
    refine ⟨F5, [], p, l, 3, rfl, s0, hA.n0, hl3, by decide, fun lw2 H s0 hlw2 hlwn2 => ?_⟩
    refine ⟨_, _, rfl, rfl, hsz2 (u := [l[n2]]) (v := lw2) (by simp) (by omega), ?_⟩
    rw [show (⟨#[l[n2]]⟩ : Str) ++ mk lw2 = mk ([l[n2]] ++ lw2) from mk_app _ _]
    have hto0 : [l[n2]] ++ lw2 ≠ [] := by simp
    have hton : ([l[n2]] ++ lw2).length ≤ 4 := by simp; omega
    have hto : ∀ c ∈ [l[n2]] ++ lw2, c ∈ l := fun c hc => by
      rcases List.mem_append.mp hc with h | h
      · rw [List.mem_singleton.mp h]; exact List.getElem_mem hn2'
      · exact hlw2 c h
    generalize [l[n2]] ++ lw2 = to at *
    clear hat2 hlw2
    walk_at "go"
    refine ⟨F5, [], p, 61, rfl, s0, by decide, by decide, fun cn H s0 hcn => ?_⟩
    have hR := hR.x f5
    obtain ⟨pr, xs, rfl, hpr, hxl, hrow⟩ := tab_row hR
    have spr : SqL K H pr xs := s0.w.lF hpr
    have h32 := hT.n32
    walk_at "go"
    refine ⟨F5, [], p, xs.length, rfl, s0, by omega, fun ch vch F6 H f6 s0 hRch hch1 hch2 _ => ?_⟩
    rw [hxl] at hch1
    have spr : SqL K H pr xs := s0.w.lF (f6 _ _ hpr)
    walk_at "go"
    refine ⟨F6, [], p, xs.length, rfl, s0, by omega, fun sd vsd F7 H f7 s0 hRsd hsd1 hsd2 _ => ?_⟩
    rw [hxl] at hsd1
    have spr : SqL K H pr xs := s0.w.lF (f7 _ _ (f6 _ _ hpr))
    walk_at "go"
    obtain ⟨ach, ys, rfl, hach, hys⟩ := hRch.l
    rw [Rps.of_nats hys] at hach
    clear hys
    obtain ⟨asd, ys, rfl, hasd, hys⟩ := hRsd.l
    rw [Rps.of_nats hys] at hasd
    clear hys
    refine ⟨LawMid C, ?_, fun σ' H' h => htail σ' H' Q h k⟩
    · walk_at "go"
      refine ⟨⟨_, spr⟩, ?_⟩
      intro Dq hD
      have f67 := f6.trans f7
      refine lc_list (K := K) (a := pr) (xs := xs) (fun j H => ∃ (F' : Hp) (ds : List V), Same F7 F' ∧ SW F' p [(Dq, .lst ds)] H ∧ Rps F' ((rows.take j).map fun r => D.lst (r.map fun (n : Nat) => D.int (n : Int))) ds) ?_ ?_ ?_ ?_
      · exact ⟨F7, [], Same.refl _, s0.new hD, Rps.nil⟩
      · rintro j H _ ⟨F1, ds, e1, s1, hds⟩
        exact s1.w.lF (e1 _ _ (f67 _ _ hpr))
      · rintro j y H hy ⟨F1, ds, e1, s1, hds⟩
        obtain ⟨r, b, hr1, rfl, hb⟩ := rows_at (p := pr) hxl hrow hy
        have sa : SqL K H b _ := s1.w.lF (e1 _ _ (f67 _ _ hb))
        walk_at "go"
        refine ⟨b, _, rfl, .inl sa, fun q hq => ?_⟩
        obtain ⟨F2, e2, hq2, s2⟩ := s1.frzE hq (o := .lst (r.map fun (n : Nat) => V.int (n : Int)))
        refine ⟨ds, s2.hd, by rw [hds.len, List.length_map, List.length_take]; exact sz_lt (by omega), F2, ds ++ [.ref q], e1.trans e2, s2.put, ?_⟩
        rw [List.take_succ, hr1, Option.toList_some, List.map_append]
        exact (hds.x e2).snoc (Rp.ol hq2 Rps.nats)
      · rintro H ⟨F1, ds, e1, s1, hds⟩
        rw [hxl, List.take_length] at hds
        have s2 := s1.fz
        have e2 := s1.ext
        have hRD : Rp (upd F1 Dq (.lst ds)) (tab rows) (.ref Dq) := Rp.ol upd_same (hds.x e2)
        generalize upd F1 Dq _ = F2 at *
        have sch : SqL K H ach _ := s2.w.lF (e2 _ _ (e1 _ _ (f7 _ _ hach)))
        walk_at "go"
        refine ⟨ach, _, rfl, .inl sch, fun q hq => ?_⟩
        obtain ⟨F3, e3, hq3, s3⟩ := s2.frzE hq (o := .lst (ch.map fun (n : Nat) => V.int (n : Int)))
        walk_at "go"
        intro x dx hx hdx hne
        obtain ⟨o, ho, wd⟩ := s3
        have wd1 := wd.new hdx (o := .own x)
        have wd2 := wd1.new (p := x) (o := .ins C dx []) (by rw [upd_ne (Ne.symm hne)]; exact hx)
        refine ⟨F3, _, x, dx, l, rows, ch, .ref Dq, .ref q, rfl, wd2, hA, hRD.x e3, hT, Rp.ol hq3 Rps.nats, hch1, hch2, fun fs F8 H' e8 wd8 hM8 => ⟨rfl, ?_⟩⟩
        have f8 := e1.trans (e2.trans (e3.trans e8))
        have f78 := f67.trans f8
        refine ⟨a, p, pr, q4, qc, ach, asd, x, dx, l, rows, lead, loop, ol, oo, tl, to, t, cn, ch, sd, g, fs, _, F8, rfl, wd8, ⟨hM8, hA, hT, hR.x f78, r4.x (f5.trans f78), rc.x f78, f8 _ _ (f7 _ _ hach), f8 _ _ hasd, hsd1, hsd2, ?_⟩⟩
        exact ⟨hlead, by omega, hloop, hloop0, by omega, hol2, by omega, hoo2, hoo0, by omega, by omega, hto0, by omega, by omega, e10, g1, g2, g3⟩
end
end Tu
namespace Tu
open PySem PySem.Spec PyProof.Rows L2
/-! ### what the top leaves -/
theorem all_mk {P : Program} {w : World} {K : PySem.W.Frag} {h : Heap} {mg : Str → Option Value} {fa : Addr} (X : K.In h) (G : h.Ns mainGlobals mg) (hfa : mg "law" = some (.ref fa))
    {f_0 : Addr} {od_0 an_0 : Option Addr} {sl_0 : Array (Option Value)} {oc_0 kV_0 dc_0 pm_0 cd_0 ct_0 : Value}
    {f_1 : Addr} {od_1 an_1 : Option Addr} {sl_1 : Array (Option Value)} {oc_1 kV_1 dc_1 pm_1 cd_1 ct_1 : Value}
    {f_2 : Addr} {od_2 an_2 : Option Addr} {sl_2 : Array (Option Value)} {oc_2 kV_2 dc_2 pm_2 cd_2 ct_2 : Value}
    {f_3 : Addr} {od_3 an_3 : Option Addr} {sl_3 : Array (Option Value)} {oc_3 kV_3 dc_3 pm_3 cd_3 ct_3 : Value}
    {f_4 : Addr} {od_4 an_4 : Option Addr} {sl_4 : Array (Option Value)} {oc_4 kV_4 dc_4 pm_4 cd_4 ct_4 : Value}
    {f_5 : Addr} {od_5 an_5 : Option Addr} {sl_5 : Array (Option Value)} {oc_5 kV_5 dc_5 pm_5 cd_5 ct_5 : Value}
    {f_6 : Addr} {od_6 an_6 : Option Addr} {sl_6 : Array (Option Value)} {oc_6 kV_6 dc_6 pm_6 cd_6 ct_6 : Value}
    {f_7 : Addr} {od_7 an_7 : Option Addr} {sl_7 : Array (Option Value)} {oc_7 kV_7 dc_7 pm_7 cd_7 ct_7 : Value}
    {f_8 : Addr} {od_8 an_8 : Option Addr} {sl_8 : Array (Option Value)} {oc_8 kV_8 dc_8 pm_8 cd_8 ct_8 : Value}
    {f_9 : Addr} {od_9 an_9 : Option Addr} {sl_9 : Array (Option Value)} {oc_9 kV_9 dc_9 pm_9 cd_9 ct_9 : Value}
    {f_10 : Addr} {od_10 an_10 : Option Addr} {sl_10 : Array (Option Value)} {oc_10 kV_10 dc_10 pm_10 cd_10 ct_10 : Value}
    {f_11 : Addr} {od_11 an_11 : Option Addr} {sl_11 : Array (Option Value)} {oc_11 kV_11 dc_11 pm_11 cd_11 ct_11 : Value}
    {f_12 : Addr} {od_12 an_12 : Option Addr} {sl_12 : Array (Option Value)} {oc_12 kV_12 dc_12 pm_12 cd_12 ct_12 : Value}
    {f_13 : Addr} {od_13 an_13 : Option Addr} {sl_13 : Array (Option Value)} {oc_13 kV_13 dc_13 pm_13 cd_13 ct_13 : Value}
    {f_14 : Addr} {od_14 an_14 : Option Addr} {sl_14 : Array (Option Value)} {oc_14 kV_14 dc_14 pm_14 cd_14 ct_14 : Value}
    {f_15 : Addr} {od_15 an_15 : Option Addr} {sl_15 : Array (Option Value)} {oc_15 kV_15 dc_15 pm_15 cd_15 ct_15 : Value}
    {f_16 : Addr} {od_16 an_16 : Option Addr} {sl_16 : Array (Option Value)} {oc_16 kV_16 dc_16 pm_16 cd_16 ct_16 : Value}
    {f_17 : Addr} {od_17 an_17 : Option Addr} {sl_17 : Array (Option Value)} {oc_17 kV_17 dc_17 pm_17 cd_17 ct_17 : Value}
    {f_18 : Addr} {od_18 an_18 : Option Addr} {sl_18 : Array (Option Value)} {oc_18 kV_18 dc_18 pm_18 cd_18 ct_18 : Value}
    {f_19 : Addr} {od_19 an_19 : Option Addr} {sl_19 : Array (Option Value)} {oc_19 kV_19 dc_19 pm_19 cd_19 ct_19 : Value}
    {f_20 : Addr} {od_20 an_20 : Option Addr} {sl_20 : Array (Option Value)} {oc_20 kV_20 dc_20 pm_20 cd_20 ct_20 : Value}
    {f_21 : Addr} {od_21 an_21 : Option Addr} {sl_21 : Array (Option Value)} {oc_21 kV_21 dc_21 pm_21 cd_21 ct_21 : Value}
    {f_22 : Addr} {od_22 an_22 : Option Addr} {sl_22 : Array (Option Value)} {oc_22 kV_22 dc_22 pm_22 cd_22 ct_22 : Value}
    {f_23 : Addr} {od_23 an_23 : Option Addr} {sl_23 : Array (Option Value)} {oc_23 kV_23 dc_23 pm_23 cd_23 ct_23 : Value}
    {f_24 : Addr} {od_24 an_24 : Option Addr} {sl_24 : Array (Option Value)} {oc_24 kV_24 dc_24 pm_24 cd_24 ct_24 : Value}
    {f_25 : Addr} {od_25 an_25 : Option Addr} {sl_25 : Array (Option Value)} {oc_25 kV_25 dc_25 pm_25 cd_25 ct_25 : Value}
    {f_26 : Addr} {od_26 an_26 : Option Addr} {sl_26 : Array (Option Value)} {oc_26 kV_26 dc_26 pm_26 cd_26 ct_26 : Value}
    {f_27 : Addr} {od_27 an_27 : Option Addr} {sl_27 : Array (Option Value)} {oc_27 kV_27 dc_27 pm_27 cd_27 ct_27 : Value}
    {t_MOST_LETTERS : Tok}
    {t_SMALL : Tok} {z_SMALL : Str}
    {t_MOST_PREFIX : Tok}
    {C : Addr}
    {tk_con_max : Tok}
    {T_i_Machine : Addr} {n_i_Machine : Nat} {oct_i_Machine : Value} {odt_i_Machine : Option Addr} {slt_i_Machine : Array (Option Value)}
    {f_i_Machine : Addr} {od_i_Machine an_i_Machine : Option Addr} {sl_i_Machine : Array (Option Value)} {oc_i_Machine kV_i_Machine dc_i_Machine pm_i_Machine cd_i_Machine ct_i_Machine : Value}
    {e_i_Machine : Addr}
    {T_run_Machine : Addr} {n_run_Machine : Nat} {oct_run_Machine : Value} {odt_run_Machine : Option Addr} {slt_run_Machine : Array (Option Value)}
    {f_run_Machine : Addr} {od_run_Machine an_run_Machine : Option Addr} {sl_run_Machine : Array (Option Value)} {oc_run_Machine kV_run_Machine dc_run_Machine pm_run_Machine cd_run_Machine ct_run_Machine : Value}
    {t_run_Machine : Tok}
    {f_choose_Machine : Addr} {od_choose_Machine an_choose_Machine : Option Addr} {sl_choose_Machine : Array (Option Value)} {oc_choose_Machine kV_choose_Machine dc_choose_Machine pm_choose_Machine cd_choose_Machine ct_choose_Machine : Value}
    {pacc_Machine : Addr} {restacc_Machine : List Value}
    {f_gacc_Machine f_sacc_Machine : Addr}
    {od_gacc_Machine an_gacc_Machine : Option Addr} {sl_gacc_Machine : Array (Option Value)} {oc_gacc_Machine kV_gacc_Machine dc_gacc_Machine pm_gacc_Machine cd_gacc_Machine ct_gacc_Machine : Value}
    {od_sacc_Machine an_sacc_Machine : Option Addr} {sl_sacc_Machine : Array (Option Value)} {oc_sacc_Machine kV_sacc_Machine dc_sacc_Machine pm_sacc_Machine cd_sacc_Machine ct_sacc_Machine : Value}
    {L : Addr}
    {A : Addr}
    {B : Addr}
    (a_0 : PySem.W.nsIn K mainGlobals "_law_new" = some (some (.ref f_0)))
    (l_0 : K.lookup f_0 = some ⟨oc_0, od_0, .func (PySem.W.fnOf "_law_new" "_law_new" (defArgs (top 38)) (defBody (top 38)) (defScope (top 38)) .none kV_0 dc_0 pm_0 an_0 cd_0 ct_0), sl_0⟩)
    (c_0 : PySem.W.codeIn K cd_0 "_law_new" = true)
    (k_0 : PySem.W.keepIn K (.ref f_0) = true)
    (a_1 : PySem.W.nsIn K mainGlobals "_law_draw" = some (some (.ref f_1)))
    (l_1 : K.lookup f_1 = some ⟨oc_1, od_1, .func (PySem.W.fnOf "_law_draw" "_law_draw" (defArgs (top 39)) (defBody (top 39)) (defScope (top 39)) .none kV_1 dc_1 pm_1 an_1 cd_1 ct_1), sl_1⟩)
    (c_1 : PySem.W.codeIn K cd_1 "_law_draw" = true)
    (k_1 : PySem.W.keepIn K (.ref f_1) = true)
    (a_2 : PySem.W.nsIn K mainGlobals "_law_letters" = some (some (.ref f_2)))
    (l_2 : K.lookup f_2 = some ⟨oc_2, od_2, .func (PySem.W.fnOf "_law_letters" "_law_letters" (defArgs (top 41)) (defBody (top 41)) (defScope (top 41)) .none kV_2 dc_2 pm_2 an_2 cd_2 ct_2), sl_2⟩)
    (c_2 : PySem.W.codeIn K cd_2 "_law_letters" = true)
    (k_2 : PySem.W.keepIn K (.ref f_2) = true)
    (a_3 : PySem.W.nsIn K mainGlobals "_law_word" = some (some (.ref f_3)))
    (l_3 : K.lookup f_3 = some ⟨oc_3, od_3, .func (PySem.W.fnOf "_law_word" "_law_word" (defArgs (top 42)) (defBody (top 42)) (defScope (top 42)) .none kV_3 dc_3 pm_3 an_3 cd_3 ct_3), sl_3⟩)
    (c_3 : PySem.W.codeIn K cd_3 "_law_word" = true)
    (k_3 : PySem.W.keepIn K (.ref f_3) = true)
    (a_4 : PySem.W.nsIn K mainGlobals "_law_table" = some (some (.ref f_4)))
    (l_4 : K.lookup f_4 = some ⟨oc_4, od_4, .func (PySem.W.fnOf "_law_table" "_law_table" (defArgs (top 43)) (defBody (top 43)) (defScope (top 43)) .none kV_4 dc_4 pm_4 an_4 cd_4 ct_4), sl_4⟩)
    (c_4 : PySem.W.codeIn K cd_4 "_law_table" = true)
    (k_4 : PySem.W.keepIn K (.ref f_4) = true)
    (a_5 : PySem.W.nsIn K mainGlobals "_law_choice" = some (some (.ref f_5)))
    (l_5 : K.lookup f_5 = some ⟨oc_5, od_5, .func (PySem.W.fnOf "_law_choice" "_law_choice" (defArgs (top 44)) (defBody (top 44)) (defScope (top 44)) .none kV_5 dc_5 pm_5 an_5 cd_5 ct_5), sl_5⟩)
    (c_5 : PySem.W.codeIn K cd_5 "_law_choice" = true)
    (k_5 : PySem.W.keepIn K (.ref f_5) = true)
    (a_6 : PySem.W.nsIn K mainGlobals "_law_column" = some (some (.ref f_6)))
    (l_6 : K.lookup f_6 = some ⟨oc_6, od_6, .func (PySem.W.fnOf "_law_column" "_law_column" (defArgs (top 45)) (defBody (top 45)) (defScope (top 45)) .none kV_6 dc_6 pm_6 an_6 cd_6 ct_6), sl_6⟩)
    (c_6 : PySem.W.codeIn K cd_6 "_law_column" = true)
    (k_6 : PySem.W.keepIn K (.ref f_6) = true)
    (a_7 : PySem.W.nsIn K mainGlobals "_law_run" = some (some (.ref f_7)))
    (l_7 : K.lookup f_7 = some ⟨oc_7, od_7, .func (PySem.W.fnOf "_law_run" "_law_run" (defArgs (top 46)) (defBody (top 46)) (defScope (top 46)) .none kV_7 dc_7 pm_7 an_7 cd_7 ct_7), sl_7⟩)
    (c_7 : PySem.W.codeIn K cd_7 "_law_run" = true)
    (k_7 : PySem.W.keepIn K (.ref f_7) = true)
    (a_8 : PySem.W.nsIn K mainGlobals "_law_large" = some (some (.ref f_8)))
    (l_8 : K.lookup f_8 = some ⟨oc_8, od_8, .func (PySem.W.fnOf "_law_large" "_law_large" (defArgs (top 47)) (defBody (top 47)) (defScope (top 47)) .none kV_8 dc_8 pm_8 an_8 cd_8 ct_8), sl_8⟩)
    (c_8 : PySem.W.codeIn K cd_8 "_law_large" = true)
    (k_8 : PySem.W.keepIn K (.ref f_8) = true)
    (a_9 : PySem.W.nsIn K mainGlobals "_law_again_and_again" = some (some (.ref f_9)))
    (l_9 : K.lookup f_9 = some ⟨oc_9, od_9, .func (PySem.W.fnOf "_law_again_and_again" "_law_again_and_again" (defArgs (top 48)) (defBody (top 48)) (defScope (top 48)) .none kV_9 dc_9 pm_9 an_9 cd_9 ct_9), sl_9⟩)
    (c_9 : PySem.W.codeIn K cd_9 "_law_again_and_again" = true)
    (k_9 : PySem.W.keepIn K (.ref f_9) = true)
    (a_10 : PySem.W.nsIn K mainGlobals "_law_beginning" = some (some (.ref f_10)))
    (l_10 : K.lookup f_10 = some ⟨oc_10, od_10, .func (PySem.W.fnOf "_law_beginning" "_law_beginning" (defArgs (top 49)) (defBody (top 49)) (defScope (top 49)) .none kV_10 dc_10 pm_10 an_10 cd_10 ct_10), sl_10⟩)
    (c_10 : PySem.W.codeIn K cd_10 "_law_beginning" = true)
    (k_10 : PySem.W.keepIn K (.ref f_10) = true)
    (a_11 : PySem.W.nsIn K mainGlobals "_law_alike_words" = some (some (.ref f_11)))
    (l_11 : K.lookup f_11 = some ⟨oc_11, od_11, .func (PySem.W.fnOf "_law_alike_words" "_law_alike_words" (defArgs (top 50)) (defBody (top 50)) (defScope (top 50)) .none kV_11 dc_11 pm_11 an_11 cd_11 ct_11), sl_11⟩)
    (c_11 : PySem.W.codeIn K cd_11 "_law_alike_words" = true)
    (k_11 : PySem.W.keepIn K (.ref f_11) = true)
    (a_12 : PySem.W.nsIn K mainGlobals "_law_same" = some (some (.ref f_12)))
    (l_12 : K.lookup f_12 = some ⟨oc_12, od_12, .func (PySem.W.fnOf "_law_same" "_law_same" (defArgs (top 40)) (defBody (top 40)) (defScope (top 40)) .none kV_12 dc_12 pm_12 an_12 cd_12 ct_12), sl_12⟩)
    (c_12 : PySem.W.codeIn K cd_12 "_law_same" = true)
    (k_12 : PySem.W.keepIn K (.ref f_12) = true)
    (a_13 : PySem.W.nsIn K mainGlobals "_law_answers" = some (some (.ref f_13)))
    (l_13 : K.lookup f_13 = some ⟨oc_13, od_13, .func (PySem.W.fnOf "_law_answers" "_law_answers" (defArgs (top 51)) (defBody (top 51)) (defScope (top 51)) .none kV_13 dc_13 pm_13 an_13 cd_13 ct_13), sl_13⟩)
    (c_13 : PySem.W.codeIn K cd_13 "_law_answers" = true)
    (k_13 : PySem.W.keepIn K (.ref f_13) = true)
    (a_14 : PySem.W.nsIn K mainGlobals "_law_no_loop" = some (some (.ref f_14)))
    (l_14 : K.lookup f_14 = some ⟨oc_14, od_14, .func (PySem.W.fnOf "_law_no_loop" "_law_no_loop" (defArgs (top 52)) (defBody (top 52)) (defScope (top 52)) .none kV_14 dc_14 pm_14 an_14 cd_14 ct_14), sl_14⟩)
    (c_14 : PySem.W.codeIn K cd_14 "_law_no_loop" = true)
    (k_14 : PySem.W.keepIn K (.ref f_14) = true)
    (a_15 : PySem.W.nsIn K mainGlobals "_law_changed" = some (some (.ref f_15)))
    (l_15 : K.lookup f_15 = some ⟨oc_15, od_15, .func (PySem.W.fnOf "_law_changed" "_law_changed" (defArgs (top 53)) (defBody (top 53)) (defScope (top 53)) .none kV_15 dc_15 pm_15 an_15 cd_15 ct_15), sl_15⟩)
    (c_15 : PySem.W.codeIn K cd_15 "_law_changed" = true)
    (k_15 : PySem.W.keepIn K (.ref f_15) = true)
    (a_16 : PySem.W.nsIn K mainGlobals "check_letters" = some (some (.ref f_16)))
    (l_16 : K.lookup f_16 = some ⟨oc_16, od_16, .func (PySem.W.fnOf "check_letters" "check_letters" (defArgs (top 20)) (defBody (top 20)) (defScope (top 20)) .none kV_16 dc_16 pm_16 an_16 cd_16 ct_16), sl_16⟩)
    (c_16 : PySem.W.codeIn K cd_16 "check_letters" = true)
    (k_16 : PySem.W.keepIn K (.ref f_16) = true)
    (a_17 : PySem.W.nsIn K mainGlobals "check_word" = some (some (.ref f_17)))
    (l_17 : K.lookup f_17 = some ⟨oc_17, od_17, .func (PySem.W.fnOf "check_word" "check_word" (defArgs (top 21)) (defBody (top 21)) (defScope (top 21)) .none kV_17 dc_17 pm_17 an_17 cd_17 ct_17), sl_17⟩)
    (c_17 : PySem.W.codeIn K cd_17 "check_word" = true)
    (k_17 : PySem.W.keepIn K (.ref f_17) = true)
    (a_18 : PySem.W.nsIn K mainGlobals "check_state" = some (some (.ref f_18)))
    (l_18 : K.lookup f_18 = some ⟨oc_18, od_18, .func (PySem.W.fnOf "check_state" "check_state" (defArgs (top 32)) (defBody (top 32)) (defScope (top 32)) .none kV_18 dc_18 pm_18 an_18 cd_18 ct_18), sl_18⟩)
    (c_18 : PySem.W.codeIn K cd_18 "check_state" = true)
    (k_18 : PySem.W.keepIn K (.ref f_18) = true)
    (a_19 : PySem.W.nsIn K mainGlobals "chosen_states" = some (some (.ref f_19)))
    (l_19 : K.lookup f_19 = some ⟨oc_19, od_19, .func (PySem.W.fnOf "chosen_states" "chosen_states" (defArgs (top 33)) (defBody (top 33)) (defScope (top 33)) .none kV_19 dc_19 pm_19 an_19 cd_19 ct_19), sl_19⟩)
    (c_19 : PySem.W.codeIn K cd_19 "chosen_states" = true)
    (k_19 : PySem.W.keepIn K (.ref f_19) = true)
    (a_20 : PySem.W.nsIn K mainGlobals "check_lasso" = some (some (.ref f_20)))
    (l_20 : K.lookup f_20 = some ⟨oc_20, od_20, .func (PySem.W.fnOf "check_lasso" "check_lasso" (defArgs (top 24)) (defBody (top 24)) (defScope (top 24)) .none kV_20 dc_20 pm_20 an_20 cd_20 ct_20), sl_20⟩)
    (c_20 : PySem.W.codeIn K cd_20 "check_lasso" = true)
    (k_20 : PySem.W.keepIn K (.ref f_20) = true)
    (a_21 : PySem.W.nsIn K mainGlobals "settle" = some (some (.ref f_21)))
    (l_21 : K.lookup f_21 = some ⟨oc_21, od_21, .func (PySem.W.fnOf "settle" "settle" (defArgs (top 25)) (defBody (top 25)) (defScope (top 25)) .none kV_21 dc_21 pm_21 an_21 cd_21 ct_21), sl_21⟩)
    (c_21 : PySem.W.codeIn K cd_21 "settle" = true)
    (k_21 : PySem.W.keepIn K (.ref f_21) = true)
    (a_22 : PySem.W.nsIn K mainGlobals "answers_for_ever" = some (some (.ref f_22)))
    (l_22 : K.lookup f_22 = some ⟨oc_22, od_22, .func (PySem.W.fnOf "answers_for_ever" "answers_for_ever" (defArgs (top 26)) (defBody (top 26)) (defScope (top 26)) .none kV_22 dc_22 pm_22 an_22 cd_22 ct_22), sl_22⟩)
    (c_22 : PySem.W.codeIn K cd_22 "answers_for_ever" = true)
    (k_22 : PySem.W.keepIn K (.ref f_22) = true)
    (a_23 : PySem.W.nsIn K mainGlobals "often" = some (some (.ref f_23)))
    (l_23 : K.lookup f_23 = some ⟨oc_23, od_23, .func (PySem.W.fnOf "often" "often" (defArgs (top 27)) (defBody (top 27)) (defScope (top 27)) .none kV_23 dc_23 pm_23 an_23 cd_23 ct_23), sl_23⟩)
    (c_23 : PySem.W.codeIn K cd_23 "often" = true)
    (k_23 : PySem.W.keepIn K (.ref f_23) = true)
    (a_24 : PySem.W.nsIn K mainGlobals "always" = some (some (.ref f_24)))
    (l_24 : K.lookup f_24 = some ⟨oc_24, od_24, .func (PySem.W.fnOf "always" "always" (defArgs (top 28)) (defBody (top 28)) (defScope (top 28)) .none kV_24 dc_24 pm_24 an_24 cd_24 ct_24), sl_24⟩)
    (c_24 : PySem.W.codeIn K cd_24 "always" = true)
    (k_24 : PySem.W.keepIn K (.ref f_24) = true)
    (a_25 : PySem.W.nsIn K mainGlobals "prefix_of" = some (some (.ref f_25)))
    (l_25 : K.lookup f_25 = some ⟨oc_25, od_25, .func (PySem.W.fnOf "prefix_of" "prefix_of" (defArgs (top 29)) (defBody (top 29)) (defScope (top 29)) .none kV_25 dc_25 pm_25 an_25 cd_25 ct_25), sl_25⟩)
    (c_25 : PySem.W.codeIn K cd_25 "prefix_of" = true)
    (k_25 : PySem.W.keepIn K (.ref f_25) = true)
    (a_26 : PySem.W.nsIn K mainGlobals "same_lasso" = some (some (.ref f_26)))
    (l_26 : K.lookup f_26 = some ⟨oc_26, od_26, .func (PySem.W.fnOf "same_lasso" "same_lasso" (defArgs (top 30)) (defBody (top 30)) (defScope (top 30)) .none kV_26 dc_26 pm_26 an_26 cd_26 ct_26), sl_26⟩)
    (c_26 : PySem.W.codeIn K cd_26 "same_lasso" = true)
    (k_26 : PySem.W.keepIn K (.ref f_26) = true)
    (a_27 : PySem.W.nsIn K mainGlobals "law" = some (some (.ref f_27)))
    (l_27 : K.lookup f_27 = some ⟨oc_27, od_27, .func (PySem.W.fnOf "law" "law" (defArgs (top 54)) (defBody (top 54)) (defScope (top 54)) .none kV_27 dc_27 pm_27 an_27 cd_27 ct_27), sl_27⟩)
    (c_27 : PySem.W.codeIn K cd_27 "law" = true)
    (k_27 : PySem.W.keepIn K (.ref f_27) = true)
    (n_len : PySem.W.nsIn K mainGlobals "len" = some none)
    (n_int : PySem.W.nsIn K mainGlobals "int" = some none)
    (n_list : PySem.W.nsIn K mainGlobals "list" = some none)
    (n_tuple : PySem.W.nsIn K mainGlobals "tuple" = some none)
    (n_range : PySem.W.nsIn K mainGlobals "range" = some none)
    (n_enumerate : PySem.W.nsIn K mainGlobals "enumerate" = some none)
    (n_max : PySem.W.nsIn K mainGlobals "max" = some none)
    (n_isinstance : PySem.W.nsIn K mainGlobals "isinstance" = some none)
    (n_bool : PySem.W.nsIn K mainGlobals "bool" = some none)
    (n_str : PySem.W.nsIn K mainGlobals "str" = some none)
    (n_ValueError : PySem.W.nsIn K mainGlobals "ValueError" = some none)
    (g_MOST_LETTERS : PySem.W.nsIn K mainGlobals "MOST_LETTERS" = some (some (.int 3 t_MOST_LETTERS)))
    (g_SMALL : PySem.W.nsIn K mainGlobals "SMALL" = some (some (.str z_SMALL t_SMALL)))
    (s_SMALL : z_SMALL = "abcdefghijklmnopqrstuvwxyz")
    (g_MOST_PREFIX : PySem.W.nsIn K mainGlobals "MOST_PREFIX" = some (some (.int 1000 t_MOST_PREFIX)))
    (aC : PySem.W.nsIn K mainGlobals "Machine" = some (some (.ref C)))
    (pgC : PySem.W.plainGet K C Str.empty = true)
    (hdC : PySem.W.hasDictIn K C = true)
    (poC : PySem.W.plainOver K C = true)
    (saC : PySem.W.findIn K (.ref C) "__setattr__" = some (some (.builtin "object.__setattr__")))
    (mkC : PySem.W.makesIn K C = true)
    (kcC : PySem.W.keepIn K (.ref C) = true)
    (na_letters : PySem.W.findIn K (.ref C) "letters" = some none)
    (na_rows : PySem.W.findIn K (.ref C) "rows" = some none)
    (na_acc : PySem.W.findIn K (.ref C) "_accepting" = some none)
    (v_con_max : PySem.W.findIn K (.ref C) "MOST_STATES" = some (some (.int 32 tk_con_max)))
    (s_con_max : PySem.W.specialIn K (.int 32 tk_con_max) "__get__" = some none)
    (a_i_Machine : PySem.W.findIn K (.ref C) "__init__" = some (some (.ref f_i_Machine)))
    (i_i_Machine : PySem.W.isFn K (.ref f_i_Machine) = true)
    (l_i_Machine : K.lookup f_i_Machine = some ⟨oc_i_Machine, od_i_Machine, .func (PySem.W.fnOf "__init__" "Machine.__init__" (defArgs (inClass (top 34) 1)) (defBody (inClass (top 34) 1)) (defScope (inClass (top 34) 1)) (.ref T_i_Machine) kV_i_Machine dc_i_Machine pm_i_Machine an_i_Machine cd_i_Machine ct_i_Machine), sl_i_Machine⟩)
    (c_i_Machine : PySem.W.codeIn K cd_i_Machine "Machine.__init__" = true)
    (k_i_Machine : PySem.W.keepIn K (.ref f_i_Machine) = true)
    (d_i_Machine : K.lookup T_i_Machine = some ⟨oct_i_Machine, odt_i_Machine, .seq ([.ref e_i_Machine] : List Value).toArray n_i_Machine, slt_i_Machine⟩)
    (a_run_Machine : PySem.W.findIn K (.ref C) "run" = some (some (.ref f_run_Machine)))
    (i_run_Machine : PySem.W.isFn K (.ref f_run_Machine) = true)
    (l_run_Machine : K.lookup f_run_Machine = some ⟨oc_run_Machine, od_run_Machine, .func (PySem.W.fnOf "run" "Machine.run" (defArgs (inClass (top 34) 13)) (defBody (inClass (top 34) 13)) (defScope (inClass (top 34) 13)) (.ref T_run_Machine) kV_run_Machine dc_run_Machine pm_run_Machine an_run_Machine cd_run_Machine ct_run_Machine), sl_run_Machine⟩)
    (c_run_Machine : PySem.W.codeIn K cd_run_Machine "Machine.run" = true)
    (k_run_Machine : PySem.W.keepIn K (.ref f_run_Machine) = true)
    (d_run_Machine : K.lookup T_run_Machine = some ⟨oct_run_Machine, odt_run_Machine, .seq ([.int 0 t_run_Machine] : List Value).toArray n_run_Machine, slt_run_Machine⟩)
    (a_choose_Machine : PySem.W.findIn K (.ref C) "choose" = some (some (.ref f_choose_Machine)))
    (i_choose_Machine : PySem.W.isFn K (.ref f_choose_Machine) = true)
    (l_choose_Machine : K.lookup f_choose_Machine = some ⟨oc_choose_Machine, od_choose_Machine, .func (PySem.W.fnOf "choose" "Machine.choose" (defArgs (inClass (top 34) 6)) (defBody (inClass (top 34) 6)) (defScope (inClass (top 34) 6)) .none kV_choose_Machine dc_choose_Machine pm_choose_Machine an_choose_Machine cd_choose_Machine ct_choose_Machine), sl_choose_Machine⟩)
    (c_choose_Machine : PySem.W.codeIn K cd_choose_Machine "Machine.choose" = true)
    (k_choose_Machine : PySem.W.keepIn K (.ref f_choose_Machine) = true)
    (aacc_Machine : PySem.W.findIn K (.ref C) "accepting" = some (some (.ref pacc_Machine)))
    (gacc_Machine : PySem.W.specialIn K (.ref pacc_Machine) "__get__" = some (some (.builtin "property.__get__")))
    (tacc_Machine : PySem.W.takesIn K (.ref pacc_Machine) = some true)
    (racc_Machine : PySem.W.recIn K pacc_Machine "property" = some (.ref f_gacc_Machine :: .ref f_sacc_Machine :: restacc_Machine))
    (tkacc_Machine : PySem.W.takerIn K C "accepting" = some (some (.ref pacc_Machine)))
    (tyacc_Machine : PySem.W.typeIn K (.ref pacc_Machine) = some (.type "property"))
    (l_gacc_Machine : K.lookup f_gacc_Machine = some ⟨oc_gacc_Machine, od_gacc_Machine, .func (PySem.W.fnOf "accepting" "Machine.accepting" (defArgs (inClass (top 34) 4)) (defBody (inClass (top 34) 4)) (defScope (inClass (top 34) 4)) .none kV_gacc_Machine dc_gacc_Machine pm_gacc_Machine an_gacc_Machine cd_gacc_Machine ct_gacc_Machine), sl_gacc_Machine⟩)
    (c_gacc_Machine : PySem.W.codeIn K cd_gacc_Machine "Machine.accepting" = true)
    (k_gacc_Machine : PySem.W.keepIn K (.ref f_gacc_Machine) = true)
    (l_sacc_Machine : K.lookup f_sacc_Machine = some ⟨oc_sacc_Machine, od_sacc_Machine, .func (PySem.W.fnOf "accepting" "Machine.accepting" (defArgs (inClass (top 34) 5)) (defBody (inClass (top 34) 5)) (defScope (inClass (top 34) 5)) .none kV_sacc_Machine dc_sacc_Machine pm_sacc_Machine an_sacc_Machine cd_sacc_Machine ct_sacc_Machine), sl_sacc_Machine⟩)
    (c_sacc_Machine : PySem.W.codeIn K cd_sacc_Machine "Machine.accepting" = true)
    (k_sacc_Machine : PySem.W.keepIn K (.ref f_sacc_Machine) = true)
    (gL : PySem.W.nsIn K mainGlobals "LassoError" = some (some (.ref L)))
    (xL : PySem.W.excIn K L [.type "ValueError", .type "Exception", .type "BaseException", .type "object"] "ValueError.__new__" = true)
    (kL : PySem.W.keepIn K (.ref L) = true)
    (bL : PySem.W.subIn K (.ref L) (.type "BaseException") = some true)
    (tL : PySem.W.typeIn K (.ref L) = some (.type "type"))
    (isL : PySem.W.isClsIn K L = true)
    (sL : PySem.W.subIn K (.ref L) (.ref L) = some true)
    (svL : PySem.W.subIn K (.ref L) (.type "ValueError") = some true)
    (h1L : PySem.W.findIn K (.ref L) "__getattribute__" = some (some (.builtin "BaseException.__getattribute__")))
    (h2L : PySem.W.findIn K (.ref L) "__getattr__" = some none)
    (h3L : PySem.W.hasDictIn K L = true)
    (h4L : PySem.W.findIn K (.ref L) "__class__" = some (some (.builtin "object.__class__")))
    (h5L : PySem.W.specialIn K (.builtin "object.__class__") "__get__" = some (some (.builtin "getset_descriptor.__get__")))
    (h6L : PySem.W.takesIn K (.builtin "object.__class__") = some true)
    (h7L : PySem.W.mroIn K L (.type "object") = some true)
    (gA : PySem.W.nsIn K mainGlobals "LetterError" = some (some (.ref A)))
    (isA : PySem.W.isClsIn K A = true)
    (tA : PySem.W.typeIn K (.ref A) = some (.type "type"))
    (sA : PySem.W.subIn K (.ref L) (.ref A) = some false)
    (gB : PySem.W.nsIn K mainGlobals "LimitError" = some (some (.ref B)))
    (isB : PySem.W.isClsIn K B = true)
    (tB : PySem.W.typeIn K (.ref B) = some (.type "type"))
    (sB : PySem.W.subIn K (.ref L) (.ref B) = some false)
    : ∃ fd : FuncData, (∀ (s : Shared) (v : Value), BindsTo s fd ⟨[v], []⟩ [("script", v)]) ∧ ∀ base : Heap, K.In base → base.Ns mainGlobals mg → FnOk P w K mg base CX0 13 fa fd ["script"] (spLaw K) := by
  have e := hfa.symm.trans (PySem.W.mg_of X G a_27)
  cases e
  have T : Txt K mg C := {
    d__law_new := ⟨_, _, fun_mk (st := top 38) l_0 c_0 k_0, PySem.W.mg_of X G a_0⟩,
    d__law_draw := ⟨_, _, fun_mk (st := top 39) l_1 c_1 k_1, PySem.W.mg_of X G a_1⟩,
    d__law_letters := ⟨_, _, fun_mk (st := top 41) l_2 c_2 k_2, PySem.W.mg_of X G a_2⟩,
    d__law_word := ⟨_, _, fun_mk (st := top 42) l_3 c_3 k_3, PySem.W.mg_of X G a_3⟩,
    d__law_table := ⟨_, _, fun_mk (st := top 43) l_4 c_4 k_4, PySem.W.mg_of X G a_4⟩,
    d__law_choice := ⟨_, _, fun_mk (st := top 44) l_5 c_5 k_5, PySem.W.mg_of X G a_5⟩,
    d__law_column := ⟨_, _, fun_mk (st := top 45) l_6 c_6 k_6, PySem.W.mg_of X G a_6⟩,
    d__law_run := ⟨_, _, fun_mk (st := top 46) l_7 c_7 k_7, PySem.W.mg_of X G a_7⟩,
    d__law_large := ⟨_, _, fun_mk (st := top 47) l_8 c_8 k_8, PySem.W.mg_of X G a_8⟩,
    d__law_again_and_again := ⟨_, _, fun_mk (st := top 48) l_9 c_9 k_9, PySem.W.mg_of X G a_9⟩,
    d__law_beginning := ⟨_, _, fun_mk (st := top 49) l_10 c_10 k_10, PySem.W.mg_of X G a_10⟩,
    d__law_alike_words := ⟨_, _, fun_mk (st := top 50) l_11 c_11 k_11, PySem.W.mg_of X G a_11⟩,
    d__law_same := ⟨_, _, fun_mk (st := top 40) l_12 c_12 k_12, PySem.W.mg_of X G a_12⟩,
    d__law_answers := ⟨_, _, fun_mk (st := top 51) l_13 c_13 k_13, PySem.W.mg_of X G a_13⟩,
    d__law_no_loop := ⟨_, _, fun_mk (st := top 52) l_14 c_14 k_14, PySem.W.mg_of X G a_14⟩,
    d__law_changed := ⟨_, _, fun_mk (st := top 53) l_15 c_15 k_15, PySem.W.mg_of X G a_15⟩,
    d_check_letters := ⟨_, _, fun_mk (st := top 20) l_16 c_16 k_16, PySem.W.mg_of X G a_16⟩,
    d_check_word := ⟨_, _, fun_mk (st := top 21) l_17 c_17 k_17, PySem.W.mg_of X G a_17⟩,
    d_check_state := ⟨_, _, fun_mk (st := top 32) l_18 c_18 k_18, PySem.W.mg_of X G a_18⟩,
    d_chosen_states := ⟨_, _, fun_mk (st := top 33) l_19 c_19 k_19, PySem.W.mg_of X G a_19⟩,
    d_check_lasso := ⟨_, _, fun_mk (st := top 24) l_20 c_20 k_20, PySem.W.mg_of X G a_20⟩,
    d_settle := ⟨_, _, fun_mk (st := top 25) l_21 c_21 k_21, PySem.W.mg_of X G a_21⟩,
    d_answers_for_ever := ⟨_, _, fun_mk (st := top 26) l_22 c_22 k_22, PySem.W.mg_of X G a_22⟩,
    d_often := ⟨_, _, fun_mk (st := top 27) l_23 c_23 k_23, PySem.W.mg_of X G a_23⟩,
    d_always := ⟨_, _, fun_mk (st := top 28) l_24 c_24 k_24, PySem.W.mg_of X G a_24⟩,
    d_prefix_of := ⟨_, _, fun_mk (st := top 29) l_25 c_25 k_25, PySem.W.mg_of X G a_25⟩,
    d_same_lasso := ⟨_, _, fun_mk (st := top 30) l_26 c_26 k_26, PySem.W.mg_of X G a_26⟩,
    d_law := ⟨_, _, fun_mk (st := top 54) l_27 c_27 k_27, PySem.W.mg_of X G a_27⟩,
    n_len := PySem.W.mg_none_of X G n_len,
    n_int := PySem.W.mg_none_of X G n_int,
    n_list := PySem.W.mg_none_of X G n_list,
    n_tuple := PySem.W.mg_none_of X G n_tuple,
    n_range := PySem.W.mg_none_of X G n_range,
    n_enumerate := PySem.W.mg_none_of X G n_enumerate,
    n_max := PySem.W.mg_none_of X G n_max,
    n_isinstance := PySem.W.mg_none_of X G n_isinstance,
    n_bool := PySem.W.mg_none_of X G n_bool,
    n_str := PySem.W.mg_none_of X G n_str,
    n_ValueError := PySem.W.mg_none_of X G n_ValueError,
    g_MOST_LETTERS := ⟨_, PySem.W.mg_of X G g_MOST_LETTERS⟩,
    g_SMALL := ⟨t_SMALL, by rw [PySem.W.mg_of X G g_SMALL, s_SMALL]⟩,
    g_MOST_PREFIX := ⟨_, PySem.W.mg_of X G g_MOST_PREFIX⟩,
    cl_Machine := ⟨pgC, hdC, poC, saC⟩,
    m_Machine := PySem.W.mg_of X G aC,
    na_letters := na_letters,
    na_rows := na_rows,
    na_acc := na_acc,
    con_max := ⟨_, v_con_max, ⟨_, rfl⟩, s_con_max, by decide⟩,
    i_Machine := ⟨_, _, (.ref e_i_Machine : V), ⟨⟨_, _, _, _, _, _, _, _, _, _, rfl, l_i_Machine, c_i_Machine, .inr ⟨by simp, _, _, _, _, rfl, d_i_Machine, rfl, .cons rfl .nil⟩, .inl rfl⟩, k_i_Machine⟩, ⟨mkC, a_i_Machine, i_i_Machine, kcC⟩⟩,
    run_Machine := ⟨_, _, ⟨⟨_, _, _, _, _, _, _, _, _, _, rfl, l_run_Machine, c_run_Machine, .inr ⟨by simp, _, _, _, _, rfl, d_run_Machine, rfl, .cons ⟨_, rfl⟩ .nil⟩, .inl rfl⟩, k_run_Machine⟩, ⟨a_run_Machine, i_run_Machine, k_run_Machine⟩⟩,
    choose_Machine := ⟨_, _, fun_mk (st := inClass (top 34) 6) l_choose_Machine c_choose_Machine k_choose_Machine, ⟨a_choose_Machine, i_choose_Machine, k_choose_Machine⟩⟩,
    acc_Machine := ⟨_, _, _, _, _, fun_mk (st := inClass (top 34) 4) l_gacc_Machine c_gacc_Machine k_gacc_Machine, ⟨aacc_Machine, gacc_Machine, tacc_Machine, _, racc_Machine⟩, fun_mk (st := inClass (top 34) 5) l_sacc_Machine c_sacc_Machine k_sacc_Machine, ⟨tkacc_Machine, tyacc_Machine, _, _, racc_Machine⟩⟩ }
  have TX : TxtX K mg L A B := {
    gL := PySem.W.mg_of X G gL,
    xL := xL,
    kL := kL,
    bL := bL,
    tL := tL,
    eL := exm_refl bL isL tL sL,
    cL := ⟨h1L, h2L, bL, h3L, h4L, h5L, h6L, h7L⟩,
    vL := kit_type (by decide) svL,
    gA := PySem.W.mg_of X G gA,
    gB := PySem.W.mg_of X G gB,
    aL := kit_no sL isA tA sA,
    lL := kit_no sL isB tB sB }
  exact ⟨_, fun s v => .of_eq rfl, fun base _ _ => ok_law T TX (fun_mk (st := top 54) l_27 c_27 k_27)⟩
theorem walk {l : PySem.W.OpenLaw} {q : Program} {loose : List Str} {XP : (Str → Option Value) → Heap → Prop} {YP : World → Heap → Prop} {d : DefRec} {K : Params → PySem.W.Frag} (hn : l.most = some 63) (hdf : d.params.defaults = [])
    (hY : ∀ (w : World) (h : Heap), YP w h → (K w.params).In h)
    (F : ∀ (w : World) (mg : Str → Option Value) (fa : Addr) (h : Heap), (K w.params).In h → h.Ns mainGlobals mg → mg d.name = some (.ref fa) →
      ∃ fd : FuncData, (∀ (s : Shared) (u : Value), BindsTo s fd ⟨[u], []⟩ [("script", u)]) ∧ ∀ base : Heap, (K w.params).In base → base.Ns mainGlobals mg → FnOk l.prog w (K w.params) mg base CX0 13 fa fd ["script"] (spLaw (K w.params))) :
    PySem.W.WalkO q loose XP YP l.row.toRowW d [] (fun f vs => PySem.call f vs) :=
  L2.walk_ofB (n := 63) (k := 13) (x := "script") (CX := fun _ => CX0) (sp := fun w => spLaw (K w.params)) hn (by decide) hdf ⟨rfl, by decide, by decide⟩ hY F (fun _ _ a ns hl hb _ hS => ⟨a, ns, rfl, hS, hl, fun z hz => bits_of (hb z hz), fun _ => rfl⟩) fun _ _ _ _ _ z => z
end Tu
open PySem PySem.W PyProof.Rows
set_option maxRecDepth 100000 in
set_option maxHeartbeats 0 in
theorem PySem.Challenge.cw_turtlestold_k52_whole_words_without_end_holds : PySem.Challenge.rw_turtlestold_k52_whole_words_without_end.Holds := by
  w_on; o_law; k_headLK; (case hw => w_witness2)
  k_fill
  refine Tu.walk (l := PySem.Challenge.rw_turtlestold_k52_whole_words_without_end) rfl rfl (fun w h Y => PySem.W.kIn_of Y) ?F
  case F =>
    intro w mg fa h KX G hmg
    refine' Tu.all_mk KX G hmg ?a_0 ?l_0 ?c_0 ?k_0 ?a_1 ?l_1 ?c_1 ?k_1 ?a_2 ?l_2 ?c_2 ?k_2 ?a_3 ?l_3 ?c_3 ?k_3 ?a_4 ?l_4 ?c_4 ?k_4 ?a_5 ?l_5 ?c_5 ?k_5 ?a_6 ?l_6 ?c_6 ?k_6 ?a_7 ?l_7 ?c_7 ?k_7 ?a_8 ?l_8 ?c_8 ?k_8 ?a_9 ?l_9 ?c_9 ?k_9 ?a_10 ?l_10 ?c_10 ?k_10 ?a_11 ?l_11 ?c_11 ?k_11 ?a_12 ?l_12 ?c_12 ?k_12 ?a_13 ?l_13 ?c_13 ?k_13 ?a_14 ?l_14 ?c_14 ?k_14 ?a_15 ?l_15 ?c_15 ?k_15 ?a_16 ?l_16 ?c_16 ?k_16 ?a_17 ?l_17 ?c_17 ?k_17 ?a_18 ?l_18 ?c_18 ?k_18 ?a_19 ?l_19 ?c_19 ?k_19 ?a_20 ?l_20 ?c_20 ?k_20 ?a_21 ?l_21 ?c_21 ?k_21 ?a_22 ?l_22 ?c_22 ?k_22 ?a_23 ?l_23 ?c_23 ?k_23 ?a_24 ?l_24 ?c_24 ?k_24 ?a_25 ?l_25 ?c_25 ?k_25 ?a_26 ?l_26 ?c_26 ?k_26 ?a_27 ?l_27 ?c_27 ?k_27 ?n_len ?n_int ?n_list ?n_tuple ?n_range ?n_enumerate ?n_max ?n_isinstance ?n_bool ?n_str ?n_ValueError ?g_MOST_LETTERS ?g_SMALL ?s_SMALL ?g_MOST_PREFIX ?aC ?pgC ?hdC ?poC ?saC ?mkC ?kcC ?na_letters ?na_rows ?na_acc ?v_con_max ?s_con_max ?a_i_Machine ?i_i_Machine ?l_i_Machine ?c_i_Machine ?k_i_Machine ?d_i_Machine ?a_run_Machine ?i_run_Machine ?l_run_Machine ?c_run_Machine ?k_run_Machine ?d_run_Machine ?a_choose_Machine ?i_choose_Machine ?l_choose_Machine ?c_choose_Machine ?k_choose_Machine ?aacc_Machine ?gacc_Machine ?tacc_Machine ?racc_Machine ?tkacc_Machine ?tyacc_Machine ?l_gacc_Machine ?c_gacc_Machine ?k_gacc_Machine ?l_sacc_Machine ?c_sacc_Machine ?k_sacc_Machine ?gL ?xL ?kL ?bL ?tL ?isL ?sL ?svL ?h1L ?h2L ?h3L ?h4L ?h5L ?h6L ?h7L ?gA ?isA ?tA ?sA ?gB ?isB ?tB ?sB
    (case a_0 => k_is)
    (case l_0 => k_is)
    (case c_0 => k_is)
    (case k_0 => k_is)
    (case a_1 => k_is)
    (case l_1 => k_is)
    (case c_1 => k_is)
    (case k_1 => k_is)
    (case a_2 => k_is)
    (case l_2 => k_is)
    (case c_2 => k_is)
    (case k_2 => k_is)
    (case a_3 => k_is)
    (case l_3 => k_is)
    (case c_3 => k_is)
    (case k_3 => k_is)
    (case a_4 => k_is)
    (case l_4 => k_is)
    (case c_4 => k_is)
    (case k_4 => k_is)
    (case a_5 => k_is)
    (case l_5 => k_is)
    (case c_5 => k_is)
    (case k_5 => k_is)
    (case a_6 => k_is)
    (case l_6 => k_is)
    (case c_6 => k_is)
    (case k_6 => k_is)
    (case a_7 => k_is)
    (case l_7 => k_is)
    (case c_7 => k_is)
    (case k_7 => k_is)
    (case a_8 => k_is)
    (case l_8 => k_is)
    (case c_8 => k_is)
    (case k_8 => k_is)
    (case a_9 => k_is)
    (case l_9 => k_is)
    (case c_9 => k_is)
    (case k_9 => k_is)
    (case a_10 => k_is)
    (case l_10 => k_is)
    (case c_10 => k_is)
    (case k_10 => k_is)
    (case a_11 => k_is)
    (case l_11 => k_is)
    (case c_11 => k_is)
    (case k_11 => k_is)
    (case a_12 => k_is)
    (case l_12 => k_is)
    (case c_12 => k_is)
    (case k_12 => k_is)
    (case a_13 => k_is)
    (case l_13 => k_is)
    (case c_13 => k_is)
    (case k_13 => k_is)
    (case a_14 => k_is)
    (case l_14 => k_is)
    (case c_14 => k_is)
    (case k_14 => k_is)
    (case a_15 => k_is)
    (case l_15 => k_is)
    (case c_15 => k_is)
    (case k_15 => k_is)
    (case a_16 => k_is)
    (case l_16 => k_is)
    (case c_16 => k_is)
    (case k_16 => k_is)
    (case a_17 => k_is)
    (case l_17 => k_is)
    (case c_17 => k_is)
    (case k_17 => k_is)
    (case a_18 => k_is)
    (case l_18 => k_is)
    (case c_18 => k_is)
    (case k_18 => k_is)
    (case a_19 => k_is)
    (case l_19 => k_is)
    (case c_19 => k_is)
    (case k_19 => k_is)
    (case a_20 => k_is)
    (case l_20 => k_is)
    (case c_20 => k_is)
    (case k_20 => k_is)
    (case a_21 => k_is)
    (case l_21 => k_is)
    (case c_21 => k_is)
    (case k_21 => k_is)
    (case a_22 => k_is)
    (case l_22 => k_is)
    (case c_22 => k_is)
    (case k_22 => k_is)
    (case a_23 => k_is)
    (case l_23 => k_is)
    (case c_23 => k_is)
    (case k_23 => k_is)
    (case a_24 => k_is)
    (case l_24 => k_is)
    (case c_24 => k_is)
    (case k_24 => k_is)
    (case a_25 => k_is)
    (case l_25 => k_is)
    (case c_25 => k_is)
    (case k_25 => k_is)
    (case a_26 => k_is)
    (case l_26 => k_is)
    (case c_26 => k_is)
    (case k_26 => k_is)
    (case a_27 => k_is)
    (case l_27 => k_is)
    (case c_27 => k_is)
    (case k_27 => k_is)
    (case n_len => k_is)
    (case n_int => k_is)
    (case n_list => k_is)
    (case n_tuple => k_is)
    (case n_range => k_is)
    (case n_enumerate => k_is)
    (case n_max => k_is)
    (case n_isinstance => k_is)
    (case n_bool => k_is)
    (case n_str => k_is)
    (case n_ValueError => k_is)
    (case g_MOST_LETTERS => k_is)
    (case g_SMALL => k_is)
    (case s_SMALL => decide +kernel)
    (case g_MOST_PREFIX => k_is)
    (case aC => k_is)
    (case pgC => k_is)
    (case hdC => k_is)
    (case poC => k_is)
    (case saC => k_is)
    (case mkC => k_is)
    (case kcC => k_is)
    (case na_letters => k_is)
    (case na_rows => k_is)
    (case na_acc => k_is)
    (case v_con_max => k_is)
    (case s_con_max => k_is)
    (case a_i_Machine => k_is)
    (case i_i_Machine => k_is)
    (case l_i_Machine => k_is)
    (case c_i_Machine => k_is)
    (case k_i_Machine => k_is)
    (case d_i_Machine => k_is)
    (case a_run_Machine => k_is)
    (case i_run_Machine => k_is)
    (case l_run_Machine => k_is)
    (case c_run_Machine => k_is)
    (case k_run_Machine => k_is)
    (case d_run_Machine => k_is)
    (case a_choose_Machine => k_is)
    (case i_choose_Machine => k_is)
    (case l_choose_Machine => k_is)
    (case c_choose_Machine => k_is)
    (case k_choose_Machine => k_is)
    (case aacc_Machine => k_is)
    (case gacc_Machine => k_is)
    (case tacc_Machine => k_is)
    (case racc_Machine => k_is)
    (case tkacc_Machine => k_is)
    (case tyacc_Machine => k_is)
    (case l_gacc_Machine => k_is)
    (case c_gacc_Machine => k_is)
    (case k_gacc_Machine => k_is)
    (case l_sacc_Machine => k_is)
    (case c_sacc_Machine => k_is)
    (case k_sacc_Machine => k_is)
    (case gL => k_is)
    (case xL => k_exc)
    (case kL => k_is)
    (case bL => k_is)
    (case tL => k_is)
    (case isL => k_is)
    (case sL => k_is)
    (case svL => k_is)
    (case h1L => k_is)
    (case h2L => k_is)
    (case h3L => k_is)
    (case h4L => k_is)
    (case h5L => k_is)
    (case h6L => k_is)
    (case h7L => k_is)
    (case gA => k_is)
    (case isA => k_is)
    (case tA => k_is)
    (case sA => k_is)
    (case gB => k_is)
    (case isB => k_is)
    (case tB => k_is)
    (case sB => k_is)
