import PyProof.Rows.All
import Wide.All
import OpenK.AllK
import Wide.FinOn
import Lean
import PySem.Challenge.RW_nn0298_01
open PySem PySem.W PyProof.Rows
set_option Elab.async false
set_option maxRecDepth 100000
set_option maxHeartbeats 8000000
set_option rowWalk.seconds 0
set_option linter.all false
namespace Mine
theorem holes3 {A B C D : Prop} (_ : A) (_ : B) (_ : C) (d : D) : D := d
theorem hd (H : ∀ P : Prop, P) : PySem.Challenge.rw_nn0298_01.Holds := by
  refine holds_law (H _) fun _ => ?_
  refine' holes3 ?hl ?hw ?hc ?k
  case k => k_head
  case hl => exact H _
  case hw => exact H _
  case hc => exact H _
abbrev asK : List Addr := [2, 3, 15, 17, 18, 20, 21, 22, 24, 25, 27, 28, 29, 31, 32, 34, 35, 36, 38, 39, 41, 42, 43, 45, 46, 48, 49, 50, 52, 53, 55, 56, 57, 59, 60, 62, 63, 64, 66, 67, 69, 70, 71, 73, 74, 76, 77, 78, 80, 81, 83, 84, 85, 87, 88, 90, 91, 92, 94, 95, 97, 98, 99, 101, 102, 104, 105, 106, 108, 109, 111, 112, 113, 115, 116, 118, 119, 120, 122, 123, 125, 126, 127, 129, 130, 132, 133, 134, 136, 137, 139, 140, 141, 143, 144, 146, 147, 148, 150, 151, 153, 154, 155, 157, 158, 160, 161, 162, 164, 165, 167, 168, 169, 171, 172, 174, 175, 176, 178, 179, 181, 182, 183, 185, 186, 188, 189, 190, 192, 193, 195, 196, 197, 199, 200, 202, 203, 204, 206, 207, 209, 210, 211, 213, 214, 216, 217, 218, 220, 221, 223, 224, 225, 227, 228, 230, 231, 232, 234, 235, 237, 238, 239, 241, 242, 244, 245, 246, 248, 249, 251, 252, 253, 255, 256, 258, 259, 260, 263, 264]
theorem asK_eq : ∀ P, asK = (hd.heap_1 P).map (·.1) := fun _ => by kernel_rfl
theorem hl_ok : LeftO PySem.Challenge.rw_nn0298_01.row.prog hd.view_1 [] (fun s => xlAt hd.view_1 [] s && recOk PySem.Challenge.rw_nn0298_01.row.records s) (kHook hd.heap_1 asK asK_eq).obs (kHook hd.heap_1 asK asK_eq).val 2394 := by
  intro w
  kernel_rfl!
theorem fresh1 : True := by
  w_top off
  k_with_none
  (try walk1)
  exact trivial
abbrev V3 := Int × Int × Int
abbrev bAnd := Builtin.bitAnd
abbrev bOr := Builtin.bitOr
abbrev bXor := Builtin.bitXor
def sMask (n : Int) : Int := 1 * 2 ^ n.toNat - 1
def sZ (n a b : Int) : V3 := (n, bOr a b, b)
def sOne (c : Int) : V3 := (1, bAnd c 1, c.fdiv (2 ^ 1))
def sTruth (n a b : Int) : Int := if bAnd a (bXor b (sMask n)) ≠ 0 then 1 else if a = 0 ∧ b = 0 then 0 else 3
def sNot (n a b : Int) : V3 := (n, bOr (bXor a (sMask n)) b, b)
def sNotV (v : V3) : V3 := sNot v.1 v.2.1 v.2.2
def sAnd (_n a b c d : Int) : V3 := (_n, bAnd (bOr a b) (bOr c d), bAnd (bAnd (bOr a b) (bOr c d)) (bOr b d))
def sOr (n a b c d : Int) : V3 := (n, bOr (bOr a b) (bOr c d), bXor (bOr (bOr a b) (bOr c d)) (bOr (bAnd (bOr a b) (bXor b (sMask n))) (bAnd (bOr c d) (bXor d (sMask n)))))
def sXor (n a b c d : Int) : V3 := (n, bOr (bXor a c) (bOr b d), bOr b d)
def sXnor (n a b c d : Int) : V3 := sNotV (sXor n a b c d)
def sRAnd (n a b : Int) : V3 := sOne (if bOr a b ≠ sMask n then 0 else if b = 0 then 1 else 3)
def sROr (n a b : Int) : V3 := sOne (sTruth n a b)
def sLAnd (x y : Int) : V3 := sAnd 1 (sOne x).2.1 (sOne x).2.2 (sOne y).2.1 (sOne y).2.2
def sLOr (x y : Int) : V3 := sOr 1 (sOne x).2.1 (sOne x).2.2 (sOne y).2.1 (sOne y).2.2
def sEq (n a b c d : Int) : V3 := sOne (if bAnd (bXor a c) (bXor (bOr b d) (sMask n)) ≠ 0 then 0 else if bOr b d = 0 then 1 else 3)
def sCEq (n a b k c d : Int) : V3 := sOne (if n = k ∧ a = c ∧ b = d then 1 else 0)
def sCNe (n a b k c d : Int) : V3 := sOne (if n = k ∧ a = c ∧ b = d then 0 else 1)
def sFree0 (_n a b _k c d : Int) : Int := 0
def sFreeZ (_n a b _k c d : Int) : Int := bOr (bAnd b (bXor b a)) (bAnd d (bXor d c))
def sFreeX (_n a b _k c d : Int) : Int := bOr b d
def sMatch (free n a b c d : Int) : Bool := (bAnd (bXor a c) (bXor (sMask n) free) == 0) && (bAnd (bXor b d) (bXor (sMask n) free) == 0)
def sMix (n a b c d : Int) : V3 :=
  (n, bOr (bAnd a (bXor (sMask n) (bOr (bOr (bXor a c) b) d))) (bXor (sMask n) (bXor (sMask n) (bOr (bOr (bXor a c) b) d))), bXor (sMask n) (bXor (sMask n) (bOr (bOr (bXor a c) b) d)))
def sChoose (x n a b k c d : Int) : V3 := if x = 1 then (n, a, b) else if x = 0 then (k, c, d) else sMix n a b c d
def lNot (x : Int) : Int := if x = 0 then 1 else if x = 1 then 0 else 3
def lAnd (x y : Int) : Int := if x = 0 ∨ y = 0 then 0 else if x = 1 ∧ y = 1 then 1 else 3
def lOr (x y : Int) : Int := lNot (lAnd (lNot x) (lNot y))
def lXor (x y : Int) : Int := if x > 1 ∨ y > 1 then 3 else if x = y then 0 else 1
theorem lNot_r (x : Int) : 0 ≤ lNot x ∧ lNot x ≤ 3 := by unfold lNot; (repeat' split) <;> omega
theorem lAnd_r (x y : Int) : 0 ≤ lAnd x y ∧ lAnd x y ≤ 3 := by unfold lAnd; (repeat' split) <;> omega
theorem lOr_r (x y : Int) : 0 ≤ lOr x y ∧ lOr x y ≤ 3 := lNot_r _
theorem lXor_r (x y : Int) : 0 ≤ lXor x y ∧ lXor x y ≤ 3 := by unfold lXor; (repeat' split) <;> omega
theorem fresh2 : True := by
  w_top off
  (try walk1)
  exact trivial
def sLow : List Int → Int
  | [] => 0
  | b :: r => b % 2 + 2 * sLow r
def sHigh : List Int → Int
  | [] => 0
  | b :: r => b / 2 + 2 * sHigh r
def lOver (f : Int → Int → Int) (ns : List Int) : Int := (ns.drop 1).foldl f (if ns.getD 0 0 < 2 then ns.getD 0 0 else 3)
def xf (ns : List Int) : Int := ns.foldl (fun p b => bXor p (b % 2)) 0
def sRXor (ns : List Int) : V3 := sOne (if sHigh ns ≠ 0 then 3 else xf ns)
theorem sLow_nonneg : ∀ l : List Int, 0 ≤ sLow l
  | [] => Int.le_refl 0
  | b :: r => by have h := sLow_nonneg r; simp only [sLow]; omega
theorem bXor_0 (x : Int) : bXor x 0 = x := bitXor_zero x
theorem xf_snoc (l : List Int) (b : Int) : xf (l ++ [b]) = bXor (xf l) (b % 2) := by simp [xf]
theorem xf_zeros : ∀ (l : List Int) (p : Int), sLow l ≤ 0 → l.foldl (fun p b => bXor p (b % 2)) p = p
  | [], _, _ => rfl
  | b :: r, p, h => by
    have h1 := sLow_nonneg r
    simp only [sLow] at h
    have e : b % 2 = 0 := by omega
    rw [List.foldl_cons, e, bXor_0]
    exact xf_zeros r p (by omega)
theorem xf_end (l : List Int) (n : Nat) (h : sLow (l.drop n) ≤ 0) : xf (l.take n) = xf l := by
  have e : l = l.take n ++ l.drop n := (List.take_append_drop n l).symm
  conv => rhs; rw [e]
  unfold xf
  rw [List.foldl_append, xf_zeros _ _ h]
abbrev xStep : Int → St → St := fun _ σ => { zs := [Builtin.bitXor (σ.zs.headD 0) (Builtin.bitAnd (σ.zs.tail.headD 0) 1), (σ.zs.tail.headD 0).fdiv (2 ^ Int.toNat 1)], bs := [], ss := [] }
theorem x_up (l : List Int) (n : Int) (hn : 0 ≤ n) : accUp xStep 0 { zs := [0, sLow l], bs := [], ss := [] } n = { zs := [xf (l.take n.toNat), sLow (l.drop n.toNat)], bs := [], ss := [] } := by
  refine accUp_eq (P := fun j => ({ zs := [xf (l.take j.toNat), sLow (l.drop j.toNat)], bs := [], ss := [] } : St)) hn (by simp [xf]) fun j h0 h1 => ?_
  have ej : (j + 1).toNat = j.toNat + 1 := by omega
  simp only [ej, List.headD_cons, List.tail_cons, xStep]
  rw [bitAnd_m1]
  have e2 : ((2 : Int) ^ Int.toNat 1) = 2 := rfl
  rw [e2, Int.fdiv_eq_ediv_of_nonneg _ (by decide)]
  by_cases hj : j.toNat < l.length
  · have ed : l.drop j.toNat = l[j.toNat] :: l.drop (j.toNat + 1) := List.drop_eq_getElem_cons hj
    have et : l.take (j.toNat + 1) = l.take j.toNat ++ [l[j.toNat]] := by rw [List.take_add_one]; simp [hj]
    have q : (l[j.toNat] % 2 + 2 * sLow (l.drop (j.toNat + 1))) % 2 = l[j.toNat] % 2 := by omega
    have q2 : (l[j.toNat] % 2 + 2 * sLow (l.drop (j.toNat + 1))) / 2 = sLow (l.drop (j.toNat + 1)) := by omega
    rw [et, xf_snoc, ed]
    simp only [sLow, q, q2]
  · have hd : l.drop j.toNat = [] := List.drop_eq_nil_of_le (by omega)
    have hd2 : l.drop (j.toNat + 1) = [] := List.drop_eq_nil_of_le (by omega)
    have ht : l.take j.toNat = l := List.take_of_length_le (by omega)
    have ht2 : l.take (j.toNat + 1) = l := List.take_of_length_le (by omega)
    rw [hd, hd2, ht, ht2]
    simp [sLow, bXor_0]
theorem x_end {l : List Int} {n : Int} (hn : 0 ≤ n) (h : (accUp xStep 0 { zs := [0, sLow l], bs := [], ss := [] } n).zs.tail.headD 0 ≤ 0) : (accUp xStep 0 { zs := [0, sLow l], bs := [], ss := [] } n).zs.headD 0 = xf l := by
  rw [x_up l n hn] at h ⊢
  exact xf_end l _ h
section
theorem fresh3 : True := by
  w_top off
  (try walk1)
  exact trivial
abbrev Cl (w : World) (mean : ExcName → Option Value) (mg mb : Str → Option Value) (lev : Nat) (f : Addr) (vs : List Value) (Pre : (Heap → Addr → Heap → Prop)) (Ret : Heap → Addr → (Str → Option Value) → Shared → (Value → Shared → Prop) → Prop) : Prop :=
  ∀ (dp un : Nat) (gd : Option (List Code)) (cn : Str) (cs : Scope) (a : Addr) (ccd : Value) (cl : List (Str × Addr)) (outer : List Env) (A₀ : Around) (base h₀ : Heap) (L : Addr) (m : Str → Option Value) (s : Shared) (Q E : Value → Shared → Prop),
    Below A₀ base outer h₀ → Fr h₀ L s.heap m → (hd.heap_1 w.params).In h₀ → Pre h₀ L s.heap → Top hd.view_1 (looseW hd.view_1 []) mean mg mb h₀ → cs.kind = .function →
    dp + 3 * lev + 1 < recursionLimit → un + 40 * lev + 100 < cLine → Ret h₀ L m s Q →
      wpAny (model PySem.Challenge.rw_nn0298_01.row.prog w) (ktrTop dp un gd cn cs L a ccd cl outer) (call (.ref f) vs) Q E s

theorem use {w : World} {mean : ExcName → Option Value} {mg mb : Str → Option Value} {lev : Nat} {f : Addr} {vs : List Value} {Pre : (Heap → Addr → Heap → Prop)} {Ret : Heap → Addr → (Str → Option Value) → Shared → (Value → Shared → Prop) → Prop}
  (C : Cl w mean mg mb lev f vs Pre Ret)
  {dp un : Nat} {gd : Option (List Code)} {cn : Str} {cs : Scope} {a : Addr} {ccd : Value} {cl : List (Str × Addr)} {outer : List Env} {A₀ : Around} {base h₀ : Heap} {L : Addr} {m : Str → Option Value} {s : Shared} {Q E : Value → Shared → Prop}
  (B : Below A₀ base outer h₀) (F : Fr h₀ L s.heap m) (X : (hd.heap_1 w.params).In h₀) (P : Pre h₀ L s.heap) (T : Top hd.view_1 (looseW hd.view_1 []) mean mg mb h₀) (hk : cs.kind = .function)
  (h1 : dp + 3 * lev + 1 < recursionLimit) (h2 : un + 40 * lev + 100 < cLine) (R : Ret h₀ L m s Q) :
      wpAny (model PySem.Challenge.rw_nn0298_01.row.prog w) (ktrTop dp un gd cn cs L a ccd cl outer) (call (.ref f) vs) Q E s :=
  C _ _ _ _ _ _ _ _ _ _ _ _ _ _ _ _ _ B F X P T hk h1 h2 R

abbrev Led := List (Addr × Obj)
abbrev PreN (news : Led) (h₀ : Heap) (L : Addr) (h : Heap) : Prop := News h₀ L h news
abbrev RetInt (news : Led) (x : Int) (h₀ : Heap) (L : Addr) (m : Str → Option Value) (s : Shared) (Q : Value → Shared → Prop) : Prop :=
  ∀ (t : Tok) (h' : Heap) (tk' : Nat), Fr h₀ L h' m → News h₀ L h' news → Q (.int x t) { s with heap := h', toks := tk' }
abbrev RetBool (news : Led) (x : Bool) (h₀ : Heap) (L : Addr) (m : Str → Option Value) (s : Shared) (Q : Value → Shared → Prop) : Prop :=
  ∀ (h' : Heap) (tk' : Nat), Fr h₀ L h' m → News h₀ L h' news → Q (.bool x) { s with heap := h', toks := tk' }
abbrev tup3 (w a b : Int) (t1 t2 t3 : Tok) (c : Nat) : Obj := { cls := .type "tuple", data := .seq [Value.int w t1, Value.int a t2, Value.int b t3].toArray c }
abbrev RetTup (news : Led) (w a b : Int) (h₀ : Heap) (L : Addr) (m : Str → Option Value) (s : Shared) (Q : Value → Shared → Prop) : Prop :=
  ∀ (D : Addr) (t1 t2 t3 : Tok) (c : Nat) (h' : Heap) (tk' : Nat), Fr h₀ L h' m → News h₀ L h' ((D, tup3 w a b t1 t2 t3 c) :: news) → Q (.ref D) { s with heap := h', toks := tk' }

theorem c_mask {w : World} {mean : ExcName → Option Value} {mg mb : Str → Option Value} (n : Int) (t : Tok) (news : Led) (h0 : 0 ≤ n) (h1 : n ≤ 64) :
   Cl w mean mg mb 0 21 [.int n t] (PreN news) (RetInt news (sMask n)) := by
  unfold Cl; k_fill
  intro dp un gd cn cs a ccd cl outer A₀ base h₀ L m s Q E B F X N T hk hd' hu' hret
  refine wpAny_call ?_
  k_dflt cell_enter
  k_steps
  all_goals exact hret _ _ _ (by k_asm) (by k_asm)

local macro_rules | `(tactic| walk_at "call ref") => `(tactic| k_extra "m1")
theorem word1 : True := by
  k_with "m1" => ((k_here; (with_reducible show wpAny _ _ (PySem.call (Value.ref 21) [Value.int _ _]) _ _ _); k_dflt (refine' use (c_mask _ _ _ ?m1h0 ?m1h1) ?m1k1 ?m1k2 ?m1k3 ?m1k4 ?m1k5 ?m1k6 ?m1k7 ?m1k8 ?_; (case m1h0 => first | assumption | omega); (case m1h1 => first | assumption | omega); (case m1k1 => k_asm); (case m1k2 => k_asm); (case m1k3 => k_asm); (case m1k4 => k_asm); (case m1k5 => k_asm); (case m1k6 => first | exact rfl | assumption); (case m1k7 => ktr_room); (case m1k8 => ktr_units); intro t' h' tk' F' N'; (try dsimp only); (try k_sweep))))
  exact trivial

theorem tup_ret {news : Led} {r r' : V3} {h₀ h' : Heap} {L D : Addr} {m : Str → Option Value} {s : Shared} {Q : Value → Shared → Prop} {t1 t2 t3 : Tok} {c tk' : Nat} (hret : RetTup news r.1 r.2.1 r.2.2 h₀ L m s Q) (e : r' = r) (F : Fr h₀ L h' m) (N : News h₀ L h' ((D, tup3 r'.1 r'.2.1 r'.2.2 t1 t2 t3 c) :: news)) : Q (.ref D) { s with heap := h', toks := tk' } := by
  subst e
  exact hret D t1 t2 t3 c h' tk' F N
theorem tup_ret' {news : Led} {r : V3} {x y z : Int} {h₀ h' : Heap} {L D : Addr} {m : Str → Option Value} {s : Shared} {Q : Value → Shared → Prop} {t1 t2 t3 : Tok} {c tk' : Nat} (hret : RetTup news r.1 r.2.1 r.2.2 h₀ L m s Q) (F : Fr h₀ L h' m) (N : News h₀ L h' ((D, tup3 x y z t1 t2 t3 c) :: news)) (e : (x, y, z) = r) : Q (.ref D) { s with heap := h', toks := tk' } := by
  subst e
  exact hret D t1 t2 t3 c h' tk' F N

theorem reads_tup3 {h₀ h : Heap} {L U : Addr} {news : Led} {n a b : Int} {t1 t2 t3 : Tok} {c : Nat} (N : News h₀ L h news) (h1 : (U, tup3 n a b t1 t2 t3 c) ∈ news) : ∃ as, Reads h (.ref U) (.tuple [.int n, .int a, .int b]) as :=
  ⟨_, reads_tuple_at (News.get N h1) rfl rfl (ReadsAll.cons (Reads.int _ _) (ReadsAll.cons (Reads.int _ _) (ReadsAll.cons (Reads.int _ _) ReadsAll.nil)))⟩
theorem eqv_tup3 (n a b k c d : Int) : PyData.eqv (.tuple [.int n, .int a, .int b]) (.tuple [.int k, .int c, .int d]) = decide (n = k ∧ a = c ∧ b = d) := by
  simp only [PyData.eqv, PyData.eqvAll, Bool.and_true]
  by_cases h1 : n = k <;> by_cases h2 : a = c <;> by_cases h3 : b = d <;> simp [h1, h2, h3]
theorem eq_tup3 {prog : Program} {w : World} {A : Around} {E : Value → Shared → Prop} {s : Shared} {h₀ : Heap} {L U V : Addr} {news : Led} {n a b k c d : Int} {t1 t2 t3 v1 v2 v3 : Tok} {x y : Nat} {Q : Value → Shared → Prop}
    (N : News h₀ L s.heap news) (h1 : (U, tup3 n a b t1 t2 t3 x) ∈ news) (h2 : (V, tup3 k c d v1 v2 v3 y) ∈ news) (hu : A.units + 64 < cLine)
    (h : Q (.bool (decide (n = k ∧ a = c ∧ b = d))) s) : wpAny (model prog w) A (compareOp .Eq (.ref U) (.ref V)) Q E s := by
  obtain ⟨_, r1⟩ := reads_tup3 N h1
  obtain ⟨_, r2⟩ := reads_tup3 N h2
  refine eq_dataH r1 r2 (by rfl) (by rfl) hu ?_
  rw [eqv_tup3]
  exact h
theorem ne_tup3 {prog : Program} {w : World} {A : Around} {E : Value → Shared → Prop} {s : Shared} {h₀ : Heap} {L U V : Addr} {news : Led} {n a b k c d : Int} {t1 t2 t3 v1 v2 v3 : Tok} {x y : Nat} {Q : Value → Shared → Prop}
    (N : News h₀ L s.heap news) (h1 : (U, tup3 n a b t1 t2 t3 x) ∈ news) (h2 : (V, tup3 k c d v1 v2 v3 y) ∈ news) (hu : A.units + 64 < cLine)
    (h : Q (.bool (!decide (n = k ∧ a = c ∧ b = d))) s) : wpAny (model prog w) A (compareOp .NotEq (.ref U) (.ref V)) Q E s := by
  obtain ⟨_, r1⟩ := reads_tup3 N h1
  obtain ⟨_, r2⟩ := reads_tup3 N h2
  refine ne_dataH r1 r2 (by rfl) (by rfl) hu ?_
  rw [eqv_tup3]
  exact h
local macro_rules | `(tactic| walk_at "compareOp Eq ref ref") => `(tactic| k_extra "m2")
theorem word2 : True := by
  k_with "m2" => ((k_here; (with_reducible show wpAny _ _ (compareOp CmpOp.Eq (Value.ref _) (Value.ref _)) _ _ _); k_dflt (refine' eq_tup3 ?m2N ?m2m1 ?m2m2 ?m2u ?_; (case m2N => k_asm); (case m2m1 => first | assumption | exact List.Mem.head _ | (refine' List.Mem.tail _ ?_; (first | assumption | exact List.Mem.head _ | (refine' List.Mem.tail _ ?_; (first | assumption | exact List.Mem.head _ | (refine' List.Mem.tail _ ?_; (first | assumption | exact List.Mem.head _ | (refine' List.Mem.tail _ ?_; (first | assumption | exact List.Mem.head _ | (refine' List.Mem.tail _ ?_; (first | assumption | exact List.Mem.head _ | (refine' List.Mem.tail _ ?_; (first | assumption | exact List.Mem.head _ | (refine' List.Mem.tail _ ?_; (first | assumption | exact List.Mem.head _ | (refine' List.Mem.tail _ ?_; (first | assumption | exact List.Mem.head _))))))))))))))))); (case m2m2 => first | assumption | exact List.Mem.head _ | (refine' List.Mem.tail _ ?_; (first | assumption | exact List.Mem.head _ | (refine' List.Mem.tail _ ?_; (first | assumption | exact List.Mem.head _ | (refine' List.Mem.tail _ ?_; (first | assumption | exact List.Mem.head _ | (refine' List.Mem.tail _ ?_; (first | assumption | exact List.Mem.head _ | (refine' List.Mem.tail _ ?_; (first | assumption | exact List.Mem.head _ | (refine' List.Mem.tail _ ?_; (first | assumption | exact List.Mem.head _ | (refine' List.Mem.tail _ ?_; (first | assumption | exact List.Mem.head _ | (refine' List.Mem.tail _ ?_; (first | assumption | exact List.Mem.head _))))))))))))))))); (case m2u => ktr_units))))
  exact trivial
local macro_rules | `(tactic| walk_at "compareOp NotEq ref ref") => `(tactic| k_extra "m3")
theorem word3 : True := by
  k_with "m3" => ((k_here; (with_reducible show wpAny _ _ (compareOp CmpOp.NotEq (Value.ref _) (Value.ref _)) _ _ _); k_dflt (refine' ne_tup3 ?m3N ?m3m1 ?m3m2 ?m3u ?_; (case m3N => k_asm); (case m3m1 => first | assumption | exact List.Mem.head _ | (refine' List.Mem.tail _ ?_; (first | assumption | exact List.Mem.head _ | (refine' List.Mem.tail _ ?_; (first | assumption | exact List.Mem.head _ | (refine' List.Mem.tail _ ?_; (first | assumption | exact List.Mem.head _ | (refine' List.Mem.tail _ ?_; (first | assumption | exact List.Mem.head _ | (refine' List.Mem.tail _ ?_; (first | assumption | exact List.Mem.head _ | (refine' List.Mem.tail _ ?_; (first | assumption | exact List.Mem.head _ | (refine' List.Mem.tail _ ?_; (first | assumption | exact List.Mem.head _ | (refine' List.Mem.tail _ ?_; (first | assumption | exact List.Mem.head _))))))))))))))))); (case m3m2 => first | assumption | exact List.Mem.head _ | (refine' List.Mem.tail _ ?_; (first | assumption | exact List.Mem.head _ | (refine' List.Mem.tail _ ?_; (first | assumption | exact List.Mem.head _ | (refine' List.Mem.tail _ ?_; (first | assumption | exact List.Mem.head _ | (refine' List.Mem.tail _ ?_; (first | assumption | exact List.Mem.head _ | (refine' List.Mem.tail _ ?_; (first | assumption | exact List.Mem.head _ | (refine' List.Mem.tail _ ?_; (first | assumption | exact List.Mem.head _ | (refine' List.Mem.tail _ ?_; (first | assumption | exact List.Mem.head _ | (refine' List.Mem.tail _ ?_; (first | assumption | exact List.Mem.head _))))))))))))))))); (case m3u => ktr_units))))
  exact trivial
theorem tslice {prog : Program} {w : World} {A : Around} {E : Value → Shared → Prop} {s : Shared} {h₀ : Heap} {L : Addr} {m : Str → Option Value} {news : List (Addr × Obj)} {value slice : PySem.Expr} {t : Addr} {x : Value} {xs : List Value} {c : Nat} {u : Tok} {Q : Value → Shared → Prop}
    (F : Fr h₀ L s.heap m) (N : News h₀ L s.heap news) (hm : (t, ({ cls := .type "tuple", data := .seq (x :: xs).toArray c } : Obj)) ∈ news)
    (h : ∀ D h', Fr h₀ L h' m → News h₀ L h' ((D, { cls := .type "tuple", data := .seq xs.toArray }) :: news) → (∀ p ∈ news, p.1 < D) → Q (.ref D) { s with heap := h' })
    (hs : subscripted slice false (.ref t) (.ref s.heap.objs.size) = operate [.ref s.heap.objs.size, .ref t] (getItem (.ref t) (.ref s.heap.objs.size)))
    (hg : ∀ r, letTemporaryGo value (.ref t) r = pure ())
    (hsz : xs.length + 1 ≤ sizeLine) :
    wpAny (model prog w) A (subscriptTail value slice (.ref t) (.ref s.heap.objs.size)) Q E { s with heap := s.heap.push { cls := .type "slice", data := .fields #[.int 1 u, .none, .none] } } := by
  have ht : IsTup s.heap t (x :: xs).toArray := News.isTup N hm
  refine slice_tuple_from (a := 1) F N ht (Nat.le_refl _) (by simp) (fun h' F' N' => ?_) hs hg (by simpa using hsz)
  exact h _ h' F' N' fun p hp => Nat.lt_succ_of_lt (Heap.lt_size (N p hp).1)
local macro_rules | `(tactic| walk_at "subscriptTail Name Slice ref ref") => `(tactic| k_extra "m4")
theorem word4 : True := by
  k_with "m4" => ((k_here; (with_reducible show wpAny _ _ (subscriptTail _ (PySem.Expr.Slice _ _ none _) (Value.ref _) (Value.ref _)) _ _ _); k_dflt (refine' tslice ?m4F ?m4N ?m4T ?_ ?m4s ?m4t ?m4z; (case m4F => k_asm); (case m4N => k_asm); (case m4T => k_mem); (case m4s => with_unfolding_all rfl); (case m4t => (intro _; with_unfolding_all rfl)); (case m4z => exact Nat.le_of_ble_eq_true rfl); intro D' h' F' N' l1'; (try k_sweep))))
  exact trivial
section
theorem fresh4 : True := by
  w_top off
  k_with_none
  k_with "m1" => ((k_here; (with_reducible show wpAny _ _ (PySem.call (Value.ref 21) [Value.int _ _]) _ _ _); k_dflt (refine' use (c_mask _ _ _ ?m1h0 ?m1h1) ?m1k1 ?m1k2 ?m1k3 ?m1k4 ?m1k5 ?m1k6 ?m1k7 ?m1k8 ?_; (case m1h0 => first | assumption | omega); (case m1h1 => first | assumption | omega); (case m1k1 => k_asm); (case m1k2 => k_asm); (case m1k3 => k_asm); (case m1k4 => k_asm); (case m1k5 => k_asm); (case m1k6 => first | exact rfl | assumption); (case m1k7 => ktr_room); (case m1k8 => ktr_units); intro t' h' tk' F' N'; (try dsimp only); (try k_sweep))))
  k_with "m2" => ((k_here; (with_reducible show wpAny _ _ (compareOp CmpOp.Eq (Value.ref _) (Value.ref _)) _ _ _); k_dflt (refine' eq_tup3 ?m2N ?m2m1 ?m2m2 ?m2u ?_; (case m2N => k_asm); (case m2m1 => first | assumption | exact List.Mem.head _ | (refine' List.Mem.tail _ ?_; (first | assumption | exact List.Mem.head _ | (refine' List.Mem.tail _ ?_; (first | assumption | exact List.Mem.head _ | (refine' List.Mem.tail _ ?_; (first | assumption | exact List.Mem.head _ | (refine' List.Mem.tail _ ?_; (first | assumption | exact List.Mem.head _ | (refine' List.Mem.tail _ ?_; (first | assumption | exact List.Mem.head _ | (refine' List.Mem.tail _ ?_; (first | assumption | exact List.Mem.head _ | (refine' List.Mem.tail _ ?_; (first | assumption | exact List.Mem.head _ | (refine' List.Mem.tail _ ?_; (first | assumption | exact List.Mem.head _))))))))))))))))); (case m2m2 => first | assumption | exact List.Mem.head _ | (refine' List.Mem.tail _ ?_; (first | assumption | exact List.Mem.head _ | (refine' List.Mem.tail _ ?_; (first | assumption | exact List.Mem.head _ | (refine' List.Mem.tail _ ?_; (first | assumption | exact List.Mem.head _ | (refine' List.Mem.tail _ ?_; (first | assumption | exact List.Mem.head _ | (refine' List.Mem.tail _ ?_; (first | assumption | exact List.Mem.head _ | (refine' List.Mem.tail _ ?_; (first | assumption | exact List.Mem.head _ | (refine' List.Mem.tail _ ?_; (first | assumption | exact List.Mem.head _ | (refine' List.Mem.tail _ ?_; (first | assumption | exact List.Mem.head _))))))))))))))))); (case m2u => ktr_units))))
  k_with "m3" => ((k_here; (with_reducible show wpAny _ _ (compareOp CmpOp.NotEq (Value.ref _) (Value.ref _)) _ _ _); k_dflt (refine' ne_tup3 ?m3N ?m3m1 ?m3m2 ?m3u ?_; (case m3N => k_asm); (case m3m1 => first | assumption | exact List.Mem.head _ | (refine' List.Mem.tail _ ?_; (first | assumption | exact List.Mem.head _ | (refine' List.Mem.tail _ ?_; (first | assumption | exact List.Mem.head _ | (refine' List.Mem.tail _ ?_; (first | assumption | exact List.Mem.head _ | (refine' List.Mem.tail _ ?_; (first | assumption | exact List.Mem.head _ | (refine' List.Mem.tail _ ?_; (first | assumption | exact List.Mem.head _ | (refine' List.Mem.tail _ ?_; (first | assumption | exact List.Mem.head _ | (refine' List.Mem.tail _ ?_; (first | assumption | exact List.Mem.head _ | (refine' List.Mem.tail _ ?_; (first | assumption | exact List.Mem.head _))))))))))))))))); (case m3m2 => first | assumption | exact List.Mem.head _ | (refine' List.Mem.tail _ ?_; (first | assumption | exact List.Mem.head _ | (refine' List.Mem.tail _ ?_; (first | assumption | exact List.Mem.head _ | (refine' List.Mem.tail _ ?_; (first | assumption | exact List.Mem.head _ | (refine' List.Mem.tail _ ?_; (first | assumption | exact List.Mem.head _ | (refine' List.Mem.tail _ ?_; (first | assumption | exact List.Mem.head _ | (refine' List.Mem.tail _ ?_; (first | assumption | exact List.Mem.head _ | (refine' List.Mem.tail _ ?_; (first | assumption | exact List.Mem.head _ | (refine' List.Mem.tail _ ?_; (first | assumption | exact List.Mem.head _))))))))))))))))); (case m3u => ktr_units))))
  k_with "m4" => ((k_here; (with_reducible show wpAny _ _ (subscriptTail _ (PySem.Expr.Slice _ _ none _) (Value.ref _) (Value.ref _)) _ _ _); k_dflt (refine' tslice ?m4F ?m4N ?m4T ?_ ?m4s ?m4t ?m4z; (case m4F => k_asm); (case m4N => k_asm); (case m4T => k_mem); (case m4s => with_unfolding_all rfl); (case m4t => (intro _; with_unfolding_all rfl)); (case m4z => exact Nat.le_of_ble_eq_true rfl); intro D' h' F' N' l1'; (try k_sweep))))
  (try walk1)
  exact trivial
theorem c_z_to_x {w : World} {mean : ExcName → Option Value} {mg mb : Str → Option Value} (U : Addr) (nU aU bU : Int) (tU1 tU2 tU3 : Tok) (cU : Nat) (news : Led) (hU : (U, tup3 nU aU bU tU1 tU2 tU3 cU) ∈ news)  :
   Cl w mean mg mb 0 28 [.ref U] (PreN news) (RetTup news (sZ nU aU bU).1 (sZ nU aU bU).2.1 (sZ nU aU bU).2.2) := by
  unfold Cl; k_fill
  intro dp un gd cn cs a ccd cl outer A₀ base h₀ L m s Q E B F X N T hk hd' hu' hret
  refine wpAny_call ?_
  k_dflt cell_enter
  k_steps
  all_goals exact hret _ _ _ _ _ _ _ (by k_asm) (cb_drop (by k_asm) (by kcj_all))
local macro_rules | `(tactic| walk_at "call ref") => `(tactic| k_extra "m5")
theorem word5 : True := by
  k_with "m5" => ((k_here; (with_reducible show wpAny _ _ (PySem.call (Value.ref 28) [Value.ref _]) _ _ _); k_dflt (refine' use (c_z_to_x _ _ _ _ _ _ _ _ _ ?m5mU) ?m5k1 ?m5k2 ?m5k3 ?m5k4 ?m5k5 ?m5k6 ?m5k7 ?m5k8 ?_; (case m5k1 => k_asm); (case m5k2 => k_asm); (case m5k3 => k_asm); (case m5k4 => k_asm); (case m5k5 => k_asm); (case m5k6 => first | exact rfl | assumption); (case m5k7 => ktr_room); (case m5k8 => ktr_units); (case m5mU => first | assumption | exact List.Mem.head _ | (refine' List.Mem.tail _ ?_; (first | assumption | exact List.Mem.head _ | (refine' List.Mem.tail _ ?_; (first | assumption | exact List.Mem.head _ | (refine' List.Mem.tail _ ?_; (first | assumption | exact List.Mem.head _ | (refine' List.Mem.tail _ ?_; (first | assumption | exact List.Mem.head _ | (refine' List.Mem.tail _ ?_; (first | assumption | exact List.Mem.head _ | (refine' List.Mem.tail _ ?_; (first | assumption | exact List.Mem.head _ | (refine' List.Mem.tail _ ?_; (first | assumption | exact List.Mem.head _ | (refine' List.Mem.tail _ ?_; (first | assumption | exact List.Mem.head _))))))))))))))))); intro D' t1' t2' t3' c' h' tk' F' N'; (try dsimp only); (try k_sweep))))
  exact trivial
theorem c_one_bit {w : World} {mean : ExcName → Option Value} {mg mb : Str → Option Value} (x : Int) (tx : Tok) (news : Led)   :
   Cl w mean mg mb 0 42 [.int x tx] (PreN news) (RetTup news (sOne x).1 (sOne x).2.1 (sOne x).2.2) := by
  unfold Cl; k_fill
  intro dp un gd cn cs a ccd cl outer A₀ base h₀ L m s Q E B F X N T hk hd' hu' hret
  refine wpAny_call ?_
  k_dflt cell_enter
  k_steps
  all_goals exact hret _ _ _ _ _ _ _ (by k_asm) (cb_drop (by k_asm) (by kcj_all))
local macro_rules | `(tactic| walk_at "call ref") => `(tactic| k_extra "m6")
theorem word6 : True := by
  k_with "m6" => ((k_here; (with_reducible show wpAny _ _ (PySem.call (Value.ref 42) [Value.int _ _]) _ _ _); k_dflt (refine' use (c_one_bit _ _ _ ) ?m6k1 ?m6k2 ?m6k3 ?m6k4 ?m6k5 ?m6k6 ?m6k7 ?m6k8 ?_; (case m6k1 => k_asm); (case m6k2 => k_asm); (case m6k3 => k_asm); (case m6k4 => k_asm); (case m6k5 => k_asm); (case m6k6 => first | exact rfl | assumption); (case m6k7 => ktr_room); (case m6k8 => ktr_units); intro D' t1' t2' t3' c' h' tk' F' N'; (try dsimp only); (try k_sweep))))
  exact trivial
theorem c_truth {w : World} {mean : ExcName → Option Value} {mg mb : Str → Option Value} (U : Addr) (nU aU bU : Int) (tU1 tU2 tU3 : Tok) (cU : Nat) (news : Led) (hU : (U, tup3 nU aU bU tU1 tU2 tU3 cU) ∈ news) (h0 : 0 ≤ nU) (h1 : nU ≤ 64) :
   Cl w mean mg mb 1 35 [.ref U] (PreN news) (RetInt news (sTruth nU aU bU)) := by
  unfold Cl; k_fill
  intro dp un gd cn cs a ccd cl outer A₀ base h₀ L m s Q E B F X N T hk hd' hu' hret
  refine wpAny_call ?_
  k_dflt cell_enter
  k_steps
  all_goals (refine cb_retI hret ?_ (by k_asm) (cb_drop (by k_asm) (by kcj_all)))
  all_goals simp_all [sTruth]
local macro_rules | `(tactic| walk_at "call ref") => `(tactic| k_extra "m7")
theorem word7 : True := by
  k_with "m7" => ((k_here; (with_reducible show wpAny _ _ (PySem.call (Value.ref 35) [Value.ref _]) _ _ _); k_dflt (refine' use (c_truth _ _ _ _ _ _ _ _ _ ?m7mU ?m7h0 ?m7h1) ?m7k1 ?m7k2 ?m7k3 ?m7k4 ?m7k5 ?m7k6 ?m7k7 ?m7k8 ?_; (case m7k1 => k_asm); (case m7k2 => k_asm); (case m7k3 => k_asm); (case m7k4 => k_asm); (case m7k5 => k_asm); (case m7k6 => first | exact rfl | assumption); (case m7k7 => ktr_room); (case m7k8 => ktr_units); (case m7mU => first | assumption | exact List.Mem.head _ | (refine' List.Mem.tail _ ?_; (first | assumption | exact List.Mem.head _ | (refine' List.Mem.tail _ ?_; (first | assumption | exact List.Mem.head _ | (refine' List.Mem.tail _ ?_; (first | assumption | exact List.Mem.head _ | (refine' List.Mem.tail _ ?_; (first | assumption | exact List.Mem.head _ | (refine' List.Mem.tail _ ?_; (first | assumption | exact List.Mem.head _ | (refine' List.Mem.tail _ ?_; (first | assumption | exact List.Mem.head _ | (refine' List.Mem.tail _ ?_; (first | assumption | exact List.Mem.head _ | (refine' List.Mem.tail _ ?_; (first | assumption | exact List.Mem.head _))))))))))))))))); (case m7h0 => first | assumption | omega | (show (0:Int) ≤ 1; decide) | (show (1:Int) ≤ 64; decide)); (case m7h1 => first | assumption | omega | (show (0:Int) ≤ 1; decide) | (show (1:Int) ≤ 64; decide)); intro t' h' tk' F' N'; (try dsimp only); (try k_sweep))))
  exact trivial
theorem c_bit_not {w : World} {mean : ExcName → Option Value} {mg mb : Str → Option Value} (U : Addr) (nU aU bU : Int) (tU1 tU2 tU3 : Tok) (cU : Nat) (news : Led) (hU : (U, tup3 nU aU bU tU1 tU2 tU3 cU) ∈ news) (h0 : 0 ≤ nU) (h1 : nU ≤ 64) :
   Cl w mean mg mb 1 49 [.ref U] (PreN news) (RetTup news (sNot nU aU bU).1 (sNot nU aU bU).2.1 (sNot nU aU bU).2.2) := by
  unfold Cl; k_fill
  intro dp un gd cn cs a ccd cl outer A₀ base h₀ L m s Q E B F X N T hk hd' hu' hret
  refine wpAny_call ?_
  k_dflt cell_enter
  k_steps
  all_goals exact hret _ _ _ _ _ _ _ (by k_asm) (cb_drop (by k_asm) (by kcj_all))
local macro_rules | `(tactic| walk_at "call ref") => `(tactic| k_extra "m8")
theorem word8 : True := by
  k_with "m8" => ((k_here; (with_reducible show wpAny _ _ (PySem.call (Value.ref 49) [Value.ref _]) _ _ _); k_dflt (refine' use (c_bit_not _ _ _ _ _ _ _ _ _ ?m8mU ?m8h0 ?m8h1) ?m8k1 ?m8k2 ?m8k3 ?m8k4 ?m8k5 ?m8k6 ?m8k7 ?m8k8 ?_; (case m8k1 => k_asm); (case m8k2 => k_asm); (case m8k3 => k_asm); (case m8k4 => k_asm); (case m8k5 => k_asm); (case m8k6 => first | exact rfl | assumption); (case m8k7 => ktr_room); (case m8k8 => ktr_units); (case m8mU => first | assumption | exact List.Mem.head _ | (refine' List.Mem.tail _ ?_; (first | assumption | exact List.Mem.head _ | (refine' List.Mem.tail _ ?_; (first | assumption | exact List.Mem.head _ | (refine' List.Mem.tail _ ?_; (first | assumption | exact List.Mem.head _ | (refine' List.Mem.tail _ ?_; (first | assumption | exact List.Mem.head _ | (refine' List.Mem.tail _ ?_; (first | assumption | exact List.Mem.head _ | (refine' List.Mem.tail _ ?_; (first | assumption | exact List.Mem.head _ | (refine' List.Mem.tail _ ?_; (first | assumption | exact List.Mem.head _ | (refine' List.Mem.tail _ ?_; (first | assumption | exact List.Mem.head _))))))))))))))))); (case m8h0 => first | assumption | omega | (show (0:Int) ≤ 1; decide) | (show (1:Int) ≤ 64; decide)); (case m8h1 => first | assumption | omega | (show (0:Int) ≤ 1; decide) | (show (1:Int) ≤ 64; decide)); intro D' t1' t2' t3' c' h' tk' F' N'; (try dsimp only); (try k_sweep))))
  exact trivial
theorem c_bit_xor {w : World} {mean : ExcName → Option Value} {mg mb : Str → Option Value} (U : Addr) (nU aU bU : Int) (tU1 tU2 tU3 : Tok) (cU : Nat) (V : Addr) (nV aV bV : Int) (tV1 tV2 tV3 : Tok) (cV : Nat) (news : Led) (hU : (U, tup3 nU aU bU tU1 tU2 tU3 cU) ∈ news) (hV : (V, tup3 nV aV bV tV1 tV2 tV3 cV) ∈ news)  :
   Cl w mean mg mb 1 70 [.ref U, .ref V] (PreN news) (RetTup news (sXor nU aU bU aV bV).1 (sXor nU aU bU aV bV).2.1 (sXor nU aU bU aV bV).2.2) := by
  unfold Cl; k_fill
  intro dp un gd cn cs a ccd cl outer A₀ base h₀ L m s Q E B F X N T hk hd' hu' hret
  refine wpAny_call ?_
  k_dflt cell_enter
  k_steps
  all_goals exact hret _ _ _ _ _ _ _ (by k_asm) (cb_drop (by k_asm) (by kcj_all))
local macro_rules | `(tactic| walk_at "call ref") => `(tactic| k_extra "m9")
theorem word9 : True := by
  k_with "m9" => ((k_here; (with_reducible show wpAny _ _ (PySem.call (Value.ref 70) [Value.ref _, Value.ref _]) _ _ _); k_dflt (refine' use (c_bit_xor _ _ _ _ _ _ _ _ _ _ _ _ _ _ _ _ _ ?m9mU ?m9mV) ?m9k1 ?m9k2 ?m9k3 ?m9k4 ?m9k5 ?m9k6 ?m9k7 ?m9k8 ?_; (case m9k1 => k_asm); (case m9k2 => k_asm); (case m9k3 => k_asm); (case m9k4 => k_asm); (case m9k5 => k_asm); (case m9k6 => first | exact rfl | assumption); (case m9k7 => ktr_room); (case m9k8 => ktr_units); (case m9mU => first | assumption | exact List.Mem.head _ | (refine' List.Mem.tail _ ?_; (first | assumption | exact List.Mem.head _ | (refine' List.Mem.tail _ ?_; (first | assumption | exact List.Mem.head _ | (refine' List.Mem.tail _ ?_; (first | assumption | exact List.Mem.head _ | (refine' List.Mem.tail _ ?_; (first | assumption | exact List.Mem.head _ | (refine' List.Mem.tail _ ?_; (first | assumption | exact List.Mem.head _ | (refine' List.Mem.tail _ ?_; (first | assumption | exact List.Mem.head _ | (refine' List.Mem.tail _ ?_; (first | assumption | exact List.Mem.head _ | (refine' List.Mem.tail _ ?_; (first | assumption | exact List.Mem.head _))))))))))))))))); (case m9mV => first | assumption | exact List.Mem.head _ | (refine' List.Mem.tail _ ?_; (first | assumption | exact List.Mem.head _ | (refine' List.Mem.tail _ ?_; (first | assumption | exact List.Mem.head _ | (refine' List.Mem.tail _ ?_; (first | assumption | exact List.Mem.head _ | (refine' List.Mem.tail _ ?_; (first | assumption | exact List.Mem.head _ | (refine' List.Mem.tail _ ?_; (first | assumption | exact List.Mem.head _ | (refine' List.Mem.tail _ ?_; (first | assumption | exact List.Mem.head _ | (refine' List.Mem.tail _ ?_; (first | assumption | exact List.Mem.head _ | (refine' List.Mem.tail _ ?_; (first | assumption | exact List.Mem.head _))))))))))))))))); intro D' t1' t2' t3' c' h' tk' F' N'; (try dsimp only); (try k_sweep))))
  exact trivial
theorem fresh5 : True := by
  w_top off
  (try walk1)
  exact trivial
theorem c_bit_and {w : World} {mean : ExcName → Option Value} {mg mb : Str → Option Value} (U : Addr) (nU aU bU : Int) (tU1 tU2 tU3 : Tok) (cU : Nat) (V : Addr) (nV aV bV : Int) (tV1 tV2 tV3 : Tok) (cV : Nat) (news : Led) (hU : (U, tup3 nU aU bU tU1 tU2 tU3 cU) ∈ news) (hV : (V, tup3 nV aV bV tV1 tV2 tV3 cV) ∈ news)  :
   Cl w mean mg mb 1 56 [.ref U, .ref V] (PreN news) (RetTup news (sAnd nU aU bU aV bV).1 (sAnd nU aU bU aV bV).2.1 (sAnd nU aU bU aV bV).2.2) := by
  unfold Cl; k_fill
  intro dp un gd cn cs a ccd cl outer A₀ base h₀ L m s Q E B F X N T hk hd' hu' hret
  refine wpAny_call ?_
  k_dflt cell_enter
  k_steps
  all_goals exact hret _ _ _ _ _ _ _ (by k_asm) (cb_drop (by k_asm) (by kcj_all))
local macro_rules | `(tactic| walk_at "call ref") => `(tactic| k_extra "m10")
theorem word10 : True := by
  k_with "m10" => ((k_here; (with_reducible show wpAny _ _ (PySem.call (Value.ref 56) [Value.ref _, Value.ref _]) _ _ _); k_dflt (refine' use (c_bit_and _ _ _ _ _ _ _ _ _ _ _ _ _ _ _ _ _ ?m10mU ?m10mV) ?m10k1 ?m10k2 ?m10k3 ?m10k4 ?m10k5 ?m10k6 ?m10k7 ?m10k8 ?_; (case m10k1 => k_asm); (case m10k2 => k_asm); (case m10k3 => k_asm); (case m10k4 => k_asm); (case m10k5 => k_asm); (case m10k6 => first | exact rfl | assumption); (case m10k7 => ktr_room); (case m10k8 => ktr_units); (case m10mU => first | assumption | exact List.Mem.head _ | (refine' List.Mem.tail _ ?_; (first | assumption | exact List.Mem.head _ | (refine' List.Mem.tail _ ?_; (first | assumption | exact List.Mem.head _ | (refine' List.Mem.tail _ ?_; (first | assumption | exact List.Mem.head _ | (refine' List.Mem.tail _ ?_; (first | assumption | exact List.Mem.head _ | (refine' List.Mem.tail _ ?_; (first | assumption | exact List.Mem.head _ | (refine' List.Mem.tail _ ?_; (first | assumption | exact List.Mem.head _ | (refine' List.Mem.tail _ ?_; (first | assumption | exact List.Mem.head _ | (refine' List.Mem.tail _ ?_; (first | assumption | exact List.Mem.head _))))))))))))))))); (case m10mV => first | assumption | exact List.Mem.head _ | (refine' List.Mem.tail _ ?_; (first | assumption | exact List.Mem.head _ | (refine' List.Mem.tail _ ?_; (first | assumption | exact List.Mem.head _ | (refine' List.Mem.tail _ ?_; (first | assumption | exact List.Mem.head _ | (refine' List.Mem.tail _ ?_; (first | assumption | exact List.Mem.head _ | (refine' List.Mem.tail _ ?_; (first | assumption | exact List.Mem.head _ | (refine' List.Mem.tail _ ?_; (first | assumption | exact List.Mem.head _ | (refine' List.Mem.tail _ ?_; (first | assumption | exact List.Mem.head _ | (refine' List.Mem.tail _ ?_; (first | assumption | exact List.Mem.head _))))))))))))))))); intro D' t1' t2' t3' c' h' tk' F' N'; (try dsimp only); (try k_sweep))))
  exact trivial
theorem c_bit_or {w : World} {mean : ExcName → Option Value} {mg mb : Str → Option Value} (U : Addr) (nU aU bU : Int) (tU1 tU2 tU3 : Tok) (cU : Nat) (V : Addr) (nV aV bV : Int) (tV1 tV2 tV3 : Tok) (cV : Nat) (news : Led) (hU : (U, tup3 nU aU bU tU1 tU2 tU3 cU) ∈ news) (hV : (V, tup3 nV aV bV tV1 tV2 tV3 cV) ∈ news) (h0 : 0 ≤ nU) (h1 : nU ≤ 64) :
   Cl w mean mg mb 1 63 [.ref U, .ref V] (PreN news) (RetTup news (sOr nU aU bU aV bV).1 (sOr nU aU bU aV bV).2.1 (sOr nU aU bU aV bV).2.2) := by
  unfold Cl; k_fill
  intro dp un gd cn cs a ccd cl outer A₀ base h₀ L m s Q E B F X N T hk hd' hu' hret
  refine wpAny_call ?_
  k_dflt cell_enter
  k_steps
  all_goals exact hret _ _ _ _ _ _ _ (by k_asm) (cb_drop (by k_asm) (by kcj_all))
local macro_rules | `(tactic| walk_at "call ref") => `(tactic| k_extra "m11")
theorem word11 : True := by
  k_with "m11" => ((k_here; (with_reducible show wpAny _ _ (PySem.call (Value.ref 63) [Value.ref _, Value.ref _]) _ _ _); k_dflt (refine' use (c_bit_or _ _ _ _ _ _ _ _ _ _ _ _ _ _ _ _ _ ?m11mU ?m11mV ?m11h0 ?m11h1) ?m11k1 ?m11k2 ?m11k3 ?m11k4 ?m11k5 ?m11k6 ?m11k7 ?m11k8 ?_; (case m11k1 => k_asm); (case m11k2 => k_asm); (case m11k3 => k_asm); (case m11k4 => k_asm); (case m11k5 => k_asm); (case m11k6 => first | exact rfl | assumption); (case m11k7 => ktr_room); (case m11k8 => ktr_units); (case m11mU => first | assumption | exact List.Mem.head _ | (refine' List.Mem.tail _ ?_; (first | assumption | exact List.Mem.head _ | (refine' List.Mem.tail _ ?_; (first | assumption | exact List.Mem.head _ | (refine' List.Mem.tail _ ?_; (first | assumption | exact List.Mem.head _ | (refine' List.Mem.tail _ ?_; (first | assumption | exact List.Mem.head _ | (refine' List.Mem.tail _ ?_; (first | assumption | exact List.Mem.head _ | (refine' List.Mem.tail _ ?_; (first | assumption | exact List.Mem.head _ | (refine' List.Mem.tail _ ?_; (first | assumption | exact List.Mem.head _ | (refine' List.Mem.tail _ ?_; (first | assumption | exact List.Mem.head _))))))))))))))))); (case m11mV => first | assumption | exact List.Mem.head _ | (refine' List.Mem.tail _ ?_; (first | assumption | exact List.Mem.head _ | (refine' List.Mem.tail _ ?_; (first | assumption | exact List.Mem.head _ | (refine' List.Mem.tail _ ?_; (first | assumption | exact List.Mem.head _ | (refine' List.Mem.tail _ ?_; (first | assumption | exact List.Mem.head _ | (refine' List.Mem.tail _ ?_; (first | assumption | exact List.Mem.head _ | (refine' List.Mem.tail _ ?_; (first | assumption | exact List.Mem.head _ | (refine' List.Mem.tail _ ?_; (first | assumption | exact List.Mem.head _ | (refine' List.Mem.tail _ ?_; (first | assumption | exact List.Mem.head _))))))))))))))))); (case m11h0 => first | assumption | omega | (show (0:Int) ≤ 1; decide) | (show (1:Int) ≤ 64; decide)); (case m11h1 => first | assumption | omega | (show (0:Int) ≤ 1; decide) | (show (1:Int) ≤ 64; decide)); intro D' t1' t2' t3' c' h' tk' F' N'; (try dsimp only); (try k_sweep))))
  exact trivial
theorem fresh6 : True := by
  w_top off
  (try walk1)
  exact trivial
theorem c_bit_xnor {w : World} {mean : ExcName → Option Value} {mg mb : Str → Option Value} (U : Addr) (nU aU bU : Int) (tU1 tU2 tU3 : Tok) (cU : Nat) (V : Addr) (nV aV bV : Int) (tV1 tV2 tV3 : Tok) (cV : Nat) (news : Led) (hU : (U, tup3 nU aU bU tU1 tU2 tU3 cU) ∈ news) (hV : (V, tup3 nV aV bV tV1 tV2 tV3 cV) ∈ news) (h0 : 0 ≤ nU) (h1 : nU ≤ 64) :
   Cl w mean mg mb 2 77 [.ref U, .ref V] (PreN news) (RetTup news (sXnor nU aU bU aV bV).1 (sXnor nU aU bU aV bV).2.1 (sXnor nU aU bU aV bV).2.2) := by
  unfold Cl; k_fill
  intro dp un gd cn cs a ccd cl outer A₀ base h₀ L m s Q E B F X N T hk hd' hu' hret
  refine wpAny_call ?_
  k_dflt cell_enter
  k_steps
  all_goals exact hret _ _ _ _ _ _ _ (by k_asm) (cb_drop (by k_asm) (by kcj_all))
local macro_rules | `(tactic| walk_at "call ref") => `(tactic| k_extra "m12")
theorem word12 : True := by
  k_with "m12" => ((k_here; (with_reducible show wpAny _ _ (PySem.call (Value.ref 77) [Value.ref _, Value.ref _]) _ _ _); k_dflt (refine' use (c_bit_xnor _ _ _ _ _ _ _ _ _ _ _ _ _ _ _ _ _ ?m12mU ?m12mV ?m12h0 ?m12h1) ?m12k1 ?m12k2 ?m12k3 ?m12k4 ?m12k5 ?m12k6 ?m12k7 ?m12k8 ?_; (case m12k1 => k_asm); (case m12k2 => k_asm); (case m12k3 => k_asm); (case m12k4 => k_asm); (case m12k5 => k_asm); (case m12k6 => first | exact rfl | assumption); (case m12k7 => ktr_room); (case m12k8 => ktr_units); (case m12mU => first | assumption | exact List.Mem.head _ | (refine' List.Mem.tail _ ?_; (first | assumption | exact List.Mem.head _ | (refine' List.Mem.tail _ ?_; (first | assumption | exact List.Mem.head _ | (refine' List.Mem.tail _ ?_; (first | assumption | exact List.Mem.head _ | (refine' List.Mem.tail _ ?_; (first | assumption | exact List.Mem.head _ | (refine' List.Mem.tail _ ?_; (first | assumption | exact List.Mem.head _ | (refine' List.Mem.tail _ ?_; (first | assumption | exact List.Mem.head _ | (refine' List.Mem.tail _ ?_; (first | assumption | exact List.Mem.head _ | (refine' List.Mem.tail _ ?_; (first | assumption | exact List.Mem.head _))))))))))))))))); (case m12mV => first | assumption | exact List.Mem.head _ | (refine' List.Mem.tail _ ?_; (first | assumption | exact List.Mem.head _ | (refine' List.Mem.tail _ ?_; (first | assumption | exact List.Mem.head _ | (refine' List.Mem.tail _ ?_; (first | assumption | exact List.Mem.head _ | (refine' List.Mem.tail _ ?_; (first | assumption | exact List.Mem.head _ | (refine' List.Mem.tail _ ?_; (first | assumption | exact List.Mem.head _ | (refine' List.Mem.tail _ ?_; (first | assumption | exact List.Mem.head _ | (refine' List.Mem.tail _ ?_; (first | assumption | exact List.Mem.head _ | (refine' List.Mem.tail _ ?_; (first | assumption | exact List.Mem.head _))))))))))))))))); (case m12h0 => first | assumption | omega | (show (0:Int) ≤ 1; decide) | (show (1:Int) ≤ 64; decide)); (case m12h1 => first | assumption | omega | (show (0:Int) ≤ 1; decide) | (show (1:Int) ≤ 64; decide)); intro D' t1' t2' t3' c' h' tk' F' N'; (try dsimp only); (try k_sweep))))
  exact trivial
theorem c_reduce_and {w : World} {mean : ExcName → Option Value} {mg mb : Str → Option Value} (U : Addr) (nU aU bU : Int) (tU1 tU2 tU3 : Tok) (cU : Nat) (news : Led) (hU : (U, tup3 nU aU bU tU1 tU2 tU3 cU) ∈ news) (h0 : 0 ≤ nU) (h1 : nU ≤ 64) :
   Cl w mean mg mb 1 84 [.ref U] (PreN news) (RetTup news (sRAnd nU aU bU).1 (sRAnd nU aU bU).2.1 (sRAnd nU aU bU).2.2) := by
  unfold Cl; k_fill
  intro dp un gd cn cs a ccd cl outer A₀ base h₀ L m s Q E B F X N T hk hd' hu' hret
  refine wpAny_call ?_
  k_dflt cell_enter
  k_steps
  all_goals (refine tup_ret hret ?_ (by k_asm) (cb_drop (by k_asm) (by kcj_all)))
  all_goals first | (simp_all [sRAnd, sZ]; done) | (simp_all [sRAnd, sZ]; rw [if_neg (by rintro ⟨e1, e2, e3⟩; simp_all)])
local macro_rules | `(tactic| walk_at "call ref") => `(tactic| k_extra "m13")
theorem word13 : True := by
  k_with "m13" => ((k_here; (with_reducible show wpAny _ _ (PySem.call (Value.ref 84) [Value.ref _]) _ _ _); k_dflt (refine' use (c_reduce_and _ _ _ _ _ _ _ _ _ ?m13mU ?m13h0 ?m13h1) ?m13k1 ?m13k2 ?m13k3 ?m13k4 ?m13k5 ?m13k6 ?m13k7 ?m13k8 ?_; (case m13k1 => k_asm); (case m13k2 => k_asm); (case m13k3 => k_asm); (case m13k4 => k_asm); (case m13k5 => k_asm); (case m13k6 => first | exact rfl | assumption); (case m13k7 => ktr_room); (case m13k8 => ktr_units); (case m13mU => first | assumption | exact List.Mem.head _ | (refine' List.Mem.tail _ ?_; (first | assumption | exact List.Mem.head _ | (refine' List.Mem.tail _ ?_; (first | assumption | exact List.Mem.head _ | (refine' List.Mem.tail _ ?_; (first | assumption | exact List.Mem.head _ | (refine' List.Mem.tail _ ?_; (first | assumption | exact List.Mem.head _ | (refine' List.Mem.tail _ ?_; (first | assumption | exact List.Mem.head _ | (refine' List.Mem.tail _ ?_; (first | assumption | exact List.Mem.head _ | (refine' List.Mem.tail _ ?_; (first | assumption | exact List.Mem.head _ | (refine' List.Mem.tail _ ?_; (first | assumption | exact List.Mem.head _))))))))))))))))); (case m13h0 => first | assumption | omega | (show (0:Int) ≤ 1; decide) | (show (1:Int) ≤ 64; decide)); (case m13h1 => first | assumption | omega | (show (0:Int) ≤ 1; decide) | (show (1:Int) ≤ 64; decide)); intro D' t1' t2' t3' c' h' tk' F' N'; (try dsimp only); (try k_sweep))))
  exact trivial
theorem c_reduce_nand {w : World} {mean : ExcName → Option Value} {mg mb : Str → Option Value} (U : Addr) (nU aU bU : Int) (tU1 tU2 tU3 : Tok) (cU : Nat) (news : Led) (hU : (U, tup3 nU aU bU tU1 tU2 tU3 cU) ∈ news) (h0 : 0 ≤ nU) (h1 : nU ≤ 64) :
   Cl w mean mg mb 2 91 [.ref U] (PreN news) (RetTup news (sNotV (sRAnd nU aU bU)).1 (sNotV (sRAnd nU aU bU)).2.1 (sNotV (sRAnd nU aU bU)).2.2) := by
  unfold Cl; k_fill
  intro dp un gd cn cs a ccd cl outer A₀ base h₀ L m s Q E B F X N T hk hd' hu' hret
  refine wpAny_call ?_
  k_dflt cell_enter
  k_steps
  all_goals exact hret _ _ _ _ _ _ _ (by k_asm) (cb_drop (by k_asm) (by kcj_all))
local macro_rules | `(tactic| walk_at "call ref") => `(tactic| k_extra "m14")
theorem word14 : True := by
  k_with "m14" => ((k_here; (with_reducible show wpAny _ _ (PySem.call (Value.ref 91) [Value.ref _]) _ _ _); k_dflt (refine' use (c_reduce_nand _ _ _ _ _ _ _ _ _ ?m14mU ?m14h0 ?m14h1) ?m14k1 ?m14k2 ?m14k3 ?m14k4 ?m14k5 ?m14k6 ?m14k7 ?m14k8 ?_; (case m14k1 => k_asm); (case m14k2 => k_asm); (case m14k3 => k_asm); (case m14k4 => k_asm); (case m14k5 => k_asm); (case m14k6 => first | exact rfl | assumption); (case m14k7 => ktr_room); (case m14k8 => ktr_units); (case m14mU => first | assumption | exact List.Mem.head _ | (refine' List.Mem.tail _ ?_; (first | assumption | exact List.Mem.head _ | (refine' List.Mem.tail _ ?_; (first | assumption | exact List.Mem.head _ | (refine' List.Mem.tail _ ?_; (first | assumption | exact List.Mem.head _ | (refine' List.Mem.tail _ ?_; (first | assumption | exact List.Mem.head _ | (refine' List.Mem.tail _ ?_; (first | assumption | exact List.Mem.head _ | (refine' List.Mem.tail _ ?_; (first | assumption | exact List.Mem.head _ | (refine' List.Mem.tail _ ?_; (first | assumption | exact List.Mem.head _ | (refine' List.Mem.tail _ ?_; (first | assumption | exact List.Mem.head _))))))))))))))))); (case m14h0 => first | assumption | omega | (show (0:Int) ≤ 1; decide) | (show (1:Int) ≤ 64; decide)); (case m14h1 => first | assumption | omega | (show (0:Int) ≤ 1; decide) | (show (1:Int) ≤ 64; decide)); intro D' t1' t2' t3' c' h' tk' F' N'; (try dsimp only); (try k_sweep))))
  exact trivial
theorem c_reduce_or {w : World} {mean : ExcName → Option Value} {mg mb : Str → Option Value} (U : Addr) (nU aU bU : Int) (tU1 tU2 tU3 : Tok) (cU : Nat) (news : Led) (hU : (U, tup3 nU aU bU tU1 tU2 tU3 cU) ∈ news) (h0 : 0 ≤ nU) (h1 : nU ≤ 64) :
   Cl w mean mg mb 2 98 [.ref U] (PreN news) (RetTup news (sROr nU aU bU).1 (sROr nU aU bU).2.1 (sROr nU aU bU).2.2) := by
  unfold Cl; k_fill
  intro dp un gd cn cs a ccd cl outer A₀ base h₀ L m s Q E B F X N T hk hd' hu' hret
  refine wpAny_call ?_
  k_dflt cell_enter
  k_steps
  all_goals exact hret _ _ _ _ _ _ _ (by k_asm) (cb_drop (by k_asm) (by kcj_all))
local macro_rules | `(tactic| walk_at "call ref") => `(tactic| k_extra "m15")
theorem word15 : True := by
  k_with "m15" => ((k_here; (with_reducible show wpAny _ _ (PySem.call (Value.ref 98) [Value.ref _]) _ _ _); k_dflt (refine' use (c_reduce_or _ _ _ _ _ _ _ _ _ ?m15mU ?m15h0 ?m15h1) ?m15k1 ?m15k2 ?m15k3 ?m15k4 ?m15k5 ?m15k6 ?m15k7 ?m15k8 ?_; (case m15k1 => k_asm); (case m15k2 => k_asm); (case m15k3 => k_asm); (case m15k4 => k_asm); (case m15k5 => k_asm); (case m15k6 => first | exact rfl | assumption); (case m15k7 => ktr_room); (case m15k8 => ktr_units); (case m15mU => first | assumption | exact List.Mem.head _ | (refine' List.Mem.tail _ ?_; (first | assumption | exact List.Mem.head _ | (refine' List.Mem.tail _ ?_; (first | assumption | exact List.Mem.head _ | (refine' List.Mem.tail _ ?_; (first | assumption | exact List.Mem.head _ | (refine' List.Mem.tail _ ?_; (first | assumption | exact List.Mem.head _ | (refine' List.Mem.tail _ ?_; (first | assumption | exact List.Mem.head _ | (refine' List.Mem.tail _ ?_; (first | assumption | exact List.Mem.head _ | (refine' List.Mem.tail _ ?_; (first | assumption | exact List.Mem.head _ | (refine' List.Mem.tail _ ?_; (first | assumption | exact List.Mem.head _))))))))))))))))); (case m15h0 => first | assumption | omega | (show (0:Int) ≤ 1; decide) | (show (1:Int) ≤ 64; decide)); (case m15h1 => first | assumption | omega | (show (0:Int) ≤ 1; decide) | (show (1:Int) ≤ 64; decide)); intro D' t1' t2' t3' c' h' tk' F' N'; (try dsimp only); (try k_sweep))))
  exact trivial
theorem c_reduce_nor {w : World} {mean : ExcName → Option Value} {mg mb : Str → Option Value} (U : Addr) (nU aU bU : Int) (tU1 tU2 tU3 : Tok) (cU : Nat) (news : Led) (hU : (U, tup3 nU aU bU tU1 tU2 tU3 cU) ∈ news) (h0 : 0 ≤ nU) (h1 : nU ≤ 64) :
   Cl w mean mg mb 3 105 [.ref U] (PreN news) (RetTup news (sNotV (sROr nU aU bU)).1 (sNotV (sROr nU aU bU)).2.1 (sNotV (sROr nU aU bU)).2.2) := by
  unfold Cl; k_fill
  intro dp un gd cn cs a ccd cl outer A₀ base h₀ L m s Q E B F X N T hk hd' hu' hret
  refine wpAny_call ?_
  k_dflt cell_enter
  k_steps
  all_goals exact hret _ _ _ _ _ _ _ (by k_asm) (cb_drop (by k_asm) (by kcj_all))
local macro_rules | `(tactic| walk_at "call ref") => `(tactic| k_extra "m16")
theorem word16 : True := by
  k_with "m16" => ((k_here; (with_reducible show wpAny _ _ (PySem.call (Value.ref 105) [Value.ref _]) _ _ _); k_dflt (refine' use (c_reduce_nor _ _ _ _ _ _ _ _ _ ?m16mU ?m16h0 ?m16h1) ?m16k1 ?m16k2 ?m16k3 ?m16k4 ?m16k5 ?m16k6 ?m16k7 ?m16k8 ?_; (case m16k1 => k_asm); (case m16k2 => k_asm); (case m16k3 => k_asm); (case m16k4 => k_asm); (case m16k5 => k_asm); (case m16k6 => first | exact rfl | assumption); (case m16k7 => ktr_room); (case m16k8 => ktr_units); (case m16mU => first | assumption | exact List.Mem.head _ | (refine' List.Mem.tail _ ?_; (first | assumption | exact List.Mem.head _ | (refine' List.Mem.tail _ ?_; (first | assumption | exact List.Mem.head _ | (refine' List.Mem.tail _ ?_; (first | assumption | exact List.Mem.head _ | (refine' List.Mem.tail _ ?_; (first | assumption | exact List.Mem.head _ | (refine' List.Mem.tail _ ?_; (first | assumption | exact List.Mem.head _ | (refine' List.Mem.tail _ ?_; (first | assumption | exact List.Mem.head _ | (refine' List.Mem.tail _ ?_; (first | assumption | exact List.Mem.head _ | (refine' List.Mem.tail _ ?_; (first | assumption | exact List.Mem.head _))))))))))))))))); (case m16h0 => first | assumption | omega | (show (0:Int) ≤ 1; decide) | (show (1:Int) ≤ 64; decide)); (case m16h1 => first | assumption | omega | (show (0:Int) ≤ 1; decide) | (show (1:Int) ≤ 64; decide)); intro D' t1' t2' t3' c' h' tk' F' N'; (try dsimp only); (try k_sweep))))
  exact trivial
theorem c_logic_not {w : World} {mean : ExcName → Option Value} {mg mb : Str → Option Value} (U : Addr) (nU aU bU : Int) (tU1 tU2 tU3 : Tok) (cU : Nat) (news : Led) (hU : (U, tup3 nU aU bU tU1 tU2 tU3 cU) ∈ news) (h0 : 0 ≤ nU) (h1 : nU ≤ 64) :
   Cl w mean mg mb 3 126 [.ref U] (PreN news) (RetTup news (sNotV (sROr nU aU bU)).1 (sNotV (sROr nU aU bU)).2.1 (sNotV (sROr nU aU bU)).2.2) := by
  unfold Cl; k_fill
  intro dp un gd cn cs a ccd cl outer A₀ base h₀ L m s Q E B F X N T hk hd' hu' hret
  refine wpAny_call ?_
  k_dflt cell_enter
  k_steps
  all_goals exact hret _ _ _ _ _ _ _ (by k_asm) (cb_drop (by k_asm) (by kcj_all))
local macro_rules | `(tactic| walk_at "call ref") => `(tactic| k_extra "m17")
theorem word17 : True := by
  k_with "m17" => ((k_here; (with_reducible show wpAny _ _ (PySem.call (Value.ref 126) [Value.ref _]) _ _ _); k_dflt (refine' use (c_logic_not _ _ _ _ _ _ _ _ _ ?m17mU ?m17h0 ?m17h1) ?m17k1 ?m17k2 ?m17k3 ?m17k4 ?m17k5 ?m17k6 ?m17k7 ?m17k8 ?_; (case m17k1 => k_asm); (case m17k2 => k_asm); (case m17k3 => k_asm); (case m17k4 => k_asm); (case m17k5 => k_asm); (case m17k6 => first | exact rfl | assumption); (case m17k7 => ktr_room); (case m17k8 => ktr_units); (case m17mU => first | assumption | exact List.Mem.head _ | (refine' List.Mem.tail _ ?_; (first | assumption | exact List.Mem.head _ | (refine' List.Mem.tail _ ?_; (first | assumption | exact List.Mem.head _ | (refine' List.Mem.tail _ ?_; (first | assumption | exact List.Mem.head _ | (refine' List.Mem.tail _ ?_; (first | assumption | exact List.Mem.head _ | (refine' List.Mem.tail _ ?_; (first | assumption | exact List.Mem.head _ | (refine' List.Mem.tail _ ?_; (first | assumption | exact List.Mem.head _ | (refine' List.Mem.tail _ ?_; (first | assumption | exact List.Mem.head _ | (refine' List.Mem.tail _ ?_; (first | assumption | exact List.Mem.head _))))))))))))))))); (case m17h0 => first | assumption | omega | (show (0:Int) ≤ 1; decide) | (show (1:Int) ≤ 64; decide)); (case m17h1 => first | assumption | omega | (show (0:Int) ≤ 1; decide) | (show (1:Int) ≤ 64; decide)); intro D' t1' t2' t3' c' h' tk' F' N'; (try dsimp only); (try k_sweep))))
  exact trivial
theorem fresh7 : True := by
  w_top off
  (try walk1)
  exact trivial
theorem c_equal {w : World} {mean : ExcName → Option Value} {mg mb : Str → Option Value} (U : Addr) (nU aU bU : Int) (tU1 tU2 tU3 : Tok) (cU : Nat) (V : Addr) (nV aV bV : Int) (tV1 tV2 tV3 : Tok) (cV : Nat) (news : Led) (hU : (U, tup3 nU aU bU tU1 tU2 tU3 cU) ∈ news) (hV : (V, tup3 nV aV bV tV1 tV2 tV3 cV) ∈ news) (h0 : 0 ≤ nU) (h1 : nU ≤ 64) :
   Cl w mean mg mb 1 147 [.ref U, .ref V] (PreN news) (RetTup news (sEq nU aU bU aV bV).1 (sEq nU aU bU aV bV).2.1 (sEq nU aU bU aV bV).2.2) := by
  unfold Cl; k_fill
  intro dp un gd cn cs a ccd cl outer A₀ base h₀ L m s Q E B F X N T hk hd' hu' hret
  refine wpAny_call ?_
  k_dflt cell_enter
  k_steps
  all_goals (refine tup_ret hret ?_ (by k_asm) (cb_drop (by k_asm) (by kcj_all)))
  all_goals first | (simp_all [sEq]; done) | (simp_all [sEq]; rw [if_neg (by rintro ⟨e1, e2, e3⟩; simp_all)])
local macro_rules | `(tactic| walk_at "call ref") => `(tactic| k_extra "m18")
theorem word18 : True := by
  k_with "m18" => ((k_here; (with_reducible show wpAny _ _ (PySem.call (Value.ref 147) [Value.ref _, Value.ref _]) _ _ _); k_dflt (refine' use (c_equal _ _ _ _ _ _ _ _ _ _ _ _ _ _ _ _ _ ?m18mU ?m18mV ?m18h0 ?m18h1) ?m18k1 ?m18k2 ?m18k3 ?m18k4 ?m18k5 ?m18k6 ?m18k7 ?m18k8 ?_; (case m18k1 => k_asm); (case m18k2 => k_asm); (case m18k3 => k_asm); (case m18k4 => k_asm); (case m18k5 => k_asm); (case m18k6 => first | exact rfl | assumption); (case m18k7 => ktr_room); (case m18k8 => ktr_units); (case m18mU => first | assumption | exact List.Mem.head _ | (refine' List.Mem.tail _ ?_; (first | assumption | exact List.Mem.head _ | (refine' List.Mem.tail _ ?_; (first | assumption | exact List.Mem.head _ | (refine' List.Mem.tail _ ?_; (first | assumption | exact List.Mem.head _ | (refine' List.Mem.tail _ ?_; (first | assumption | exact List.Mem.head _ | (refine' List.Mem.tail _ ?_; (first | assumption | exact List.Mem.head _ | (refine' List.Mem.tail _ ?_; (first | assumption | exact List.Mem.head _ | (refine' List.Mem.tail _ ?_; (first | assumption | exact List.Mem.head _ | (refine' List.Mem.tail _ ?_; (first | assumption | exact List.Mem.head _))))))))))))))))); (case m18mV => first | assumption | exact List.Mem.head _ | (refine' List.Mem.tail _ ?_; (first | assumption | exact List.Mem.head _ | (refine' List.Mem.tail _ ?_; (first | assumption | exact List.Mem.head _ | (refine' List.Mem.tail _ ?_; (first | assumption | exact List.Mem.head _ | (refine' List.Mem.tail _ ?_; (first | assumption | exact List.Mem.head _ | (refine' List.Mem.tail _ ?_; (first | assumption | exact List.Mem.head _ | (refine' List.Mem.tail _ ?_; (first | assumption | exact List.Mem.head _ | (refine' List.Mem.tail _ ?_; (first | assumption | exact List.Mem.head _ | (refine' List.Mem.tail _ ?_; (first | assumption | exact List.Mem.head _))))))))))))))))); (case m18h0 => first | assumption | omega | (show (0:Int) ≤ 1; decide) | (show (1:Int) ≤ 64; decide)); (case m18h1 => first | assumption | omega | (show (0:Int) ≤ 1; decide) | (show (1:Int) ≤ 64; decide)); intro D' t1' t2' t3' c' h' tk' F' N'; (try dsimp only); (try k_sweep))))
  exact trivial
theorem c_not_equal {w : World} {mean : ExcName → Option Value} {mg mb : Str → Option Value} (U : Addr) (nU aU bU : Int) (tU1 tU2 tU3 : Tok) (cU : Nat) (V : Addr) (nV aV bV : Int) (tV1 tV2 tV3 : Tok) (cV : Nat) (news : Led) (hU : (U, tup3 nU aU bU tU1 tU2 tU3 cU) ∈ news) (hV : (V, tup3 nV aV bV tV1 tV2 tV3 cV) ∈ news) (h0 : 0 ≤ nU) (h1 : nU ≤ 64) :
   Cl w mean mg mb 2 154 [.ref U, .ref V] (PreN news) (RetTup news (sNotV (sEq nU aU bU aV bV)).1 (sNotV (sEq nU aU bU aV bV)).2.1 (sNotV (sEq nU aU bU aV bV)).2.2) := by
  unfold Cl; k_fill
  intro dp un gd cn cs a ccd cl outer A₀ base h₀ L m s Q E B F X N T hk hd' hu' hret
  refine wpAny_call ?_
  k_dflt cell_enter
  k_steps
  all_goals exact hret _ _ _ _ _ _ _ (by k_asm) (cb_drop (by k_asm) (by kcj_all))
local macro_rules | `(tactic| walk_at "call ref") => `(tactic| k_extra "m19")
theorem word19 : True := by
  k_with "m19" => ((k_here; (with_reducible show wpAny _ _ (PySem.call (Value.ref 154) [Value.ref _, Value.ref _]) _ _ _); k_dflt (refine' use (c_not_equal _ _ _ _ _ _ _ _ _ _ _ _ _ _ _ _ _ ?m19mU ?m19mV ?m19h0 ?m19h1) ?m19k1 ?m19k2 ?m19k3 ?m19k4 ?m19k5 ?m19k6 ?m19k7 ?m19k8 ?_; (case m19k1 => k_asm); (case m19k2 => k_asm); (case m19k3 => k_asm); (case m19k4 => k_asm); (case m19k5 => k_asm); (case m19k6 => first | exact rfl | assumption); (case m19k7 => ktr_room); (case m19k8 => ktr_units); (case m19mU => first | assumption | exact List.Mem.head _ | (refine' List.Mem.tail _ ?_; (first | assumption | exact List.Mem.head _ | (refine' List.Mem.tail _ ?_; (first | assumption | exact List.Mem.head _ | (refine' List.Mem.tail _ ?_; (first | assumption | exact List.Mem.head _ | (refine' List.Mem.tail _ ?_; (first | assumption | exact List.Mem.head _ | (refine' List.Mem.tail _ ?_; (first | assumption | exact List.Mem.head _ | (refine' List.Mem.tail _ ?_; (first | assumption | exact List.Mem.head _ | (refine' List.Mem.tail _ ?_; (first | assumption | exact List.Mem.head _ | (refine' List.Mem.tail _ ?_; (first | assumption | exact List.Mem.head _))))))))))))))))); (case m19mV => first | assumption | exact List.Mem.head _ | (refine' List.Mem.tail _ ?_; (first | assumption | exact List.Mem.head _ | (refine' List.Mem.tail _ ?_; (first | assumption | exact List.Mem.head _ | (refine' List.Mem.tail _ ?_; (first | assumption | exact List.Mem.head _ | (refine' List.Mem.tail _ ?_; (first | assumption | exact List.Mem.head _ | (refine' List.Mem.tail _ ?_; (first | assumption | exact List.Mem.head _ | (refine' List.Mem.tail _ ?_; (first | assumption | exact List.Mem.head _ | (refine' List.Mem.tail _ ?_; (first | assumption | exact List.Mem.head _ | (refine' List.Mem.tail _ ?_; (first | assumption | exact List.Mem.head _))))))))))))))))); (case m19h0 => first | assumption | omega | (show (0:Int) ≤ 1; decide) | (show (1:Int) ≤ 64; decide)); (case m19h1 => first | assumption | omega | (show (0:Int) ≤ 1; decide) | (show (1:Int) ≤ 64; decide)); intro D' t1' t2' t3' c' h' tk' F' N'; (try dsimp only); (try k_sweep))))
  exact trivial
theorem c_case_equal {w : World} {mean : ExcName → Option Value} {mg mb : Str → Option Value} (U : Addr) (nU aU bU : Int) (tU1 tU2 tU3 : Tok) (cU : Nat) (V : Addr) (nV aV bV : Int) (tV1 tV2 tV3 : Tok) (cV : Nat) (news : Led) (hU : (U, tup3 nU aU bU tU1 tU2 tU3 cU) ∈ news) (hV : (V, tup3 nV aV bV tV1 tV2 tV3 cV) ∈ news)  :
   Cl w mean mg mb 1 161 [.ref U, .ref V] (PreN news) (RetTup news (sCEq nU aU bU nV aV bV).1 (sCEq nU aU bU nV aV bV).2.1 (sCEq nU aU bU nV aV bV).2.2) := by
  unfold Cl; k_fill
  intro dp un gd cn cs a ccd cl outer A₀ base h₀ L m s Q E B F X N T hk hd' hu' hret
  refine wpAny_call ?_
  k_dflt cell_enter
  k_steps
  all_goals (refine tup_ret hret ?_ (by k_asm) (cb_drop (by k_asm) (by kcj_all)))
  all_goals first | (simp_all [sCEq]; done) | (simp_all [sCEq]; rw [if_neg (by rintro ⟨e1, e2, e3⟩; simp_all)])
local macro_rules | `(tactic| walk_at "call ref") => `(tactic| k_extra "m20")
theorem word20 : True := by
  k_with "m20" => ((k_here; (with_reducible show wpAny _ _ (PySem.call (Value.ref 161) [Value.ref _, Value.ref _]) _ _ _); k_dflt (refine' use (c_case_equal _ _ _ _ _ _ _ _ _ _ _ _ _ _ _ _ _ ?m20mU ?m20mV) ?m20k1 ?m20k2 ?m20k3 ?m20k4 ?m20k5 ?m20k6 ?m20k7 ?m20k8 ?_; (case m20k1 => k_asm); (case m20k2 => k_asm); (case m20k3 => k_asm); (case m20k4 => k_asm); (case m20k5 => k_asm); (case m20k6 => first | exact rfl | assumption); (case m20k7 => ktr_room); (case m20k8 => ktr_units); (case m20mU => first | assumption | exact List.Mem.head _ | (refine' List.Mem.tail _ ?_; (first | assumption | exact List.Mem.head _ | (refine' List.Mem.tail _ ?_; (first | assumption | exact List.Mem.head _ | (refine' List.Mem.tail _ ?_; (first | assumption | exact List.Mem.head _ | (refine' List.Mem.tail _ ?_; (first | assumption | exact List.Mem.head _ | (refine' List.Mem.tail _ ?_; (first | assumption | exact List.Mem.head _ | (refine' List.Mem.tail _ ?_; (first | assumption | exact List.Mem.head _ | (refine' List.Mem.tail _ ?_; (first | assumption | exact List.Mem.head _ | (refine' List.Mem.tail _ ?_; (first | assumption | exact List.Mem.head _))))))))))))))))); (case m20mV => first | assumption | exact List.Mem.head _ | (refine' List.Mem.tail _ ?_; (first | assumption | exact List.Mem.head _ | (refine' List.Mem.tail _ ?_; (first | assumption | exact List.Mem.head _ | (refine' List.Mem.tail _ ?_; (first | assumption | exact List.Mem.head _ | (refine' List.Mem.tail _ ?_; (first | assumption | exact List.Mem.head _ | (refine' List.Mem.tail _ ?_; (first | assumption | exact List.Mem.head _ | (refine' List.Mem.tail _ ?_; (first | assumption | exact List.Mem.head _ | (refine' List.Mem.tail _ ?_; (first | assumption | exact List.Mem.head _ | (refine' List.Mem.tail _ ?_; (first | assumption | exact List.Mem.head _))))))))))))))))); intro D' t1' t2' t3' c' h' tk' F' N'; (try dsimp only); (try k_sweep))))
  exact trivial
theorem c_case_not_equal {w : World} {mean : ExcName → Option Value} {mg mb : Str → Option Value} (U : Addr) (nU aU bU : Int) (tU1 tU2 tU3 : Tok) (cU : Nat) (V : Addr) (nV aV bV : Int) (tV1 tV2 tV3 : Tok) (cV : Nat) (news : Led) (hU : (U, tup3 nU aU bU tU1 tU2 tU3 cU) ∈ news) (hV : (V, tup3 nV aV bV tV1 tV2 tV3 cV) ∈ news)  :
   Cl w mean mg mb 1 168 [.ref U, .ref V] (PreN news) (RetTup news (sCNe nU aU bU nV aV bV).1 (sCNe nU aU bU nV aV bV).2.1 (sCNe nU aU bU nV aV bV).2.2) := by
  unfold Cl; k_fill
  intro dp un gd cn cs a ccd cl outer A₀ base h₀ L m s Q E B F X N T hk hd' hu' hret
  refine wpAny_call ?_
  k_dflt cell_enter
  k_steps
  all_goals (refine tup_ret hret ?_ (by k_asm) (cb_drop (by k_asm) (by kcj_all)))
  all_goals first | (simp_all [sCNe]; done) | (simp_all [sCNe]; rw [if_neg (by rintro ⟨e1, e2, e3⟩; simp_all)])
local macro_rules | `(tactic| walk_at "call ref") => `(tactic| k_extra "m21")
theorem word21 : True := by
  k_with "m21" => ((k_here; (with_reducible show wpAny _ _ (PySem.call (Value.ref 168) [Value.ref _, Value.ref _]) _ _ _); k_dflt (refine' use (c_case_not_equal _ _ _ _ _ _ _ _ _ _ _ _ _ _ _ _ _ ?m21mU ?m21mV) ?m21k1 ?m21k2 ?m21k3 ?m21k4 ?m21k5 ?m21k6 ?m21k7 ?m21k8 ?_; (case m21k1 => k_asm); (case m21k2 => k_asm); (case m21k3 => k_asm); (case m21k4 => k_asm); (case m21k5 => k_asm); (case m21k6 => first | exact rfl | assumption); (case m21k7 => ktr_room); (case m21k8 => ktr_units); (case m21mU => first | assumption | exact List.Mem.head _ | (refine' List.Mem.tail _ ?_; (first | assumption | exact List.Mem.head _ | (refine' List.Mem.tail _ ?_; (first | assumption | exact List.Mem.head _ | (refine' List.Mem.tail _ ?_; (first | assumption | exact List.Mem.head _ | (refine' List.Mem.tail _ ?_; (first | assumption | exact List.Mem.head _ | (refine' List.Mem.tail _ ?_; (first | assumption | exact List.Mem.head _ | (refine' List.Mem.tail _ ?_; (first | assumption | exact List.Mem.head _ | (refine' List.Mem.tail _ ?_; (first | assumption | exact List.Mem.head _ | (refine' List.Mem.tail _ ?_; (first | assumption | exact List.Mem.head _))))))))))))))))); (case m21mV => first | assumption | exact List.Mem.head _ | (refine' List.Mem.tail _ ?_; (first | assumption | exact List.Mem.head _ | (refine' List.Mem.tail _ ?_; (first | assumption | exact List.Mem.head _ | (refine' List.Mem.tail _ ?_; (first | assumption | exact List.Mem.head _ | (refine' List.Mem.tail _ ?_; (first | assumption | exact List.Mem.head _ | (refine' List.Mem.tail _ ?_; (first | assumption | exact List.Mem.head _ | (refine' List.Mem.tail _ ?_; (first | assumption | exact List.Mem.head _ | (refine' List.Mem.tail _ ?_; (first | assumption | exact List.Mem.head _ | (refine' List.Mem.tail _ ?_; (first | assumption | exact List.Mem.head _))))))))))))))))); intro D' t1' t2' t3' c' h' tk' F' N'; (try dsimp only); (try k_sweep))))
  exact trivial
theorem fresh8 : True := by
  w_top off
  (try walk1)
  exact trivial
theorem c_logic_and {w : World} {mean : ExcName → Option Value} {mg mb : Str → Option Value} (U : Addr) (nU aU bU : Int) (tU1 tU2 tU3 : Tok) (cU : Nat) (V : Addr) (nV aV bV : Int) (tV1 tV2 tV3 : Tok) (cV : Nat) (news : Led) (hU : (U, tup3 nU aU bU tU1 tU2 tU3 cU) ∈ news) (hV : (V, tup3 nV aV bV tV1 tV2 tV3 cV) ∈ news) (h0 : 0 ≤ nU) (h1 : nU ≤ 64) (h2 : 0 ≤ nV) (h3 : nV ≤ 64) :
   Cl w mean mg mb 3 133 [.ref U, .ref V] (PreN news) (RetTup news (sLAnd (sTruth nU aU bU) (sTruth nV aV bV)).1 (sLAnd (sTruth nU aU bU) (sTruth nV aV bV)).2.1 (sLAnd (sTruth nU aU bU) (sTruth nV aV bV)).2.2) := by
  unfold Cl; k_fill
  intro dp un gd cn cs a ccd cl outer A₀ base h₀ L m s Q E B F X N T hk hd' hu' hret
  refine wpAny_call ?_
  k_dflt cell_enter
  k_steps
  all_goals exact hret _ _ _ _ _ _ _ (by k_asm) (cb_drop (by k_asm) (by kcj_all))
local macro_rules | `(tactic| walk_at "call ref") => `(tactic| k_extra "m22")
theorem word22 : True := by
  k_with "m22" => ((k_here; (with_reducible show wpAny _ _ (PySem.call (Value.ref 133) [Value.ref _, Value.ref _]) _ _ _); k_dflt (refine' use (c_logic_and _ _ _ _ _ _ _ _ _ _ _ _ _ _ _ _ _ ?m22mU ?m22mV ?m22h0 ?m22h1 ?m22h2 ?m22h3) ?m22k1 ?m22k2 ?m22k3 ?m22k4 ?m22k5 ?m22k6 ?m22k7 ?m22k8 ?_; (case m22k1 => k_asm); (case m22k2 => k_asm); (case m22k3 => k_asm); (case m22k4 => k_asm); (case m22k5 => k_asm); (case m22k6 => first | exact rfl | assumption); (case m22k7 => ktr_room); (case m22k8 => ktr_units); (case m22mU => first | assumption | exact List.Mem.head _ | (refine' List.Mem.tail _ ?_; (first | assumption | exact List.Mem.head _ | (refine' List.Mem.tail _ ?_; (first | assumption | exact List.Mem.head _ | (refine' List.Mem.tail _ ?_; (first | assumption | exact List.Mem.head _ | (refine' List.Mem.tail _ ?_; (first | assumption | exact List.Mem.head _ | (refine' List.Mem.tail _ ?_; (first | assumption | exact List.Mem.head _ | (refine' List.Mem.tail _ ?_; (first | assumption | exact List.Mem.head _ | (refine' List.Mem.tail _ ?_; (first | assumption | exact List.Mem.head _ | (refine' List.Mem.tail _ ?_; (first | assumption | exact List.Mem.head _))))))))))))))))); (case m22mV => first | assumption | exact List.Mem.head _ | (refine' List.Mem.tail _ ?_; (first | assumption | exact List.Mem.head _ | (refine' List.Mem.tail _ ?_; (first | assumption | exact List.Mem.head _ | (refine' List.Mem.tail _ ?_; (first | assumption | exact List.Mem.head _ | (refine' List.Mem.tail _ ?_; (first | assumption | exact List.Mem.head _ | (refine' List.Mem.tail _ ?_; (first | assumption | exact List.Mem.head _ | (refine' List.Mem.tail _ ?_; (first | assumption | exact List.Mem.head _ | (refine' List.Mem.tail _ ?_; (first | assumption | exact List.Mem.head _ | (refine' List.Mem.tail _ ?_; (first | assumption | exact List.Mem.head _))))))))))))))))); (case m22h0 => first | assumption | omega | (show (0:Int) ≤ 1; decide) | (show (1:Int) ≤ 64; decide)); (case m22h1 => first | assumption | omega | (show (0:Int) ≤ 1; decide) | (show (1:Int) ≤ 64; decide)); (case m22h2 => first | assumption | omega | (show (0:Int) ≤ 1; decide) | (show (1:Int) ≤ 64; decide)); (case m22h3 => first | assumption | omega | (show (0:Int) ≤ 1; decide) | (show (1:Int) ≤ 64; decide)); intro D' t1' t2' t3' c' h' tk' F' N'; (try dsimp only); (try k_sweep))))
  exact trivial
theorem c_logic_or {w : World} {mean : ExcName → Option Value} {mg mb : Str → Option Value} (U : Addr) (nU aU bU : Int) (tU1 tU2 tU3 : Tok) (cU : Nat) (V : Addr) (nV aV bV : Int) (tV1 tV2 tV3 : Tok) (cV : Nat) (news : Led) (hU : (U, tup3 nU aU bU tU1 tU2 tU3 cU) ∈ news) (hV : (V, tup3 nV aV bV tV1 tV2 tV3 cV) ∈ news) (h0 : 0 ≤ nU) (h1 : nU ≤ 64) (h2 : 0 ≤ nV) (h3 : nV ≤ 64) :
   Cl w mean mg mb 3 140 [.ref U, .ref V] (PreN news) (RetTup news (sLOr (sTruth nU aU bU) (sTruth nV aV bV)).1 (sLOr (sTruth nU aU bU) (sTruth nV aV bV)).2.1 (sLOr (sTruth nU aU bU) (sTruth nV aV bV)).2.2) := by
  unfold Cl; k_fill
  intro dp un gd cn cs a ccd cl outer A₀ base h₀ L m s Q E B F X N T hk hd' hu' hret
  refine wpAny_call ?_
  k_dflt cell_enter
  k_steps
  all_goals exact hret _ _ _ _ _ _ _ (by k_asm) (cb_drop (by k_asm) (by kcj_all))
local macro_rules | `(tactic| walk_at "call ref") => `(tactic| k_extra "m23")
theorem word23 : True := by
  k_with "m23" => ((k_here; (with_reducible show wpAny _ _ (PySem.call (Value.ref 140) [Value.ref _, Value.ref _]) _ _ _); k_dflt (refine' use (c_logic_or _ _ _ _ _ _ _ _ _ _ _ _ _ _ _ _ _ ?m23mU ?m23mV ?m23h0 ?m23h1 ?m23h2 ?m23h3) ?m23k1 ?m23k2 ?m23k3 ?m23k4 ?m23k5 ?m23k6 ?m23k7 ?m23k8 ?_; (case m23k1 => k_asm); (case m23k2 => k_asm); (case m23k3 => k_asm); (case m23k4 => k_asm); (case m23k5 => k_asm); (case m23k6 => first | exact rfl | assumption); (case m23k7 => ktr_room); (case m23k8 => ktr_units); (case m23mU => first | assumption | exact List.Mem.head _ | (refine' List.Mem.tail _ ?_; (first | assumption | exact List.Mem.head _ | (refine' List.Mem.tail _ ?_; (first | assumption | exact List.Mem.head _ | (refine' List.Mem.tail _ ?_; (first | assumption | exact List.Mem.head _ | (refine' List.Mem.tail _ ?_; (first | assumption | exact List.Mem.head _ | (refine' List.Mem.tail _ ?_; (first | assumption | exact List.Mem.head _ | (refine' List.Mem.tail _ ?_; (first | assumption | exact List.Mem.head _ | (refine' List.Mem.tail _ ?_; (first | assumption | exact List.Mem.head _ | (refine' List.Mem.tail _ ?_; (first | assumption | exact List.Mem.head _))))))))))))))))); (case m23mV => first | assumption | exact List.Mem.head _ | (refine' List.Mem.tail _ ?_; (first | assumption | exact List.Mem.head _ | (refine' List.Mem.tail _ ?_; (first | assumption | exact List.Mem.head _ | (refine' List.Mem.tail _ ?_; (first | assumption | exact List.Mem.head _ | (refine' List.Mem.tail _ ?_; (first | assumption | exact List.Mem.head _ | (refine' List.Mem.tail _ ?_; (first | assumption | exact List.Mem.head _ | (refine' List.Mem.tail _ ?_; (first | assumption | exact List.Mem.head _ | (refine' List.Mem.tail _ ?_; (first | assumption | exact List.Mem.head _ | (refine' List.Mem.tail _ ?_; (first | assumption | exact List.Mem.head _))))))))))))))))); (case m23h0 => first | assumption | omega | (show (0:Int) ≤ 1; decide) | (show (1:Int) ≤ 64; decide)); (case m23h1 => first | assumption | omega | (show (0:Int) ≤ 1; decide) | (show (1:Int) ≤ 64; decide)); (case m23h2 => first | assumption | omega | (show (0:Int) ≤ 1; decide) | (show (1:Int) ≤ 64; decide)); (case m23h3 => first | assumption | omega | (show (0:Int) ≤ 1; decide) | (show (1:Int) ≤ 64; decide)); intro D' t1' t2' t3' c' h' tk' F' N'; (try dsimp only); (try k_sweep))))
  exact trivial
theorem fresh9 : True := by
  w_top off
  (try walk1)
  exact trivial
theorem c_choose {w : World} {mean : ExcName → Option Value} {mg mb : Str → Option Value} (U : Addr) (nU aU bU : Int) (tU1 tU2 tU3 : Tok) (cU : Nat) (V : Addr) (nV aV bV : Int) (tV1 tV2 tV3 : Tok) (cV : Nat) (T : Addr) (nT aT bT : Int) (tT1 tT2 tT3 : Tok) (cT : Nat) (news : Led) (hU : (U, tup3 nU aU bU tU1 tU2 tU3 cU) ∈ news) (hV : (V, tup3 nV aV bV tV1 tV2 tV3 cV) ∈ news) (hT : (T, tup3 nT aT bT tT1 tT2 tT3 cT) ∈ news) (h0 : 0 ≤ nU) (h1 : nU ≤ 64) (h2 : 0 ≤ nV) (h3 : nV ≤ 64) :
   Cl w mean mg mb 3 182 [.ref U, .ref V, .ref T] (PreN news) (RetTup news (sChoose (sTruth nU aU bU) nV aV bV nT aT bT).1 (sChoose (sTruth nU aU bU) nV aV bV nT aT bT).2.1 (sChoose (sTruth nU aU bU) nV aV bV nT aT bT).2.2) := by
  unfold Cl; k_fill
  intro dp un gd cn cs a ccd cl outer A₀ base h₀ L m s Q E B F X N T hk hd' hu' hret
  refine wpAny_call ?_
  k_dflt cell_enter
  k_steps
  all_goals (refine tup_ret' hret (by k_asm) (cb_drop (by k_asm) (by kcj_all)) ?_)
  all_goals (simp_all [sChoose, sMix])
local macro_rules | `(tactic| walk_at "call ref") => `(tactic| k_extra "m24")
theorem word24 : True := by
  k_with "m24" => ((k_here; (with_reducible show wpAny _ _ (PySem.call (Value.ref 182) [Value.ref _, Value.ref _, Value.ref _]) _ _ _); k_dflt (refine' use (c_choose _ _ _ _ _ _ _ _ _ _ _ _ _ _ _ _ _ _ _ _ _ _ _ _ _ ?m24mU ?m24mV ?m24mT ?m24h0 ?m24h1 ?m24h2 ?m24h3) ?m24k1 ?m24k2 ?m24k3 ?m24k4 ?m24k5 ?m24k6 ?m24k7 ?m24k8 ?_; (case m24k1 => k_asm); (case m24k2 => k_asm); (case m24k3 => k_asm); (case m24k4 => k_asm); (case m24k5 => k_asm); (case m24k6 => first | exact rfl | assumption); (case m24k7 => ktr_room); (case m24k8 => ktr_units); (case m24mU => first | assumption | exact List.Mem.head _ | (refine' List.Mem.tail _ ?_; (first | assumption | exact List.Mem.head _ | (refine' List.Mem.tail _ ?_; (first | assumption | exact List.Mem.head _ | (refine' List.Mem.tail _ ?_; (first | assumption | exact List.Mem.head _ | (refine' List.Mem.tail _ ?_; (first | assumption | exact List.Mem.head _ | (refine' List.Mem.tail _ ?_; (first | assumption | exact List.Mem.head _ | (refine' List.Mem.tail _ ?_; (first | assumption | exact List.Mem.head _ | (refine' List.Mem.tail _ ?_; (first | assumption | exact List.Mem.head _ | (refine' List.Mem.tail _ ?_; (first | assumption | exact List.Mem.head _))))))))))))))))); (case m24mV => first | assumption | exact List.Mem.head _ | (refine' List.Mem.tail _ ?_; (first | assumption | exact List.Mem.head _ | (refine' List.Mem.tail _ ?_; (first | assumption | exact List.Mem.head _ | (refine' List.Mem.tail _ ?_; (first | assumption | exact List.Mem.head _ | (refine' List.Mem.tail _ ?_; (first | assumption | exact List.Mem.head _ | (refine' List.Mem.tail _ ?_; (first | assumption | exact List.Mem.head _ | (refine' List.Mem.tail _ ?_; (first | assumption | exact List.Mem.head _ | (refine' List.Mem.tail _ ?_; (first | assumption | exact List.Mem.head _ | (refine' List.Mem.tail _ ?_; (first | assumption | exact List.Mem.head _))))))))))))))))); (case m24mT => first | assumption | exact List.Mem.head _ | (refine' List.Mem.tail _ ?_; (first | assumption | exact List.Mem.head _ | (refine' List.Mem.tail _ ?_; (first | assumption | exact List.Mem.head _ | (refine' List.Mem.tail _ ?_; (first | assumption | exact List.Mem.head _ | (refine' List.Mem.tail _ ?_; (first | assumption | exact List.Mem.head _ | (refine' List.Mem.tail _ ?_; (first | assumption | exact List.Mem.head _ | (refine' List.Mem.tail _ ?_; (first | assumption | exact List.Mem.head _ | (refine' List.Mem.tail _ ?_; (first | assumption | exact List.Mem.head _ | (refine' List.Mem.tail _ ?_; (first | assumption | exact List.Mem.head _))))))))))))))))); (case m24h0 => first | assumption | omega | (show (0:Int) ≤ 1; decide) | (show (1:Int) ≤ 64; decide)); (case m24h1 => first | assumption | omega | (show (0:Int) ≤ 1; decide) | (show (1:Int) ≤ 64; decide)); (case m24h2 => first | assumption | omega | (show (0:Int) ≤ 1; decide) | (show (1:Int) ≤ 64; decide)); (case m24h3 => first | assumption | omega | (show (0:Int) ≤ 1; decide) | (show (1:Int) ≤ 64; decide)); intro D' t1' t2' t3' c' h' tk' F' N'; (try dsimp only); (try k_sweep))))
  exact trivial
theorem fresh10 : True := by
  w_top off
  (try walk1)
  exact trivial
theorem c_matches_case {w : World} {mean : ExcName → Option Value} {mg mb : Str → Option Value} (tk : Tok) (U : Addr) (nU aU bU : Int) (tU1 tU2 tU3 : Tok) (cU : Nat) (V : Addr) (nV aV bV : Int) (tV1 tV2 tV3 : Tok) (cV : Nat) (news : Led) (hU : (U, tup3 nU aU bU tU1 tU2 tU3 cU) ∈ news) (hV : (V, tup3 nV aV bV tV1 tV2 tV3 cV) ∈ news) (h0 : 0 ≤ nU) (h1 : nU ≤ 64)  :
   Cl w mean mg mb 1 175 [.str (Str.ofString "case") tk, .ref U, .ref V] (PreN news) (RetBool news (sMatch (sFree0 nU aU bU nV aV bV) nU aU bU aV bV)) := by
  unfold Cl; k_fill
  intro dp un gd cn cs a ccd cl outer A₀ base h₀ L m s Q E B F X N T hk hd' hu' hret
  refine wpAny_call ?_
  k_dflt cell_enter
  k_steps
  all_goals (refine cb_retB (fun _ => hret) ?_ (by k_asm) (cb_drop (by k_asm) (by kcj_all)))
  all_goals (simp_all [sMatch, sFree0])
local macro_rules | `(tactic| walk_at "call ref") => `(tactic| k_extra "m25")
theorem word25 : True := by
  k_with "m25" => ((k_here; (with_reducible show wpAny _ _ (PySem.call (Value.ref 175) [Value.str _ _, Value.ref _, Value.ref _]) _ _ _); k_dflt (refine' use (c_matches_case _ _ _ _ _ _ _ _ _ _ _ _ _ _ _ _ _ _ ?m25mU ?m25mV ?m25h0 ?m25h1) ?m25k1 ?m25k2 ?m25k3 ?m25k4 ?m25k5 ?m25k6 ?m25k7 ?m25k8 ?_; (case m25k1 => k_asm); (case m25k2 => k_asm); (case m25k3 => k_asm); (case m25k4 => k_asm); (case m25k5 => k_asm); (case m25k6 => first | exact rfl | assumption); (case m25k7 => ktr_room); (case m25k8 => ktr_units); (case m25mU => first | assumption | exact List.Mem.head _ | (refine' List.Mem.tail _ ?_; (first | assumption | exact List.Mem.head _ | (refine' List.Mem.tail _ ?_; (first | assumption | exact List.Mem.head _ | (refine' List.Mem.tail _ ?_; (first | assumption | exact List.Mem.head _ | (refine' List.Mem.tail _ ?_; (first | assumption | exact List.Mem.head _ | (refine' List.Mem.tail _ ?_; (first | assumption | exact List.Mem.head _ | (refine' List.Mem.tail _ ?_; (first | assumption | exact List.Mem.head _ | (refine' List.Mem.tail _ ?_; (first | assumption | exact List.Mem.head _ | (refine' List.Mem.tail _ ?_; (first | assumption | exact List.Mem.head _))))))))))))))))); (case m25mV => first | assumption | exact List.Mem.head _ | (refine' List.Mem.tail _ ?_; (first | assumption | exact List.Mem.head _ | (refine' List.Mem.tail _ ?_; (first | assumption | exact List.Mem.head _ | (refine' List.Mem.tail _ ?_; (first | assumption | exact List.Mem.head _ | (refine' List.Mem.tail _ ?_; (first | assumption | exact List.Mem.head _ | (refine' List.Mem.tail _ ?_; (first | assumption | exact List.Mem.head _ | (refine' List.Mem.tail _ ?_; (first | assumption | exact List.Mem.head _ | (refine' List.Mem.tail _ ?_; (first | assumption | exact List.Mem.head _ | (refine' List.Mem.tail _ ?_; (first | assumption | exact List.Mem.head _))))))))))))))))); (case m25h0 => first | assumption | omega | (show (0:Int) ≤ 1; decide) | (show (1:Int) ≤ 64; decide)); (case m25h1 => first | assumption | omega | (show (0:Int) ≤ 1; decide) | (show (1:Int) ≤ 64; decide)); intro h' tk' F' N'; (try dsimp only); (try k_sweep))))
  exact trivial
theorem c_matches_casez {w : World} {mean : ExcName → Option Value} {mg mb : Str → Option Value} (tk : Tok) (U : Addr) (nU aU bU : Int) (tU1 tU2 tU3 : Tok) (cU : Nat) (V : Addr) (nV aV bV : Int) (tV1 tV2 tV3 : Tok) (cV : Nat) (news : Led) (hU : (U, tup3 nU aU bU tU1 tU2 tU3 cU) ∈ news) (hV : (V, tup3 nV aV bV tV1 tV2 tV3 cV) ∈ news) (h0 : 0 ≤ nU) (h1 : nU ≤ 64)  :
   Cl w mean mg mb 1 175 [.str (Str.ofString "casez") tk, .ref U, .ref V] (PreN news) (RetBool news (sMatch (sFreeZ nU aU bU nV aV bV) nU aU bU aV bV)) := by
  unfold Cl; k_fill
  intro dp un gd cn cs a ccd cl outer A₀ base h₀ L m s Q E B F X N T hk hd' hu' hret
  refine wpAny_call ?_
  k_dflt cell_enter
  k_steps
  all_goals (refine cb_retB (fun _ => hret) ?_ (by k_asm) (cb_drop (by k_asm) (by kcj_all)))
  all_goals (simp_all [sMatch, sFreeZ])
local macro_rules | `(tactic| walk_at "call ref") => `(tactic| k_extra "m26")
theorem word26 : True := by
  k_with "m26" => ((k_here; (with_reducible show wpAny _ _ (PySem.call (Value.ref 175) [Value.str _ _, Value.ref _, Value.ref _]) _ _ _); k_dflt (refine' use (c_matches_casez _ _ _ _ _ _ _ _ _ _ _ _ _ _ _ _ _ _ ?m26mU ?m26mV ?m26h0 ?m26h1) ?m26k1 ?m26k2 ?m26k3 ?m26k4 ?m26k5 ?m26k6 ?m26k7 ?m26k8 ?_; (case m26k1 => k_asm); (case m26k2 => k_asm); (case m26k3 => k_asm); (case m26k4 => k_asm); (case m26k5 => k_asm); (case m26k6 => first | exact rfl | assumption); (case m26k7 => ktr_room); (case m26k8 => ktr_units); (case m26mU => first | assumption | exact List.Mem.head _ | (refine' List.Mem.tail _ ?_; (first | assumption | exact List.Mem.head _ | (refine' List.Mem.tail _ ?_; (first | assumption | exact List.Mem.head _ | (refine' List.Mem.tail _ ?_; (first | assumption | exact List.Mem.head _ | (refine' List.Mem.tail _ ?_; (first | assumption | exact List.Mem.head _ | (refine' List.Mem.tail _ ?_; (first | assumption | exact List.Mem.head _ | (refine' List.Mem.tail _ ?_; (first | assumption | exact List.Mem.head _ | (refine' List.Mem.tail _ ?_; (first | assumption | exact List.Mem.head _ | (refine' List.Mem.tail _ ?_; (first | assumption | exact List.Mem.head _))))))))))))))))); (case m26mV => first | assumption | exact List.Mem.head _ | (refine' List.Mem.tail _ ?_; (first | assumption | exact List.Mem.head _ | (refine' List.Mem.tail _ ?_; (first | assumption | exact List.Mem.head _ | (refine' List.Mem.tail _ ?_; (first | assumption | exact List.Mem.head _ | (refine' List.Mem.tail _ ?_; (first | assumption | exact List.Mem.head _ | (refine' List.Mem.tail _ ?_; (first | assumption | exact List.Mem.head _ | (refine' List.Mem.tail _ ?_; (first | assumption | exact List.Mem.head _ | (refine' List.Mem.tail _ ?_; (first | assumption | exact List.Mem.head _ | (refine' List.Mem.tail _ ?_; (first | assumption | exact List.Mem.head _))))))))))))))))); (case m26h0 => first | assumption | omega | (show (0:Int) ≤ 1; decide) | (show (1:Int) ≤ 64; decide)); (case m26h1 => first | assumption | omega | (show (0:Int) ≤ 1; decide) | (show (1:Int) ≤ 64; decide)); intro h' tk' F' N'; (try dsimp only); (try k_sweep))))
  exact trivial
theorem c_matches_casex {w : World} {mean : ExcName → Option Value} {mg mb : Str → Option Value} (tk : Tok) (U : Addr) (nU aU bU : Int) (tU1 tU2 tU3 : Tok) (cU : Nat) (V : Addr) (nV aV bV : Int) (tV1 tV2 tV3 : Tok) (cV : Nat) (news : Led) (hU : (U, tup3 nU aU bU tU1 tU2 tU3 cU) ∈ news) (hV : (V, tup3 nV aV bV tV1 tV2 tV3 cV) ∈ news) (h0 : 0 ≤ nU) (h1 : nU ≤ 64)  :
   Cl w mean mg mb 1 175 [.str (Str.ofString "casex") tk, .ref U, .ref V] (PreN news) (RetBool news (sMatch (sFreeX nU aU bU nV aV bV) nU aU bU aV bV)) := by
  unfold Cl; k_fill
  intro dp un gd cn cs a ccd cl outer A₀ base h₀ L m s Q E B F X N T hk hd' hu' hret
  refine wpAny_call ?_
  k_dflt cell_enter
  k_steps
  all_goals (refine cb_retB (fun _ => hret) ?_ (by k_asm) (cb_drop (by k_asm) (by kcj_all)))
  all_goals (simp_all [sMatch, sFreeX])
local macro_rules | `(tactic| walk_at "call ref") => `(tactic| k_extra "m27")
theorem word27 : True := by
  k_with "m27" => ((k_here; (with_reducible show wpAny _ _ (PySem.call (Value.ref 175) [Value.str _ _, Value.ref _, Value.ref _]) _ _ _); k_dflt (refine' use (c_matches_casex _ _ _ _ _ _ _ _ _ _ _ _ _ _ _ _ _ _ ?m27mU ?m27mV ?m27h0 ?m27h1) ?m27k1 ?m27k2 ?m27k3 ?m27k4 ?m27k5 ?m27k6 ?m27k7 ?m27k8 ?_; (case m27k1 => k_asm); (case m27k2 => k_asm); (case m27k3 => k_asm); (case m27k4 => k_asm); (case m27k5 => k_asm); (case m27k6 => first | exact rfl | assumption); (case m27k7 => ktr_room); (case m27k8 => ktr_units); (case m27mU => first | assumption | exact List.Mem.head _ | (refine' List.Mem.tail _ ?_; (first | assumption | exact List.Mem.head _ | (refine' List.Mem.tail _ ?_; (first | assumption | exact List.Mem.head _ | (refine' List.Mem.tail _ ?_; (first | assumption | exact List.Mem.head _ | (refine' List.Mem.tail _ ?_; (first | assumption | exact List.Mem.head _ | (refine' List.Mem.tail _ ?_; (first | assumption | exact List.Mem.head _ | (refine' List.Mem.tail _ ?_; (first | assumption | exact List.Mem.head _ | (refine' List.Mem.tail _ ?_; (first | assumption | exact List.Mem.head _ | (refine' List.Mem.tail _ ?_; (first | assumption | exact List.Mem.head _))))))))))))))))); (case m27mV => first | assumption | exact List.Mem.head _ | (refine' List.Mem.tail _ ?_; (first | assumption | exact List.Mem.head _ | (refine' List.Mem.tail _ ?_; (first | assumption | exact List.Mem.head _ | (refine' List.Mem.tail _ ?_; (first | assumption | exact List.Mem.head _ | (refine' List.Mem.tail _ ?_; (first | assumption | exact List.Mem.head _ | (refine' List.Mem.tail _ ?_; (first | assumption | exact List.Mem.head _ | (refine' List.Mem.tail _ ?_; (first | assumption | exact List.Mem.head _ | (refine' List.Mem.tail _ ?_; (first | assumption | exact List.Mem.head _ | (refine' List.Mem.tail _ ?_; (first | assumption | exact List.Mem.head _))))))))))))))))); (case m27h0 => first | assumption | omega | (show (0:Int) ≤ 1; decide) | (show (1:Int) ≤ 64; decide)); (case m27h1 => first | assumption | omega | (show (0:Int) ≤ 1; decide) | (show (1:Int) ≤ 64; decide)); intro h' tk' F' N'; (try dsimp only); (try k_sweep))))
  exact trivial
theorem fresh11 : True := by
  w_top off
  (try walk1)
  exact trivial
theorem tup_retE {news : Led} {r r' : V3} {h₀ h' : Heap} {L D : Addr} {m : Str → Option Value} {s : Shared} {Q : Value → Shared → Prop} {t1 t2 t3 : Tok} {c tk' : Nat} (hret : RetTup news r.1 r.2.1 r.2.2 h₀ L m s Q) (F : Fr h₀ L h' m) (N : News h₀ L h' ((D, tup3 r'.1 r'.2.1 r'.2.2 t1 t2 t3 c) :: news)) (e : r' = r) : Q (.ref D) { s with heap := h', toks := tk' } := by
  subst e
  exact hret D t1 t2 t3 c h' tk' F N
theorem x_one {l : List Int} {n : Int} (hb : sHigh l = 0) (hn : 0 ≤ n) (h : (accUp xStep 0 { zs := [0, sLow l], bs := [], ss := [] } n).zs.tail.headD 0 ≤ 0) : sOne ((accUp xStep 0 { zs := [0, sLow l], bs := [], ss := [] } n).zs.headD 0) = sRXor l := by
  rw [x_end hn h]
  unfold sRXor
  rw [if_neg (fun q => q hb)]
theorem x_three {l : List Int} (hb : sHigh l ≠ 0) : sOne 3 = sRXor l := by
  unfold sRXor
  rw [if_pos hb]
theorem c_reduce_xor {w : World} {mean : ExcName → Option Value} {mg mb : Str → Option Value} (U : Addr) (nU : Int) (ns : List Int) (tU1 tU2 tU3 : Tok) (cU : Nat) (news : Led) (hU : (U, tup3 nU (sLow ns) (sHigh ns) tU1 tU2 tU3 cU) ∈ news) :
   Cl w mean mg mb 1 112 [.ref U] (PreN news) (RetTup news (sRXor ns).1 (sRXor ns).2.1 (sRXor ns).2.2) := by
  have h0 := sLow_nonneg ns
  unfold Cl; k_fill
  intro dp un gd cn cs a ccd cl outer A₀ base h₀ L m s Q E B F X N T hk hd' hu' hret
  refine wpAny_call ?_
  k_dflt cell_enter
  k_steps
  all_goals (refine tup_retE hret (by k_asm) (cb_drop (by k_asm) (by kcj_all)) ?_)
  all_goals first | exact x_three (by assumption) | exact x_one (by assumption) (by assumption) (by assumption)
local macro_rules | `(tactic| walk_at "call ref") => `(tactic| k_extra "m28")
theorem word28 : True := by
  k_with "m28" => ((k_here; (with_reducible show wpAny _ _ (PySem.call (Value.ref 112) [Value.ref _]) _ _ _); k_dflt (refine' use (c_reduce_xor _ _ _ _ _ _ _ _ ?m28mU) ?m28k1 ?m28k2 ?m28k3 ?m28k4 ?m28k5 ?m28k6 ?m28k7 ?m28k8 ?_; (case m28k1 => k_asm); (case m28k2 => k_asm); (case m28k3 => k_asm); (case m28k4 => k_asm); (case m28k5 => k_asm); (case m28k6 => first | exact rfl | assumption); (case m28k7 => ktr_room); (case m28k8 => ktr_units); (case m28mU => first | assumption | exact List.Mem.head _ | (refine' List.Mem.tail _ ?_; (first | assumption | exact List.Mem.head _ | (refine' List.Mem.tail _ ?_; (first | assumption | exact List.Mem.head _ | (refine' List.Mem.tail _ ?_; (first | assumption | exact List.Mem.head _ | (refine' List.Mem.tail _ ?_; (first | assumption | exact List.Mem.head _ | (refine' List.Mem.tail _ ?_; (first | assumption | exact List.Mem.head _ | (refine' List.Mem.tail _ ?_; (first | assumption | exact List.Mem.head _ | (refine' List.Mem.tail _ ?_; (first | assumption | exact List.Mem.head _ | (refine' List.Mem.tail _ ?_; (first | assumption | exact List.Mem.head _))))))))))))))))); intro D' t1' t2' t3' c' h' tk' F' N'; (try dsimp only); (try k_sweep))))
  exact trivial
theorem c_reduce_xnor {w : World} {mean : ExcName → Option Value} {mg mb : Str → Option Value} (U : Addr) (nU : Int) (ns : List Int) (tU1 tU2 tU3 : Tok) (cU : Nat) (news : Led) (hU : (U, tup3 nU (sLow ns) (sHigh ns) tU1 tU2 tU3 cU) ∈ news) :
   Cl w mean mg mb 2 119 [.ref U] (PreN news) (RetTup news (sNotV (sRXor ns)).1 (sNotV (sRXor ns)).2.1 (sNotV (sRXor ns)).2.2) := by
  unfold Cl; k_fill
  intro dp un gd cn cs a ccd cl outer A₀ base h₀ L m s Q E B F X N T hk hd' hu' hret
  refine wpAny_call ?_
  k_dflt cell_enter
  k_steps
  all_goals exact hret _ _ _ _ _ _ _ (by k_asm) (cb_drop (by k_asm) (by kcj_all))
end
section
theorem fresh12 : True := by
  w_top off
  k_with_none
  k_with "m1" => ((k_here; (with_reducible show wpAny _ _ (PySem.call (Value.ref 21) [Value.int _ _]) _ _ _); k_dflt (refine' use (c_mask _ _ _ ?m1h0 ?m1h1) ?m1k1 ?m1k2 ?m1k3 ?m1k4 ?m1k5 ?m1k6 ?m1k7 ?m1k8 ?_; (case m1h0 => first | assumption | omega); (case m1h1 => first | assumption | omega); (case m1k1 => k_asm); (case m1k2 => k_asm); (case m1k3 => k_asm); (case m1k4 => k_asm); (case m1k5 => k_asm); (case m1k6 => first | exact rfl | assumption); (case m1k7 => ktr_room); (case m1k8 => ktr_units); intro t' h' tk' F' N'; (try dsimp only); (try k_sweep))))
  k_with "m2" => ((k_here; (with_reducible show wpAny _ _ (compareOp CmpOp.Eq (Value.ref _) (Value.ref _)) _ _ _); k_dflt (refine' eq_tup3 ?m2N ?m2m1 ?m2m2 ?m2u ?_; (case m2N => k_asm); (case m2m1 => first | assumption | exact List.Mem.head _ | (refine' List.Mem.tail _ ?_; (first | assumption | exact List.Mem.head _ | (refine' List.Mem.tail _ ?_; (first | assumption | exact List.Mem.head _ | (refine' List.Mem.tail _ ?_; (first | assumption | exact List.Mem.head _ | (refine' List.Mem.tail _ ?_; (first | assumption | exact List.Mem.head _ | (refine' List.Mem.tail _ ?_; (first | assumption | exact List.Mem.head _ | (refine' List.Mem.tail _ ?_; (first | assumption | exact List.Mem.head _ | (refine' List.Mem.tail _ ?_; (first | assumption | exact List.Mem.head _ | (refine' List.Mem.tail _ ?_; (first | assumption | exact List.Mem.head _))))))))))))))))); (case m2m2 => first | assumption | exact List.Mem.head _ | (refine' List.Mem.tail _ ?_; (first | assumption | exact List.Mem.head _ | (refine' List.Mem.tail _ ?_; (first | assumption | exact List.Mem.head _ | (refine' List.Mem.tail _ ?_; (first | assumption | exact List.Mem.head _ | (refine' List.Mem.tail _ ?_; (first | assumption | exact List.Mem.head _ | (refine' List.Mem.tail _ ?_; (first | assumption | exact List.Mem.head _ | (refine' List.Mem.tail _ ?_; (first | assumption | exact List.Mem.head _ | (refine' List.Mem.tail _ ?_; (first | assumption | exact List.Mem.head _ | (refine' List.Mem.tail _ ?_; (first | assumption | exact List.Mem.head _))))))))))))))))); (case m2u => ktr_units))))
  k_with "m3" => ((k_here; (with_reducible show wpAny _ _ (compareOp CmpOp.NotEq (Value.ref _) (Value.ref _)) _ _ _); k_dflt (refine' ne_tup3 ?m3N ?m3m1 ?m3m2 ?m3u ?_; (case m3N => k_asm); (case m3m1 => first | assumption | exact List.Mem.head _ | (refine' List.Mem.tail _ ?_; (first | assumption | exact List.Mem.head _ | (refine' List.Mem.tail _ ?_; (first | assumption | exact List.Mem.head _ | (refine' List.Mem.tail _ ?_; (first | assumption | exact List.Mem.head _ | (refine' List.Mem.tail _ ?_; (first | assumption | exact List.Mem.head _ | (refine' List.Mem.tail _ ?_; (first | assumption | exact List.Mem.head _ | (refine' List.Mem.tail _ ?_; (first | assumption | exact List.Mem.head _ | (refine' List.Mem.tail _ ?_; (first | assumption | exact List.Mem.head _ | (refine' List.Mem.tail _ ?_; (first | assumption | exact List.Mem.head _))))))))))))))))); (case m3m2 => first | assumption | exact List.Mem.head _ | (refine' List.Mem.tail _ ?_; (first | assumption | exact List.Mem.head _ | (refine' List.Mem.tail _ ?_; (first | assumption | exact List.Mem.head _ | (refine' List.Mem.tail _ ?_; (first | assumption | exact List.Mem.head _ | (refine' List.Mem.tail _ ?_; (first | assumption | exact List.Mem.head _ | (refine' List.Mem.tail _ ?_; (first | assumption | exact List.Mem.head _ | (refine' List.Mem.tail _ ?_; (first | assumption | exact List.Mem.head _ | (refine' List.Mem.tail _ ?_; (first | assumption | exact List.Mem.head _ | (refine' List.Mem.tail _ ?_; (first | assumption | exact List.Mem.head _))))))))))))))))); (case m3u => ktr_units))))
  k_with "m4" => ((k_here; (with_reducible show wpAny _ _ (subscriptTail _ (PySem.Expr.Slice _ _ none _) (Value.ref _) (Value.ref _)) _ _ _); k_dflt (refine' tslice ?m4F ?m4N ?m4T ?_ ?m4s ?m4t ?m4z; (case m4F => k_asm); (case m4N => k_asm); (case m4T => k_mem); (case m4s => with_unfolding_all rfl); (case m4t => (intro _; with_unfolding_all rfl)); (case m4z => exact Nat.le_of_ble_eq_true rfl); intro D' h' F' N' l1'; (try k_sweep))))
  (try walk1)
  exact trivial
theorem c_law_not {w : World} {mean : ExcName → Option Value} {mg mb : Str → Option Value} (x : Int) (tx : Tok) (news : Led)   (p0 : 0 ≤ x) (p1 : x ≤ 3) :
   Cl w mean mg mb 0 217 [.int x tx] (PreN news) (RetInt news (lNot x)) := by
  unfold Cl; k_fill
  intro dp un gd cn cs a ccd cl outer A₀ base h₀ L m s Q E B F X N T hk hd' hu' hret
  refine wpAny_call ?_
  k_dflt cell_enter
  k_steps
  all_goals (refine cb_retI hret ?_ (by k_asm) (cb_drop (by k_asm) (by kcj_all)))
  all_goals (have hx : x = 0 ∨ x = 1 ∨ x = 2 ∨ x = 3 := by omega)
  all_goals (rcases hx with hx | hx | hx | hx <;> rw [hx] <;> rfl)
local macro_rules | `(tactic| walk_at "call ref") => `(tactic| k_extra "m29")
theorem word29 : True := by
  k_with "m29" => ((k_here; (with_reducible show wpAny _ _ (PySem.call (Value.ref 217) [Value.int _ _]) _ _ _); k_dflt (refine' use (c_law_not _ _ _  ?m29p0 ?m29p1) ?m29k1 ?m29k2 ?m29k3 ?m29k4 ?m29k5 ?m29k6 ?m29k7 ?m29k8 ?_; (case m29k1 => k_asm); (case m29k2 => k_asm); (case m29k3 => k_asm); (case m29k4 => k_asm); (case m29k5 => k_asm); (case m29k6 => first | exact rfl | assumption); (case m29k7 => ktr_room); (case m29k8 => ktr_units); (case m29p0 => first | assumption | omega | decide | exact (lNot_r _).1 | exact (lNot_r _).2 | exact (lAnd_r _ _).1 | exact (lAnd_r _ _).2 | exact (lXor_r _ _).1 | exact (lXor_r _ _).2 | exact (lOr_r _ _).1 | exact (lOr_r _ _).2 | exact And.left ((by assumption : ∀ b ∈ _, (0:Int) ≤ b ∧ b ≤ 3) _ (by assumption)) | exact And.right ((by assumption : ∀ b ∈ _, (0:Int) ≤ b ∧ b ≤ 3) _ (by assumption))); (case m29p1 => first | assumption | omega | decide | exact (lNot_r _).1 | exact (lNot_r _).2 | exact (lAnd_r _ _).1 | exact (lAnd_r _ _).2 | exact (lXor_r _ _).1 | exact (lXor_r _ _).2 | exact (lOr_r _ _).1 | exact (lOr_r _ _).2 | exact And.left ((by assumption : ∀ b ∈ _, (0:Int) ≤ b ∧ b ≤ 3) _ (by assumption)) | exact And.right ((by assumption : ∀ b ∈ _, (0:Int) ≤ b ∧ b ≤ 3) _ (by assumption))); intro t' h' tk' F' N'; (try dsimp only); (try k_sweep))))
  exact trivial
theorem c_law_and {w : World} {mean : ExcName → Option Value} {mg mb : Str → Option Value} (x : Int) (tx : Tok) (y : Int) (ty : Tok) (news : Led)    :
   Cl w mean mg mb 0 224 [.int x tx, .int y ty] (PreN news) (RetInt news (lAnd x y)) := by
  unfold Cl; k_fill
  intro dp un gd cn cs a ccd cl outer A₀ base h₀ L m s Q E B F X N T hk hd' hu' hret
  refine wpAny_call ?_
  k_dflt cell_enter
  k_steps
  all_goals (refine cb_retI hret ?_ (by k_asm) (cb_drop (by k_asm) (by kcj_all)))
  all_goals simp_all [lAnd]
local macro_rules | `(tactic| walk_at "call ref") => `(tactic| k_extra "m30")
theorem word30 : True := by
  k_with "m30" => ((k_here; (with_reducible show wpAny _ _ (PySem.call (Value.ref 224) [Value.int _ _, Value.int _ _]) _ _ _); k_dflt (refine' use (c_law_and _ _ _ _ _ ) ?m30k1 ?m30k2 ?m30k3 ?m30k4 ?m30k5 ?m30k6 ?m30k7 ?m30k8 ?_; (case m30k1 => k_asm); (case m30k2 => k_asm); (case m30k3 => k_asm); (case m30k4 => k_asm); (case m30k5 => k_asm); (case m30k6 => first | exact rfl | assumption); (case m30k7 => ktr_room); (case m30k8 => ktr_units); intro t' h' tk' F' N'; (try dsimp only); (try k_sweep))))
  exact trivial
theorem c_law_or {w : World} {mean : ExcName → Option Value} {mg mb : Str → Option Value} (x : Int) (tx : Tok) (y : Int) (ty : Tok) (news : Led)   (p0 : 0 ≤ x) (p1 : x ≤ 3) (p2 : 0 ≤ y) (p3 : y ≤ 3) :
   Cl w mean mg mb 1 231 [.int x tx, .int y ty] (PreN news) (RetInt news (lOr x y)) := by
  unfold Cl; k_fill
  intro dp un gd cn cs a ccd cl outer A₀ base h₀ L m s Q E B F X N T hk hd' hu' hret
  refine wpAny_call ?_
  k_dflt cell_enter
  k_steps
  all_goals exact hret _ _ _ (by k_asm) (cb_drop (by k_asm) (by kcj_all))
local macro_rules | `(tactic| walk_at "call ref") => `(tactic| k_extra "m31")
theorem word31 : True := by
  k_with "m31" => ((k_here; (with_reducible show wpAny _ _ (PySem.call (Value.ref 231) [Value.int _ _, Value.int _ _]) _ _ _); k_dflt (refine' use (c_law_or _ _ _ _ _  ?m31p0 ?m31p1 ?m31p2 ?m31p3) ?m31k1 ?m31k2 ?m31k3 ?m31k4 ?m31k5 ?m31k6 ?m31k7 ?m31k8 ?_; (case m31k1 => k_asm); (case m31k2 => k_asm); (case m31k3 => k_asm); (case m31k4 => k_asm); (case m31k5 => k_asm); (case m31k6 => first | exact rfl | assumption); (case m31k7 => ktr_room); (case m31k8 => ktr_units); (case m31p0 => first | assumption | omega | decide | exact (lNot_r _).1 | exact (lNot_r _).2 | exact (lAnd_r _ _).1 | exact (lAnd_r _ _).2 | exact (lXor_r _ _).1 | exact (lXor_r _ _).2 | exact (lOr_r _ _).1 | exact (lOr_r _ _).2 | exact And.left ((by assumption : ∀ b ∈ _, (0:Int) ≤ b ∧ b ≤ 3) _ (by assumption)) | exact And.right ((by assumption : ∀ b ∈ _, (0:Int) ≤ b ∧ b ≤ 3) _ (by assumption))); (case m31p1 => first | assumption | omega | decide | exact (lNot_r _).1 | exact (lNot_r _).2 | exact (lAnd_r _ _).1 | exact (lAnd_r _ _).2 | exact (lXor_r _ _).1 | exact (lXor_r _ _).2 | exact (lOr_r _ _).1 | exact (lOr_r _ _).2 | exact And.left ((by assumption : ∀ b ∈ _, (0:Int) ≤ b ∧ b ≤ 3) _ (by assumption)) | exact And.right ((by assumption : ∀ b ∈ _, (0:Int) ≤ b ∧ b ≤ 3) _ (by assumption))); (case m31p2 => first | assumption | omega | decide | exact (lNot_r _).1 | exact (lNot_r _).2 | exact (lAnd_r _ _).1 | exact (lAnd_r _ _).2 | exact (lXor_r _ _).1 | exact (lXor_r _ _).2 | exact (lOr_r _ _).1 | exact (lOr_r _ _).2 | exact And.left ((by assumption : ∀ b ∈ _, (0:Int) ≤ b ∧ b ≤ 3) _ (by assumption)) | exact And.right ((by assumption : ∀ b ∈ _, (0:Int) ≤ b ∧ b ≤ 3) _ (by assumption))); (case m31p3 => first | assumption | omega | decide | exact (lNot_r _).1 | exact (lNot_r _).2 | exact (lAnd_r _ _).1 | exact (lAnd_r _ _).2 | exact (lXor_r _ _).1 | exact (lXor_r _ _).2 | exact (lOr_r _ _).1 | exact (lOr_r _ _).2 | exact And.left ((by assumption : ∀ b ∈ _, (0:Int) ≤ b ∧ b ≤ 3) _ (by assumption)) | exact And.right ((by assumption : ∀ b ∈ _, (0:Int) ≤ b ∧ b ≤ 3) _ (by assumption))); intro t' h' tk' F' N'; (try dsimp only); (try k_sweep))))
  exact trivial
theorem c_law_xor {w : World} {mean : ExcName → Option Value} {mg mb : Str → Option Value} (x : Int) (tx : Tok) (y : Int) (ty : Tok) (news : Led)    :
   Cl w mean mg mb 0 238 [.int x tx, .int y ty] (PreN news) (RetInt news (lXor x y)) := by
  unfold Cl; k_fill
  intro dp un gd cn cs a ccd cl outer A₀ base h₀ L m s Q E B F X N T hk hd' hu' hret
  refine wpAny_call ?_
  k_dflt cell_enter
  k_steps
  all_goals (refine cb_retI hret ?_ (by k_asm) (cb_drop (by k_asm) (by kcj_all)))
  all_goals simp_all [lXor]
local macro_rules | `(tactic| walk_at "call ref") => `(tactic| k_extra "m32")
theorem word32 : True := by
  k_with "m32" => ((k_here; (with_reducible show wpAny _ _ (PySem.call (Value.ref 238) [Value.int _ _, Value.int _ _]) _ _ _); k_dflt (refine' use (c_law_xor _ _ _ _ _ ) ?m32k1 ?m32k2 ?m32k3 ?m32k4 ?m32k5 ?m32k6 ?m32k7 ?m32k8 ?_; (case m32k1 => k_asm); (case m32k2 => k_asm); (case m32k3 => k_asm); (case m32k4 => k_asm); (case m32k5 => k_asm); (case m32k6 => first | exact rfl | assumption); (case m32k7 => ktr_room); (case m32k8 => ktr_units); intro t' h' tk' F' N'; (try dsimp only); (try k_sweep))))
  exact trivial
theorem fresh13 : True := by
  w_top off
  (try walk1)
  exact trivial
theorem sLow_snoc : ∀ (l : List Int) (b : Int), sLow (l ++ [b]) = sLow l + b % 2 * 2 ^ l.length
  | [], b => by simp [sLow]
  | a :: r, b => by simp only [List.cons_append, sLow, sLow_snoc r b, List.length_cons, Int.pow_succ]; rw [Int.mul_add, ← Int.add_assoc]; congr 1; rw [Int.mul_left_comm, Int.mul_comm (2 ^ r.length) 2]
theorem sHigh_snoc : ∀ (l : List Int) (b : Int), sHigh (l ++ [b]) = sHigh l + b / 2 * 2 ^ l.length
  | [], b => by simp [sHigh]
  | a :: r, b => by simp only [List.cons_append, sHigh, sHigh_snoc r b, List.length_cons, Int.pow_succ]; rw [Int.mul_add, ← Int.add_assoc]; congr 1; rw [Int.mul_left_comm, Int.mul_comm (2 ^ r.length) 2]
abbrev RetTupF (news : Led) (w a b : Int) (h₀ : Heap) (L : Addr) (m : Str → Option Value) (s : Shared) (Q : Value → Shared → Prop) : Prop :=
  ∀ (D : Addr) (t1 t2 t3 : Tok) (c : Nat) (h' : Heap) (tk' : Nat), (∀ p ∈ news, p.1 ≠ D) → Fr h₀ L h' m → News h₀ L h' ((D, tup3 w a b t1 t2 t3 c) :: news) → Q (.ref D) { s with heap := h', toks := tk' }
theorem new_off {p : Addr × Obj} {r : Led} {D : Addr} (h : @LT.lt Nat _ p.1 D ∧ AllLt D r) : ∀ q ∈ p :: r, q.1 ≠ D := List.forall_mem_cons.mpr ⟨Nat.ne_of_lt h.1, tbn_neAll h.2⟩
theorem tup_ret3 {news : Led} {n a b x y z : Int} {h₀ h' : Heap} {L D : Addr} {m : Str → Option Value} {s : Shared} {Q : Value → Shared → Prop} {t1 t2 t3 : Tok} {c tk' : Nat} (hret : RetTupF news n a b h₀ L m s Q) (hf : ∀ p ∈ news, p.1 ≠ D) (F : Fr h₀ L h' m) (N : News h₀ L h' ((D, tup3 x y z t1 t2 t3 c) :: news)) (e1 : x = n) (e2 : y = a) (e3 : z = b) : Q (.ref D) { s with heap := h', toks := tk' } := by
  subst e1 e2 e3
  exact hret D t1 t2 t3 c h' tk' hf F N
theorem news_dup {h₀ h : Heap} {L : Addr} {news : Led} {p : Addr × Obj} (N : News h₀ L h news) (hm : p ∈ news) : News h₀ L h (p :: news) := fun q hq => by
  rcases List.mem_cons.mp hq with rfl | hq
  · exact N _ hm
  · exact N q hq
theorem dupT {w : World} {mean : ExcName → Option Value} {mg mb : Str → Option Value} {lev : Nat} {f : Addr} {vs : List Value} {news : Led} {p : Addr × Obj} {n a b : Int} (hm : p ∈ news)
    (C : Cl w mean mg mb lev f vs (PreN (p :: news)) (RetTupF (p :: news) n a b)) : Cl w mean mg mb lev f vs (PreN news) (RetTupF news n a b) := by
  intro dp un gd cn cs a ccd cl outer A₀ base h₀ L m s Q E B F X N T hk hd' hu' hret
  exact use C B F X (news_dup N hm) T hk hd' hu' fun D t1 t2 t3 c h' tk' hf F' N' => hret D t1 t2 t3 c h' tk' (fun q hq => hf q (.tail _ hq)) F' (cb_drop N' fun q hq => by
    rcases List.mem_cons.mp hq with rfl | hq
    · exact .head _
    · exact .tail _ (.tail _ hq))
theorem take_pre {ns pre : List Int} {k : Int} (hl : pre.length < ((ns.length : Int) - 0).toNat) (e : k = 0 + (pre.length : Int)) : ns.take (pre ++ [k]).length = ns.take pre.length ++ [ns.getD k.toNat 0] ∧ (ns.take pre.length).length = k.toNat := by
  have h1 : k.toNat = pre.length := by omega
  have h2 : pre.length < ns.length := by omega
  constructor
  · rw [List.length_append, List.length_singleton, List.take_add_one, h1]
    simp [List.getD, h2]
  · rw [List.length_take, h1]; omega
theorem made_turn {ns pre : List Int} {k lo hi : Int} (e : k = 0 + (pre.length : Int)) (hl : pre.length < ((ns.length : Int) - 0).toNat) (h1 : lo = sLow (ns.take pre.length)) (h2 : hi = sHigh (ns.take pre.length)) :
    lo + (ns.getD k.toNat 0).fmod 2 * 2 ^ k.toNat = sLow (ns.take (pre ++ [k]).length) ∧ hi + (ns.getD k.toNat 0).fdiv 2 * 2 ^ k.toNat = sHigh (ns.take (pre ++ [k]).length) := by
  obtain ⟨e1, e2⟩ := take_pre hl e
  rw [e1, sLow_snoc, sHigh_snoc, e2, h1, h2, Int.fdiv_eq_ediv_of_nonneg _ (by decide), Int.fmod_eq_emod_of_nonneg _ (by decide)]
  exact ⟨rfl, rfl⟩
theorem take_all {ns : List Int} : ns.take (rangeKs 0 ((ns.length : Int) - 0).toNat).length = ns := by
  rw [rangeKs_length]
  exact List.take_of_length_le (by omega)
theorem made_endL {ns : List Int} {lo : Int} (h : lo = sLow (ns.take (rangeKs 0 ((ns.length : Int) - 0).toNat).length)) : lo = sLow ns := by rw [take_all] at h; exact h
theorem made_endH {ns : List Int} {lo : Int} (h : lo = sHigh (ns.take (rangeKs 0 ((ns.length : Int) - 0).toNat).length)) : lo = sHigh ns := by rw [take_all] at h; exact h
theorem getD_r {ns : List Int} (hb : ∀ b ∈ ns, 0 ≤ b ∧ b ≤ 3) (j : Nat) : 0 ≤ ns.getD j 0 ∧ ns.getD j 0 ≤ 3 := by
  by_cases hj : j < ns.length
  · have e : ns.getD j 0 = ns[j] := by simp [List.getD, hj]
    rw [e]
    exact hb _ (List.getElem_mem hj)
  · have e : ns.getD j 0 = 0 := by simp [List.getD, Nat.not_lt.mp hj]
    rw [e]; omega
theorem mulbits {ns : List Int} (hb : ∀ b ∈ ns, 0 ≤ b ∧ b ≤ 3) {j : Nat} {k : Int} (hk : k ≤ 1000000) : IntMulOk ((ns.getD j 0).fdiv 2) (2 ^ k.toNat) := by
  have h := getD_r hb j
  refine IntMulOk.of_le (m := 64) (intBits_le_iff.mpr ?_) (kbm_pow k hk) (by decide)
  have e : (ns.getD j 0).fdiv 2 = (ns.getD j 0) / 2 := by rw [Int.fdiv_eq_ediv_of_nonneg _ (by decide)]
  rw [e]
  have h2 : ((ns.getD j 0) / 2).natAbs ≤ 3 := by omega
  exact Nat.lt_of_le_of_lt h2 (by decide)
local macro_rules | `(tactic| walk_at "binaryOp Mult int int") => `(tactic| (k_here; (refine mul_int ?_ ?kbm); rotate_left; (exact mulbits (by assumption) (by omega))))
local macro_rules | `(tactic| walk_at "pyIter ref") => `(tactic| (kst_has; k_extra "pyIter ref"))
local macro_rules | `(tactic| walk_at "exec For Name Call cons nil") => `(tactic| k_extra "m33")
theorem word33 : True := by
  k_with "m33" => ((k_here; kst_src; (rename Fr _ _ _ _ => lF'); (with_unfolding_all refine' For_invVF lF' ?m33k1 ?m33k2 ?_; (case m33k1 => exact rfl); (case m33k2 => exact rfl); k_whole)))
  exact trivial
local macro_rules | `(tactic| walk_at "exec For Name Name cons nil") => `(tactic| k_extra "m34")
theorem word34 : True := by
  k_with "m34" => ((k_here; kst_src; (rename Fr _ _ _ _ => lF'); (with_unfolding_all refine' For_invVF lF' ?m34k1 ?m34k2 ?_; (case m34k1 => exact rfl); (case m34k2 => exact rfl); k_whole)))
  exact trivial
theorem c_law_made0 {w : World} {mean : ExcName → Option Value} {mg mb : Str → Option Value} (P : Addr) (vs : List Value) (ns : List Int) (c : Nat) (rest : Led) (hI : IntsAre vs ns) (hn : ns.length ≤ 20) (hb : ∀ b ∈ ns, 0 ≤ b ∧ b ≤ 3) :
   Cl w mean mg mb 1 210 [.ref P] (PreN ((P, listOf vs.toArray c) :: rest)) (RetTupF ((P, listOf vs.toArray c) :: rest) (ns.length : Int) (sLow ns) (sHigh ns)) := by
  unfold Cl; k_fill
  intro dp un gd cn cs a ccd cl outer A₀ base h₀ L m s Q E B F X N T hk hd' hu' hret
  k_with "state" => first | exact ⟨rfl, rfl⟩ | (exact made_turn (by assumption) (by assumption) (by assumption) (by assumption))
  k_with "pyIter ref" => k_state_given ["bits"] (fun bits pre low high => low = sLow (bits.take pre.length) ∧ high = sHigh (bits.take pre.length)) "low" "high"
  refine wpAny_call ?_
  k_dflt cell_enter
  k_steps
  all_goals (refine tup_ret3 hret (new_off (by assumption)) (by k_asm) (cb_drop (by k_asm) (fun _ hp => hp)) rfl ?_ ?_)
  all_goals first | exact made_endL (by assumption) | exact made_endH (by assumption)
theorem c_law_made {w : World} {mean : ExcName → Option Value} {mg mb : Str → Option Value} (P : Addr) (vs : List Value) (ns : List Int) (c : Nat) (news : Led) (hP : (P, listOf vs.toArray c) ∈ news) (hI : IntsAre vs ns) (hn : ns.length ≤ 20) (hb : ∀ b ∈ ns, 0 ≤ b ∧ b ≤ 3) :
   Cl w mean mg mb 1 210 [.ref P] (PreN news) (RetTupF news (ns.length : Int) (sLow ns) (sHigh ns)) := dupT hP (c_law_made0 P vs ns c news hI hn hb)
theorem fresh14 : True := by
  w_top off
  k_with_none
  k_with "m1" => ((k_here; (with_reducible show wpAny _ _ (PySem.call (Value.ref 21) [Value.int _ _]) _ _ _); k_dflt (refine' use (c_mask _ _ _ ?m1h0 ?m1h1) ?m1k1 ?m1k2 ?m1k3 ?m1k4 ?m1k5 ?m1k6 ?m1k7 ?m1k8 ?_; (case m1h0 => first | assumption | omega); (case m1h1 => first | assumption | omega); (case m1k1 => k_asm); (case m1k2 => k_asm); (case m1k3 => k_asm); (case m1k4 => k_asm); (case m1k5 => k_asm); (case m1k6 => first | exact rfl | assumption); (case m1k7 => ktr_room); (case m1k8 => ktr_units); intro t' h' tk' F' N'; (try dsimp only); (try k_sweep))))
  k_with "m2" => ((k_here; (with_reducible show wpAny _ _ (compareOp CmpOp.Eq (Value.ref _) (Value.ref _)) _ _ _); k_dflt (refine' eq_tup3 ?m2N ?m2m1 ?m2m2 ?m2u ?_; (case m2N => k_asm); (case m2m1 => first | assumption | exact List.Mem.head _ | (refine' List.Mem.tail _ ?_; (first | assumption | exact List.Mem.head _ | (refine' List.Mem.tail _ ?_; (first | assumption | exact List.Mem.head _ | (refine' List.Mem.tail _ ?_; (first | assumption | exact List.Mem.head _ | (refine' List.Mem.tail _ ?_; (first | assumption | exact List.Mem.head _ | (refine' List.Mem.tail _ ?_; (first | assumption | exact List.Mem.head _ | (refine' List.Mem.tail _ ?_; (first | assumption | exact List.Mem.head _ | (refine' List.Mem.tail _ ?_; (first | assumption | exact List.Mem.head _ | (refine' List.Mem.tail _ ?_; (first | assumption | exact List.Mem.head _))))))))))))))))); (case m2m2 => first | assumption | exact List.Mem.head _ | (refine' List.Mem.tail _ ?_; (first | assumption | exact List.Mem.head _ | (refine' List.Mem.tail _ ?_; (first | assumption | exact List.Mem.head _ | (refine' List.Mem.tail _ ?_; (first | assumption | exact List.Mem.head _ | (refine' List.Mem.tail _ ?_; (first | assumption | exact List.Mem.head _ | (refine' List.Mem.tail _ ?_; (first | assumption | exact List.Mem.head _ | (refine' List.Mem.tail _ ?_; (first | assumption | exact List.Mem.head _ | (refine' List.Mem.tail _ ?_; (first | assumption | exact List.Mem.head _ | (refine' List.Mem.tail _ ?_; (first | assumption | exact List.Mem.head _))))))))))))))))); (case m2u => ktr_units))))
  k_with "m3" => ((k_here; (with_reducible show wpAny _ _ (compareOp CmpOp.NotEq (Value.ref _) (Value.ref _)) _ _ _); k_dflt (refine' ne_tup3 ?m3N ?m3m1 ?m3m2 ?m3u ?_; (case m3N => k_asm); (case m3m1 => first | assumption | exact List.Mem.head _ | (refine' List.Mem.tail _ ?_; (first | assumption | exact List.Mem.head _ | (refine' List.Mem.tail _ ?_; (first | assumption | exact List.Mem.head _ | (refine' List.Mem.tail _ ?_; (first | assumption | exact List.Mem.head _ | (refine' List.Mem.tail _ ?_; (first | assumption | exact List.Mem.head _ | (refine' List.Mem.tail _ ?_; (first | assumption | exact List.Mem.head _ | (refine' List.Mem.tail _ ?_; (first | assumption | exact List.Mem.head _ | (refine' List.Mem.tail _ ?_; (first | assumption | exact List.Mem.head _ | (refine' List.Mem.tail _ ?_; (first | assumption | exact List.Mem.head _))))))))))))))))); (case m3m2 => first | assumption | exact List.Mem.head _ | (refine' List.Mem.tail _ ?_; (first | assumption | exact List.Mem.head _ | (refine' List.Mem.tail _ ?_; (first | assumption | exact List.Mem.head _ | (refine' List.Mem.tail _ ?_; (first | assumption | exact List.Mem.head _ | (refine' List.Mem.tail _ ?_; (first | assumption | exact List.Mem.head _ | (refine' List.Mem.tail _ ?_; (first | assumption | exact List.Mem.head _ | (refine' List.Mem.tail _ ?_; (first | assumption | exact List.Mem.head _ | (refine' List.Mem.tail _ ?_; (first | assumption | exact List.Mem.head _ | (refine' List.Mem.tail _ ?_; (first | assumption | exact List.Mem.head _))))))))))))))))); (case m3u => ktr_units))))
  k_with "m4" => ((k_here; (with_reducible show wpAny _ _ (subscriptTail _ (PySem.Expr.Slice _ _ none _) (Value.ref _) (Value.ref _)) _ _ _); k_dflt (refine' tslice ?m4F ?m4N ?m4T ?_ ?m4s ?m4t ?m4z; (case m4F => k_asm); (case m4N => k_asm); (case m4T => k_mem); (case m4s => with_unfolding_all rfl); (case m4t => (intro _; with_unfolding_all rfl)); (case m4z => exact Nat.le_of_ble_eq_true rfl); intro D' h' F' N' l1'; (try k_sweep))))
  k_with "m29" => ((k_here; (with_reducible show wpAny _ _ (PySem.call (Value.ref 217) [Value.int _ _]) _ _ _); k_dflt (refine' use (c_law_not _ _ _  ?m29p0 ?m29p1) ?m29k1 ?m29k2 ?m29k3 ?m29k4 ?m29k5 ?m29k6 ?m29k7 ?m29k8 ?_; (case m29k1 => k_asm); (case m29k2 => k_asm); (case m29k3 => k_asm); (case m29k4 => k_asm); (case m29k5 => k_asm); (case m29k6 => first | exact rfl | assumption); (case m29k7 => ktr_room); (case m29k8 => ktr_units); (case m29p0 => first | assumption | omega | decide | exact (lNot_r _).1 | exact (lNot_r _).2 | exact (lAnd_r _ _).1 | exact (lAnd_r _ _).2 | exact (lXor_r _ _).1 | exact (lXor_r _ _).2 | exact (lOr_r _ _).1 | exact (lOr_r _ _).2 | exact And.left ((by assumption : ∀ b ∈ _, (0:Int) ≤ b ∧ b ≤ 3) _ (by assumption)) | exact And.right ((by assumption : ∀ b ∈ _, (0:Int) ≤ b ∧ b ≤ 3) _ (by assumption))); (case m29p1 => first | assumption | omega | decide | exact (lNot_r _).1 | exact (lNot_r _).2 | exact (lAnd_r _ _).1 | exact (lAnd_r _ _).2 | exact (lXor_r _ _).1 | exact (lXor_r _ _).2 | exact (lOr_r _ _).1 | exact (lOr_r _ _).2 | exact And.left ((by assumption : ∀ b ∈ _, (0:Int) ≤ b ∧ b ≤ 3) _ (by assumption)) | exact And.right ((by assumption : ∀ b ∈ _, (0:Int) ≤ b ∧ b ≤ 3) _ (by assumption))); intro t' h' tk' F' N'; (try dsimp only); (try k_sweep))))
  k_with "m30" => ((k_here; (with_reducible show wpAny _ _ (PySem.call (Value.ref 224) [Value.int _ _, Value.int _ _]) _ _ _); k_dflt (refine' use (c_law_and _ _ _ _ _ ) ?m30k1 ?m30k2 ?m30k3 ?m30k4 ?m30k5 ?m30k6 ?m30k7 ?m30k8 ?_; (case m30k1 => k_asm); (case m30k2 => k_asm); (case m30k3 => k_asm); (case m30k4 => k_asm); (case m30k5 => k_asm); (case m30k6 => first | exact rfl | assumption); (case m30k7 => ktr_room); (case m30k8 => ktr_units); intro t' h' tk' F' N'; (try dsimp only); (try k_sweep))))
  k_with "m31" => ((k_here; (with_reducible show wpAny _ _ (PySem.call (Value.ref 231) [Value.int _ _, Value.int _ _]) _ _ _); k_dflt (refine' use (c_law_or _ _ _ _ _  ?m31p0 ?m31p1 ?m31p2 ?m31p3) ?m31k1 ?m31k2 ?m31k3 ?m31k4 ?m31k5 ?m31k6 ?m31k7 ?m31k8 ?_; (case m31k1 => k_asm); (case m31k2 => k_asm); (case m31k3 => k_asm); (case m31k4 => k_asm); (case m31k5 => k_asm); (case m31k6 => first | exact rfl | assumption); (case m31k7 => ktr_room); (case m31k8 => ktr_units); (case m31p0 => first | assumption | omega | decide | exact (lNot_r _).1 | exact (lNot_r _).2 | exact (lAnd_r _ _).1 | exact (lAnd_r _ _).2 | exact (lXor_r _ _).1 | exact (lXor_r _ _).2 | exact (lOr_r _ _).1 | exact (lOr_r _ _).2 | exact And.left ((by assumption : ∀ b ∈ _, (0:Int) ≤ b ∧ b ≤ 3) _ (by assumption)) | exact And.right ((by assumption : ∀ b ∈ _, (0:Int) ≤ b ∧ b ≤ 3) _ (by assumption))); (case m31p1 => first | assumption | omega | decide | exact (lNot_r _).1 | exact (lNot_r _).2 | exact (lAnd_r _ _).1 | exact (lAnd_r _ _).2 | exact (lXor_r _ _).1 | exact (lXor_r _ _).2 | exact (lOr_r _ _).1 | exact (lOr_r _ _).2 | exact And.left ((by assumption : ∀ b ∈ _, (0:Int) ≤ b ∧ b ≤ 3) _ (by assumption)) | exact And.right ((by assumption : ∀ b ∈ _, (0:Int) ≤ b ∧ b ≤ 3) _ (by assumption))); (case m31p2 => first | assumption | omega | decide | exact (lNot_r _).1 | exact (lNot_r _).2 | exact (lAnd_r _ _).1 | exact (lAnd_r _ _).2 | exact (lXor_r _ _).1 | exact (lXor_r _ _).2 | exact (lOr_r _ _).1 | exact (lOr_r _ _).2 | exact And.left ((by assumption : ∀ b ∈ _, (0:Int) ≤ b ∧ b ≤ 3) _ (by assumption)) | exact And.right ((by assumption : ∀ b ∈ _, (0:Int) ≤ b ∧ b ≤ 3) _ (by assumption))); (case m31p3 => first | assumption | omega | decide | exact (lNot_r _).1 | exact (lNot_r _).2 | exact (lAnd_r _ _).1 | exact (lAnd_r _ _).2 | exact (lXor_r _ _).1 | exact (lXor_r _ _).2 | exact (lOr_r _ _).1 | exact (lOr_r _ _).2 | exact And.left ((by assumption : ∀ b ∈ _, (0:Int) ≤ b ∧ b ≤ 3) _ (by assumption)) | exact And.right ((by assumption : ∀ b ∈ _, (0:Int) ≤ b ∧ b ≤ 3) _ (by assumption))); intro t' h' tk' F' N'; (try dsimp only); (try k_sweep))))
  k_with "m32" => ((k_here; (with_reducible show wpAny _ _ (PySem.call (Value.ref 238) [Value.int _ _, Value.int _ _]) _ _ _); k_dflt (refine' use (c_law_xor _ _ _ _ _ ) ?m32k1 ?m32k2 ?m32k3 ?m32k4 ?m32k5 ?m32k6 ?m32k7 ?m32k8 ?_; (case m32k1 => k_asm); (case m32k2 => k_asm); (case m32k3 => k_asm); (case m32k4 => k_asm); (case m32k5 => k_asm); (case m32k6 => first | exact rfl | assumption); (case m32k7 => ktr_room); (case m32k8 => ktr_units); intro t' h' tk' F' N'; (try dsimp only); (try k_sweep))))
  k_with "m33" => ((k_here; kst_src; (rename Fr _ _ _ _ => lF'); (with_unfolding_all refine' For_invVF lF' ?m33k1 ?m33k2 ?_; (case m33k1 => exact rfl); (case m33k2 => exact rfl); k_whole)))
  k_with "m34" => ((k_here; kst_src; (rename Fr _ _ _ _ => lF'); (with_unfolding_all refine' For_invVF lF' ?m34k1 ?m34k2 ?_; (case m34k1 => exact rfl); (case m34k2 => exact rfl); k_whole)))
  (try walk1)
  exact trivial
theorem over_turn {f : Int → Int → Int} (hf : ∀ x y, 0 ≤ f x y ∧ f x y ≤ 3) {fig f0 n : Int} {pre : List Int} (h : fig = pre.foldl f f0) : f fig n = (pre ++ [n]).foldl f f0 ∧ 0 ≤ f fig n ∧ f fig n ≤ 3 := by
  refine ⟨?_, hf _ _⟩
  rw [List.foldl_append, ← h]; rfl
theorem over_end1 {f : Int → Int → Int} {fig : Int} {ns : List Int} (hlt : ns.getD (Int.toNat 0) 0 < 2) (h : fig = (ns.drop 1).foldl f (ns.getD (Int.toNat 0) 0)) : fig = lOver f ns := by
  have e : Int.toNat 0 = 0 := rfl
  rw [e] at h hlt
  rw [h]; unfold lOver; rw [if_pos hlt]
theorem over_end2 {f : Int → Int → Int} {fig : Int} {ns : List Int} (hlt : ¬ ns.getD (Int.toNat 0) 0 < 2) (h : fig = (ns.drop 1).foldl f 3) : fig = lOver f ns := by
  have e : Int.toNat 0 = 0 := rfl
  rw [e] at hlt
  rw [h]; unfold lOver; rw [if_neg hlt]
theorem foldl_r {f : Int → Int → Int} (hf : ∀ x y, 0 ≤ f x y ∧ f x y ≤ 3) : ∀ (l : List Int) (a : Int), 0 ≤ a ∧ a ≤ 3 → 0 ≤ l.foldl f a ∧ l.foldl f a ≤ 3
  | [], _, h => h
  | b :: r, a, _ => foldl_r hf r (f a b) (hf a b)
theorem lOver_r {f : Int → Int → Int} (hf : ∀ x y, 0 ≤ f x y ∧ f x y ≤ 3) {ns : List Int} (hb : ∀ b ∈ ns, 0 ≤ b ∧ b ≤ 3) : 0 ≤ lOver f ns ∧ lOver f ns ≤ 3 := by
  unfold lOver
  refine foldl_r hf _ _ ?_
  split
  · exact getD_r hb 0
  · omega
theorem dupI {w : World} {mean : ExcName → Option Value} {mg mb : Str → Option Value} {lev : Nat} {f : Addr} {vs : List Value} {news : Led} {p : Addr × Obj} {x : Int} (hm : p ∈ news)
    (C : Cl w mean mg mb lev f vs (PreN (p :: news)) (RetInt (p :: news) x)) : Cl w mean mg mb lev f vs (PreN news) (RetInt news x) := by
  intro dp un gd cn cs a ccd cl outer A₀ base h₀ L m s Q E B F X N T hk hd' hu' hret
  exact use C B F X (news_dup N hm) T hk hd' hu' fun t h' tk' F' N' => hret t h' tk' F' (cb_drop N' fun q hq => .tail _ hq)
local macro_rules | `(tactic| walk_at "pyIter ref") => `(tactic| (kst_has; k_extra "pyIter ref"))
local macro_rules | `(tactic| walk_at "exec For Name Subscript cons nil") => `(tactic| (k_here; (rename Fr _ _ _ _ => lF'); (with_unfolding_all refine' For_invVF lF' ?k1 ?k2 ?_; (case k1 => exact rfl); (case k2 => exact rfl); k_whole)))
theorem c_law_over_and0 {w : World} {mean : ExcName → Option Value} {mg mb : Str → Option Value} (P : Addr) (vs : List Value) (ns : List Int) (c : Nat) (rest : Led) (hI : IntsAre vs ns) (hn : ns.length ≤ 20) (hn1 : 1 ≤ ns.length) (hb : ∀ b ∈ ns, 0 ≤ b ∧ b ≤ 3) :
   Cl w mean mg mb 2 245 [.ref 224, .ref P] (PreN ((P, listOf vs.toArray c) :: rest)) (RetInt ((P, listOf vs.toArray c) :: rest) (lOver lAnd ns)) := by
  unfold Cl; k_fill
  intro dp un gd cn cs a ccd cl outer A₀ base h₀ L m s Q E B F X N T hk hd' hu' hret
  k_with_none
  k_with "m1" => ((k_here; (with_reducible show wpAny _ _ (PySem.call (Value.ref 21) [Value.int _ _]) _ _ _); k_dflt (refine' use (c_mask _ _ _ ?m1h0 ?m1h1) ?m1k1 ?m1k2 ?m1k3 ?m1k4 ?m1k5 ?m1k6 ?m1k7 ?m1k8 ?_; (case m1h0 => first | assumption | omega); (case m1h1 => first | assumption | omega); (case m1k1 => k_asm); (case m1k2 => k_asm); (case m1k3 => k_asm); (case m1k4 => k_asm); (case m1k5 => k_asm); (case m1k6 => first | exact rfl | assumption); (case m1k7 => ktr_room); (case m1k8 => ktr_units); intro t' h' tk' F' N'; (try dsimp only); (try k_sweep))))
  k_with "m2" => ((k_here; (with_reducible show wpAny _ _ (compareOp CmpOp.Eq (Value.ref _) (Value.ref _)) _ _ _); k_dflt (refine' eq_tup3 ?m2N ?m2m1 ?m2m2 ?m2u ?_; (case m2N => k_asm); (case m2m1 => first | assumption | exact List.Mem.head _ | (refine' List.Mem.tail _ ?_; (first | assumption | exact List.Mem.head _ | (refine' List.Mem.tail _ ?_; (first | assumption | exact List.Mem.head _ | (refine' List.Mem.tail _ ?_; (first | assumption | exact List.Mem.head _ | (refine' List.Mem.tail _ ?_; (first | assumption | exact List.Mem.head _ | (refine' List.Mem.tail _ ?_; (first | assumption | exact List.Mem.head _ | (refine' List.Mem.tail _ ?_; (first | assumption | exact List.Mem.head _ | (refine' List.Mem.tail _ ?_; (first | assumption | exact List.Mem.head _ | (refine' List.Mem.tail _ ?_; (first | assumption | exact List.Mem.head _))))))))))))))))); (case m2m2 => first | assumption | exact List.Mem.head _ | (refine' List.Mem.tail _ ?_; (first | assumption | exact List.Mem.head _ | (refine' List.Mem.tail _ ?_; (first | assumption | exact List.Mem.head _ | (refine' List.Mem.tail _ ?_; (first | assumption | exact List.Mem.head _ | (refine' List.Mem.tail _ ?_; (first | assumption | exact List.Mem.head _ | (refine' List.Mem.tail _ ?_; (first | assumption | exact List.Mem.head _ | (refine' List.Mem.tail _ ?_; (first | assumption | exact List.Mem.head _ | (refine' List.Mem.tail _ ?_; (first | assumption | exact List.Mem.head _ | (refine' List.Mem.tail _ ?_; (first | assumption | exact List.Mem.head _))))))))))))))))); (case m2u => ktr_units))))
  k_with "m3" => ((k_here; (with_reducible show wpAny _ _ (compareOp CmpOp.NotEq (Value.ref _) (Value.ref _)) _ _ _); k_dflt (refine' ne_tup3 ?m3N ?m3m1 ?m3m2 ?m3u ?_; (case m3N => k_asm); (case m3m1 => first | assumption | exact List.Mem.head _ | (refine' List.Mem.tail _ ?_; (first | assumption | exact List.Mem.head _ | (refine' List.Mem.tail _ ?_; (first | assumption | exact List.Mem.head _ | (refine' List.Mem.tail _ ?_; (first | assumption | exact List.Mem.head _ | (refine' List.Mem.tail _ ?_; (first | assumption | exact List.Mem.head _ | (refine' List.Mem.tail _ ?_; (first | assumption | exact List.Mem.head _ | (refine' List.Mem.tail _ ?_; (first | assumption | exact List.Mem.head _ | (refine' List.Mem.tail _ ?_; (first | assumption | exact List.Mem.head _ | (refine' List.Mem.tail _ ?_; (first | assumption | exact List.Mem.head _))))))))))))))))); (case m3m2 => first | assumption | exact List.Mem.head _ | (refine' List.Mem.tail _ ?_; (first | assumption | exact List.Mem.head _ | (refine' List.Mem.tail _ ?_; (first | assumption | exact List.Mem.head _ | (refine' List.Mem.tail _ ?_; (first | assumption | exact List.Mem.head _ | (refine' List.Mem.tail _ ?_; (first | assumption | exact List.Mem.head _ | (refine' List.Mem.tail _ ?_; (first | assumption | exact List.Mem.head _ | (refine' List.Mem.tail _ ?_; (first | assumption | exact List.Mem.head _ | (refine' List.Mem.tail _ ?_; (first | assumption | exact List.Mem.head _ | (refine' List.Mem.tail _ ?_; (first | assumption | exact List.Mem.head _))))))))))))))))); (case m3u => ktr_units))))
  k_with "m4" => ((k_here; (with_reducible show wpAny _ _ (subscriptTail _ (PySem.Expr.Slice _ _ none _) (Value.ref _) (Value.ref _)) _ _ _); k_dflt (refine' tslice ?m4F ?m4N ?m4T ?_ ?m4s ?m4t ?m4z; (case m4F => k_asm); (case m4N => k_asm); (case m4T => k_mem); (case m4s => with_unfolding_all rfl); (case m4t => (intro _; with_unfolding_all rfl)); (case m4z => exact Nat.le_of_ble_eq_true rfl); intro D' h' F' N' l1'; (try k_sweep))))
  k_with "m29" => ((k_here; (with_reducible show wpAny _ _ (PySem.call (Value.ref 217) [Value.int _ _]) _ _ _); k_dflt (refine' use (c_law_not _ _ _  ?m29p0 ?m29p1) ?m29k1 ?m29k2 ?m29k3 ?m29k4 ?m29k5 ?m29k6 ?m29k7 ?m29k8 ?_; (case m29k1 => k_asm); (case m29k2 => k_asm); (case m29k3 => k_asm); (case m29k4 => k_asm); (case m29k5 => k_asm); (case m29k6 => first | exact rfl | assumption); (case m29k7 => ktr_room); (case m29k8 => ktr_units); (case m29p0 => first | assumption | omega | decide | exact (lNot_r _).1 | exact (lNot_r _).2 | exact (lAnd_r _ _).1 | exact (lAnd_r _ _).2 | exact (lXor_r _ _).1 | exact (lXor_r _ _).2 | exact (lOr_r _ _).1 | exact (lOr_r _ _).2 | exact And.left ((by assumption : ∀ b ∈ _, (0:Int) ≤ b ∧ b ≤ 3) _ (by assumption)) | exact And.right ((by assumption : ∀ b ∈ _, (0:Int) ≤ b ∧ b ≤ 3) _ (by assumption))); (case m29p1 => first | assumption | omega | decide | exact (lNot_r _).1 | exact (lNot_r _).2 | exact (lAnd_r _ _).1 | exact (lAnd_r _ _).2 | exact (lXor_r _ _).1 | exact (lXor_r _ _).2 | exact (lOr_r _ _).1 | exact (lOr_r _ _).2 | exact And.left ((by assumption : ∀ b ∈ _, (0:Int) ≤ b ∧ b ≤ 3) _ (by assumption)) | exact And.right ((by assumption : ∀ b ∈ _, (0:Int) ≤ b ∧ b ≤ 3) _ (by assumption))); intro t' h' tk' F' N'; (try dsimp only); (try k_sweep))))
  k_with "m30" => ((k_here; (with_reducible show wpAny _ _ (PySem.call (Value.ref 224) [Value.int _ _, Value.int _ _]) _ _ _); k_dflt (refine' use (c_law_and _ _ _ _ _ ) ?m30k1 ?m30k2 ?m30k3 ?m30k4 ?m30k5 ?m30k6 ?m30k7 ?m30k8 ?_; (case m30k1 => k_asm); (case m30k2 => k_asm); (case m30k3 => k_asm); (case m30k4 => k_asm); (case m30k5 => k_asm); (case m30k6 => first | exact rfl | assumption); (case m30k7 => ktr_room); (case m30k8 => ktr_units); intro t' h' tk' F' N'; (try dsimp only); (try k_sweep))))
  k_with "m31" => ((k_here; (with_reducible show wpAny _ _ (PySem.call (Value.ref 231) [Value.int _ _, Value.int _ _]) _ _ _); k_dflt (refine' use (c_law_or _ _ _ _ _  ?m31p0 ?m31p1 ?m31p2 ?m31p3) ?m31k1 ?m31k2 ?m31k3 ?m31k4 ?m31k5 ?m31k6 ?m31k7 ?m31k8 ?_; (case m31k1 => k_asm); (case m31k2 => k_asm); (case m31k3 => k_asm); (case m31k4 => k_asm); (case m31k5 => k_asm); (case m31k6 => first | exact rfl | assumption); (case m31k7 => ktr_room); (case m31k8 => ktr_units); (case m31p0 => first | assumption | omega | decide | exact (lNot_r _).1 | exact (lNot_r _).2 | exact (lAnd_r _ _).1 | exact (lAnd_r _ _).2 | exact (lXor_r _ _).1 | exact (lXor_r _ _).2 | exact (lOr_r _ _).1 | exact (lOr_r _ _).2 | exact And.left ((by assumption : ∀ b ∈ _, (0:Int) ≤ b ∧ b ≤ 3) _ (by assumption)) | exact And.right ((by assumption : ∀ b ∈ _, (0:Int) ≤ b ∧ b ≤ 3) _ (by assumption))); (case m31p1 => first | assumption | omega | decide | exact (lNot_r _).1 | exact (lNot_r _).2 | exact (lAnd_r _ _).1 | exact (lAnd_r _ _).2 | exact (lXor_r _ _).1 | exact (lXor_r _ _).2 | exact (lOr_r _ _).1 | exact (lOr_r _ _).2 | exact And.left ((by assumption : ∀ b ∈ _, (0:Int) ≤ b ∧ b ≤ 3) _ (by assumption)) | exact And.right ((by assumption : ∀ b ∈ _, (0:Int) ≤ b ∧ b ≤ 3) _ (by assumption))); (case m31p2 => first | assumption | omega | decide | exact (lNot_r _).1 | exact (lNot_r _).2 | exact (lAnd_r _ _).1 | exact (lAnd_r _ _).2 | exact (lXor_r _ _).1 | exact (lXor_r _ _).2 | exact (lOr_r _ _).1 | exact (lOr_r _ _).2 | exact And.left ((by assumption : ∀ b ∈ _, (0:Int) ≤ b ∧ b ≤ 3) _ (by assumption)) | exact And.right ((by assumption : ∀ b ∈ _, (0:Int) ≤ b ∧ b ≤ 3) _ (by assumption))); (case m31p3 => first | assumption | omega | decide | exact (lNot_r _).1 | exact (lNot_r _).2 | exact (lAnd_r _ _).1 | exact (lAnd_r _ _).2 | exact (lXor_r _ _).1 | exact (lXor_r _ _).2 | exact (lOr_r _ _).1 | exact (lOr_r _ _).2 | exact And.left ((by assumption : ∀ b ∈ _, (0:Int) ≤ b ∧ b ≤ 3) _ (by assumption)) | exact And.right ((by assumption : ∀ b ∈ _, (0:Int) ≤ b ∧ b ≤ 3) _ (by assumption))); intro t' h' tk' F' N'; (try dsimp only); (try k_sweep))))
  k_with "m32" => ((k_here; (with_reducible show wpAny _ _ (PySem.call (Value.ref 238) [Value.int _ _, Value.int _ _]) _ _ _); k_dflt (refine' use (c_law_xor _ _ _ _ _ ) ?m32k1 ?m32k2 ?m32k3 ?m32k4 ?m32k5 ?m32k6 ?m32k7 ?m32k8 ?_; (case m32k1 => k_asm); (case m32k2 => k_asm); (case m32k3 => k_asm); (case m32k4 => k_asm); (case m32k5 => k_asm); (case m32k6 => first | exact rfl | assumption); (case m32k7 => ktr_room); (case m32k8 => ktr_units); intro t' h' tk' F' N'; (try dsimp only); (try k_sweep))))
  k_with "m33" => ((k_here; kst_src; (rename Fr _ _ _ _ => lF'); (with_unfolding_all refine' For_invVF lF' ?m33k1 ?m33k2 ?_; (case m33k1 => exact rfl); (case m33k2 => exact rfl); k_whole)))
  k_with "m34" => ((k_here; kst_src; (rename Fr _ _ _ _ => lF'); (with_unfolding_all refine' For_invVF lF' ?m34k1 ?m34k2 ?_; (case m34k1 => exact rfl); (case m34k2 => exact rfl); k_whole)))
  k_with "state" => first | exact ⟨rfl, getD_r (by assumption) _⟩ | exact ⟨rfl, by decide, by decide⟩ | exact over_turn lAnd_r (by assumption)
  k_with "pyIter ref" => (k_state_given ["figure!"] (fun f0 pre figure => figure = pre.foldl lAnd f0 ∧ 0 ≤ figure ∧ figure ≤ 3) "figure")
  have hb' : ∀ b ∈ ns.drop 1, 0 ≤ b ∧ b ≤ 3 := fun b h => hb b (List.mem_of_mem_drop h)
  refine wpAny_call ?_
  k_dflt cell_enter
  k_steps
  all_goals (refine cb_retI hret ?_ (by k_asm) (cb_drop (by k_asm) (by kcj_all)))
  all_goals first | exact over_end1 (by assumption) (by assumption) | exact over_end2 (by assumption) (by assumption)
theorem c_law_over_and {w : World} {mean : ExcName → Option Value} {mg mb : Str → Option Value} (P : Addr) (vs : List Value) (ns : List Int) (c : Nat) (news : Led) (hP : (P, listOf vs.toArray c) ∈ news) (hI : IntsAre vs ns) (hn : ns.length ≤ 20) (hn1 : 1 ≤ ns.length) (hb : ∀ b ∈ ns, 0 ≤ b ∧ b ≤ 3) :
   Cl w mean mg mb 2 245 [.ref 224, .ref P] (PreN news) (RetInt news (lOver lAnd ns)) := dupI hP (c_law_over_and0 P vs ns c news hI hn hn1 hb)
local macro_rules | `(tactic| walk_at "call ref") => `(tactic| k_extra "m35")
theorem word35 : True := by
  k_with "m35" => ((k_here; (with_reducible show wpAny _ _ (PySem.call (Value.ref 245) [Value.ref 224, Value.ref _]) _ _ _); k_dflt (refine' use (c_law_over_and _ _ _ _ _ ?m35hP ?m35hI ?m35hn ?m35hn1 ?m35hb) ?m35k1 ?m35k2 ?m35k3 ?m35k4 ?m35k5 ?m35k6 ?m35k7 ?m35k8 ?_; (case m35k1 => k_asm); (case m35k2 => k_asm); (case m35k3 => k_asm); (case m35k4 => k_asm); (case m35k5 => k_asm); (case m35k6 => first | exact rfl | assumption); (case m35k7 => ktr_room); (case m35k8 => ktr_units); (case m35hP => first | assumption | exact List.Mem.head _ | (refine' List.Mem.tail _ ?_; (first | assumption | exact List.Mem.head _ | (refine' List.Mem.tail _ ?_; (first | assumption | exact List.Mem.head _ | (refine' List.Mem.tail _ ?_; (first | assumption | exact List.Mem.head _ | (refine' List.Mem.tail _ ?_; (first | assumption | exact List.Mem.head _ | (refine' List.Mem.tail _ ?_; (first | assumption | exact List.Mem.head _ | (refine' List.Mem.tail _ ?_; (first | assumption | exact List.Mem.head _ | (refine' List.Mem.tail _ ?_; (first | assumption | exact List.Mem.head _ | (refine' List.Mem.tail _ ?_; (first | assumption | exact List.Mem.head _))))))))))))))))); (case m35hI => first | assumption | exact IntsAre.cons _ _ IntsAre.nil); (case m35hn => first | assumption | (simp; done) | omega); (case m35hn1 => first | assumption | (simp; done) | omega); (case m35hb => first | assumption | omega); intro t' h' tk' F' N'; (try dsimp only); (try k_sweep))))
  exact trivial
theorem c_law_over_or0 {w : World} {mean : ExcName → Option Value} {mg mb : Str → Option Value} (P : Addr) (vs : List Value) (ns : List Int) (c : Nat) (rest : Led) (hI : IntsAre vs ns) (hn : ns.length ≤ 20) (hn1 : 1 ≤ ns.length) (hb : ∀ b ∈ ns, 0 ≤ b ∧ b ≤ 3) :
   Cl w mean mg mb 2 245 [.ref 231, .ref P] (PreN ((P, listOf vs.toArray c) :: rest)) (RetInt ((P, listOf vs.toArray c) :: rest) (lOver lOr ns)) := by
  unfold Cl; k_fill
  intro dp un gd cn cs a ccd cl outer A₀ base h₀ L m s Q E B F X N T hk hd' hu' hret
  k_with_none
  k_with "m1" => ((k_here; (with_reducible show wpAny _ _ (PySem.call (Value.ref 21) [Value.int _ _]) _ _ _); k_dflt (refine' use (c_mask _ _ _ ?m1h0 ?m1h1) ?m1k1 ?m1k2 ?m1k3 ?m1k4 ?m1k5 ?m1k6 ?m1k7 ?m1k8 ?_; (case m1h0 => first | assumption | omega); (case m1h1 => first | assumption | omega); (case m1k1 => k_asm); (case m1k2 => k_asm); (case m1k3 => k_asm); (case m1k4 => k_asm); (case m1k5 => k_asm); (case m1k6 => first | exact rfl | assumption); (case m1k7 => ktr_room); (case m1k8 => ktr_units); intro t' h' tk' F' N'; (try dsimp only); (try k_sweep))))
  k_with "m2" => ((k_here; (with_reducible show wpAny _ _ (compareOp CmpOp.Eq (Value.ref _) (Value.ref _)) _ _ _); k_dflt (refine' eq_tup3 ?m2N ?m2m1 ?m2m2 ?m2u ?_; (case m2N => k_asm); (case m2m1 => first | assumption | exact List.Mem.head _ | (refine' List.Mem.tail _ ?_; (first | assumption | exact List.Mem.head _ | (refine' List.Mem.tail _ ?_; (first | assumption | exact List.Mem.head _ | (refine' List.Mem.tail _ ?_; (first | assumption | exact List.Mem.head _ | (refine' List.Mem.tail _ ?_; (first | assumption | exact List.Mem.head _ | (refine' List.Mem.tail _ ?_; (first | assumption | exact List.Mem.head _ | (refine' List.Mem.tail _ ?_; (first | assumption | exact List.Mem.head _ | (refine' List.Mem.tail _ ?_; (first | assumption | exact List.Mem.head _ | (refine' List.Mem.tail _ ?_; (first | assumption | exact List.Mem.head _))))))))))))))))); (case m2m2 => first | assumption | exact List.Mem.head _ | (refine' List.Mem.tail _ ?_; (first | assumption | exact List.Mem.head _ | (refine' List.Mem.tail _ ?_; (first | assumption | exact List.Mem.head _ | (refine' List.Mem.tail _ ?_; (first | assumption | exact List.Mem.head _ | (refine' List.Mem.tail _ ?_; (first | assumption | exact List.Mem.head _ | (refine' List.Mem.tail _ ?_; (first | assumption | exact List.Mem.head _ | (refine' List.Mem.tail _ ?_; (first | assumption | exact List.Mem.head _ | (refine' List.Mem.tail _ ?_; (first | assumption | exact List.Mem.head _ | (refine' List.Mem.tail _ ?_; (first | assumption | exact List.Mem.head _))))))))))))))))); (case m2u => ktr_units))))
  k_with "m3" => ((k_here; (with_reducible show wpAny _ _ (compareOp CmpOp.NotEq (Value.ref _) (Value.ref _)) _ _ _); k_dflt (refine' ne_tup3 ?m3N ?m3m1 ?m3m2 ?m3u ?_; (case m3N => k_asm); (case m3m1 => first | assumption | exact List.Mem.head _ | (refine' List.Mem.tail _ ?_; (first | assumption | exact List.Mem.head _ | (refine' List.Mem.tail _ ?_; (first | assumption | exact List.Mem.head _ | (refine' List.Mem.tail _ ?_; (first | assumption | exact List.Mem.head _ | (refine' List.Mem.tail _ ?_; (first | assumption | exact List.Mem.head _ | (refine' List.Mem.tail _ ?_; (first | assumption | exact List.Mem.head _ | (refine' List.Mem.tail _ ?_; (first | assumption | exact List.Mem.head _ | (refine' List.Mem.tail _ ?_; (first | assumption | exact List.Mem.head _ | (refine' List.Mem.tail _ ?_; (first | assumption | exact List.Mem.head _))))))))))))))))); (case m3m2 => first | assumption | exact List.Mem.head _ | (refine' List.Mem.tail _ ?_; (first | assumption | exact List.Mem.head _ | (refine' List.Mem.tail _ ?_; (first | assumption | exact List.Mem.head _ | (refine' List.Mem.tail _ ?_; (first | assumption | exact List.Mem.head _ | (refine' List.Mem.tail _ ?_; (first | assumption | exact List.Mem.head _ | (refine' List.Mem.tail _ ?_; (first | assumption | exact List.Mem.head _ | (refine' List.Mem.tail _ ?_; (first | assumption | exact List.Mem.head _ | (refine' List.Mem.tail _ ?_; (first | assumption | exact List.Mem.head _ | (refine' List.Mem.tail _ ?_; (first | assumption | exact List.Mem.head _))))))))))))))))); (case m3u => ktr_units))))
  k_with "m4" => ((k_here; (with_reducible show wpAny _ _ (subscriptTail _ (PySem.Expr.Slice _ _ none _) (Value.ref _) (Value.ref _)) _ _ _); k_dflt (refine' tslice ?m4F ?m4N ?m4T ?_ ?m4s ?m4t ?m4z; (case m4F => k_asm); (case m4N => k_asm); (case m4T => k_mem); (case m4s => with_unfolding_all rfl); (case m4t => (intro _; with_unfolding_all rfl)); (case m4z => exact Nat.le_of_ble_eq_true rfl); intro D' h' F' N' l1'; (try k_sweep))))
  k_with "m29" => ((k_here; (with_reducible show wpAny _ _ (PySem.call (Value.ref 217) [Value.int _ _]) _ _ _); k_dflt (refine' use (c_law_not _ _ _  ?m29p0 ?m29p1) ?m29k1 ?m29k2 ?m29k3 ?m29k4 ?m29k5 ?m29k6 ?m29k7 ?m29k8 ?_; (case m29k1 => k_asm); (case m29k2 => k_asm); (case m29k3 => k_asm); (case m29k4 => k_asm); (case m29k5 => k_asm); (case m29k6 => first | exact rfl | assumption); (case m29k7 => ktr_room); (case m29k8 => ktr_units); (case m29p0 => first | assumption | omega | decide | exact (lNot_r _).1 | exact (lNot_r _).2 | exact (lAnd_r _ _).1 | exact (lAnd_r _ _).2 | exact (lXor_r _ _).1 | exact (lXor_r _ _).2 | exact (lOr_r _ _).1 | exact (lOr_r _ _).2 | exact And.left ((by assumption : ∀ b ∈ _, (0:Int) ≤ b ∧ b ≤ 3) _ (by assumption)) | exact And.right ((by assumption : ∀ b ∈ _, (0:Int) ≤ b ∧ b ≤ 3) _ (by assumption))); (case m29p1 => first | assumption | omega | decide | exact (lNot_r _).1 | exact (lNot_r _).2 | exact (lAnd_r _ _).1 | exact (lAnd_r _ _).2 | exact (lXor_r _ _).1 | exact (lXor_r _ _).2 | exact (lOr_r _ _).1 | exact (lOr_r _ _).2 | exact And.left ((by assumption : ∀ b ∈ _, (0:Int) ≤ b ∧ b ≤ 3) _ (by assumption)) | exact And.right ((by assumption : ∀ b ∈ _, (0:Int) ≤ b ∧ b ≤ 3) _ (by assumption))); intro t' h' tk' F' N'; (try dsimp only); (try k_sweep))))
  k_with "m30" => ((k_here; (with_reducible show wpAny _ _ (PySem.call (Value.ref 224) [Value.int _ _, Value.int _ _]) _ _ _); k_dflt (refine' use (c_law_and _ _ _ _ _ ) ?m30k1 ?m30k2 ?m30k3 ?m30k4 ?m30k5 ?m30k6 ?m30k7 ?m30k8 ?_; (case m30k1 => k_asm); (case m30k2 => k_asm); (case m30k3 => k_asm); (case m30k4 => k_asm); (case m30k5 => k_asm); (case m30k6 => first | exact rfl | assumption); (case m30k7 => ktr_room); (case m30k8 => ktr_units); intro t' h' tk' F' N'; (try dsimp only); (try k_sweep))))
  k_with "m31" => ((k_here; (with_reducible show wpAny _ _ (PySem.call (Value.ref 231) [Value.int _ _, Value.int _ _]) _ _ _); k_dflt (refine' use (c_law_or _ _ _ _ _  ?m31p0 ?m31p1 ?m31p2 ?m31p3) ?m31k1 ?m31k2 ?m31k3 ?m31k4 ?m31k5 ?m31k6 ?m31k7 ?m31k8 ?_; (case m31k1 => k_asm); (case m31k2 => k_asm); (case m31k3 => k_asm); (case m31k4 => k_asm); (case m31k5 => k_asm); (case m31k6 => first | exact rfl | assumption); (case m31k7 => ktr_room); (case m31k8 => ktr_units); (case m31p0 => first | assumption | omega | decide | exact (lNot_r _).1 | exact (lNot_r _).2 | exact (lAnd_r _ _).1 | exact (lAnd_r _ _).2 | exact (lXor_r _ _).1 | exact (lXor_r _ _).2 | exact (lOr_r _ _).1 | exact (lOr_r _ _).2 | exact And.left ((by assumption : ∀ b ∈ _, (0:Int) ≤ b ∧ b ≤ 3) _ (by assumption)) | exact And.right ((by assumption : ∀ b ∈ _, (0:Int) ≤ b ∧ b ≤ 3) _ (by assumption))); (case m31p1 => first | assumption | omega | decide | exact (lNot_r _).1 | exact (lNot_r _).2 | exact (lAnd_r _ _).1 | exact (lAnd_r _ _).2 | exact (lXor_r _ _).1 | exact (lXor_r _ _).2 | exact (lOr_r _ _).1 | exact (lOr_r _ _).2 | exact And.left ((by assumption : ∀ b ∈ _, (0:Int) ≤ b ∧ b ≤ 3) _ (by assumption)) | exact And.right ((by assumption : ∀ b ∈ _, (0:Int) ≤ b ∧ b ≤ 3) _ (by assumption))); (case m31p2 => first | assumption | omega | decide | exact (lNot_r _).1 | exact (lNot_r _).2 | exact (lAnd_r _ _).1 | exact (lAnd_r _ _).2 | exact (lXor_r _ _).1 | exact (lXor_r _ _).2 | exact (lOr_r _ _).1 | exact (lOr_r _ _).2 | exact And.left ((by assumption : ∀ b ∈ _, (0:Int) ≤ b ∧ b ≤ 3) _ (by assumption)) | exact And.right ((by assumption : ∀ b ∈ _, (0:Int) ≤ b ∧ b ≤ 3) _ (by assumption))); (case m31p3 => first | assumption | omega | decide | exact (lNot_r _).1 | exact (lNot_r _).2 | exact (lAnd_r _ _).1 | exact (lAnd_r _ _).2 | exact (lXor_r _ _).1 | exact (lXor_r _ _).2 | exact (lOr_r _ _).1 | exact (lOr_r _ _).2 | exact And.left ((by assumption : ∀ b ∈ _, (0:Int) ≤ b ∧ b ≤ 3) _ (by assumption)) | exact And.right ((by assumption : ∀ b ∈ _, (0:Int) ≤ b ∧ b ≤ 3) _ (by assumption))); intro t' h' tk' F' N'; (try dsimp only); (try k_sweep))))
  k_with "m32" => ((k_here; (with_reducible show wpAny _ _ (PySem.call (Value.ref 238) [Value.int _ _, Value.int _ _]) _ _ _); k_dflt (refine' use (c_law_xor _ _ _ _ _ ) ?m32k1 ?m32k2 ?m32k3 ?m32k4 ?m32k5 ?m32k6 ?m32k7 ?m32k8 ?_; (case m32k1 => k_asm); (case m32k2 => k_asm); (case m32k3 => k_asm); (case m32k4 => k_asm); (case m32k5 => k_asm); (case m32k6 => first | exact rfl | assumption); (case m32k7 => ktr_room); (case m32k8 => ktr_units); intro t' h' tk' F' N'; (try dsimp only); (try k_sweep))))
  k_with "m33" => ((k_here; kst_src; (rename Fr _ _ _ _ => lF'); (with_unfolding_all refine' For_invVF lF' ?m33k1 ?m33k2 ?_; (case m33k1 => exact rfl); (case m33k2 => exact rfl); k_whole)))
  k_with "m34" => ((k_here; kst_src; (rename Fr _ _ _ _ => lF'); (with_unfolding_all refine' For_invVF lF' ?m34k1 ?m34k2 ?_; (case m34k1 => exact rfl); (case m34k2 => exact rfl); k_whole)))
  k_with "m35" => ((k_here; (with_reducible show wpAny _ _ (PySem.call (Value.ref 245) [Value.ref 224, Value.ref _]) _ _ _); k_dflt (refine' use (c_law_over_and _ _ _ _ _ ?m35hP ?m35hI ?m35hn ?m35hn1 ?m35hb) ?m35k1 ?m35k2 ?m35k3 ?m35k4 ?m35k5 ?m35k6 ?m35k7 ?m35k8 ?_; (case m35k1 => k_asm); (case m35k2 => k_asm); (case m35k3 => k_asm); (case m35k4 => k_asm); (case m35k5 => k_asm); (case m35k6 => first | exact rfl | assumption); (case m35k7 => ktr_room); (case m35k8 => ktr_units); (case m35hP => first | assumption | exact List.Mem.head _ | (refine' List.Mem.tail _ ?_; (first | assumption | exact List.Mem.head _ | (refine' List.Mem.tail _ ?_; (first | assumption | exact List.Mem.head _ | (refine' List.Mem.tail _ ?_; (first | assumption | exact List.Mem.head _ | (refine' List.Mem.tail _ ?_; (first | assumption | exact List.Mem.head _ | (refine' List.Mem.tail _ ?_; (first | assumption | exact List.Mem.head _ | (refine' List.Mem.tail _ ?_; (first | assumption | exact List.Mem.head _ | (refine' List.Mem.tail _ ?_; (first | assumption | exact List.Mem.head _ | (refine' List.Mem.tail _ ?_; (first | assumption | exact List.Mem.head _))))))))))))))))); (case m35hI => first | assumption | exact IntsAre.cons _ _ IntsAre.nil); (case m35hn => first | assumption | (simp; done) | omega); (case m35hn1 => first | assumption | (simp; done) | omega); (case m35hb => first | assumption | omega); intro t' h' tk' F' N'; (try dsimp only); (try k_sweep))))
  k_with "state" => first | exact ⟨rfl, getD_r (by assumption) _⟩ | exact ⟨rfl, by decide, by decide⟩ | exact over_turn lOr_r (by assumption)
  k_with "pyIter ref" => (k_state_given ["figure!"] (fun f0 pre figure => figure = pre.foldl lOr f0 ∧ 0 ≤ figure ∧ figure ≤ 3) "figure")
  have hb' : ∀ b ∈ ns.drop 1, 0 ≤ b ∧ b ≤ 3 := fun b h => hb b (List.mem_of_mem_drop h)
  refine wpAny_call ?_
  k_dflt cell_enter
  k_steps
  all_goals (refine cb_retI hret ?_ (by k_asm) (cb_drop (by k_asm) (by kcj_all)))
  all_goals first | exact over_end1 (by assumption) (by assumption) | exact over_end2 (by assumption) (by assumption)
theorem c_law_over_or {w : World} {mean : ExcName → Option Value} {mg mb : Str → Option Value} (P : Addr) (vs : List Value) (ns : List Int) (c : Nat) (news : Led) (hP : (P, listOf vs.toArray c) ∈ news) (hI : IntsAre vs ns) (hn : ns.length ≤ 20) (hn1 : 1 ≤ ns.length) (hb : ∀ b ∈ ns, 0 ≤ b ∧ b ≤ 3) :
   Cl w mean mg mb 2 245 [.ref 231, .ref P] (PreN news) (RetInt news (lOver lOr ns)) := dupI hP (c_law_over_or0 P vs ns c news hI hn hn1 hb)
local macro_rules | `(tactic| walk_at "call ref") => `(tactic| k_extra "m36")
theorem word36 : True := by
  k_with "m36" => ((k_here; (with_reducible show wpAny _ _ (PySem.call (Value.ref 245) [Value.ref 231, Value.ref _]) _ _ _); k_dflt (refine' use (c_law_over_or _ _ _ _ _ ?m36hP ?m36hI ?m36hn ?m36hn1 ?m36hb) ?m36k1 ?m36k2 ?m36k3 ?m36k4 ?m36k5 ?m36k6 ?m36k7 ?m36k8 ?_; (case m36k1 => k_asm); (case m36k2 => k_asm); (case m36k3 => k_asm); (case m36k4 => k_asm); (case m36k5 => k_asm); (case m36k6 => first | exact rfl | assumption); (case m36k7 => ktr_room); (case m36k8 => ktr_units); (case m36hP => first | assumption | exact List.Mem.head _ | (refine' List.Mem.tail _ ?_; (first | assumption | exact List.Mem.head _ | (refine' List.Mem.tail _ ?_; (first | assumption | exact List.Mem.head _ | (refine' List.Mem.tail _ ?_; (first | assumption | exact List.Mem.head _ | (refine' List.Mem.tail _ ?_; (first | assumption | exact List.Mem.head _ | (refine' List.Mem.tail _ ?_; (first | assumption | exact List.Mem.head _ | (refine' List.Mem.tail _ ?_; (first | assumption | exact List.Mem.head _ | (refine' List.Mem.tail _ ?_; (first | assumption | exact List.Mem.head _ | (refine' List.Mem.tail _ ?_; (first | assumption | exact List.Mem.head _))))))))))))))))); (case m36hI => first | assumption | exact IntsAre.cons _ _ IntsAre.nil); (case m36hn => first | assumption | (simp; done) | omega); (case m36hn1 => first | assumption | (simp; done) | omega); (case m36hb => first | assumption | omega); intro t' h' tk' F' N'; (try dsimp only); (try k_sweep))))
  exact trivial
theorem c_law_over_xor0 {w : World} {mean : ExcName → Option Value} {mg mb : Str → Option Value} (P : Addr) (vs : List Value) (ns : List Int) (c : Nat) (rest : Led) (hI : IntsAre vs ns) (hn : ns.length ≤ 20) (hn1 : 1 ≤ ns.length) (hb : ∀ b ∈ ns, 0 ≤ b ∧ b ≤ 3) :
   Cl w mean mg mb 2 245 [.ref 238, .ref P] (PreN ((P, listOf vs.toArray c) :: rest)) (RetInt ((P, listOf vs.toArray c) :: rest) (lOver lXor ns)) := by
  unfold Cl; k_fill
  intro dp un gd cn cs a ccd cl outer A₀ base h₀ L m s Q E B F X N T hk hd' hu' hret
  k_with_none
  k_with "m1" => ((k_here; (with_reducible show wpAny _ _ (PySem.call (Value.ref 21) [Value.int _ _]) _ _ _); k_dflt (refine' use (c_mask _ _ _ ?m1h0 ?m1h1) ?m1k1 ?m1k2 ?m1k3 ?m1k4 ?m1k5 ?m1k6 ?m1k7 ?m1k8 ?_; (case m1h0 => first | assumption | omega); (case m1h1 => first | assumption | omega); (case m1k1 => k_asm); (case m1k2 => k_asm); (case m1k3 => k_asm); (case m1k4 => k_asm); (case m1k5 => k_asm); (case m1k6 => first | exact rfl | assumption); (case m1k7 => ktr_room); (case m1k8 => ktr_units); intro t' h' tk' F' N'; (try dsimp only); (try k_sweep))))
  k_with "m2" => ((k_here; (with_reducible show wpAny _ _ (compareOp CmpOp.Eq (Value.ref _) (Value.ref _)) _ _ _); k_dflt (refine' eq_tup3 ?m2N ?m2m1 ?m2m2 ?m2u ?_; (case m2N => k_asm); (case m2m1 => first | assumption | exact List.Mem.head _ | (refine' List.Mem.tail _ ?_; (first | assumption | exact List.Mem.head _ | (refine' List.Mem.tail _ ?_; (first | assumption | exact List.Mem.head _ | (refine' List.Mem.tail _ ?_; (first | assumption | exact List.Mem.head _ | (refine' List.Mem.tail _ ?_; (first | assumption | exact List.Mem.head _ | (refine' List.Mem.tail _ ?_; (first | assumption | exact List.Mem.head _ | (refine' List.Mem.tail _ ?_; (first | assumption | exact List.Mem.head _ | (refine' List.Mem.tail _ ?_; (first | assumption | exact List.Mem.head _ | (refine' List.Mem.tail _ ?_; (first | assumption | exact List.Mem.head _))))))))))))))))); (case m2m2 => first | assumption | exact List.Mem.head _ | (refine' List.Mem.tail _ ?_; (first | assumption | exact List.Mem.head _ | (refine' List.Mem.tail _ ?_; (first | assumption | exact List.Mem.head _ | (refine' List.Mem.tail _ ?_; (first | assumption | exact List.Mem.head _ | (refine' List.Mem.tail _ ?_; (first | assumption | exact List.Mem.head _ | (refine' List.Mem.tail _ ?_; (first | assumption | exact List.Mem.head _ | (refine' List.Mem.tail _ ?_; (first | assumption | exact List.Mem.head _ | (refine' List.Mem.tail _ ?_; (first | assumption | exact List.Mem.head _ | (refine' List.Mem.tail _ ?_; (first | assumption | exact List.Mem.head _))))))))))))))))); (case m2u => ktr_units))))
  k_with "m3" => ((k_here; (with_reducible show wpAny _ _ (compareOp CmpOp.NotEq (Value.ref _) (Value.ref _)) _ _ _); k_dflt (refine' ne_tup3 ?m3N ?m3m1 ?m3m2 ?m3u ?_; (case m3N => k_asm); (case m3m1 => first | assumption | exact List.Mem.head _ | (refine' List.Mem.tail _ ?_; (first | assumption | exact List.Mem.head _ | (refine' List.Mem.tail _ ?_; (first | assumption | exact List.Mem.head _ | (refine' List.Mem.tail _ ?_; (first | assumption | exact List.Mem.head _ | (refine' List.Mem.tail _ ?_; (first | assumption | exact List.Mem.head _ | (refine' List.Mem.tail _ ?_; (first | assumption | exact List.Mem.head _ | (refine' List.Mem.tail _ ?_; (first | assumption | exact List.Mem.head _ | (refine' List.Mem.tail _ ?_; (first | assumption | exact List.Mem.head _ | (refine' List.Mem.tail _ ?_; (first | assumption | exact List.Mem.head _))))))))))))))))); (case m3m2 => first | assumption | exact List.Mem.head _ | (refine' List.Mem.tail _ ?_; (first | assumption | exact List.Mem.head _ | (refine' List.Mem.tail _ ?_; (first | assumption | exact List.Mem.head _ | (refine' List.Mem.tail _ ?_; (first | assumption | exact List.Mem.head _ | (refine' List.Mem.tail _ ?_; (first | assumption | exact List.Mem.head _ | (refine' List.Mem.tail _ ?_; (first | assumption | exact List.Mem.head _ | (refine' List.Mem.tail _ ?_; (first | assumption | exact List.Mem.head _ | (refine' List.Mem.tail _ ?_; (first | assumption | exact List.Mem.head _ | (refine' List.Mem.tail _ ?_; (first | assumption | exact List.Mem.head _))))))))))))))))); (case m3u => ktr_units))))
  k_with "m4" => ((k_here; (with_reducible show wpAny _ _ (subscriptTail _ (PySem.Expr.Slice _ _ none _) (Value.ref _) (Value.ref _)) _ _ _); k_dflt (refine' tslice ?m4F ?m4N ?m4T ?_ ?m4s ?m4t ?m4z; (case m4F => k_asm); (case m4N => k_asm); (case m4T => k_mem); (case m4s => with_unfolding_all rfl); (case m4t => (intro _; with_unfolding_all rfl)); (case m4z => exact Nat.le_of_ble_eq_true rfl); intro D' h' F' N' l1'; (try k_sweep))))
  k_with "m29" => ((k_here; (with_reducible show wpAny _ _ (PySem.call (Value.ref 217) [Value.int _ _]) _ _ _); k_dflt (refine' use (c_law_not _ _ _  ?m29p0 ?m29p1) ?m29k1 ?m29k2 ?m29k3 ?m29k4 ?m29k5 ?m29k6 ?m29k7 ?m29k8 ?_; (case m29k1 => k_asm); (case m29k2 => k_asm); (case m29k3 => k_asm); (case m29k4 => k_asm); (case m29k5 => k_asm); (case m29k6 => first | exact rfl | assumption); (case m29k7 => ktr_room); (case m29k8 => ktr_units); (case m29p0 => first | assumption | omega | decide | exact (lNot_r _).1 | exact (lNot_r _).2 | exact (lAnd_r _ _).1 | exact (lAnd_r _ _).2 | exact (lXor_r _ _).1 | exact (lXor_r _ _).2 | exact (lOr_r _ _).1 | exact (lOr_r _ _).2 | exact And.left ((by assumption : ∀ b ∈ _, (0:Int) ≤ b ∧ b ≤ 3) _ (by assumption)) | exact And.right ((by assumption : ∀ b ∈ _, (0:Int) ≤ b ∧ b ≤ 3) _ (by assumption))); (case m29p1 => first | assumption | omega | decide | exact (lNot_r _).1 | exact (lNot_r _).2 | exact (lAnd_r _ _).1 | exact (lAnd_r _ _).2 | exact (lXor_r _ _).1 | exact (lXor_r _ _).2 | exact (lOr_r _ _).1 | exact (lOr_r _ _).2 | exact And.left ((by assumption : ∀ b ∈ _, (0:Int) ≤ b ∧ b ≤ 3) _ (by assumption)) | exact And.right ((by assumption : ∀ b ∈ _, (0:Int) ≤ b ∧ b ≤ 3) _ (by assumption))); intro t' h' tk' F' N'; (try dsimp only); (try k_sweep))))
  k_with "m30" => ((k_here; (with_reducible show wpAny _ _ (PySem.call (Value.ref 224) [Value.int _ _, Value.int _ _]) _ _ _); k_dflt (refine' use (c_law_and _ _ _ _ _ ) ?m30k1 ?m30k2 ?m30k3 ?m30k4 ?m30k5 ?m30k6 ?m30k7 ?m30k8 ?_; (case m30k1 => k_asm); (case m30k2 => k_asm); (case m30k3 => k_asm); (case m30k4 => k_asm); (case m30k5 => k_asm); (case m30k6 => first | exact rfl | assumption); (case m30k7 => ktr_room); (case m30k8 => ktr_units); intro t' h' tk' F' N'; (try dsimp only); (try k_sweep))))
  k_with "m31" => ((k_here; (with_reducible show wpAny _ _ (PySem.call (Value.ref 231) [Value.int _ _, Value.int _ _]) _ _ _); k_dflt (refine' use (c_law_or _ _ _ _ _  ?m31p0 ?m31p1 ?m31p2 ?m31p3) ?m31k1 ?m31k2 ?m31k3 ?m31k4 ?m31k5 ?m31k6 ?m31k7 ?m31k8 ?_; (case m31k1 => k_asm); (case m31k2 => k_asm); (case m31k3 => k_asm); (case m31k4 => k_asm); (case m31k5 => k_asm); (case m31k6 => first | exact rfl | assumption); (case m31k7 => ktr_room); (case m31k8 => ktr_units); (case m31p0 => first | assumption | omega | decide | exact (lNot_r _).1 | exact (lNot_r _).2 | exact (lAnd_r _ _).1 | exact (lAnd_r _ _).2 | exact (lXor_r _ _).1 | exact (lXor_r _ _).2 | exact (lOr_r _ _).1 | exact (lOr_r _ _).2 | exact And.left ((by assumption : ∀ b ∈ _, (0:Int) ≤ b ∧ b ≤ 3) _ (by assumption)) | exact And.right ((by assumption : ∀ b ∈ _, (0:Int) ≤ b ∧ b ≤ 3) _ (by assumption))); (case m31p1 => first | assumption | omega | decide | exact (lNot_r _).1 | exact (lNot_r _).2 | exact (lAnd_r _ _).1 | exact (lAnd_r _ _).2 | exact (lXor_r _ _).1 | exact (lXor_r _ _).2 | exact (lOr_r _ _).1 | exact (lOr_r _ _).2 | exact And.left ((by assumption : ∀ b ∈ _, (0:Int) ≤ b ∧ b ≤ 3) _ (by assumption)) | exact And.right ((by assumption : ∀ b ∈ _, (0:Int) ≤ b ∧ b ≤ 3) _ (by assumption))); (case m31p2 => first | assumption | omega | decide | exact (lNot_r _).1 | exact (lNot_r _).2 | exact (lAnd_r _ _).1 | exact (lAnd_r _ _).2 | exact (lXor_r _ _).1 | exact (lXor_r _ _).2 | exact (lOr_r _ _).1 | exact (lOr_r _ _).2 | exact And.left ((by assumption : ∀ b ∈ _, (0:Int) ≤ b ∧ b ≤ 3) _ (by assumption)) | exact And.right ((by assumption : ∀ b ∈ _, (0:Int) ≤ b ∧ b ≤ 3) _ (by assumption))); (case m31p3 => first | assumption | omega | decide | exact (lNot_r _).1 | exact (lNot_r _).2 | exact (lAnd_r _ _).1 | exact (lAnd_r _ _).2 | exact (lXor_r _ _).1 | exact (lXor_r _ _).2 | exact (lOr_r _ _).1 | exact (lOr_r _ _).2 | exact And.left ((by assumption : ∀ b ∈ _, (0:Int) ≤ b ∧ b ≤ 3) _ (by assumption)) | exact And.right ((by assumption : ∀ b ∈ _, (0:Int) ≤ b ∧ b ≤ 3) _ (by assumption))); intro t' h' tk' F' N'; (try dsimp only); (try k_sweep))))
  k_with "m32" => ((k_here; (with_reducible show wpAny _ _ (PySem.call (Value.ref 238) [Value.int _ _, Value.int _ _]) _ _ _); k_dflt (refine' use (c_law_xor _ _ _ _ _ ) ?m32k1 ?m32k2 ?m32k3 ?m32k4 ?m32k5 ?m32k6 ?m32k7 ?m32k8 ?_; (case m32k1 => k_asm); (case m32k2 => k_asm); (case m32k3 => k_asm); (case m32k4 => k_asm); (case m32k5 => k_asm); (case m32k6 => first | exact rfl | assumption); (case m32k7 => ktr_room); (case m32k8 => ktr_units); intro t' h' tk' F' N'; (try dsimp only); (try k_sweep))))
  k_with "m33" => ((k_here; kst_src; (rename Fr _ _ _ _ => lF'); (with_unfolding_all refine' For_invVF lF' ?m33k1 ?m33k2 ?_; (case m33k1 => exact rfl); (case m33k2 => exact rfl); k_whole)))
  k_with "m34" => ((k_here; kst_src; (rename Fr _ _ _ _ => lF'); (with_unfolding_all refine' For_invVF lF' ?m34k1 ?m34k2 ?_; (case m34k1 => exact rfl); (case m34k2 => exact rfl); k_whole)))
  k_with "m35" => ((k_here; (with_reducible show wpAny _ _ (PySem.call (Value.ref 245) [Value.ref 224, Value.ref _]) _ _ _); k_dflt (refine' use (c_law_over_and _ _ _ _ _ ?m35hP ?m35hI ?m35hn ?m35hn1 ?m35hb) ?m35k1 ?m35k2 ?m35k3 ?m35k4 ?m35k5 ?m35k6 ?m35k7 ?m35k8 ?_; (case m35k1 => k_asm); (case m35k2 => k_asm); (case m35k3 => k_asm); (case m35k4 => k_asm); (case m35k5 => k_asm); (case m35k6 => first | exact rfl | assumption); (case m35k7 => ktr_room); (case m35k8 => ktr_units); (case m35hP => first | assumption | exact List.Mem.head _ | (refine' List.Mem.tail _ ?_; (first | assumption | exact List.Mem.head _ | (refine' List.Mem.tail _ ?_; (first | assumption | exact List.Mem.head _ | (refine' List.Mem.tail _ ?_; (first | assumption | exact List.Mem.head _ | (refine' List.Mem.tail _ ?_; (first | assumption | exact List.Mem.head _ | (refine' List.Mem.tail _ ?_; (first | assumption | exact List.Mem.head _ | (refine' List.Mem.tail _ ?_; (first | assumption | exact List.Mem.head _ | (refine' List.Mem.tail _ ?_; (first | assumption | exact List.Mem.head _ | (refine' List.Mem.tail _ ?_; (first | assumption | exact List.Mem.head _))))))))))))))))); (case m35hI => first | assumption | exact IntsAre.cons _ _ IntsAre.nil); (case m35hn => first | assumption | (simp; done) | omega); (case m35hn1 => first | assumption | (simp; done) | omega); (case m35hb => first | assumption | omega); intro t' h' tk' F' N'; (try dsimp only); (try k_sweep))))
  k_with "m36" => ((k_here; (with_reducible show wpAny _ _ (PySem.call (Value.ref 245) [Value.ref 231, Value.ref _]) _ _ _); k_dflt (refine' use (c_law_over_or _ _ _ _ _ ?m36hP ?m36hI ?m36hn ?m36hn1 ?m36hb) ?m36k1 ?m36k2 ?m36k3 ?m36k4 ?m36k5 ?m36k6 ?m36k7 ?m36k8 ?_; (case m36k1 => k_asm); (case m36k2 => k_asm); (case m36k3 => k_asm); (case m36k4 => k_asm); (case m36k5 => k_asm); (case m36k6 => first | exact rfl | assumption); (case m36k7 => ktr_room); (case m36k8 => ktr_units); (case m36hP => first | assumption | exact List.Mem.head _ | (refine' List.Mem.tail _ ?_; (first | assumption | exact List.Mem.head _ | (refine' List.Mem.tail _ ?_; (first | assumption | exact List.Mem.head _ | (refine' List.Mem.tail _ ?_; (first | assumption | exact List.Mem.head _ | (refine' List.Mem.tail _ ?_; (first | assumption | exact List.Mem.head _ | (refine' List.Mem.tail _ ?_; (first | assumption | exact List.Mem.head _ | (refine' List.Mem.tail _ ?_; (first | assumption | exact List.Mem.head _ | (refine' List.Mem.tail _ ?_; (first | assumption | exact List.Mem.head _ | (refine' List.Mem.tail _ ?_; (first | assumption | exact List.Mem.head _))))))))))))))))); (case m36hI => first | assumption | exact IntsAre.cons _ _ IntsAre.nil); (case m36hn => first | assumption | (simp; done) | omega); (case m36hn1 => first | assumption | (simp; done) | omega); (case m36hb => first | assumption | omega); intro t' h' tk' F' N'; (try dsimp only); (try k_sweep))))
  k_with "state" => first | exact ⟨rfl, getD_r (by assumption) _⟩ | exact ⟨rfl, by decide, by decide⟩ | exact over_turn lXor_r (by assumption)
  k_with "pyIter ref" => (k_state_given ["figure!"] (fun f0 pre figure => figure = pre.foldl lXor f0 ∧ 0 ≤ figure ∧ figure ≤ 3) "figure")
  have hb' : ∀ b ∈ ns.drop 1, 0 ≤ b ∧ b ≤ 3 := fun b h => hb b (List.mem_of_mem_drop h)
  refine wpAny_call ?_
  k_dflt cell_enter
  k_steps
  all_goals (refine cb_retI hret ?_ (by k_asm) (cb_drop (by k_asm) (by kcj_all)))
  all_goals first | exact over_end1 (by assumption) (by assumption) | exact over_end2 (by assumption) (by assumption)
theorem c_law_over_xor {w : World} {mean : ExcName → Option Value} {mg mb : Str → Option Value} (P : Addr) (vs : List Value) (ns : List Int) (c : Nat) (news : Led) (hP : (P, listOf vs.toArray c) ∈ news) (hI : IntsAre vs ns) (hn : ns.length ≤ 20) (hn1 : 1 ≤ ns.length) (hb : ∀ b ∈ ns, 0 ≤ b ∧ b ≤ 3) :
   Cl w mean mg mb 2 245 [.ref 238, .ref P] (PreN news) (RetInt news (lOver lXor ns)) := dupI hP (c_law_over_xor0 P vs ns c news hI hn hn1 hb)
local macro_rules | `(tactic| walk_at "call ref") => `(tactic| k_extra "m37")
theorem word37 : True := by
  k_with "m37" => ((k_here; (with_reducible show wpAny _ _ (PySem.call (Value.ref 245) [Value.ref 238, Value.ref _]) _ _ _); k_dflt (refine' use (c_law_over_xor _ _ _ _ _ ?m37hP ?m37hI ?m37hn ?m37hn1 ?m37hb) ?m37k1 ?m37k2 ?m37k3 ?m37k4 ?m37k5 ?m37k6 ?m37k7 ?m37k8 ?_; (case m37k1 => k_asm); (case m37k2 => k_asm); (case m37k3 => k_asm); (case m37k4 => k_asm); (case m37k5 => k_asm); (case m37k6 => first | exact rfl | assumption); (case m37k7 => ktr_room); (case m37k8 => ktr_units); (case m37hP => first | assumption | exact List.Mem.head _ | (refine' List.Mem.tail _ ?_; (first | assumption | exact List.Mem.head _ | (refine' List.Mem.tail _ ?_; (first | assumption | exact List.Mem.head _ | (refine' List.Mem.tail _ ?_; (first | assumption | exact List.Mem.head _ | (refine' List.Mem.tail _ ?_; (first | assumption | exact List.Mem.head _ | (refine' List.Mem.tail _ ?_; (first | assumption | exact List.Mem.head _ | (refine' List.Mem.tail _ ?_; (first | assumption | exact List.Mem.head _ | (refine' List.Mem.tail _ ?_; (first | assumption | exact List.Mem.head _ | (refine' List.Mem.tail _ ?_; (first | assumption | exact List.Mem.head _))))))))))))))))); (case m37hI => first | assumption | exact IntsAre.cons _ _ IntsAre.nil); (case m37hn => first | assumption | (simp; done) | omega); (case m37hn1 => first | assumption | (simp; done) | omega); (case m37hb => first | assumption | omega); intro t' h' tk' F' N'; (try dsimp only); (try k_sweep))))
  exact trivial
theorem c_law_truth {w : World} {mean : ExcName → Option Value} {mg mb : Str → Option Value} (P : Addr) (vs : List Value) (ns : List Int) (c : Nat) (news : Led) (hP : (P, listOf vs.toArray c) ∈ news) (hI : IntsAre vs ns) (hn : ns.length ≤ 20) (hn1 : 1 ≤ ns.length) (hb : ∀ b ∈ ns, 0 ≤ b ∧ b ≤ 3) :
   Cl w mean mg mb 3 252 [.ref P] (PreN news) (RetInt news (lOver lOr ns)) := by
  unfold Cl; k_fill
  intro dp un gd cn cs a ccd cl outer A₀ base h₀ L m s Q E B F X N T hk hd' hu' hret
  refine wpAny_call ?_
  k_dflt cell_enter
  k_steps
  all_goals exact hret _ _ _ (by k_asm) (cb_drop (by k_asm) (by kcj_all))
end
section
theorem fresh16 : True := by
  w_top off
  k_with_none
  k_with "m1" => ((k_here; (with_reducible show wpAny _ _ (PySem.call (Value.ref 21) [Value.int _ _]) _ _ _); k_dflt (refine' use (c_mask _ _ _ ?m1h0 ?m1h1) ?m1k1 ?m1k2 ?m1k3 ?m1k4 ?m1k5 ?m1k6 ?m1k7 ?m1k8 ?_; (case m1h0 => first | assumption | omega); (case m1h1 => first | assumption | omega); (case m1k1 => k_asm); (case m1k2 => k_asm); (case m1k3 => k_asm); (case m1k4 => k_asm); (case m1k5 => k_asm); (case m1k6 => first | exact rfl | assumption); (case m1k7 => ktr_room); (case m1k8 => ktr_units); intro t' h' tk' F' N'; (try dsimp only); (try k_sweep))))
  k_with "m2" => ((k_here; (with_reducible show wpAny _ _ (compareOp CmpOp.Eq (Value.ref _) (Value.ref _)) _ _ _); k_dflt (refine' eq_tup3 ?m2N ?m2m1 ?m2m2 ?m2u ?_; (case m2N => k_asm); (case m2m1 => first | assumption | exact List.Mem.head _ | (refine' List.Mem.tail _ ?_; (first | assumption | exact List.Mem.head _ | (refine' List.Mem.tail _ ?_; (first | assumption | exact List.Mem.head _ | (refine' List.Mem.tail _ ?_; (first | assumption | exact List.Mem.head _ | (refine' List.Mem.tail _ ?_; (first | assumption | exact List.Mem.head _ | (refine' List.Mem.tail _ ?_; (first | assumption | exact List.Mem.head _ | (refine' List.Mem.tail _ ?_; (first | assumption | exact List.Mem.head _ | (refine' List.Mem.tail _ ?_; (first | assumption | exact List.Mem.head _ | (refine' List.Mem.tail _ ?_; (first | assumption | exact List.Mem.head _))))))))))))))))); (case m2m2 => first | assumption | exact List.Mem.head _ | (refine' List.Mem.tail _ ?_; (first | assumption | exact List.Mem.head _ | (refine' List.Mem.tail _ ?_; (first | assumption | exact List.Mem.head _ | (refine' List.Mem.tail _ ?_; (first | assumption | exact List.Mem.head _ | (refine' List.Mem.tail _ ?_; (first | assumption | exact List.Mem.head _ | (refine' List.Mem.tail _ ?_; (first | assumption | exact List.Mem.head _ | (refine' List.Mem.tail _ ?_; (first | assumption | exact List.Mem.head _ | (refine' List.Mem.tail _ ?_; (first | assumption | exact List.Mem.head _ | (refine' List.Mem.tail _ ?_; (first | assumption | exact List.Mem.head _))))))))))))))))); (case m2u => ktr_units))))
  k_with "m3" => ((k_here; (with_reducible show wpAny _ _ (compareOp CmpOp.NotEq (Value.ref _) (Value.ref _)) _ _ _); k_dflt (refine' ne_tup3 ?m3N ?m3m1 ?m3m2 ?m3u ?_; (case m3N => k_asm); (case m3m1 => first | assumption | exact List.Mem.head _ | (refine' List.Mem.tail _ ?_; (first | assumption | exact List.Mem.head _ | (refine' List.Mem.tail _ ?_; (first | assumption | exact List.Mem.head _ | (refine' List.Mem.tail _ ?_; (first | assumption | exact List.Mem.head _ | (refine' List.Mem.tail _ ?_; (first | assumption | exact List.Mem.head _ | (refine' List.Mem.tail _ ?_; (first | assumption | exact List.Mem.head _ | (refine' List.Mem.tail _ ?_; (first | assumption | exact List.Mem.head _ | (refine' List.Mem.tail _ ?_; (first | assumption | exact List.Mem.head _ | (refine' List.Mem.tail _ ?_; (first | assumption | exact List.Mem.head _))))))))))))))))); (case m3m2 => first | assumption | exact List.Mem.head _ | (refine' List.Mem.tail _ ?_; (first | assumption | exact List.Mem.head _ | (refine' List.Mem.tail _ ?_; (first | assumption | exact List.Mem.head _ | (refine' List.Mem.tail _ ?_; (first | assumption | exact List.Mem.head _ | (refine' List.Mem.tail _ ?_; (first | assumption | exact List.Mem.head _ | (refine' List.Mem.tail _ ?_; (first | assumption | exact List.Mem.head _ | (refine' List.Mem.tail _ ?_; (first | assumption | exact List.Mem.head _ | (refine' List.Mem.tail _ ?_; (first | assumption | exact List.Mem.head _ | (refine' List.Mem.tail _ ?_; (first | assumption | exact List.Mem.head _))))))))))))))))); (case m3u => ktr_units))))
  k_with "m4" => ((k_here; (with_reducible show wpAny _ _ (subscriptTail _ (PySem.Expr.Slice _ _ none _) (Value.ref _) (Value.ref _)) _ _ _); k_dflt (refine' tslice ?m4F ?m4N ?m4T ?_ ?m4s ?m4t ?m4z; (case m4F => k_asm); (case m4N => k_asm); (case m4T => k_mem); (case m4s => with_unfolding_all rfl); (case m4t => (intro _; with_unfolding_all rfl)); (case m4z => exact Nat.le_of_ble_eq_true rfl); intro D' h' F' N' l1'; (try k_sweep))))
  (try walk1)
  exact trivial
theorem pop_ne {vs : List Value} {ns : List Int} (h : decide (ns = []) = false) (hI : IntsAre vs ns) : 0 < vs.length := by
  have h1 := hI.length
  have h2 := of_decide_eq_false h
  have h3 := List.length_pos_iff.mpr h2
  omega
theorem pop_room {vs : List Value} {ns : List Int} (hI : IntsAre vs ns) (h : ns.length ≤ 1000000) : vs.length ≤ sizeLine := by
  have h1 := hI.length
  rw [PySem.sizeLine_eq]
  omega
local macro_rules | `(tactic| walk_at "call builtin:list.pop") => `(tactic| k_extra "m38")
theorem word38 : True := by
  k_with "m38" => ((k_here; (with_reducible show wpAny _ _ (call (Value.builtin _) [Value.ref _]) _ _ _); k_dflt (refine' kpa_pop ?m38F ?m38N ?m38U ?m38i ?m38l ?m38z ?_; (case m38F => k_asm); (case m38N => k_asm); (case m38U => k_upd); (case m38i => assumption); (case m38l => exact pop_ne (by assumption) (by assumption)); (case m38z => exact pop_room (by assumption) (by assumption))); (intro h' t' F' N' hI')))
  exact trivial
abbrev RetNext (R : Addr) (rest : Led) (ns : List Int) (h₀ : Heap) (L : Addr) (m : Str → Option Value) (s : Shared) (Q : Value → Shared → Prop) : Prop :=
  ∀ (x : Int) (t : Tok) (vs' : List Value) (ns' : List Int) (c' : Nat) (h' : Heap) (tk' : Nat), IntsAre vs' ns' → ns'.length ≤ ns.length → Fr h₀ L h' m → News h₀ L h' ((R, listOf vs'.toArray c') :: rest) → Q (.int x t) { s with heap := h', toks := tk' }
theorem c_law_next0 {w : World} {mean : ExcName → Option Value} {mg mb : Str → Option Value} (R : Addr) (vs : List Value) (ns : List Int) (c : Nat) (rest : Led) (hI : IntsAre vs ns) (hn : ns.length ≤ 1000000) (hO : OwnOff rest [R]) :
   Cl w mean mg mb 2 196 [.ref R] (PreN ((R, listOf vs.toArray c) :: rest)) (RetNext R rest ns) := by
  unfold Cl; k_fill
  intro dp un gd cn cs a ccd cl outer A₀ base h₀ L m s Q E B F X N T hk hd' hu' hret
  have hM : KstMark := kstMark
  refine wpAny_call ?_
  k_dflt cell_enter
  k_steps
  all_goals exact hret _ _ _ _ _ _ _ (by assumption) (by first | exact Nat.le_refl _ | (simp; done)) (by k_asm) (cb_drop (by k_asm) (by kcj_all))
theorem ownOff_nil {R : Addr} : OwnOff [] [R] := fun _ hp => nomatch hp
theorem ownOff_cons {R : Addr} {e : Addr × Obj} {r : Led} (h1 : e.1 ≠ R) (h2 : OwnOff r [R]) : OwnOff (e :: r) [R] := fun p hp b hb => by
  rw [List.mem_singleton.mp hb]
  rcases List.mem_cons.mp hp with rfl | hp
  · exact h1
  · exact h2 p hp R (List.mem_singleton.mpr rfl)
theorem ownOff_app {R : Addr} {a r : Led} (h1 : OwnOff a [R]) (h2 : OwnOff r [R]) : OwnOff (a ++ r) [R] := fun p hp b hb => by
  rcases List.mem_append.mp hp with hp | hp
  · exact h1 p hp b hb
  · exact h2 p hp b hb
theorem ownOff_of {R : Addr} {a : Led} {adr : List Addr} (h : OwnOff a adr) (hm : R ∈ adr) : OwnOff a [R] := fun p hp b hb => by
  rw [List.mem_singleton.mp hb]
  exact h p hp R hm
abbrev RetNextP (pre : Led) (R : Addr) (post : Led) (ns : List Int) (h₀ : Heap) (L : Addr) (m : Str → Option Value) (s : Shared) (Q : Value → Shared → Prop) : Prop :=
  ∀ (x : Int) (t : Tok) (vs' : List Value) (ns' : List Int) (c' : Nat) (h' : Heap) (tk' : Nat), IntsAre vs' ns' → ns'.length ≤ ns.length → Fr h₀ L h' m → News h₀ L h' (pre ++ (R, listOf vs'.toArray c') :: post) → Q (.int x t) { s with heap := h', toks := tk' }
theorem mem_move {α : Type} {a : α} {pre post : List α} : ∀ p ∈ a :: (pre ++ post), p ∈ pre ++ a :: post := fun p hp => by
  rcases List.mem_cons.mp hp with rfl | hp
  · exact List.mem_append.mpr (.inr (.head _))
  · rcases List.mem_append.mp hp with hp | hp
    · exact List.mem_append.mpr (.inl hp)
    · exact List.mem_append.mpr (.inr (.tail _ hp))
theorem mem_back {α : Type} {a : α} {pre post : List α} : ∀ p ∈ pre ++ a :: post, p ∈ a :: (pre ++ post) := fun p hp => by
  rcases List.mem_append.mp hp with hp | hp
  · exact .tail _ (List.mem_append.mpr (.inl hp))
  · rcases List.mem_cons.mp hp with rfl | hp
    · exact .head _
    · exact .tail _ (List.mem_append.mpr (.inr hp))
theorem c_law_next {w : World} {mean : ExcName → Option Value} {mg mb : Str → Option Value} (pre : Led) (R : Addr) (vs : List Value) (ns : List Int) (c : Nat) (post : Led) (hI : IntsAre vs ns) (hn : ns.length ≤ 1000000) (hO : OwnOff (pre ++ post) [R]) :
   Cl w mean mg mb 2 196 [.ref R] (PreN (pre ++ (R, listOf vs.toArray c) :: post)) (RetNextP pre R post ns) := by
  intro dp un gd cn cs a ccd cl outer A₀ base h₀ L m s Q E B F X N T hk hd' hu' hret
  exact use (c_law_next0 R vs ns c (pre ++ post) hI hn hO) B F X (cb_drop N mem_move) T hk hd' hu' fun x t vs' ns' c' h' tk' h1 h2 F' N' => hret x t vs' ns' c' h' tk' h1 h2 F' (cb_drop N' mem_back)
theorem fresh17 : True := by
  w_top off
  (try walk1)
  exact trivial
local macro_rules | `(tactic| walk_at "call ref") => `(tactic| k_extra "m39")
theorem word39 : True := by
  k_with "m39" => ((k_here; (with_reducible show wpAny _ _ (PySem.call (Value.ref 196) [Value.ref _]) _ _ _); k_dflt (first | (refine' use (c_law_next [] _ _ _ _ _ ?m39hI ?m39hn ?m39hO) ?m39k1 ?m39k2 ?m39k3 ?m39k4 ?m39k5 ?m39k6 ?m39k7 ?m39k8 ?_; (case m39k1 => k_asm); (case m39k2 => k_asm); (case m39k3 => k_asm); (case m39k4 => k_asm); (case m39k5 => k_asm); (case m39k6 => first | exact rfl | assumption); (case m39k7 => ktr_room); (case m39k8 => ktr_units); (case m39hI => assumption); (case m39hn => first | assumption | omega); (case m39hO => (repeat' (first | assumption | exact ownOff_nil | (refine ownOff_cons ?_ ?_) | (refine ownOff_app ?_ ?_) | exact ownOff_of (by assumption) (by simp) | k_ne)))) | (refine' use (c_law_next [_] _ _ _ _ _ ?m39hI ?m39hn ?m39hO) ?m39k1 ?m39k2 ?m39k3 ?m39k4 ?m39k5 ?m39k6 ?m39k7 ?m39k8 ?_; (case m39k1 => k_asm); (case m39k2 => k_asm); (case m39k3 => k_asm); (case m39k4 => k_asm); (case m39k5 => k_asm); (case m39k6 => first | exact rfl | assumption); (case m39k7 => ktr_room); (case m39k8 => ktr_units); (case m39hI => assumption); (case m39hn => first | assumption | omega); (case m39hO => (repeat' (first | assumption | exact ownOff_nil | (refine ownOff_cons ?_ ?_) | (refine ownOff_app ?_ ?_) | exact ownOff_of (by assumption) (by simp) | k_ne)))) | (refine' use (c_law_next [_, _] _ _ _ _ _ ?m39hI ?m39hn ?m39hO) ?m39k1 ?m39k2 ?m39k3 ?m39k4 ?m39k5 ?m39k6 ?m39k7 ?m39k8 ?_; (case m39k1 => k_asm); (case m39k2 => k_asm); (case m39k3 => k_asm); (case m39k4 => k_asm); (case m39k5 => k_asm); (case m39k6 => first | exact rfl | assumption); (case m39k7 => ktr_room); (case m39k8 => ktr_units); (case m39hI => assumption); (case m39hn => first | assumption | omega); (case m39hO => (repeat' (first | assumption | exact ownOff_nil | (refine ownOff_cons ?_ ?_) | (refine ownOff_app ?_ ?_) | exact ownOff_of (by assumption) (by simp) | k_ne))))); intro x' t' vs' ns' c' h' tk' hI' hle' F' N'; (try dsimp only [List.nil_append, List.cons_append] at N'); (try dsimp only); (try k_sweep)))
  exact trivial
local macro_rules | `(tactic| walk_at "pyIter ref") => `(tactic| (kst_has; k_extra "pyIter ref"))
local macro_rules | `(tactic| walk_at "exec For Name Call cons nil") => `(tactic| k_extra "m40")
theorem word40 : True := by
  k_with "m40" => ((k_here; kst_src; (rename Fr _ _ _ _ => lF'); (with_unfolding_all refine' For_invVF lF' ?m40k1 ?m40k2 ?_; (case m40k1 => exact rfl); (case m40k2 => exact rfl); k_whole)))
  exact trivial
theorem bits_turn {bits pre : List Int} {x k : Int} {K : Nat} (h1 : bits.length = 5 * K + pre.length) (h2 : ∀ b ∈ bits, 0 ≤ b ∧ b ≤ 3) :
    (bits ++ [x.fmod 4]).length = 5 * K + (pre ++ [k]).length ∧ (∀ b ∈ bits ++ [x.fmod 4], 0 ≤ b ∧ b ≤ 3) ∧ x.fdiv 4 = x.fdiv 4 := by
  refine ⟨by simp only [List.length_append, List.length_singleton]; omega, fun b hb => ?_, rfl⟩
  rcases List.mem_append.mp hb with hb | hb
  · exact h2 b hb
  · rw [List.mem_singleton.mp hb, Int.fmod_eq_emod_of_nonneg _ (by decide)]
    omega
theorem bits_outer {bits ns ns' pre : List Int} {k : Int} {K : Nat} (hl : ns'.length ≤ ns.length) (h : ns.length ≤ 1000000) (h1 : bits.length = 5 * pre.length + (rangeKs 0 ((5 : Int) - 0).toNat).length) (h2 : ∀ b ∈ bits, 0 ≤ b ∧ b ≤ 3) :
    ns'.length ≤ 1000000 ∧ bits.length = 5 * (pre ++ [k]).length ∧ ∀ b ∈ bits, 0 ≤ b ∧ b ≤ 3 := by
  rw [rangeKs_length] at h1
  refine ⟨by omega, ?_, h2⟩
  simp only [List.length_append, List.length_singleton]
  omega
theorem bits_len {bs : List Int} {wide : Int} (h : bs.length = 5 * (rangeKs 0 ((wide + 4).fdiv 5 - 0).toNat).length) (h1 : 1 ≤ wide) (h2 : wide ≤ 20) : wide.toNat ≤ bs.length ∧ bs.length ≤ 100 := by
  rw [rangeKs_length, Int.fdiv_eq_ediv_of_nonneg _ (by decide)] at h
  omega
theorem bits_room {ws : List Value} {bs : List Int} {wide : Int} (hI : IntsAre ws bs) (h : bs.length = 5 * (rangeKs 0 ((wide + 4).fdiv 5 - 0).toNat).length) (h1 : 1 ≤ wide) (h2 : wide ≤ 20) : ws.toArray.size ≤ sizeLine := by
  have h3 := (bits_len h h1 h2).2
  have h4 := hI.length
  rw [List.size_toArray, PySem.sizeLine_eq]
  omega
theorem bits_take {bs : List Int} {wide : Int} (h : bs.length = 5 * (rangeKs 0 ((wide + 4).fdiv 5 - 0).toNat).length) (h1 : 1 ≤ wide) (h2 : wide ≤ 20) : (bs.take wide.toNat).length = wide.toNat := by
  have h3 := bits_len h h1 h2
  rw [List.length_take]
  omega
theorem take_r {bs : List Int} {n : Nat} (h : ∀ b ∈ bs, 0 ≤ b ∧ b ≤ 3) : ∀ b ∈ bs.take n, 0 ≤ b ∧ b ≤ 3 := fun b hb => h b (List.mem_of_mem_take hb)
local macro_rules | `(tactic| walk_at "subscriptTail Name Slice ref ref") => `(tactic| k_extra "m41")
theorem word41 : True := by
  k_with "m41" => ((k_here; (with_reducible show wpAny _ _ (subscriptTail _ (PySem.Expr.Slice _ _ none _) (Value.ref _) (Value.ref _)) _ _ _); k_dflt (refine' kmk_slice_ints ?m41F ?m41N ?m41l ?m41p ?m41q ?m41i ?m41m ?m41c ?_ ?m41s ?m41t ?m41z; (case m41F => k_asm); (case m41N => k_asm); (case m41l => kmk_list); (case m41p => kmk_part); (case m41q => kmk_part); (case m41i => assumption); (case m41m => exact kmk_upto (by assumption) (by omega)); (case m41c => kmk_len); (case m41s => with_unfolding_all rfl); (case m41t => kmk_pure); (case m41z => exact bits_room (by assumption) (by assumption) (by assumption) (by assumption))); intro D' ws' h' F' N' l1 hI' hC' hL'; (try k_lt l1); (try k_sweep)))
  exact trivial
abbrev RetBits (R : Addr) (rest : Led) (ns : List Int) (wide : Nat) (h₀ : Heap) (L : Addr) (m : Str → Option Value) (s : Shared) (Q : Value → Shared → Prop) : Prop :=
  ∀ (D : Addr) (ws : List Value) (bs : List Int) (vs' : List Value) (ns' : List Int) (c' : Nat) (h' : Heap) (tk' : Nat), IntsAre ws bs → bs.length = wide → (∀ b ∈ bs, 0 ≤ b ∧ b ≤ 3) → IntsAre vs' ns' → ns'.length ≤ 1000000 → D ≠ R → Fr h₀ L h' m → News h₀ L h' ((D, listOf ws.toArray 0) :: (R, listOf vs'.toArray c') :: rest) → Q (.ref D) { s with heap := h', toks := tk' }
theorem c_law_bits0 {w : World} {mean : ExcName → Option Value} {mg mb : Str → Option Value} (R : Addr) (vs : List Value) (ns : List Int) (c : Nat) (rest : Led) (wide : Int) (tw : Tok) (hI : IntsAre vs ns) (hn : ns.length ≤ 1000000) (hO : OwnOff rest [R]) (hw1 : 1 ≤ wide) (hw2 : wide ≤ 20) :
   Cl w mean mg mb 3 203 [.ref R, .int wide tw] (PreN ((R, listOf vs.toArray c) :: rest)) (RetBits R rest ns wide.toNat) := by
  unfold Cl; k_fill
  intro dp un gd cn cs a ccd cl outer A₀ base h₀ L m s Q E B F X N T hk hd' hu' hret
  have hM : KstMark := kstMark
  k_with_none
  k_with "m1" => ((k_here; (with_reducible show wpAny _ _ (PySem.call (Value.ref 21) [Value.int _ _]) _ _ _); k_dflt (refine' use (c_mask _ _ _ ?m1h0 ?m1h1) ?m1k1 ?m1k2 ?m1k3 ?m1k4 ?m1k5 ?m1k6 ?m1k7 ?m1k8 ?_; (case m1h0 => first | assumption | omega); (case m1h1 => first | assumption | omega); (case m1k1 => k_asm); (case m1k2 => k_asm); (case m1k3 => k_asm); (case m1k4 => k_asm); (case m1k5 => k_asm); (case m1k6 => first | exact rfl | assumption); (case m1k7 => ktr_room); (case m1k8 => ktr_units); intro t' h' tk' F' N'; (try dsimp only); (try k_sweep))))
  k_with "m2" => ((k_here; (with_reducible show wpAny _ _ (compareOp CmpOp.Eq (Value.ref _) (Value.ref _)) _ _ _); k_dflt (refine' eq_tup3 ?m2N ?m2m1 ?m2m2 ?m2u ?_; (case m2N => k_asm); (case m2m1 => first | assumption | exact List.Mem.head _ | (refine' List.Mem.tail _ ?_; (first | assumption | exact List.Mem.head _ | (refine' List.Mem.tail _ ?_; (first | assumption | exact List.Mem.head _ | (refine' List.Mem.tail _ ?_; (first | assumption | exact List.Mem.head _ | (refine' List.Mem.tail _ ?_; (first | assumption | exact List.Mem.head _ | (refine' List.Mem.tail _ ?_; (first | assumption | exact List.Mem.head _ | (refine' List.Mem.tail _ ?_; (first | assumption | exact List.Mem.head _ | (refine' List.Mem.tail _ ?_; (first | assumption | exact List.Mem.head _ | (refine' List.Mem.tail _ ?_; (first | assumption | exact List.Mem.head _))))))))))))))))); (case m2m2 => first | assumption | exact List.Mem.head _ | (refine' List.Mem.tail _ ?_; (first | assumption | exact List.Mem.head _ | (refine' List.Mem.tail _ ?_; (first | assumption | exact List.Mem.head _ | (refine' List.Mem.tail _ ?_; (first | assumption | exact List.Mem.head _ | (refine' List.Mem.tail _ ?_; (first | assumption | exact List.Mem.head _ | (refine' List.Mem.tail _ ?_; (first | assumption | exact List.Mem.head _ | (refine' List.Mem.tail _ ?_; (first | assumption | exact List.Mem.head _ | (refine' List.Mem.tail _ ?_; (first | assumption | exact List.Mem.head _ | (refine' List.Mem.tail _ ?_; (first | assumption | exact List.Mem.head _))))))))))))))))); (case m2u => ktr_units))))
  k_with "m3" => ((k_here; (with_reducible show wpAny _ _ (compareOp CmpOp.NotEq (Value.ref _) (Value.ref _)) _ _ _); k_dflt (refine' ne_tup3 ?m3N ?m3m1 ?m3m2 ?m3u ?_; (case m3N => k_asm); (case m3m1 => first | assumption | exact List.Mem.head _ | (refine' List.Mem.tail _ ?_; (first | assumption | exact List.Mem.head _ | (refine' List.Mem.tail _ ?_; (first | assumption | exact List.Mem.head _ | (refine' List.Mem.tail _ ?_; (first | assumption | exact List.Mem.head _ | (refine' List.Mem.tail _ ?_; (first | assumption | exact List.Mem.head _ | (refine' List.Mem.tail _ ?_; (first | assumption | exact List.Mem.head _ | (refine' List.Mem.tail _ ?_; (first | assumption | exact List.Mem.head _ | (refine' List.Mem.tail _ ?_; (first | assumption | exact List.Mem.head _ | (refine' List.Mem.tail _ ?_; (first | assumption | exact List.Mem.head _))))))))))))))))); (case m3m2 => first | assumption | exact List.Mem.head _ | (refine' List.Mem.tail _ ?_; (first | assumption | exact List.Mem.head _ | (refine' List.Mem.tail _ ?_; (first | assumption | exact List.Mem.head _ | (refine' List.Mem.tail _ ?_; (first | assumption | exact List.Mem.head _ | (refine' List.Mem.tail _ ?_; (first | assumption | exact List.Mem.head _ | (refine' List.Mem.tail _ ?_; (first | assumption | exact List.Mem.head _ | (refine' List.Mem.tail _ ?_; (first | assumption | exact List.Mem.head _ | (refine' List.Mem.tail _ ?_; (first | assumption | exact List.Mem.head _ | (refine' List.Mem.tail _ ?_; (first | assumption | exact List.Mem.head _))))))))))))))))); (case m3u => ktr_units))))
  k_with "m4" => ((k_here; (with_reducible show wpAny _ _ (subscriptTail _ (PySem.Expr.Slice _ _ none _) (Value.ref _) (Value.ref _)) _ _ _); k_dflt (refine' tslice ?m4F ?m4N ?m4T ?_ ?m4s ?m4t ?m4z; (case m4F => k_asm); (case m4N => k_asm); (case m4T => k_mem); (case m4s => with_unfolding_all rfl); (case m4t => (intro _; with_unfolding_all rfl)); (case m4z => exact Nat.le_of_ble_eq_true rfl); intro D' h' F' N' l1'; (try k_sweep))))
  k_with "m38" => ((k_here; (with_reducible show wpAny _ _ (call (Value.builtin _) [Value.ref _]) _ _ _); k_dflt (refine' kpa_pop ?m38F ?m38N ?m38U ?m38i ?m38l ?m38z ?_; (case m38F => k_asm); (case m38N => k_asm); (case m38U => k_upd); (case m38i => assumption); (case m38l => exact pop_ne (by assumption) (by assumption)); (case m38z => exact pop_room (by assumption) (by assumption))); (intro h' t' F' N' hI')))
  k_with "m39" => ((k_here; (with_reducible show wpAny _ _ (PySem.call (Value.ref 196) [Value.ref _]) _ _ _); k_dflt (first | (refine' use (c_law_next [] _ _ _ _ _ ?m39hI ?m39hn ?m39hO) ?m39k1 ?m39k2 ?m39k3 ?m39k4 ?m39k5 ?m39k6 ?m39k7 ?m39k8 ?_; (case m39k1 => k_asm); (case m39k2 => k_asm); (case m39k3 => k_asm); (case m39k4 => k_asm); (case m39k5 => k_asm); (case m39k6 => first | exact rfl | assumption); (case m39k7 => ktr_room); (case m39k8 => ktr_units); (case m39hI => assumption); (case m39hn => first | assumption | omega); (case m39hO => (repeat' (first | assumption | exact ownOff_nil | (refine ownOff_cons ?_ ?_) | (refine ownOff_app ?_ ?_) | exact ownOff_of (by assumption) (by simp) | k_ne)))) | (refine' use (c_law_next [_] _ _ _ _ _ ?m39hI ?m39hn ?m39hO) ?m39k1 ?m39k2 ?m39k3 ?m39k4 ?m39k5 ?m39k6 ?m39k7 ?m39k8 ?_; (case m39k1 => k_asm); (case m39k2 => k_asm); (case m39k3 => k_asm); (case m39k4 => k_asm); (case m39k5 => k_asm); (case m39k6 => first | exact rfl | assumption); (case m39k7 => ktr_room); (case m39k8 => ktr_units); (case m39hI => assumption); (case m39hn => first | assumption | omega); (case m39hO => (repeat' (first | assumption | exact ownOff_nil | (refine ownOff_cons ?_ ?_) | (refine ownOff_app ?_ ?_) | exact ownOff_of (by assumption) (by simp) | k_ne)))) | (refine' use (c_law_next [_, _] _ _ _ _ _ ?m39hI ?m39hn ?m39hO) ?m39k1 ?m39k2 ?m39k3 ?m39k4 ?m39k5 ?m39k6 ?m39k7 ?m39k8 ?_; (case m39k1 => k_asm); (case m39k2 => k_asm); (case m39k3 => k_asm); (case m39k4 => k_asm); (case m39k5 => k_asm); (case m39k6 => first | exact rfl | assumption); (case m39k7 => ktr_room); (case m39k8 => ktr_units); (case m39hI => assumption); (case m39hn => first | assumption | omega); (case m39hO => (repeat' (first | assumption | exact ownOff_nil | (refine ownOff_cons ?_ ?_) | (refine ownOff_app ?_ ?_) | exact ownOff_of (by assumption) (by simp) | k_ne))))); intro x' t' vs' ns' c' h' tk' hI' hle' F' N'; (try dsimp only [List.nil_append, List.cons_append] at N'); (try dsimp only); (try k_sweep)))
  k_with "m40" => ((k_here; kst_src; (rename Fr _ _ _ _ => lF'); (with_unfolding_all refine' For_invVF lF' ?m40k1 ?m40k2 ?_; (case m40k1 => exact rfl); (case m40k2 => exact rfl); k_whole)))
  k_with "m41" => ((k_here; (with_reducible show wpAny _ _ (subscriptTail _ (PySem.Expr.Slice _ _ none _) (Value.ref _) (Value.ref _)) _ _ _); k_dflt (refine' kmk_slice_ints ?m41F ?m41N ?m41l ?m41p ?m41q ?m41i ?m41m ?m41c ?_ ?m41s ?m41t ?m41z; (case m41F => k_asm); (case m41N => k_asm); (case m41l => kmk_list); (case m41p => kmk_part); (case m41q => kmk_part); (case m41i => assumption); (case m41m => exact kmk_upto (by assumption) (by omega)); (case m41c => kmk_len); (case m41s => with_unfolding_all rfl); (case m41t => kmk_pure); (case m41z => exact bits_room (by assumption) (by assumption) (by assumption) (by assumption))); intro D' ws' h' F' N' l1 hI' hC' hL'; (try k_lt l1); (try k_sweep)))
  k_with "state" => first | exact bits_turn (by assumption) (by assumption) | exact bits_outer (K := 0) (by assumption) (by assumption) (by assumption) (by assumption)
  k_with "pyIter ref" => (k_state (fun pre row bits => row.length ≤ 1000000 ∧ bits.length = 5 * pre.length ∧ ∀ b ∈ bits, 0 ≤ b ∧ b ≤ 3) "row" "bits")
  k_with "pyIter ref" => (k_state_short (fun pre bits number => bits.length = 5 * kPre.length + pre.length ∧ (∀ b ∈ bits, 0 ≤ b ∧ b ≤ 3) ∧ number = number) "bits" "number")
  refine wpAny_call ?_
  k_dflt cell_enter
  k_steps
  refine' hret _ _ _ _ _ _ _ _ ?i ?l ?b ?j ?n ?d ?F ?N
  case F => k_asm
  case N => exact cb_drop (by k_asm) (by kcj_all)
  case i => assumption
  case j => assumption
  case l => exact bits_take (by assumption) (by assumption) (by assumption)
  case b => exact take_r (by assumption)
  case n => assumption
  case d => k_ne
theorem fresh18 : True := by
  w_top off
  k_with_none
  k_with "m1" => ((k_here; (with_reducible show wpAny _ _ (PySem.call (Value.ref 21) [Value.int _ _]) _ _ _); k_dflt (refine' use (c_mask _ _ _ ?m1h0 ?m1h1) ?m1k1 ?m1k2 ?m1k3 ?m1k4 ?m1k5 ?m1k6 ?m1k7 ?m1k8 ?_; (case m1h0 => first | assumption | omega); (case m1h1 => first | assumption | omega); (case m1k1 => k_asm); (case m1k2 => k_asm); (case m1k3 => k_asm); (case m1k4 => k_asm); (case m1k5 => k_asm); (case m1k6 => first | exact rfl | assumption); (case m1k7 => ktr_room); (case m1k8 => ktr_units); intro t' h' tk' F' N'; (try dsimp only); (try k_sweep))))
  k_with "m2" => ((k_here; (with_reducible show wpAny _ _ (compareOp CmpOp.Eq (Value.ref _) (Value.ref _)) _ _ _); k_dflt (refine' eq_tup3 ?m2N ?m2m1 ?m2m2 ?m2u ?_; (case m2N => k_asm); (case m2m1 => first | assumption | exact List.Mem.head _ | (refine' List.Mem.tail _ ?_; (first | assumption | exact List.Mem.head _ | (refine' List.Mem.tail _ ?_; (first | assumption | exact List.Mem.head _ | (refine' List.Mem.tail _ ?_; (first | assumption | exact List.Mem.head _ | (refine' List.Mem.tail _ ?_; (first | assumption | exact List.Mem.head _ | (refine' List.Mem.tail _ ?_; (first | assumption | exact List.Mem.head _ | (refine' List.Mem.tail _ ?_; (first | assumption | exact List.Mem.head _ | (refine' List.Mem.tail _ ?_; (first | assumption | exact List.Mem.head _ | (refine' List.Mem.tail _ ?_; (first | assumption | exact List.Mem.head _))))))))))))))))); (case m2m2 => first | assumption | exact List.Mem.head _ | (refine' List.Mem.tail _ ?_; (first | assumption | exact List.Mem.head _ | (refine' List.Mem.tail _ ?_; (first | assumption | exact List.Mem.head _ | (refine' List.Mem.tail _ ?_; (first | assumption | exact List.Mem.head _ | (refine' List.Mem.tail _ ?_; (first | assumption | exact List.Mem.head _ | (refine' List.Mem.tail _ ?_; (first | assumption | exact List.Mem.head _ | (refine' List.Mem.tail _ ?_; (first | assumption | exact List.Mem.head _ | (refine' List.Mem.tail _ ?_; (first | assumption | exact List.Mem.head _ | (refine' List.Mem.tail _ ?_; (first | assumption | exact List.Mem.head _))))))))))))))))); (case m2u => ktr_units))))
  k_with "m3" => ((k_here; (with_reducible show wpAny _ _ (compareOp CmpOp.NotEq (Value.ref _) (Value.ref _)) _ _ _); k_dflt (refine' ne_tup3 ?m3N ?m3m1 ?m3m2 ?m3u ?_; (case m3N => k_asm); (case m3m1 => first | assumption | exact List.Mem.head _ | (refine' List.Mem.tail _ ?_; (first | assumption | exact List.Mem.head _ | (refine' List.Mem.tail _ ?_; (first | assumption | exact List.Mem.head _ | (refine' List.Mem.tail _ ?_; (first | assumption | exact List.Mem.head _ | (refine' List.Mem.tail _ ?_; (first | assumption | exact List.Mem.head _ | (refine' List.Mem.tail _ ?_; (first | assumption | exact List.Mem.head _ | (refine' List.Mem.tail _ ?_; (first | assumption | exact List.Mem.head _ | (refine' List.Mem.tail _ ?_; (first | assumption | exact List.Mem.head _ | (refine' List.Mem.tail _ ?_; (first | assumption | exact List.Mem.head _))))))))))))))))); (case m3m2 => first | assumption | exact List.Mem.head _ | (refine' List.Mem.tail _ ?_; (first | assumption | exact List.Mem.head _ | (refine' List.Mem.tail _ ?_; (first | assumption | exact List.Mem.head _ | (refine' List.Mem.tail _ ?_; (first | assumption | exact List.Mem.head _ | (refine' List.Mem.tail _ ?_; (first | assumption | exact List.Mem.head _ | (refine' List.Mem.tail _ ?_; (first | assumption | exact List.Mem.head _ | (refine' List.Mem.tail _ ?_; (first | assumption | exact List.Mem.head _ | (refine' List.Mem.tail _ ?_; (first | assumption | exact List.Mem.head _ | (refine' List.Mem.tail _ ?_; (first | assumption | exact List.Mem.head _))))))))))))))))); (case m3u => ktr_units))))
  k_with "m4" => ((k_here; (with_reducible show wpAny _ _ (subscriptTail _ (PySem.Expr.Slice _ _ none _) (Value.ref _) (Value.ref _)) _ _ _); k_dflt (refine' tslice ?m4F ?m4N ?m4T ?_ ?m4s ?m4t ?m4z; (case m4F => k_asm); (case m4N => k_asm); (case m4T => k_mem); (case m4s => with_unfolding_all rfl); (case m4t => (intro _; with_unfolding_all rfl)); (case m4z => exact Nat.le_of_ble_eq_true rfl); intro D' h' F' N' l1'; (try k_sweep))))
  k_with "m38" => ((k_here; (with_reducible show wpAny _ _ (call (Value.builtin _) [Value.ref _]) _ _ _); k_dflt (refine' kpa_pop ?m38F ?m38N ?m38U ?m38i ?m38l ?m38z ?_; (case m38F => k_asm); (case m38N => k_asm); (case m38U => k_upd); (case m38i => assumption); (case m38l => exact pop_ne (by assumption) (by assumption)); (case m38z => exact pop_room (by assumption) (by assumption))); (intro h' t' F' N' hI')))
  k_with "m39" => ((k_here; (with_reducible show wpAny _ _ (PySem.call (Value.ref 196) [Value.ref _]) _ _ _); k_dflt (first | (refine' use (c_law_next [] _ _ _ _ _ ?m39hI ?m39hn ?m39hO) ?m39k1 ?m39k2 ?m39k3 ?m39k4 ?m39k5 ?m39k6 ?m39k7 ?m39k8 ?_; (case m39k1 => k_asm); (case m39k2 => k_asm); (case m39k3 => k_asm); (case m39k4 => k_asm); (case m39k5 => k_asm); (case m39k6 => first | exact rfl | assumption); (case m39k7 => ktr_room); (case m39k8 => ktr_units); (case m39hI => assumption); (case m39hn => first | assumption | omega); (case m39hO => (repeat' (first | assumption | exact ownOff_nil | (refine ownOff_cons ?_ ?_) | (refine ownOff_app ?_ ?_) | exact ownOff_of (by assumption) (by simp) | k_ne)))) | (refine' use (c_law_next [_] _ _ _ _ _ ?m39hI ?m39hn ?m39hO) ?m39k1 ?m39k2 ?m39k3 ?m39k4 ?m39k5 ?m39k6 ?m39k7 ?m39k8 ?_; (case m39k1 => k_asm); (case m39k2 => k_asm); (case m39k3 => k_asm); (case m39k4 => k_asm); (case m39k5 => k_asm); (case m39k6 => first | exact rfl | assumption); (case m39k7 => ktr_room); (case m39k8 => ktr_units); (case m39hI => assumption); (case m39hn => first | assumption | omega); (case m39hO => (repeat' (first | assumption | exact ownOff_nil | (refine ownOff_cons ?_ ?_) | (refine ownOff_app ?_ ?_) | exact ownOff_of (by assumption) (by simp) | k_ne)))) | (refine' use (c_law_next [_, _] _ _ _ _ _ ?m39hI ?m39hn ?m39hO) ?m39k1 ?m39k2 ?m39k3 ?m39k4 ?m39k5 ?m39k6 ?m39k7 ?m39k8 ?_; (case m39k1 => k_asm); (case m39k2 => k_asm); (case m39k3 => k_asm); (case m39k4 => k_asm); (case m39k5 => k_asm); (case m39k6 => first | exact rfl | assumption); (case m39k7 => ktr_room); (case m39k8 => ktr_units); (case m39hI => assumption); (case m39hn => first | assumption | omega); (case m39hO => (repeat' (first | assumption | exact ownOff_nil | (refine ownOff_cons ?_ ?_) | (refine ownOff_app ?_ ?_) | exact ownOff_of (by assumption) (by simp) | k_ne))))); intro x' t' vs' ns' c' h' tk' hI' hle' F' N'; (try dsimp only [List.nil_append, List.cons_append] at N'); (try dsimp only); (try k_sweep)))
  k_with "m40" => ((k_here; kst_src; (rename Fr _ _ _ _ => lF'); (with_unfolding_all refine' For_invVF lF' ?m40k1 ?m40k2 ?_; (case m40k1 => exact rfl); (case m40k2 => exact rfl); k_whole)))
  k_with "m41" => ((k_here; (with_reducible show wpAny _ _ (subscriptTail _ (PySem.Expr.Slice _ _ none _) (Value.ref _) (Value.ref _)) _ _ _); k_dflt (refine' kmk_slice_ints ?m41F ?m41N ?m41l ?m41p ?m41q ?m41i ?m41m ?m41c ?_ ?m41s ?m41t ?m41z; (case m41F => k_asm); (case m41N => k_asm); (case m41l => kmk_list); (case m41p => kmk_part); (case m41q => kmk_part); (case m41i => assumption); (case m41m => exact kmk_upto (by assumption) (by omega)); (case m41c => kmk_len); (case m41s => with_unfolding_all rfl); (case m41t => kmk_pure); (case m41z => exact bits_room (by assumption) (by assumption) (by assumption) (by assumption))); intro D' ws' h' F' N' l1 hI' hC' hL'; (try k_lt l1); (try k_sweep)))
  (try walk1)
  exact trivial
theorem my_append {prog : Program} {w : World} {A : Around} {E : Value → Shared → Prop} {s : Shared} {h₀ : Heap} {L D : Addr} {m : Str → Option Value} {news : List (Addr × Obj)} {g : Obj → List (Addr × Obj)} {n : Nat} {us : List Value} {l : List Int} {x : Int} {t : Tok} {Q : Value → Shared → Prop}
    (F : Fr h₀ L s.heap m) (N : News h₀ L s.heap news) (U : UpdF D (listOf us.toArray n) news g) (hi : IntsAre us l) (hz : us.length ≤ sizeLine)
    (h : ∀ us' h', IntsAre us' (l ++ [x]) → Fr h₀ L h' m → News h₀ L h' (g (listOf us'.toArray (n + 1))) → Q .none { s with heap := h' }) :
    wpAny (model prog w) A (call (.builtin "list.append") [.ref D, .int x t]) Q E s := by
  obtain ⟨pre, post, rfl, e, a, b⟩ := U.split
  have z := N (D, listOf us.toArray n) (List.mem_append.mpr (.inr (.head _)))
  refine append_at (hsz := by simpa using hz) z.1 fun h' hs ho' => h (us ++ [.int x t]) h' (IntsAre.append hi (.cons x t .nil)) (F.change hs z.2.1 z.2.2) ?_
  rw [e]
  have q := news_set N a b hs ho'
  simpa using q
theorem app_room {vs : List Value} {ns : List Int} (hI : IntsAre vs ns) (h : ns.length ≤ 100000) : vs.length ≤ sizeLine := by
  have h4 := hI.length
  rw [PySem.sizeLine_eq]
  omega
theorem row_room {vs : List Value} {ns : List Int} (hI : IntsAre vs ns) (h : ns.length ≤ 10000) : vs.toArray.size ≤ sizeLine := by
  have h4 := hI.length
  rw [List.size_toArray, PySem.sizeLine_eq]
  omega
theorem ints_reverse : ∀ {us : List Value} {l : List Int}, IntsAre us l → IntsAre us.reverse l.reverse
  | [], _, h => by cases h; exact IntsAre.nil
  | _ :: _, _, h => by
    cases h with
    | cons n t hr =>
      rw [List.reverse_cons, List.reverse_cons]
      exact IntsAre.append (ints_reverse hr) (.cons n t .nil)
theorem my_reverse {prog : Program} {w : World} {A : Around} {E : Value → Shared → Prop} {s : Shared} {h₀ : Heap} {L D : Addr} {m : Str → Option Value} {news news' : List (Addr × Obj)} {n : Nat} {us : List Value} {l : List Int} {Q : Value → Shared → Prop}
    (F : Fr h₀ L s.heap m) (N : News h₀ L s.heap news) (hi : IntsAre us l) (hz : us.toArray.size ≤ sizeLine) (U : Upd D (listOf us.toArray n) (listOf us.reverse.toArray n) news news')
    (h : ∀ h', IntsAre us.reverse l.reverse → Fr h₀ L h' m → News h₀ L h' news' → Q .none { s with heap := h' }) :
    wpAny (model prog w) A (call (.builtin "list.reverse") [.ref D]) Q E s :=
  kl_reverse F N (by simp) U (by simpa using hz) fun h' F' N' => h h' (ints_reverse hi) F' N'
local macro_rules | `(tactic| walk_at "call builtin:list.reverse") => `(tactic| k_extra "m42")
theorem word42 : True := by
  k_with "m42" => ((k_here; (with_reducible show wpAny _ _ (call (Value.builtin _) [Value.ref _]) _ _ _); k_dflt (refine' my_reverse ?m42F ?m42N ?m42i ?m42z ?m42U ?_; (case m42F => k_asm); (case m42N => k_asm); (case m42i => assumption); (case m42z => exact row_room (by assumption) (by omega)); (case m42U => k_upd)); intro h' hI' F' N'; (try k_sweep)))
  exact trivial
local macro_rules | `(tactic| walk_at "call builtin:list.append") => `(tactic| k_extra "m43")
theorem word43 : True := by
  k_with "m43" => ((k_here; (with_reducible show wpAny _ _ (call (Value.builtin _) [Value.ref _, Value.int _ _]) _ _ _); k_dflt (refine' my_append ?m43F ?m43N ?m43U ?m43i ?m43z ?_; (case m43F => k_asm); (case m43N => k_asm); (case m43U => k_updF); (case m43i => first | assumption | exact IntsAre.nil); (case m43z => first | exact Nat.le_of_ble_eq_true rfl | exact app_room (by assumption) (by omega))); intro us' h' hI' F' N'; (try dsimp only at N'); (try k_sweep)))
  exact trivial
local macro_rules | `(tactic| walk_at "pyIter ref") => `(tactic| (kst_has; k_extra "pyIter ref"))
local macro_rules | `(tactic| walk_at "exec For Name Call cons nil") => `(tactic| k_extra "m44")
theorem word44 : True := by
  k_with "m44" => ((k_here; kst_src; (rename Fr _ _ _ _ => lF'); (with_unfolding_all refine' For_invVF lF' ?m44k1 ?m44k2 ?_; (case m44k1 => exact rfl); (case m44k2 => exact rfl); k_whole)))
  exact trivial
local macro_rules | `(tactic| walk_at "exec For Name Subscript cons nil") => `(tactic| (k_here; (rename Fr _ _ _ _ => lF'); (with_unfolding_all refine' For_invVF lF' ?k1 ?k2 ?_; (case k1 => exact rfl); (case k2 => exact rfl); k_whole)))
local macro_rules | `(tactic| walk_at "subscriptTail Name Slice ref ref") => `(tactic| k_extra "m45")
theorem word45 : True := by
  k_with "m45" => ((k_here; (with_reducible show wpAny _ _ (subscriptTail _ (PySem.Expr.Slice _ _ none _) (Value.ref _) (Value.ref _)) _ _ _); k_dflt (refine' kmk_slice_ints ?m45F ?m45N ?m45l ?m45p ?m45q ?m45i ?m45m ?m45c ?_ ?m45s ?m45t ?m45z; (case m45F => k_asm); (case m45N => k_asm); (case m45l => first | kmk_list | exact Fr.lst (by k_asm) (by assumption)); (case m45p => kmk_part); (case m45q => kmk_part); (case m45i => assumption); (case m45m => exact kmk_upto (by assumption) (by decide)); (case m45c => kmk_len); (case m45s => with_unfolding_all rfl); (case m45t => kmk_pure); (case m45z => first | exact row_room (by assumption) (by omega) | exact row_room (by assumption) (by assumption))); intro D' ws' h' F' N' l1 hI' hC' hL'; (try k_lt l1); (try k_sweep)))
  exact trivial
theorem row_start {row : List Int} {x n : Int} {K : Nat} (h : row.length ≤ 31 * K) : (row ++ [x]).length ≤ 31 * K + 1 + ([] : List Int).length ∧ n = n := by
  refine ⟨?_, rfl⟩
  rw [List.length_append, List.length_singleton, List.length_nil]; omega
theorem row_turn1 {row pre : List Int} {x k n : Int} {K : Nat} (h : row.length ≤ 31 * K + 1 + pre.length) : (row ++ [x]).length ≤ 31 * K + 1 + (pre ++ [k]).length ∧ n = n := by
  refine ⟨?_, rfl⟩
  rw [List.length_append, List.length_append, List.length_singleton]; rw [List.length_singleton]; omega
theorem row_turn2 {row pre : List Int} {k n : Int} {K : Nat} (h : row.length ≤ 31 * K + 1 + pre.length) : row.length ≤ 31 * K + 1 + (pre ++ [k]).length ∧ n = n := by
  refine ⟨?_, rfl⟩
  rw [List.length_append, List.length_singleton]; omega
theorem row_outer {row pre : List Int} {c : Int} (h : row.length ≤ 31 * pre.length + 1 + (rangeKs 0 ((30 : Int) - 0).toNat).length) : row.length ≤ 31 * (pre ++ [c]).length := by
  rw [rangeKs_length] at h
  rw [List.length_append, List.length_singleton]; omega
abbrev RetRow (news : Led) (h₀ : Heap) (L : Addr) (m : Str → Option Value) (s : Shared) (Q : Value → Shared → Prop) : Prop :=
  ∀ (R : Addr) (vs' : List Value) (ns' : List Int) (c' : Nat) (h' : Heap) (tk' : Nat), IntsAre vs' ns' → ns'.length ≤ 1000000 → (∀ p ∈ news, p.1 ≠ R) → Fr h₀ L h' m → News h₀ L h' ((R, listOf vs'.toArray c') :: news) → Q (.ref R) { s with heap := h', toks := tk' }
theorem c_law_row {w : World} {mean : ExcName → Option Value} {mg mb : Str → Option Value} (S : Addr) (vs : List Value) (ns : List Int) (news : Led) (hI : IntsAre vs ns) (hn : ns.length ≤ 64) :
   Cl w mean mg mb 0 189 [.ref S] (fun h₀ L h => h₀.IsList S vs.toArray ∧ News h₀ L h news) (RetRow news) := by
  unfold Cl; k_fill
  intro dp un gd cn cs a ccd cl outer A₀ base h₀ L m s Q E B F X ⟨hS, N⟩ T hk hd' hu' hret
  have hM : KstMark := kstMark
  k_with_none
  k_with "m1" => ((k_here; (with_reducible show wpAny _ _ (PySem.call (Value.ref 21) [Value.int _ _]) _ _ _); k_dflt (refine' use (c_mask _ _ _ ?m1h0 ?m1h1) ?m1k1 ?m1k2 ?m1k3 ?m1k4 ?m1k5 ?m1k6 ?m1k7 ?m1k8 ?_; (case m1h0 => first | assumption | omega); (case m1h1 => first | assumption | omega); (case m1k1 => k_asm); (case m1k2 => k_asm); (case m1k3 => k_asm); (case m1k4 => k_asm); (case m1k5 => k_asm); (case m1k6 => first | exact rfl | assumption); (case m1k7 => ktr_room); (case m1k8 => ktr_units); intro t' h' tk' F' N'; (try dsimp only); (try k_sweep))))
  k_with "m2" => ((k_here; (with_reducible show wpAny _ _ (compareOp CmpOp.Eq (Value.ref _) (Value.ref _)) _ _ _); k_dflt (refine' eq_tup3 ?m2N ?m2m1 ?m2m2 ?m2u ?_; (case m2N => k_asm); (case m2m1 => first | assumption | exact List.Mem.head _ | (refine' List.Mem.tail _ ?_; (first | assumption | exact List.Mem.head _ | (refine' List.Mem.tail _ ?_; (first | assumption | exact List.Mem.head _ | (refine' List.Mem.tail _ ?_; (first | assumption | exact List.Mem.head _ | (refine' List.Mem.tail _ ?_; (first | assumption | exact List.Mem.head _ | (refine' List.Mem.tail _ ?_; (first | assumption | exact List.Mem.head _ | (refine' List.Mem.tail _ ?_; (first | assumption | exact List.Mem.head _ | (refine' List.Mem.tail _ ?_; (first | assumption | exact List.Mem.head _ | (refine' List.Mem.tail _ ?_; (first | assumption | exact List.Mem.head _))))))))))))))))); (case m2m2 => first | assumption | exact List.Mem.head _ | (refine' List.Mem.tail _ ?_; (first | assumption | exact List.Mem.head _ | (refine' List.Mem.tail _ ?_; (first | assumption | exact List.Mem.head _ | (refine' List.Mem.tail _ ?_; (first | assumption | exact List.Mem.head _ | (refine' List.Mem.tail _ ?_; (first | assumption | exact List.Mem.head _ | (refine' List.Mem.tail _ ?_; (first | assumption | exact List.Mem.head _ | (refine' List.Mem.tail _ ?_; (first | assumption | exact List.Mem.head _ | (refine' List.Mem.tail _ ?_; (first | assumption | exact List.Mem.head _ | (refine' List.Mem.tail _ ?_; (first | assumption | exact List.Mem.head _))))))))))))))))); (case m2u => ktr_units))))
  k_with "m3" => ((k_here; (with_reducible show wpAny _ _ (compareOp CmpOp.NotEq (Value.ref _) (Value.ref _)) _ _ _); k_dflt (refine' ne_tup3 ?m3N ?m3m1 ?m3m2 ?m3u ?_; (case m3N => k_asm); (case m3m1 => first | assumption | exact List.Mem.head _ | (refine' List.Mem.tail _ ?_; (first | assumption | exact List.Mem.head _ | (refine' List.Mem.tail _ ?_; (first | assumption | exact List.Mem.head _ | (refine' List.Mem.tail _ ?_; (first | assumption | exact List.Mem.head _ | (refine' List.Mem.tail _ ?_; (first | assumption | exact List.Mem.head _ | (refine' List.Mem.tail _ ?_; (first | assumption | exact List.Mem.head _ | (refine' List.Mem.tail _ ?_; (first | assumption | exact List.Mem.head _ | (refine' List.Mem.tail _ ?_; (first | assumption | exact List.Mem.head _ | (refine' List.Mem.tail _ ?_; (first | assumption | exact List.Mem.head _))))))))))))))))); (case m3m2 => first | assumption | exact List.Mem.head _ | (refine' List.Mem.tail _ ?_; (first | assumption | exact List.Mem.head _ | (refine' List.Mem.tail _ ?_; (first | assumption | exact List.Mem.head _ | (refine' List.Mem.tail _ ?_; (first | assumption | exact List.Mem.head _ | (refine' List.Mem.tail _ ?_; (first | assumption | exact List.Mem.head _ | (refine' List.Mem.tail _ ?_; (first | assumption | exact List.Mem.head _ | (refine' List.Mem.tail _ ?_; (first | assumption | exact List.Mem.head _ | (refine' List.Mem.tail _ ?_; (first | assumption | exact List.Mem.head _ | (refine' List.Mem.tail _ ?_; (first | assumption | exact List.Mem.head _))))))))))))))))); (case m3u => ktr_units))))
  k_with "m4" => ((k_here; (with_reducible show wpAny _ _ (subscriptTail _ (PySem.Expr.Slice _ _ none _) (Value.ref _) (Value.ref _)) _ _ _); k_dflt (refine' tslice ?m4F ?m4N ?m4T ?_ ?m4s ?m4t ?m4z; (case m4F => k_asm); (case m4N => k_asm); (case m4T => k_mem); (case m4s => with_unfolding_all rfl); (case m4t => (intro _; with_unfolding_all rfl)); (case m4z => exact Nat.le_of_ble_eq_true rfl); intro D' h' F' N' l1'; (try k_sweep))))
  k_with "m38" => ((k_here; (with_reducible show wpAny _ _ (call (Value.builtin _) [Value.ref _]) _ _ _); k_dflt (refine' kpa_pop ?m38F ?m38N ?m38U ?m38i ?m38l ?m38z ?_; (case m38F => k_asm); (case m38N => k_asm); (case m38U => k_upd); (case m38i => assumption); (case m38l => exact pop_ne (by assumption) (by assumption)); (case m38z => exact pop_room (by assumption) (by assumption))); (intro h' t' F' N' hI')))
  k_with "m39" => ((k_here; (with_reducible show wpAny _ _ (PySem.call (Value.ref 196) [Value.ref _]) _ _ _); k_dflt (first | (refine' use (c_law_next [] _ _ _ _ _ ?m39hI ?m39hn ?m39hO) ?m39k1 ?m39k2 ?m39k3 ?m39k4 ?m39k5 ?m39k6 ?m39k7 ?m39k8 ?_; (case m39k1 => k_asm); (case m39k2 => k_asm); (case m39k3 => k_asm); (case m39k4 => k_asm); (case m39k5 => k_asm); (case m39k6 => first | exact rfl | assumption); (case m39k7 => ktr_room); (case m39k8 => ktr_units); (case m39hI => assumption); (case m39hn => first | assumption | omega); (case m39hO => (repeat' (first | assumption | exact ownOff_nil | (refine ownOff_cons ?_ ?_) | (refine ownOff_app ?_ ?_) | exact ownOff_of (by assumption) (by simp) | k_ne)))) | (refine' use (c_law_next [_] _ _ _ _ _ ?m39hI ?m39hn ?m39hO) ?m39k1 ?m39k2 ?m39k3 ?m39k4 ?m39k5 ?m39k6 ?m39k7 ?m39k8 ?_; (case m39k1 => k_asm); (case m39k2 => k_asm); (case m39k3 => k_asm); (case m39k4 => k_asm); (case m39k5 => k_asm); (case m39k6 => first | exact rfl | assumption); (case m39k7 => ktr_room); (case m39k8 => ktr_units); (case m39hI => assumption); (case m39hn => first | assumption | omega); (case m39hO => (repeat' (first | assumption | exact ownOff_nil | (refine ownOff_cons ?_ ?_) | (refine ownOff_app ?_ ?_) | exact ownOff_of (by assumption) (by simp) | k_ne)))) | (refine' use (c_law_next [_, _] _ _ _ _ _ ?m39hI ?m39hn ?m39hO) ?m39k1 ?m39k2 ?m39k3 ?m39k4 ?m39k5 ?m39k6 ?m39k7 ?m39k8 ?_; (case m39k1 => k_asm); (case m39k2 => k_asm); (case m39k3 => k_asm); (case m39k4 => k_asm); (case m39k5 => k_asm); (case m39k6 => first | exact rfl | assumption); (case m39k7 => ktr_room); (case m39k8 => ktr_units); (case m39hI => assumption); (case m39hn => first | assumption | omega); (case m39hO => (repeat' (first | assumption | exact ownOff_nil | (refine ownOff_cons ?_ ?_) | (refine ownOff_app ?_ ?_) | exact ownOff_of (by assumption) (by simp) | k_ne))))); intro x' t' vs' ns' c' h' tk' hI' hle' F' N'; (try dsimp only [List.nil_append, List.cons_append] at N'); (try dsimp only); (try k_sweep)))
  k_with "m40" => ((k_here; kst_src; (rename Fr _ _ _ _ => lF'); (with_unfolding_all refine' For_invVF lF' ?m40k1 ?m40k2 ?_; (case m40k1 => exact rfl); (case m40k2 => exact rfl); k_whole)))
  k_with "m41" => ((k_here; (with_reducible show wpAny _ _ (subscriptTail _ (PySem.Expr.Slice _ _ none _) (Value.ref _) (Value.ref _)) _ _ _); k_dflt (refine' kmk_slice_ints ?m41F ?m41N ?m41l ?m41p ?m41q ?m41i ?m41m ?m41c ?_ ?m41s ?m41t ?m41z; (case m41F => k_asm); (case m41N => k_asm); (case m41l => kmk_list); (case m41p => kmk_part); (case m41q => kmk_part); (case m41i => assumption); (case m41m => exact kmk_upto (by assumption) (by omega)); (case m41c => kmk_len); (case m41s => with_unfolding_all rfl); (case m41t => kmk_pure); (case m41z => exact bits_room (by assumption) (by assumption) (by assumption) (by assumption))); intro D' ws' h' F' N' l1 hI' hC' hL'; (try k_lt l1); (try k_sweep)))
  k_with "m42" => ((k_here; (with_reducible show wpAny _ _ (call (Value.builtin _) [Value.ref _]) _ _ _); k_dflt (refine' my_reverse ?m42F ?m42N ?m42i ?m42z ?m42U ?_; (case m42F => k_asm); (case m42N => k_asm); (case m42i => assumption); (case m42z => exact row_room (by assumption) (by omega)); (case m42U => k_upd)); intro h' hI' F' N'; (try k_sweep)))
  k_with "m43" => ((k_here; (with_reducible show wpAny _ _ (call (Value.builtin _) [Value.ref _, Value.int _ _]) _ _ _); k_dflt (refine' my_append ?m43F ?m43N ?m43U ?m43i ?m43z ?_; (case m43F => k_asm); (case m43N => k_asm); (case m43U => k_updF); (case m43i => first | assumption | exact IntsAre.nil); (case m43z => first | exact Nat.le_of_ble_eq_true rfl | exact app_room (by assumption) (by omega))); intro us' h' hI' F' N'; (try dsimp only at N'); (try k_sweep)))
  k_with "m44" => ((k_here; kst_src; (rename Fr _ _ _ _ => lF'); (with_unfolding_all refine' For_invVF lF' ?m44k1 ?m44k2 ?_; (case m44k1 => exact rfl); (case m44k2 => exact rfl); k_whole)))
  k_with "m45" => ((k_here; (with_reducible show wpAny _ _ (subscriptTail _ (PySem.Expr.Slice _ _ none _) (Value.ref _) (Value.ref _)) _ _ _); k_dflt (refine' kmk_slice_ints ?m45F ?m45N ?m45l ?m45p ?m45q ?m45i ?m45m ?m45c ?_ ?m45s ?m45t ?m45z; (case m45F => k_asm); (case m45N => k_asm); (case m45l => first | kmk_list | exact Fr.lst (by k_asm) (by assumption)); (case m45p => kmk_part); (case m45q => kmk_part); (case m45i => assumption); (case m45m => exact kmk_upto (by assumption) (by decide)); (case m45c => kmk_len); (case m45s => with_unfolding_all rfl); (case m45t => kmk_pure); (case m45z => first | exact row_room (by assumption) (by omega) | exact row_room (by assumption) (by assumption))); intro D' ws' h' F' N' l1 hI' hC' hL'; (try k_lt l1); (try k_sweep)))
  k_with "state" => first | exact Nat.zero_le _ | exact (Nat.zero_le 0) | exact row_start (by assumption) | exact row_turn1 (by assumption) | exact row_turn2 (by assumption) | exact row_outer (by assumption)
  k_with "pyIter ref" => (k_of "cell" => k_state (fun pre row => row.length ≤ 31 * pre.length) "row")
  k_with "pyIter ref" => (k_of "turn" => k_state (fun pre row number => row.length ≤ 31 * kPre.length + 1 + pre.length ∧ number = number) "row" "number")
  refine wpAny_call ?_
  k_dflt cell_enter
  (rename Fr h₀ L _ m => kFG); have hSg := Fr.lst kFG hS
  k_steps
  refine' hret _ _ _ _ _ _ ?i ?l ?d ?F ?N
  case F => k_asm
  case N => exact cb_drop (by k_asm) (by kcj_all)
  case i => assumption
  case l => rw [List.length_reverse]; omega
  case d => exact tbn_neAll (And.right (And.right (by assumption)))
end
section
theorem fresh19 : True := by
  w_top off
  k_with_none
  k_with "m1" => ((k_here; (with_reducible show wpAny _ _ (PySem.call (Value.ref 21) [Value.int _ _]) _ _ _); k_dflt (refine' use (c_mask _ _ _ ?m1h0 ?m1h1) ?m1k1 ?m1k2 ?m1k3 ?m1k4 ?m1k5 ?m1k6 ?m1k7 ?m1k8 ?_; (case m1h0 => first | assumption | omega); (case m1h1 => first | assumption | omega); (case m1k1 => k_asm); (case m1k2 => k_asm); (case m1k3 => k_asm); (case m1k4 => k_asm); (case m1k5 => k_asm); (case m1k6 => first | exact rfl | assumption); (case m1k7 => ktr_room); (case m1k8 => ktr_units); intro t' h' tk' F' N'; (try dsimp only); (try k_sweep))))
  k_with "m2" => ((k_here; (with_reducible show wpAny _ _ (compareOp CmpOp.Eq (Value.ref _) (Value.ref _)) _ _ _); k_dflt (refine' eq_tup3 ?m2N ?m2m1 ?m2m2 ?m2u ?_; (case m2N => k_asm); (case m2m1 => first | assumption | exact List.Mem.head _ | (refine' List.Mem.tail _ ?_; (first | assumption | exact List.Mem.head _ | (refine' List.Mem.tail _ ?_; (first | assumption | exact List.Mem.head _ | (refine' List.Mem.tail _ ?_; (first | assumption | exact List.Mem.head _ | (refine' List.Mem.tail _ ?_; (first | assumption | exact List.Mem.head _ | (refine' List.Mem.tail _ ?_; (first | assumption | exact List.Mem.head _ | (refine' List.Mem.tail _ ?_; (first | assumption | exact List.Mem.head _ | (refine' List.Mem.tail _ ?_; (first | assumption | exact List.Mem.head _ | (refine' List.Mem.tail _ ?_; (first | assumption | exact List.Mem.head _))))))))))))))))); (case m2m2 => first | assumption | exact List.Mem.head _ | (refine' List.Mem.tail _ ?_; (first | assumption | exact List.Mem.head _ | (refine' List.Mem.tail _ ?_; (first | assumption | exact List.Mem.head _ | (refine' List.Mem.tail _ ?_; (first | assumption | exact List.Mem.head _ | (refine' List.Mem.tail _ ?_; (first | assumption | exact List.Mem.head _ | (refine' List.Mem.tail _ ?_; (first | assumption | exact List.Mem.head _ | (refine' List.Mem.tail _ ?_; (first | assumption | exact List.Mem.head _ | (refine' List.Mem.tail _ ?_; (first | assumption | exact List.Mem.head _ | (refine' List.Mem.tail _ ?_; (first | assumption | exact List.Mem.head _))))))))))))))))); (case m2u => ktr_units))))
  k_with "m3" => ((k_here; (with_reducible show wpAny _ _ (compareOp CmpOp.NotEq (Value.ref _) (Value.ref _)) _ _ _); k_dflt (refine' ne_tup3 ?m3N ?m3m1 ?m3m2 ?m3u ?_; (case m3N => k_asm); (case m3m1 => first | assumption | exact List.Mem.head _ | (refine' List.Mem.tail _ ?_; (first | assumption | exact List.Mem.head _ | (refine' List.Mem.tail _ ?_; (first | assumption | exact List.Mem.head _ | (refine' List.Mem.tail _ ?_; (first | assumption | exact List.Mem.head _ | (refine' List.Mem.tail _ ?_; (first | assumption | exact List.Mem.head _ | (refine' List.Mem.tail _ ?_; (first | assumption | exact List.Mem.head _ | (refine' List.Mem.tail _ ?_; (first | assumption | exact List.Mem.head _ | (refine' List.Mem.tail _ ?_; (first | assumption | exact List.Mem.head _ | (refine' List.Mem.tail _ ?_; (first | assumption | exact List.Mem.head _))))))))))))))))); (case m3m2 => first | assumption | exact List.Mem.head _ | (refine' List.Mem.tail _ ?_; (first | assumption | exact List.Mem.head _ | (refine' List.Mem.tail _ ?_; (first | assumption | exact List.Mem.head _ | (refine' List.Mem.tail _ ?_; (first | assumption | exact List.Mem.head _ | (refine' List.Mem.tail _ ?_; (first | assumption | exact List.Mem.head _ | (refine' List.Mem.tail _ ?_; (first | assumption | exact List.Mem.head _ | (refine' List.Mem.tail _ ?_; (first | assumption | exact List.Mem.head _ | (refine' List.Mem.tail _ ?_; (first | assumption | exact List.Mem.head _ | (refine' List.Mem.tail _ ?_; (first | assumption | exact List.Mem.head _))))))))))))))))); (case m3u => ktr_units))))
  k_with "m4" => ((k_here; (with_reducible show wpAny _ _ (subscriptTail _ (PySem.Expr.Slice _ _ none _) (Value.ref _) (Value.ref _)) _ _ _); k_dflt (refine' tslice ?m4F ?m4N ?m4T ?_ ?m4s ?m4t ?m4z; (case m4F => k_asm); (case m4N => k_asm); (case m4T => k_mem); (case m4s => with_unfolding_all rfl); (case m4t => (intro _; with_unfolding_all rfl)); (case m4z => exact Nat.le_of_ble_eq_true rfl); intro D' h' F' N' l1'; (try k_sweep))))
  (try walk1)
  exact trivial
theorem allObj_mono : ∀ {ws : List (Addr × String)} {k k' : List (Addr × Obj) → Prop}, (∀ its, k its → k' its) → AllObj ws k → AllObj ws k'
  | [], _, _, h, x => h _ x
  | _ :: _, _, _, h, x => fun o ho => allObj_mono (fun its => h _) (x o ho)
/-- what a turn hands on: the kept name, the ledger as it was (and perhaps more), the pair's own fact -/
structure ZEnd (K : (Str → Option Value) → Prop) (news : List (Addr × Obj)) (C : Prop) (m' : Str → Option Value) (n' : List (Addr × Obj)) : Prop where
  fr : K m'
  led : ∀ p ∈ news, p ∈ n'
  ok : C
theorem zip_ind {prog : Program} {w : World} {A : Around} {E : Value → Shared → Prop} {h₀ : Heap} {env : Env} {target : PySem.Expr} {body : List Stmt} {Q : Flow → Shared → Prop} {s : Shared} {ws : List (Addr × String)} {keep news : List (Addr × Obj)}
    {as₀ bs₀ : List Int} (K : (Str → Option Value) → Prop) (C : Int → Int → Prop) (hkeep : SubL keep news)
    (turn : ∀ x y t1 t2 T m h tk, (x, y) ∈ as₀.zip bs₀ → K m → IsTup h T #[.int x t1, .int y t2] → Fr h₀ env.locals h m → AllObj ws (fun its => News h₀ env.locals h (its ++ news) →
      wpAny (model prog w) A (assign target env (.ref T)) (fun _ s₂ => wpAny (model prog w) A (execs body env) (UnrPostW h₀ env.locals { s with heap := h, toks := tk } its (ZEnd K news (C x y)) Q) E s₂) E { s with heap := h, toks := tk }))
    (fin : (∀ p ∈ as₀.zip bs₀, C p.1 p.2) → ∀ m h tk, K m → Fr h₀ env.locals h m → News h₀ env.locals h news → Q .next { s with heap := h, toks := tk }) :
    ∀ {xs ys : List Value} {as bs : List Int} {m : Str → Option Value}, IntsAre xs as → IntsAre ys bs → (∀ p ∈ as.zip bs, p ∈ as₀.zip bs₀) → (∀ p ∈ as₀.zip bs₀, p ∈ as.zip bs ∨ C p.1 p.2) → K m →
      ItemsRest prog w A E h₀ env target body Q s ws keep (zipItems xs ys) m news := by
  intro xs ys as bs m hx
  induction hx generalizing ys bs m with
  | nil =>
    intro hy hs hd hK
    exact ItemsRest.zero (fun h tk F N => fin (fun p hp => (hd p hp).resolve_left (by simp)) m h tk hK F N)
  | cons x t hr ih =>
    intro hy hs hd hK
    cases hy with
    | nil => exact ItemsRest.zero (fun h tk F N => fin (fun p hp => (hd p hp).resolve_left (by simp)) m h tk hK F N)
    | cons y u hr2 =>
      rename_i vs1 ns1 vs2 ns2
      refine ItemsRest.pair (fun T t' h tk hT F => ?_)
      refine allObj_mono (fun its hk N => ?_) (turn x y t u T m h tk (hs _ (by simp)) hK hT F)
      refine wpAny_mono (hk N) (fun _ s₂ h₂ => wpAny_mono h₂ (fun f s₃ h₃ => ?_) fun _ _ e => e) fun _ _ e => e
      have key : UnrEndW h₀ env.locals { s with heap := h, toks := tk } its (ZEnd K news (C x y)) s₃ → UnrEndW h₀ env.locals { s with heap := h, toks := tk } its (fun m' n' => SubL keep n' ∧ ItemsRest prog w A E h₀ env target body Q s ws keep (zipItems vs1 vs2) m' n') s₃ := by
        rintro ⟨h', tk', m', n', e, F', N', off, Z⟩
        refine ⟨h', tk', m', news, e, F', cb_drop N' (fun p hp => ?_), fun p hp => off p (Z.led p hp), hkeep, ih hr2 (fun p hp => hs p (by simp [hp])) (fun p hp => ?_) Z.fr⟩
        · rcases List.mem_append.mp hp with hp | hp
          · exact List.mem_append.mpr (.inl hp)
          · exact List.mem_append.mpr (.inr (Z.led p hp))
        · rcases hd p hp with h1 | h1
          · rw [List.zip_cons_cons] at h1
            rcases List.mem_cons.mp h1 with rfl | h1
            · exact .inr Z.ok
            · exact .inl h1
          · exact .inr h1
      cases f with
      | ret v => exact h₃
      | brk => exact h₃
      | cont => exact key h₃
      | next => exact key h₃
theorem set_same {m : Str → Option Value} {x : Str} {v : Value} (h : m x = some v) : m = fun z => if z = x then some v else m z := by
  funext z
  by_cases e : z = x
  · rw [if_pos e, e, h]
  · rw [if_neg e]
local macro_rules | `(tactic| walk_at "exec For Tuple Call cons nil") => `(tactic| (k_here; (rename Fr _ _ _ _ => lF'); (with_unfolding_all refine' For_turns lF' ?_; k_whole)))
local macro_rules | `(tactic| walk_at "call type:zip") => `(tactic| k_extra "m46")
theorem word46 : True := by
  k_with "m46" => ((k_here; (with_reducible show wpAny _ _ (call (Value.type _) [Value.ref _, Value.ref _]) (fun xv s₁ => wpAny _ _ (pyIter xv) (fun it s₂ => TurnsAt _ _ _ _ _ _ _ _ _ it s₂) _ s₁) _ _); (rename Fr _ _ _ _ => lF'); (rename News _ _ _ _ => lN'); ((with_unfolding_all refine' ktu_zip (lo1 := listOf _ _) (lo2 := listOf _ _) ?m46hh lF' lN' ?m46m1 ?m46c1 ?m46d1 ?m46m2 ?m46c2 ?m46d2 ?_); (case m46hh => with_unfolding_all rfl); (case m46m1 => assumption); (case m46m2 => assumption); (case m46c1 => rfl); (case m46d1 => rfl); (case m46c2 => rfl); (case m46d2 => rfl); intro i' l1; (try k_lt l1))))
  exact trivial
theorem off5 {news : List (Addr × Obj)} {i : Nat} {o1 o2 o3 o4 o5 : Obj} (l : ∀ p ∈ news, p.1 < i) : ∀ p ∈ news, ∀ q ∈ [((i + 4 : Nat), o1), (i + 2, o2), (i + 3, o3), (i, o4), (i + 1, o5)], p.1 ≠ q.1 := fun p hp q hq => by
  have h := l p hp
  have h' : @LT.lt Nat _ p.1 i := h
  rcases List.mem_cons.mp hq with rfl | hq
  · exact Nat.ne_of_lt (Nat.lt_of_lt_of_le h' (Nat.le_add_right _ _))
  rcases List.mem_cons.mp hq with rfl | hq
  · exact Nat.ne_of_lt (Nat.lt_of_lt_of_le h' (Nat.le_add_right _ _))
  rcases List.mem_cons.mp hq with rfl | hq
  · exact Nat.ne_of_lt (Nat.lt_of_lt_of_le h' (Nat.le_add_right _ _))
  rcases List.mem_cons.mp hq with rfl | hq
  · exact Nat.ne_of_lt h'
  rcases List.mem_cons.mp hq with rfl | hq
  · exact Nat.ne_of_lt (Nat.lt_of_lt_of_le h' (Nat.le_add_right _ _))
  · cases hq
theorem z_end {h₀ : Heap} {L : Addr} {s₁ : Shared} {its news all : List (Addr × Obj)} {K : (Str → Option Value) → Prop} {C : Prop} {h' : Heap} {tk : Nat} {m' : Str → Option Value}
    (F : Fr h₀ L h' m') (N : News h₀ L h' all) (hs : ∀ p ∈ its ++ news, p ∈ all) (off : ∀ p ∈ news, ∀ q ∈ its, p.1 ≠ q.1) (hK : K m') (hC : C) :
    UnrEndW h₀ L s₁ its (ZEnd K news C) { s₁ with heap := h', toks := tk } :=
  ⟨h', tk, m', news, rfl, F, cb_drop N hs, off, ⟨hK, fun _ hp => hp, hC⟩⟩
local macro_rules | `(tactic| walk_at "UnrEndW") => `(tactic| k_extra "m47")
theorem word47 : True := by
  k_with "m47" => ((refine' z_end ?m47F ?m47N ?m47s ?m47o ?m47k ?_; (case m47F => k_asm); (case m47N => k_asm); (case m47s => kcj_all); (case m47o => exact off5 (by assumption)); (case m47k => with_unfolding_all rfl)))
  exact trivial
def mMeets (free : List Int) (ns ks : List Int) : Bool := (ns.zip ks).all fun p => decide (p.1 = p.2) || (free.any fun z => z == p.1) || (free.any fun z => z == p.2)
abbrev mC (free : List Int) (x y : Int) : Prop := x = y ∨ (free.any fun z => z == x) = true ∨ (free.any fun z => z == y) = true
theorem meets_no {free ns ks : List Int} {x y : Int} (h : (x, y) ∈ ns.zip ks) (h1 : x ≠ y) (h2 : (free.any fun z => z == x) = false) (h3 : (free.any fun z => z == y) = false) : false = mMeets free ns ks := by
  symm
  unfold mMeets
  rw [List.all_eq_false]
  refine ⟨(x, y), h, ?_⟩
  simp only [h2, h3, Bool.or_false, decide_eq_true_eq]
  exact h1
theorem meets_yes {free ns ks : List Int} (h : ∀ p ∈ ns.zip ks, mC free p.1 p.2) : true = mMeets free ns ks := by
  symm
  unfold mMeets
  rw [List.all_eq_true]
  intro p hp
  rcases h p hp with e | e | e
  · simp [e]
  · simp only [e, Bool.or_true, Bool.true_or]
  · simp only [e, Bool.or_true]
theorem retB {news : Led} {x y : Bool} {h₀ h' : Heap} {L : Addr} {m : Str → Option Value} {s : Shared} {Q : Value → Shared → Prop} {tk' : Nat} (hret : RetBool news x h₀ L m s Q) (F : Fr h₀ L h' m) (N : News h₀ L h' news) (e : y = x) : Q (.bool y) { s with heap := h', toks := tk' } := by
  subst e
  exact hret h' tk' F N
theorem c_meets_case {w : World} {mean : ExcName → Option Value} {mg mb : Str → Option Value} (tkk : Tok) (P R : Addr) (vs us : List Value) (ns ks : List Int) (c d : Nat) (news : Led) (hP : (P, listOf vs.toArray c) ∈ news) (hR : (R, listOf us.toArray d) ∈ news) (hI : IntsAre vs ns) (hJ : IntsAre us ks) :
   Cl w mean mg mb 0 259 [.str (Str.ofString "case") tkk, .ref P, .ref R] (PreN news) (RetBool news (mMeets [] ns ks)) := by
  unfold Cl; k_fill
  intro dp un gd cn cs a ccd cl outer A₀ base h₀ L m s Q E B F X N T hk hd' hu' hret
  refine wpAny_call ?_
  k_dflt cell_enter
  k_steps
  with_unfolding_all refine' zip_ind (fun m => m (Str.ofString "kind") = some (Value.str (Str.ofString "case") tkk)) (mC []) ?k ?t ?f hI hJ (fun _ h => h) (fun _ h => Or.inl h) ?K
  case K => with_unfolding_all rfl
  case k => exact ⟨hP, hR, True.intro⟩
  case t =>
    intro x y t1 t2 T m1 h1 tk1 hxy hK1 hT F1
    rw [set_same hK1] at F1
    ktu_objs
    k_steps
    all_goals (try walk_at "UnrEndW")
    all_goals first
      | exact Or.inl (by assumption)
      | exact Or.inr (Or.inl (by assumption))
      | exact Or.inr (Or.inr (by assumption))
      | exact retB hret (by k_asm) (cb_drop (by k_asm) (by kcj_all)) (meets_no hxy (by assumption) (by first | rfl | assumption) (by first | rfl | assumption))
     
  case f =>
    intro hall m1 h1 tk1 hK1 F1 N1
    k_steps
    all_goals first | exact retB hret (by k_asm) (cb_drop (by k_asm) (by kcj_all)) (meets_yes hall)
theorem c_meets_casez {w : World} {mean : ExcName → Option Value} {mg mb : Str → Option Value} (tkk : Tok) (P R : Addr) (vs us : List Value) (ns ks : List Int) (c d : Nat) (news : Led) (hP : (P, listOf vs.toArray c) ∈ news) (hR : (R, listOf us.toArray d) ∈ news) (hI : IntsAre vs ns) (hJ : IntsAre us ks) :
   Cl w mean mg mb 0 259 [.str (Str.ofString "casez") tkk, .ref P, .ref R] (PreN news) (RetBool news (mMeets [2] ns ks)) := by
  unfold Cl; k_fill
  intro dp un gd cn cs a ccd cl outer A₀ base h₀ L m s Q E B F X N T hk hd' hu' hret
  refine wpAny_call ?_
  k_dflt cell_enter
  k_steps
  with_unfolding_all refine' zip_ind (fun m => m (Str.ofString "kind") = some (Value.str (Str.ofString "casez") tkk)) (mC [2]) ?k ?t ?f hI hJ (fun _ h => h) (fun _ h => Or.inl h) ?K
  case K => with_unfolding_all rfl
  case k => exact ⟨hP, hR, True.intro⟩
  case t =>
    intro x y t1 t2 T m1 h1 tk1 hxy hK1 hT F1
    rw [set_same hK1] at F1
    ktu_objs
    k_steps
    all_goals (try walk_at "UnrEndW")
    all_goals first
      | exact Or.inl (by assumption)
      | exact Or.inr (Or.inl (by assumption))
      | exact Or.inr (Or.inr (by assumption))
      | exact retB hret (by k_asm) (cb_drop (by k_asm) (by kcj_all)) (meets_no hxy (by assumption) (by first | rfl | assumption) (by first | rfl | assumption))
     
  case f =>
    intro hall m1 h1 tk1 hK1 F1 N1
    k_steps
    all_goals first | exact retB hret (by k_asm) (cb_drop (by k_asm) (by kcj_all)) (meets_yes hall)
theorem c_meets_casex {w : World} {mean : ExcName → Option Value} {mg mb : Str → Option Value} (tkk : Tok) (P R : Addr) (vs us : List Value) (ns ks : List Int) (c d : Nat) (news : Led) (hP : (P, listOf vs.toArray c) ∈ news) (hR : (R, listOf us.toArray d) ∈ news) (hI : IntsAre vs ns) (hJ : IntsAre us ks) :
   Cl w mean mg mb 0 259 [.str (Str.ofString "casex") tkk, .ref P, .ref R] (PreN news) (RetBool news (mMeets [2, 3] ns ks)) := by
  unfold Cl; k_fill
  intro dp un gd cn cs a ccd cl outer A₀ base h₀ L m s Q E B F X N T hk hd' hu' hret
  refine wpAny_call ?_
  k_dflt cell_enter
  k_steps
  with_unfolding_all refine' zip_ind (fun m => m (Str.ofString "kind") = some (Value.str (Str.ofString "casex") tkk)) (mC [2, 3]) ?k ?t ?f hI hJ (fun _ h => h) (fun _ h => Or.inl h) ?K
  case K => with_unfolding_all rfl
  case k => exact ⟨hP, hR, True.intro⟩
  case t =>
    intro x y t1 t2 T m1 h1 tk1 hxy hK1 hT F1
    rw [set_same hK1] at F1
    ktu_objs
    k_steps
    all_goals (try walk_at "UnrEndW")
    all_goals first
      | exact Or.inl (by assumption)
      | exact Or.inr (Or.inl (by assumption))
      | exact Or.inr (Or.inr (by assumption))
      | exact retB hret (by k_asm) (cb_drop (by k_asm) (by kcj_all)) (meets_no hxy (by assumption) (by first | rfl | assumption) (by first | rfl | assumption))
     
  case f =>
    intro hall m1 h1 tk1 hK1 F1 N1
    k_steps
    all_goals first | exact retB hret (by k_asm) (cb_drop (by k_asm) (by kcj_all)) (meets_yes hall)
end
end
theorem fresh20 : True := by
  w_top off
  k_with_none
  (try walk1)
  exact trivial
/-- a zip that has handed out a tuple which is still held -/
abbrev IsZ2 (h : Heap) (z TI TO a : Addr) (f : Bool) : Prop :=
  h.get? z = some { cls := .type "zip", dict := none, data := .fields #[rawInt a, .bool f, .bool false, .ref TI, .ref TO], slots := #[] }
section
variable {prog : Program} {w : World} {A : Around} {E : Value → Shared → Prop} {s : Shared}
theorem z_alive {a : Addr} {o : Obj} {Q : Option Obj → Shared → Prop} (ho : s.heap.get? a = some o) (h : Q (some o) s) : wpAny (model prog w) A (loadIfAlive a) Q E s := by
  have h' : Q (s.heap.get? a) s := by rw [ho]; exact h
  exact fun _ _ _ => h'
theorem z_free {z TI TO a0 : Addr} {f : Bool} {oa : Obj} (hz : IsZ2 s.heap z TI TO a0 f) (ha : s.heap.get? a0 = some oa) :
    wpAny (model prog w) A (Builtin.SmallTypes.ownedTupleIsFree (.ref z)) (fun b s' => b = false ∧ ∃ h₁, s' = { s with heap := h₁ } ∧ IsZ2 h₁ z TI TO a0 true ∧ Heap.SameBut z s.heap h₁) E s := by
  unfold Builtin.SmallTypes.ownedTupleIsFree
  refine wpAny_bind (wpAny_field hz rfl (x := rawInt a0) rfl ?_)
  show wpAny _ _ (loadIfAlive ((a0 : Int).toNat) >>= _) _ _ _
  rw [Int.toNat_natCast]
  refine wpAny_bind (z_alive ha ?_)
  simp only [Option.isNone_some, Bool.false_eq_true, if_false]
  refine wpAny_bind (wpAny_field hz rfl (x := .bool f) rfl ?_)
  cases f with
  | true =>
    rw [if_neg (show ¬ ((Value.bool true != Value.bool true) = true) from Bool.false_ne_true)]
    exact wpAny_pure ⟨rfl, _, rfl, hz, Heap.SameBut.refl _ _⟩
  | false =>
    rw [if_pos (show (Value.bool false != Value.bool true) = true from rfl)]
    refine wpAny_bind (wpAny_setField_rec hz (by simp) fun h₃ he₃ hs₃ => ?_)
    exact wpAny_pure ⟨rfl, _, rfl, he₃, hs₃⟩
theorem z_next_out {z TI TO i1 i2 l1 l2 a0 : Addr} {f : Bool} {oa : Obj} {k1 k2 : Nat} {xs ys : Array Value} {x y : Value} {Q : Value → Shared → Prop} (D : ZipApart z TI TO i1 i2 l1 l2)
    (hz : IsZ2 s.heap z TI TO a0 f) (ha : s.heap.get? a0 = some oa) (hTI : IsPair s.heap TI (.ref i1) (.ref i2))
    (h1 : s.heap.IsListIter i1 l1 k1) (h2 : s.heap.IsListIter i2 l2 k2) (hl1 : s.heap.IsList l1 xs) (hl2 : s.heap.IsList l2 ys) (hx : xs[k1]? = some x) (hy : ys[k2]? = some y)
    (hQ : ∀ h', IsZ2 h' z TI TO a0 true → h'.IsListIter i1 l1 (k1 + 1) → h'.IsListIter i2 l2 (k2 + 1) → IsPair h' s.heap.objs.size x y → h'.objs.size = s.heap.objs.size + 1 →
      (∀ c o, c ≠ z → c ≠ i1 → c ≠ i2 → s.heap.get? c = some o → h'.get? c = some o) → Q (.ref s.heap.objs.size) { s with heap := h' }) :
    wpAny (model prog w) A (Builtin.«zip.__next__» ⟨[.ref z], []⟩) (fun fin s' => ∃ v, fin = .done (.ret v) ∧ Q v s') E s := by
  show wpAny _ _ (field (.ref z) 2 >>= _) _ _ _
  refine wpAny_bind (wpAny_field hz rfl (x := .bool false) rfl ?_)
  show wpAny _ _ (field (.ref z) 3 >>= _) _ _ _
  refine wpAny_bind (wpAny_field hz rfl (x := .ref TI) rfl ?_)
  refine wpAny_bind (wpAny_seqItems hTI rfl ?_)
  show wpAny _ _ (Builtin.SmallTypes.ownedTupleIsFree (.ref z) >>= _) _ _ _
  have hfree := z_free (prog := prog) (w := w) (A := A) (E := E) hz ha
  refine wpAny_bind (wpAny_mono hfree (fun b s₁ hb => ?_) fun _ _ e => e)
  obtain ⟨rfl, h₁, rfl, hz₁, hs₁⟩ := hb
  simp only [Bool.false_eq_true, if_false]
  simp only [List.forIn_toArray, List.forIn_cons, List.forIn_nil]
  refine wpAny_bind (wpAny_bind (wpAny_bind (wpAny_holding ?_)))
  show wpAny _ _ (Builtin.SmallTypes.nextOf (.ref i1) >>= _) _ _ _
  refine wpAny_bind (wpAny_nextOf_list_item (h1.extBut hs₁.extBut D.i1z) (hl1.extBut hs₁.extBut D.l1z) hx fun h₂ h1₂ hs₂ => wpAny_pure (wpAny_pure ?_))
  refine wpAny_bind (wpAny_bind (wpAny_holding ?_))
  show wpAny _ _ (Builtin.SmallTypes.nextOf (.ref i2) >>= _) _ _ _
  refine wpAny_bind (wpAny_nextOf_list_item ((h2.extBut hs₁.extBut D.i2z).extBut hs₂.extBut D.i12.symm) ((hl2.extBut hs₁.extBut D.l2z).extBut hs₂.extBut D.l2i1) hy fun h₃ h2₃ hs₃ => wpAny_pure (wpAny_pure (wpAny_pure ?_)))
  refine wpAny_bind (wpAny_newTuple (hsz := Nat.le_of_ble_eq_true rfl) ?_)
  have hsz : h₃.objs.size = s.heap.objs.size := by rw [hs₃.1, hs₂.1, hs₁.1]
  have hz₃ : IsZ2 h₃ z TI TO a0 true := hs₃.extBut _ _ D.i2z.symm (hs₂.extBut _ _ D.i1z.symm hz₁)
  have up : ∀ c o, h₃.get? c = some o → (h₃.push { cls := .type "tuple", data := .seq ([x, y] : List Value).toArray }).get? c = some o := fun c o e => Heap.get?_push_of_some _ e
  refine wpAny_pure ⟨_, rfl, ?_⟩
  show Q (.ref h₃.objs.size) _
  rw [hsz]
  refine hQ _ (up _ _ hz₃) ((h1₂.extBut hs₃.extBut D.i12).at fun o e => up _ o e) (h2₃.at fun o e => up _ o e) (by rw [← hsz]; exact Heap.get?_push_size _ rfl) (by rw [Heap.size_push, hsz]) fun c o c1 c2 c3 e => up c o (hs₃.extBut _ _ c3 (hs₂.extBut _ _ c2 (hs₁.extBut _ _ c1 e)))
theorem z_pyNext_out {z TI TO i1 i2 l1 l2 a0 : Addr} {f : Bool} {oa : Obj} {k1 k2 : Nat} {xs ys : Array Value} {x y : Value} {Q : Option Value → Shared → Prop} (D : ZipApart z TI TO i1 i2 l1 l2)
    (hz : IsZ2 s.heap z TI TO a0 f) (ha : s.heap.get? a0 = some oa) (hTI : IsPair s.heap TI (.ref i1) (.ref i2))
    (h1 : s.heap.IsListIter i1 l1 k1) (h2 : s.heap.IsListIter i2 l2 k2) (hl1 : s.heap.IsList l1 xs) (hl2 : s.heap.IsList l2 ys) (hx : xs[k1]? = some x) (hy : ys[k2]? = some y)
    (hQ : ∀ h', IsZ2 h' z TI TO a0 true → h'.IsListIter i1 l1 (k1 + 1) → h'.IsListIter i2 l2 (k2 + 1) → IsPair h' s.heap.objs.size x y → h'.objs.size = s.heap.objs.size + 1 →
      (∀ c o, c ≠ z → c ≠ i1 → c ≠ i2 → s.heap.get? c = some o → h'.get? c = some o) → Q (some (.ref s.heap.objs.size)) { s with heap := h' }) :
    wpAny (model prog w) A (pyNext (.ref z)) Q E s := by
  have hT : s.TypeIs (.ref z) "zip" := ⟨_, hz, rfl⟩
  unfold pyNext
  exact wpAny_bind (wpAny_attempt (wpAny_callSpecial?_slot (name := Str.ofString "__next__") hT PySem.F.slot_zip_next
    (wpAny_call_entry PySem.F.slot_zip_next hT PySem.F.entry_zip_next
      (z_next_out D hz ha hTI h1 h2 hl1 hl2 hx hy fun h' a1 a2 a3 a4 a5 a6 => wpAny_pure (hQ h' a1 a2 a3 a4 a5 a6)) (PySem.F.args_zip_next_1 _))))
theorem z_next_end {z TI TO i1 i2 l1 l2 a0 : Addr} {f : Bool} {oa : Obj} {k1 : Nat} {xs : Array Value} {Q : Fin → Shared → Prop} (hh : A.handled = none) (D : ZipApart z TI TO i1 i2 l1 l2)
    (hz : IsZ2 s.heap z TI TO a0 f) (ha : s.heap.get? a0 = some oa) (hTI : IsPair s.heap TI (.ref i1) (.ref i2))
    (h1 : s.heap.IsListIter i1 l1 k1) (hl1 : s.heap.IsList l1 xs) (hx : xs[k1]? = none)
    (hE : ∀ h' e, (∀ c o, c ≠ z → c ≠ i1 → s.heap.get? c = some o → h'.get? c = some o) → (∃ o, h'.get? e = some o ∧ o.cls = .type "StopIteration") → E (.ref e) { s with heap := h' }) :
    wpAny (model prog w) A (Builtin.«zip.__next__» ⟨[.ref z], []⟩) Q E s := by
  show wpAny _ _ (field (.ref z) 2 >>= _) _ _ _
  refine wpAny_bind (wpAny_field hz rfl (x := .bool false) rfl ?_)
  show wpAny _ _ (field (.ref z) 3 >>= _) _ _ _
  refine wpAny_bind (wpAny_field hz rfl (x := .ref TI) rfl ?_)
  refine wpAny_bind (wpAny_seqItems hTI rfl ?_)
  show wpAny _ _ (Builtin.SmallTypes.ownedTupleIsFree (.ref z) >>= _) _ _ _
  refine wpAny_bind (wpAny_mono (z_free (prog := prog) (w := w) (A := A) (E := E) hz ha) (fun b s₁ hb => ?_) fun _ _ e => e)
  obtain ⟨rfl, h₁, rfl, hz₁, hs₁⟩ := hb
  simp only [Bool.false_eq_true, if_false]
  simp only [List.forIn_toArray, List.forIn_cons, List.forIn_nil]
  refine wpAny_bind (wpAny_bind (wpAny_bind (wpAny_holding ?_)))
  show wpAny _ _ (Builtin.SmallTypes.nextOf (.ref i1) >>= _) _ _ _
  exact wpAny_bind (wpAny_nextOf_list_end hh (h1.extBut hs₁.extBut D.i1z) (hl1.extBut hs₁.extBut D.l1z) hx fun h₂ e hs₂ he =>
    hE h₂ e (fun c o c1 c2 x => hs₂ _ _ c2 (hs₁.extBut _ _ c1 x)) he)
theorem z_pyNext_end {z TI TO i1 i2 l1 l2 a0 : Addr} {f : Bool} {oa : Obj} {k1 : Nat} {xs : Array Value} {Q : Option Value → Shared → Prop} (hh : A.handled = none) (D : ZipApart z TI TO i1 i2 l1 l2)
    (hz : IsZ2 s.heap z TI TO a0 f) (ha : s.heap.get? a0 = some oa) (hTI : IsPair s.heap TI (.ref i1) (.ref i2))
    (h1 : s.heap.IsListIter i1 l1 k1) (hl1 : s.heap.IsList l1 xs) (hx : xs[k1]? = none)
    (hQ : ∀ h', (∀ c o, c ≠ z → c ≠ i1 → s.heap.get? c = some o → h'.get? c = some o) → Q none { s with heap := h' }) :
    wpAny (model prog w) A (pyNext (.ref z)) Q E s := by
  have hT : s.TypeIs (.ref z) "zip" := ⟨_, hz, rfl⟩
  unfold pyNext
  refine wpAny_bind (wpAny_attempt (wpAny_callSpecial?_slot (name := Str.ofString "__next__") hT PySem.F.slot_zip_next
    (wpAny_call_entry PySem.F.slot_zip_next hT PySem.F.entry_zip_next (z_next_end hh D hz ha hTI h1 hl1 hx fun h' e hk he => ?_) (PySem.F.args_zip_next_1 _))))
  obtain ⟨o, ho, hc⟩ := he
  refine wpAny_bind (wpAny_isInstance (T := "StopIteration") (b := true) ⟨o, ho, hc⟩ isSubtype_stop ?_)
  exact wpAny_pure (hQ _ hk)
end
/-- the zip's state between two turns of a list that takes all its tuples -/
structure ZSt (h : Heap) (z TI TO i1 i2 l1 l2 S : Addr) (xs ys : Array Value) (i : Nat) : Prop where
  zo : (i = 0 ∧ IsZip h z TI TO .none) ∨ ∃ a f oa, IsZ2 h z TI TO a f ∧ h.get? a = some oa ∧ a ≠ z ∧ a ≠ i1 ∧ a ≠ i2 ∧ a ≠ S
  ti : IsPair h TI (.ref i1) (.ref i2)
  to : ∃ a b, IsPair h TO a b
  it1 : h.IsListIter i1 l1 i
  it2 : h.IsListIter i2 l2 i
  ls1 : h.IsList l1 xs
  ls2 : h.IsList l2 ys
/-- the tuples made so far, by their addresses -/
structure ZG (xs ys : Array Value) (lo : Addr) (h : Heap) (as : List Addr) : Prop where
  above : ∀ a ∈ as, lo < a
  pairs : ∀ (j : Nat) (a : Addr), as[j]? = some a → ∃ x y, xs[j]? = some x ∧ ys[j]? = some y ∧ h.get? a = some { cls := .type "tuple", data := .seq #[x, y] }
section
variable {prog : Program} {w : World} {A : Around} {E : Value → Shared → Prop} {s : Shared}
theorem z_item {z TI TO i1 i2 l1 l2 S : Addr} {i : Nat} {xs ys : Array Value} {x y : Value} {Q : Option Value → Shared → Prop} (D : ZipApart z TI TO i1 i2 l1 l2)
    (st : ZSt s.heap z TI TO i1 i2 l1 l2 S xs ys i) (hS : S < s.heap.objs.size) (hx : xs[i]? = some x) (hy : ys[i]? = some y)
    (hQ : ∀ h', ZSt h' z TI TO i1 i2 l1 l2 S xs ys (i + 1) → IsPair h' s.heap.objs.size x y → h'.objs.size = s.heap.objs.size + 1 →
      (∀ c o, c ≠ z → c ≠ TO → c ≠ i1 → c ≠ i2 → s.heap.get? c = some o → h'.get? c = some o) → Q (some (.ref s.heap.objs.size)) { s with heap := h' }) :
    wpAny (model prog w) A (pyNext (.ref z)) Q E s := by
  obtain ⟨zo, ti, ⟨a, b, to⟩, it1, it2, ls1, ls2⟩ := st
  have l1 : i1 < s.heap.objs.size := by obtain ⟨_, e, _⟩ := it1; exact Heap.lt_size e
  have l2 : i2 < s.heap.objs.size := by obtain ⟨_, e, _⟩ := it2; exact Heap.lt_size e
  rcases zo with ⟨rfl, hz⟩ | ⟨a0, f, oa, hz, ha, n1, n2, n3, n4⟩
  · exact wpAny_pyNext_zip_item D hz ti to it1 it2 ls1 ls2 hx hy fun h' a1 a2 a3 a4 a5 a6 hk =>
      hQ h' ⟨.inr ⟨_, false, _, a1, a5, Nat.ne_of_gt (Heap.lt_size hz), Nat.ne_of_gt l1, Nat.ne_of_gt l2, Nat.ne_of_gt hS⟩, hk _ _ D.TIz D.TITO D.TIi1 D.TIi2 ti, ⟨_, _, a2⟩, a3, a4, ls1.at fun o e => hk _ o D.l1z D.l1TO D.l1i1 D.l1i2 e, ls2.at fun o e => hk _ o D.l2z D.l2TO D.l2i1 D.l2i2 e⟩ a5 a6 hk
  · exact z_pyNext_out D hz ha ti it1 it2 ls1 ls2 hx hy fun h' a1 a3 a4 a5 a6 hk =>
      hQ h' ⟨.inr ⟨a0, true, oa, a1, hk _ _ n1 n2 n3 ha, n1, n2, n3, n4⟩, hk _ _ D.TIz D.TIi1 D.TIi2 ti, ⟨a, b, hk _ _ D.TOz D.TOi1 D.TOi2 to⟩, a3, a4, ls1.at fun o e => hk _ o D.l1z D.l1i1 D.l1i2 e, ls2.at fun o e => hk _ o D.l2z D.l2i1 D.l2i2 e⟩ a5 a6 fun c o c1 _ c3 c4 e => hk c o c1 c3 c4 e
theorem z_done {z TI TO i1 i2 l1 l2 S : Addr} {i : Nat} {xs ys : Array Value} {Q : Option Value → Shared → Prop} (hh : A.handled = none) (D : ZipApart z TI TO i1 i2 l1 l2)
    (st : ZSt s.heap z TI TO i1 i2 l1 l2 S xs ys i) (hx : xs[i]? = none)
    (hQ : ∀ h', (∀ c o, c ≠ z → c ≠ TO → c ≠ i1 → c ≠ i2 → s.heap.get? c = some o → h'.get? c = some o) → Q none { s with heap := h' }) :
    wpAny (model prog w) A (pyNext (.ref z)) Q E s := by
  obtain ⟨zo, ti, ⟨a, b, to⟩, it1, it2, ls1, ls2⟩ := st
  rcases zo with ⟨rfl, hz⟩ | ⟨a0, f, oa, hz, ha, n1, n2, n3, n4⟩
  · exact wpAny_pyNext_zip_end hh D hz ti to it1 it2 ls1 ls2 (.inl hx) hQ
  · exact z_pyNext_end hh D hz ha ti it1 ls1 hx fun h' hk => hQ h' fun c o c1 _ c3 _ e => hk c o c1 c3 e
theorem ZSt.keep {h h' : Heap} {z TI TO i1 i2 l1 l2 S : Addr} {xs ys : Array Value} {i : Nat} (st : ZSt h z TI TO i1 i2 l1 l2 S xs ys i) (hk : ∀ b o, b ≠ S → h.get? b = some o → h'.get? b = some o)
    (hz : z ≠ S) (hTI : TI ≠ S) (hTO : TO ≠ S) (h1 : i1 ≠ S) (h2 : i2 ≠ S) (h3 : l1 ≠ S) (h4 : l2 ≠ S) : ZSt h' z TI TO i1 i2 l1 l2 S xs ys i := by
  obtain ⟨zo, ti, ⟨a, b, to⟩, it1, it2, ls1, ls2⟩ := st
  refine ⟨?_, hk _ _ hTI ti, ⟨a, b, hk _ _ hTO to⟩, it1.at fun o e => hk _ o h1 e, it2.at fun o e => hk _ o h2 e, ls1.at fun o e => hk _ o h3 e, ls2.at fun o e => hk _ o h4 e⟩
  rcases zo with ⟨rfl, hz'⟩ | ⟨a0, f, oa, hz', ha, n1, n2, n3, n4⟩
  · exact .inl ⟨rfl, hk _ _ hz hz'⟩
  · exact .inr ⟨a0, f, oa, hk _ _ hz hz', hk _ _ n4 ha, n1, n2, n3, n4⟩
end
theorem zip_no_len : typeLookup (.type "zip") "__len__" = pure none := by rw [typeLookup_type, builtinLookup_eq_fast]; kernel_rfl
theorem zip_no_hint : typeLookup (.type "zip") "__length_hint__" = pure none := by rw [typeLookup_type, builtinLookup_eq_fast]; kernel_rfl
section
variable {prog : Program} {w : World} {A : Around} {E : Value → Shared → Prop} {s : Shared} {R : Result → Shared → Prop}
theorem z_loop {S z TI TO i1 i2 l1 l2 : Addr} {xs ys : Array Value} (hh : A.handled = none) (D : ZipApart z TI TO i1 i2 l1 l2) (zS : z ≠ S) (tiS : TI ≠ S) (toS : TO ≠ S) (i1S : i1 ≠ S) (i2S : i2 ≠ S) (l1S : l1 ≠ S) (l2S : l2 ≠ S)
    (zlt : z < S) (tolt : TO < S) (i1lt : i1 < S) (i2lt : i2 < S) (hn : xs.size ≤ sizeLine) (hxy : xs.size = ys.size) (res : Value) {h₁ : Heap}
    (hR : ∀ h' tk acc c as, (∀ b o, b ≠ S → b ≠ z → b ≠ TO → b ≠ i1 → b ≠ i2 → h₁.get? b = some o → h'.get? b = some o) → h'.get? S = some { cls := .type "list", dict := none, data := .seq acc c, slots := #[] } → as.length = xs.size → ZG xs ys S h' as →
      acc.toList = as.map Value.ref → R (.ok (.ret res)) { s with heap := h', toks := tk }) :
    ∀ (k i : Nat) (h : Heap) (tk c : Nat) (acc : Array Value) (as : List Addr), xs.size - i = k → i ≤ xs.size → ZSt h z TI TO i1 i2 l1 l2 S xs ys i → (∀ b o, b ≠ S → b ≠ z → b ≠ TO → b ≠ i1 → b ≠ i2 → h₁.get? b = some o → h.get? b = some o) →
      h.get? S = some { cls := .type "list", dict := none, data := .seq acc c, slots := #[] } → acc.toList = as.map Value.ref → as.length = i → ZG xs ys S h as →
      codeAny (model prog w) A (.builtin "list.extend.loop" ⟨[.ref S, .ref z, res], []⟩) R { s with heap := h, toks := tk } := by
  intro k
  induction k with
  | zero =>
    intro i h tk c acc as hk hi hst hkeep hS hacc hal hG
    have hin : i = xs.size := by omega
    refine codeAny_builtin PySem.F.entry_extend_loop ?_
    rw [Around.under_plainId PySem.F.plain_extend_loop _]
    show wpAny _ A.in1 (pyNext (.ref z) >>= _) _ _ _
    refine wpAny_bind (z_done (s := { s with heap := h, toks := tk }) (A := A.in1) hh D hst (Array.getElem?_eq_none (by omega)) fun h' he => ?_)
    refine wpAny_pure (hR h' tk acc c as (fun b o h0 h1 h2 h3 h4 e => he b o h1 h2 h3 h4 (hkeep b o h0 h1 h2 h3 h4 e)) (he S _ (Ne.symm zS) (Ne.symm toS) (Ne.symm i1S) (Ne.symm i2S) hS) (by omega) ⟨hG.above, fun j a hj => ?_⟩ hacc)
    obtain ⟨x, y, e1, e2, e3⟩ := hG.pairs j a hj
    have hb := hG.above a (List.mem_of_getElem? hj)
    exact ⟨x, y, e1, e2, he a _ (Nat.ne_of_gt (Nat.lt_trans zlt hb)) (Nat.ne_of_gt (Nat.lt_trans tolt hb)) (Nat.ne_of_gt (Nat.lt_trans i1lt hb)) (Nat.ne_of_gt (Nat.lt_trans i2lt hb)) e3⟩
  | succ k ih =>
    intro i h tk c acc as hk hi hst hkeep hS hacc hal hG
    have hlt : i < xs.size := by omega
    have hlt2 : i < ys.size := by omega
    have hsz : acc.size = i := by rw [← Array.length_toList, hacc, List.length_map, hal]
    have hSl : S < h.objs.size := Heap.lt_size hS
    refine codeAny_builtin PySem.F.entry_extend_loop ?_
    rw [Around.under_plainId PySem.F.plain_extend_loop _]
    show wpAny _ A.in1 (pyNext (.ref z) >>= _) _ _ _
    refine wpAny_bind (z_item (s := { s with heap := h, toks := tk }) (S := S) D hst hSl (Array.getElem?_eq_getElem hlt) (Array.getElem?_eq_getElem hlt2) fun h' hst' ht hz hkp => ?_)
    dsimp only at ht hz hkp ⊢
    have hS' := hkp S _ (Ne.symm zS) (Ne.symm toS) (Ne.symm i1S) (Ne.symm i2S) hS
    have up : ∀ b o, b ≠ S → h'.get? b = some o → (h'.update S (Obj.mapSeq (·.push (Value.ref h.objs.size)))).get? b = some o := fun b o hb e => (Heap.get?_update_other _ _ (Ne.symm hb)).trans e
    show wpAny _ A.in1 (updateSeq S (·.push (Value.ref h.objs.size)) >>= _) _ _ _
    refine wpAny_bind ?_
    refine wpAny_updateSeq hS' rfl (wpAny_pure ⟨plainId_quiet PySem.F.plain_extend_loop _, ih (i + 1) _ tk _ (acc.push (Value.ref h.objs.size)) (as ++ [h.objs.size]) (by omega) hlt (hst'.keep up zS tiS toS i1S i2S l1S l2S)
      (fun b o h0 h1 h2 h3 h4 e => up b o h0 (hkp b o h1 h2 h3 h4 (hkeep b o h0 h1 h2 h3 h4 e))) (Heap.get?_update_self _ hS' rfl) (by rw [Array.toList_push, hacc, List.map_append]; rfl) (by rw [List.length_append, hal]; rfl) ⟨?_, ?_⟩⟩) (by rw [hsz]; omega) (by show (acc.push (Value.ref h.objs.size)).size ≤ sizeLine + 1; rw [Array.size_push, hsz]; omega)
    · intro a ha
      rcases List.mem_append.mp ha with ha | ha
      · exact hG.above a ha
      · rw [List.mem_singleton.mp ha]; exact hSl
    · intro j b hj
      rcases Nat.lt_trichotomy j as.length with h1 | h1 | h1
      · rw [List.getElem?_append_left h1] at hj
        obtain ⟨x', y', e1, e2, e3⟩ := hG.pairs j b hj
        have hb := hG.above b (List.mem_of_getElem? hj)
        exact ⟨x', y', e1, e2, up b _ (Nat.ne_of_gt hb) (hkp b _ (Nat.ne_of_gt (Nat.lt_trans zlt hb)) (Nat.ne_of_gt (Nat.lt_trans tolt hb)) (Nat.ne_of_gt (Nat.lt_trans i1lt hb)) (Nat.ne_of_gt (Nat.lt_trans i2lt hb)) e3)⟩
      · subst h1
        have hb : h.objs.size = b := by simpa using hj
        subst hb
        exact ⟨xs[i], ys[i], by rw [hal]; exact Array.getElem?_eq_getElem hlt, by rw [hal]; exact Array.getElem?_eq_getElem hlt2, up _ _ (Nat.ne_of_gt hSl) ht⟩
      · have hnone : (as ++ [h.objs.size])[j]? = none := List.getElem?_eq_none (by rw [List.length_append, List.length_singleton]; omega)
        rw [hnone] at hj; cases hj
theorem z_hint {z : Addr} (hT : s.TypeIs (.ref z) "zip") {Q : Bool → Shared → Prop} (h : Q true s) : wpAny (model prog w) A (Builtin.List.listLengthHint (.ref z)) Q E s := by
  unfold Builtin.List.listLengthHint
  refine wpAny_bind (wpAny_specialOf hT zip_no_len ?_)
  show wpAny _ _ (specialOf (Value.ref z) (Str.ofString "__length_hint__") >>= _) _ _ _
  refine wpAny_bind (wpAny_specialOf hT zip_no_hint ?_)
  exact wpAny_pure h
theorem z_extend {S z TI TO i1 i2 l1 l2 : Addr} {xs ys : Array Value} (hh : A.handled = none) (D : ZipApart z TI TO i1 i2 l1 l2) (zS : z < S) (tiS : TI < S) (toS : TO < S) (i1S : i1 < S) (i2S : i2 < S) (l1S : l1 < S) (l2S : l2 < S)
    (hn : xs.size ≤ sizeLine) (hxy : xs.size = ys.size) (res : Value) (c₀ : Nat) (hS : s.heap.get? S = some { cls := .type "list", data := .seq #[] c₀ }) (st : ZSt s.heap z TI TO i1 i2 l1 l2 S xs ys 0) (hzo : IsZip s.heap z TI TO .none)
    (hR : ∀ h' tk acc c as, (∀ b o, b ≠ S → b ≠ z → b ≠ TO → b ≠ i1 → b ≠ i2 → s.heap.get? b = some o → h'.get? b = some o) → h'.get? S = some { cls := .type "list", dict := none, data := .seq acc c, slots := #[] } → as.length = xs.size → ZG xs ys S h' as →
      acc.toList = as.map Value.ref → R (.ok (.ret res)) { s with heap := h', toks := tk }) :
    wpAny (model prog w) A.in1 (Builtin.List.listExtendWith (.ref S) (.ref z) res)
      (fun fin s' => match fin with | .done f => R (.ok f) s' | .again c' => c'.quiet = true ∧ codeAny (model prog w) A c' R s') (fun e s' => R (.error e) s') s := by
  have hT : s.TypeIs (.ref z) "zip" := ⟨_, hzo, rfl⟩
  have hSz : S ≠ z := Nat.ne_of_gt zS
  have n0 := Nat.ne_of_lt zS
  have n1 := Nat.ne_of_lt tiS
  have n2 := Nat.ne_of_lt toS
  have n3 := Nat.ne_of_lt i1S
  have n4 := Nat.ne_of_lt i2S
  have n5 := Nat.ne_of_lt l1S
  have n6 := Nat.ne_of_lt l2S
  unfold Builtin.List.listExtendWith
  refine wpAny_bind (wpAny_typeOf (T := "zip") hT ?_)
  have h1 : Builtin.List.listSameRef (.ref S) (.ref z) = false := by simp [Builtin.List.listSameRef, hSz]
  have h2 : (Value.type "zip" == Value.type "list") = false := by decide
  have h3 : (Value.type "zip" == Value.type "tuple") = false := by decide
  simp only [h1, h2, h3, Bool.or_false, Bool.false_eq_true, if_false]
  refine wpAny_bind (wpAny_pyIter_zip hzo ?_)
  refine wpAny_bind (wpAny_holding (z_hint hT ?_))
  show wpAny _ A.in1 (rule "list.extend.makes-room" >>= fun _ => Builtin.List.listTouch (.ref S) >>= fun _ => again (.builtin "list.extend.loop" ⟨[.ref S, .ref z, res], []⟩)) _ _ _
  refine wpAny_bind (wpAny_rule ?_)
  refine wpAny_bind ?_
  show wpAny _ _ (updateSeq S (·.push .none) >>= fun _ => updateSeq S (·.pop)) _ _ _
  refine wpAny_bind (wpAny_updateSeq hS rfl ?_)
  have hS₂ := Heap.get?_update_self (Obj.mapSeq (·.push Value.none)) hS rfl
  refine wpAny_updateSeq (hz := by seq_fits) hS₂ rfl ?_
  have hS₃ := Heap.get?_update_self (Obj.mapSeq (·.pop)) hS₂ rfl
  have oth : ∀ b o, b ≠ S → s.heap.get? b = some o → ((s.heap.update S (Obj.mapSeq (·.push Value.none))).update S (Obj.mapSeq (·.pop))).get? b = some o := fun b o hb e =>
    (Heap.get?_update_other _ _ (Ne.symm hb)).trans ((Heap.get?_update_other _ _ (Ne.symm hb)).trans e)
  exact wpAny_pure ⟨plainId_quiet PySem.F.plain_extend_loop _, z_loop (s := s) (h₁ := s.heap) hh D n0 n1 n2 n3 n4 n5 n6 zS toS i1S i2S hn hxy res hR xs.size 0 _ s.toks _ #[] [] (Nat.sub_zero _) (Nat.zero_le _) (st.keep oth n0 n1 n2 n3 n4 n5 n6)
    (fun b o h0 _ _ _ _ e => oth b o h0 e) hS₃ rfl rfl ⟨(fun _ ha => nomatch ha), (fun j a hj => by simp at hj)⟩⟩
theorem z_init {S z TI TO i1 i2 l1 l2 : Addr} {xs ys : Array Value} (hh : A.handled = none) (D : ZipApart z TI TO i1 i2 l1 l2) (zS : z < S) (tiS : TI < S) (toS : TO < S) (i1S : i1 < S) (i2S : i2 < S) (l1S : l1 < S) (l2S : l2 < S)
    (hn : xs.size ≤ sizeLine) (hxy : xs.size = ys.size) (hS : s.heap.get? S = some { cls := .type "list", data := .seq #[] }) (st : ZSt s.heap z TI TO i1 i2 l1 l2 S xs ys 0) (hzo : IsZip s.heap z TI TO .none)
    (hR : ∀ h' tk acc c as, (∀ b o, b ≠ S → b ≠ z → b ≠ TO → b ≠ i1 → b ≠ i2 → s.heap.get? b = some o → h'.get? b = some o) → h'.get? S = some { cls := .type "list", dict := none, data := .seq acc c, slots := #[] } → as.length = xs.size → ZG xs ys S h' as →
      acc.toList = as.map Value.ref → R (.ok (.ret .none)) { s with heap := h', toks := tk }) :
    wpAny (model prog w) A.in1 (Builtin.«list.__init__» ⟨[.ref S, .ref z], []⟩)
      (fun fin s' => match fin with | .done f => R (.ok f) s' | .again c' => c'.quiet = true ∧ codeAny (model prog w) A c' R s') (fun e s' => R (.error e) s') s := by
  show wpAny _ _ (do let old ← Builtin.List.listItems (.ref S); Builtin.List.listUpdate (.ref S) (fun _ => #[]); letGo old.toList.reverse; Builtin.List.listExtendWith (.ref S) (.ref z) .none) _ _ s
  refine wpAny_bind ?_
  unfold Builtin.List.listItems
  refine wpAny_bind (wpAny_seqItems hS rfl (wpAny_pure ?_))
  show wpAny _ _ (updateSeq S (fun _ => #[]) >>= fun _ => letGo (#[] : Array Value).toList.reverse >>= fun _ => Builtin.List.listExtendWith (.ref S) (.ref z) .none) _ _ s
  refine wpAny_bind (wpAny_updateSeq hS rfl ?_)
  have hS₂ := Heap.get?_update_self (Obj.mapSeq (fun _ => (#[] : Array Value))) hS rfl
  have oth : ∀ b o, b ≠ S → s.heap.get? b = some o → (s.heap.update S (Obj.mapSeq (fun _ => (#[] : Array Value)))).get? b = some o :=
    fun b o hb e => (Heap.get?_update_other _ _ (Ne.symm hb)).trans e
  refine wpAny_bind (wpAny_letGo ?_)
  exact z_extend hh D zS tiS toS i1S i2S l1S l2S hn hxy .none _ hS₂ (st.keep oth (Nat.ne_of_lt zS) (Nat.ne_of_lt tiS) (Nat.ne_of_lt toS) (Nat.ne_of_lt i1S) (Nat.ne_of_lt i2S) (Nat.ne_of_lt l1S) (Nat.ne_of_lt l2S)) (oth _ _ (Nat.ne_of_lt zS) hzo) (fun h' tk acc c as hk hS' hl hG hacc =>
    hR h' tk acc c as (fun b o h0 h1 h2 h3 h4 e => hk b o h0 h1 h2 h3 h4 (oth b o h0 e)) hS' hl hG hacc)
theorem z_call {z TI TO i1 i2 l1 l2 : Addr} {xs ys : Array Value} {Q : Value → Shared → Prop} (hh : A.handled = none) (D : ZipApart z TI TO i1 i2 l1 l2)
    (hn : xs.size ≤ sizeLine) (hxy : xs.size = ys.size) (hzo : IsZip s.heap z TI TO .none) (hTI : IsPair s.heap TI (.ref i1) (.ref i2)) (hTO : ∃ a b, IsPair s.heap TO a b) (h1 : s.heap.IsListIter i1 l1 0) (h2 : s.heap.IsListIter i2 l2 0) (hl1 : s.heap.IsList l1 xs) (hl2 : s.heap.IsList l2 ys)
    (hQ : ∀ h' tk acc c as, (∀ b o, b ≠ z → b ≠ TO → b ≠ i1 → b ≠ i2 → s.heap.get? b = some o → h'.get? b = some o) → h'.get? s.heap.objs.size = some { cls := .type "list", dict := none, data := .seq acc c, slots := #[] } → as.length = xs.size → ZG xs ys s.heap.objs.size h' as →
      acc.toList = as.map Value.ref → Q (.ref s.heap.objs.size) { s with heap := h', toks := tk }) :
    wpAny (model prog w) A (call (.type "list") [.ref z]) Q E s := by
  refine callType_codes (Q₁ := fun obj s₁ => obj = .ref s.heap.objs.size ∧ s₁ = { s with heap := s.heap.push { cls := .type "list", data := .seq #[] } }) PySem.F.called_list (PySem.F.typeCall_list_1 _) PySem.F.entry_list_init
    (code_list_new _ ⟨rfl, rfl⟩) fun obj s₁ h₁ => ?_
  obtain ⟨rfl, rfl⟩ := h₁
  have hS : (s.heap.push { cls := .type "list", data := .seq #[] }).get? s.heap.objs.size = some { cls := .type "list", data := .seq #[] } := Heap.get?_push_size _ rfl
  have up : ∀ b o, s.heap.get? b = some o → (s.heap.push { cls := .type "list", data := .seq #[] }).get? b = some o := fun b o e => Heap.get?_push_of_some _ e
  have zS : z < s.heap.objs.size := Heap.lt_size hzo
  have tiS : TI < s.heap.objs.size := Heap.lt_size hTI
  have toS : TO < s.heap.objs.size := by obtain ⟨_, _, e⟩ := hTO; exact Heap.lt_size e
  have i1S : i1 < s.heap.objs.size := by obtain ⟨_, e, _⟩ := h1; exact Heap.lt_size e
  have i2S : i2 < s.heap.objs.size := by obtain ⟨_, e, _⟩ := h2; exact Heap.lt_size e
  have l1S : l1 < s.heap.objs.size := by obtain ⟨_, e, _⟩ := hl1; exact Heap.lt_size e
  have l2S : l2 < s.heap.objs.size := by obtain ⟨_, e, _⟩ := hl2; exact Heap.lt_size e
  have st : ZSt (s.heap.push { cls := .type "list", data := .seq #[] }) z TI TO i1 i2 l1 l2 s.heap.objs.size xs ys 0 :=
    ⟨.inl ⟨rfl, up _ _ hzo⟩, up _ _ hTI, (by obtain ⟨a, b, e⟩ := hTO; exact ⟨a, b, up _ _ e⟩), h1.at fun o e => up _ o e, h2.at fun o e => up _ o e, hl1.at fun o e => up _ o e, hl2.at fun o e => up _ o e⟩
  refine ⟨⟨_, hS, rfl⟩, PySem.F.args_list_init_2 _ _, z_init (A := A.in1) hh D zS tiS toS i1S i2S l1S l2S hn hxy hS st (up _ _ hzo) (fun h' tk acc c as hk hS' hl hG hacc => ?_)⟩
  exact ⟨rfl, hQ h' tk acc c as (fun b o h1 h2 h3 h4 e => hk b o (Nat.ne_of_lt (Heap.lt_size e)) h1 h2 h3 h4 (up b o e)) hS' hl hG hacc⟩
end
theorem fresh21 : True := by
  w_top off
  (try walk1)
  exact trivial
/-- a fresh zip over two lists of the ledger, apart from all that the ledger holds -/
def ZipIs (h₀ : Heap) (L : Addr) (news : Led) (h : Heap) (z : Addr) (xs ys : Array Value) : Prop :=
  ∃ TI TO i1 i2 l1 l2, ZipApart z TI TO i1 i2 l1 l2 ∧ IsZip h z TI TO .none ∧ IsPair h TI (.ref i1) (.ref i2) ∧ (∃ a b, IsPair h TO a b) ∧ h.IsListIter i1 l1 0 ∧ h.IsListIter i2 l2 0 ∧ h.IsList l1 xs ∧ h.IsList l2 ys ∧
    (∀ q ∈ [z, TO, i1, i2], h₀.get? q = none ∧ L ≠ q ∧ ∀ p ∈ news, p.1 ≠ q)
/-- the pairs' list: its items, and the tuples of the ledger that they are -/
structure PairsOf (news : Led) (ps : List Value) (as bs : List Int) : Prop where
  len : ps.length = as.length
  leq : as.length = bs.length
  at' : ∀ (i : Nat) (v : Value), ps[i]? = some v → ∃ T x y t1 t2, v = .ref T ∧ as[i]? = some x ∧ bs[i]? = some y ∧ (T, ({ cls := .type "tuple", data := .seq #[.int x t1, .int y t2] } : Obj)) ∈ news
section
variable {prog : Program} {w : World} {A : Around} {E : Value → Shared → Prop} {s : Shared} {h₀ : Heap} {L : Addr} {m : Str → Option Value} {news : Led}
theorem w_zip {l1 l2 : Addr} {vs us : List Value} {n1 n2 : Nat} {Q : Value → Shared → Prop} (F : Fr h₀ L s.heap m) (N : News h₀ L s.heap news) (hm1 : (l1, listOf vs.toArray n1) ∈ news) (hm2 : (l2, listOf us.toArray n2) ∈ news)
    (h : ∀ z h', ZipIs h₀ L news h' z vs.toArray us.toArray → Fr h₀ L h' m → News h₀ L h' news → Q (.ref z) { s with heap := h' }) :
    wpAny (model prog w) A (call (.type "zip") [.ref l1, .ref l2]) Q E s := by
  have q1 := N _ hm1
  have q2 := N _ hm2
  have hl1 : s.heap.IsList l1 vs.toArray := ⟨_, q1.1, rfl, _, rfl⟩
  have hl2 : s.heap.IsList l2 us.toArray := ⟨_, q2.1, rfl, _, rfl⟩
  have a1 : l1 < s.heap.objs.size := Heap.lt_size q1.1
  have a2 : l2 < s.heap.objs.size := Heap.lt_size q2.1
  have fresh : ∀ a, s.heap.objs.size ≤ a → h₀.get? a = none ∧ L ≠ a ∧ ∀ p ∈ news, p.1 ≠ a := fun a ha =>
    ⟨ktu_new F ha, Nat.ne_of_lt (Nat.lt_of_lt_of_le F.ns.lt ha), fun p hp => Nat.ne_of_lt (Nat.lt_of_lt_of_le (Heap.lt_size (N p hp).1) ha)⟩
  refine call_zip_2 hl1 hl2 fun h' hz hTI hTO hi1 hi2 _ hk => h _ h' ⟨_, _, _, _, l1, l2, zipApart_new a1 a2, hz, hTI, ⟨_, _, hTO⟩, hi1, hi2, Heap.IsList.at hl1 (fun o e => hk _ o e), Heap.IsList.at hl2 (fun o e => hk _ o e), fun q hq => ?_⟩ (F.keeps hk) (N.grown hk)
  rcases List.mem_cons.mp hq with rfl | hq
  · exact fresh _ (Nat.le_add_right _ 4)
  rcases List.mem_cons.mp hq with rfl | hq
  · exact fresh _ (Nat.le_add_right _ 3)
  rcases List.mem_cons.mp hq with rfl | hq
  · exact fresh _ (Nat.le_refl _)
  rcases List.mem_cons.mp hq with rfl | hq
  · exact fresh _ (Nat.le_add_right _ 1)
  · cases hq
theorem w_listzip {z : Addr} {vs us : List Value} {as bs : List Int} {Q : Value → Shared → Prop} (hh : A.handled = none) (F : Fr h₀ L s.heap m) (N : News h₀ L s.heap news) (Z : ZipIs h₀ L news s.heap z vs.toArray us.toArray)
    (hI : IntsAre vs as) (hJ : IntsAre us bs) (hn : as.length ≤ 1000) (hl : as.length = bs.length)
    (h : ∀ D (tups : Led) ps c h' tk', Fr h₀ L h' m → News h₀ L h' ((D, listOf ps.toArray c) :: (tups ++ news)) → PairsOf tups ps as bs → (∀ p ∈ news, p.1 < D) → Q (.ref D) { s with heap := h', toks := tk' }) :
    wpAny (model prog w) A (call (.type "list") [.ref z]) Q E s := by
  obtain ⟨TI, TO, i1, i2, l1, l2, Dp, hz, hTI, hTO, h1, h2, hl1, hl2, off⟩ := Z
  have e1 := hI.length
  have e2 := hJ.length
  refine z_call hh Dp (by rw [List.size_toArray, sizeLine_eq]; omega) (by rw [List.size_toArray, List.size_toArray]; omega) hz hTI hTO h1 h2 hl1 hl2 fun h' tk' acc c as' hk hD hlen hG hacc => ?_
  have keep : ∀ b o, (∀ q ∈ [z, TO, i1, i2], b ≠ q) → s.heap.get? b = some o → h'.get? b = some o := fun b o hb e => hk b o (hb z (by simp)) (hb TO (by simp)) (hb i1 (by simp)) (hb i2 (by simp)) e
  have up0 : ∀ b o, h₀.get? b = some o → h'.get? b = some o := fun b o e => keep b o (fun q hq r => by rw [r, (off q hq).1] at e; cases e) (F.keep b o e)
  have F' : Fr h₀ L h' m := ⟨F.ns.at' fun o e => keep L o (fun q hq => (off q hq).2.1) e, up0, F.above⟩
  have N' : News h₀ L h' news := fun p hp => ⟨keep _ _ (fun q hq => (off q hq).2.2 p hp) (N p hp).1, (N p hp).2⟩
  have fresh : ∀ a, s.heap.objs.size ≤ a → a ≠ L ∧ h₀.get? a = none := fun a ha => ⟨Nat.ne_of_gt (Nat.lt_of_lt_of_le F.ns.lt ha), ktu_new F ha⟩
  have ezero : (acc.toList).toArray = acc := Array.toArray_toList
  refine h s.heap.objs.size (as'.map fun a => (a, (h'.get? a).getD (listOf #[] 0))) acc.toList c h' tk' F' (fun p hp => ?_) ⟨?_, hl, fun i v hv => ?_⟩ fun p hp => Heap.lt_size (N p hp).1
  · rcases List.mem_cons.mp hp with rfl | hp
    · exact ⟨by rw [ezero]; exact hD, fresh _ (Nat.le_refl _)⟩
    · rcases List.mem_append.mp hp with hp | hp
      · obtain ⟨a, ha, rfl⟩ := List.mem_map.mp hp
        obtain ⟨j, hj⟩ := List.mem_iff_getElem?.mp ha
        obtain ⟨x, y, _, _, e3⟩ := hG.pairs j a hj
        exact ⟨by rw [e3]; rfl, fresh _ (Nat.le_of_lt (hG.above a ha))⟩
      · exact N' p hp
  · rw [hacc, List.length_map, hlen, List.size_toArray, e1]
  · rw [hacc, List.getElem?_map] at hv
    cases hj : as'[i]? with
    | none => rw [hj] at hv; cases hv
    | some a =>
      rw [hj] at hv
      have hv' : v = .ref a := by simpa using hv.symm
      subst hv'
      obtain ⟨x, y, g1, g2, e3⟩ := hG.pairs i a hj
      obtain ⟨k, t1, r1, r2⟩ := IntsAre.at hI i x (by simpa using g1)
      obtain ⟨k', t2, r3, r4⟩ := IntsAre.at hJ i y (by simpa using g2)
      subst r1
      subst r3
      refine ⟨a, k, k', t1, t2, rfl, r2, r4, List.mem_map.mpr ⟨a, List.mem_of_getElem? hj, ?_⟩⟩
      rw [e3]; rfl
end
/-- an element's end: an int by a function of the letters, the ledger as it was -/
def MyEl (news : Led) (r : Int) (y : Value) (news' : Led) : Prop := news' = news ∧ ∃ t : Tok, y = .int r t
theorem my_el {news : Led} {r r' : Int} {t : Tok} (e : r = r') : MyEl news r (.int r' t) news := by subst e; exact ⟨rfl, t, rfl⟩
section
variable {prog : Program} {w : World} {A : Around} {s : Shared} {h₀ : Heap} {L : Addr} {m : Str → Option Value} {env : Env} {elt : PySem.Expr} {xa xb : Str} {scope : Scope} {cl : List (Str × Addr)} {S : Led → Prop} {Fin : List Value → Led → Prop} {news : Led}
theorem lc_pairs {ps : List Value} {as bs : List Int} (g : Int → Int → Int) (P : PairsOf news ps as bs) (ka : ∀ b ∈ as, 0 ≤ b ∧ b ≤ 3) (kb : ∀ b ∈ bs, 0 ≤ b ∧ b ≤ 3)
    (turn : ∀ x y t1 t2 I oI C oC D m₂ ys h tk (E' : Value → Shared → Prop), 0 ≤ x ∧ x ≤ 3 → 0 ≤ y ∧ y ≤ 3 → LCg.NsObj oC m₂ → m₂ xa = some (.int x t1) → m₂ xb = some (.int y t2) → Fr h₀ L h m → News h₀ L h ((I, oI) :: (C, oC) :: (D, LCg.lst ys) :: news) → LCg.Off3 I C D news → ((@Ne Nat I C) ∧ (@Ne Nat I D) ∧ (@Ne Nat C D)) →
      wpAny (model prog w) A (eval elt (compEnvC scope cl C env)) (LCg.CompEnd h₀ L m { s with heap := h, toks := tk } I oI C oC D (LCg.lst ys) S (fun y' news' => MyEl news (g x y) y' news')) E' { s with heap := h, toks := tk })
    (fin : ∀ ys, IntsAre ys (List.zipWith g as bs) → Fin ys news) : LCp.CompRestP prog w A h₀ L m env elt xa xb scope cl s S (fun i v => ps.toArray[i]? = some v) Fin ps.toArray.size 0 [] news := by
  have key : ∀ (j i : Nat) (ys : List Value), i + j = as.length → IntsAre ys ((List.zipWith g as bs).take i) → LCp.CompRestP prog w A h₀ L m env elt xa xb scope cl s S (fun i v => ps.toArray[i]? = some v) Fin j i ys news := by
    intro j
    induction j with
    | zero =>
      intro i ys hi hy
      rw [List.take_of_length_le (by rw [List.length_zipWith]; omega)] at hy
      exact LCp.CompRestP.zero (fin ys hy)
    | succ j ih =>
      intro i ys hi hy
      refine LCp.CompRestP.succ ?_
      intro v hv
      have hv' : ps[i]? = some v := by simpa using hv
      obtain ⟨T, x, y, t1, t2, rfl, ha, hb, hm⟩ := P.at' i v hv'
      refine ⟨T, _, _, _, 0, rfl, hm, rfl, rfl, ?_⟩
      intro I oI C oC D m₂ h tk E' hC hx hy2 F N off ne
      refine wpAny_mono (turn x y t1 t2 I oI C oC D m₂ ys h tk E' (ka _ (List.mem_of_getElem? ha)) (kb _ (List.mem_of_getElem? hb)) hC hx hy2 F N off ne) (fun y' s₂ hq => ?_) fun _ _ e => e
      obtain ⟨h', tk', nw, e, F', N', off', hS, hn, t', hy'⟩ := hq
      rw [hn] at N' off' hS
      refine ⟨h', tk', news, e, F', N', off', hS, ?_⟩
      rw [hy']
      refine ih (i + 1) _ (by omega) ?_
      have hw : (List.zipWith g as bs)[i]? = some (g x y) := by rw [List.getElem?_zipWith, ha, hb]
      rw [List.take_add_one, hw]
      simpa using IntsAre.append hy (.cons (g x y) t' .nil)
  have e : ps.toArray.size = as.length := by rw [List.size_toArray, P.len]
  rw [e]
  exact key as.length 0 [] (by omega) (by simp only [List.take_zero]; exact .nil)
theorem lc_ints {vs : List Value} {ns : List Int} {x : Str} (g : Int → Int) (hi : IntsAre vs ns) (ka : ∀ b ∈ ns, 0 ≤ b ∧ b ≤ 3)
    (turn : ∀ k t I oI C oC D m₂ ys h tk (E' : Value → Shared → Prop), 0 ≤ k ∧ k ≤ 3 → LCg.NsObj oC m₂ → m₂ x = some (.int k t) → Fr h₀ L h m → News h₀ L h ((I, oI) :: (C, oC) :: (D, LCg.lst ys) :: news) → LCg.Off3 I C D news → ((@Ne Nat I C) ∧ (@Ne Nat I D) ∧ (@Ne Nat C D)) →
      wpAny (model prog w) A (eval elt (compEnvC scope cl C env)) (LCg.CompEnd h₀ L m { s with heap := h, toks := tk } I oI C oC D (LCg.lst ys) S (fun y news' => MyEl news (g k) y news')) E' { s with heap := h, toks := tk })
    (fin : ∀ ys, IntsAre ys (ns.map g) → Fin ys news) : LCg.CompRest prog w A h₀ L m env elt x scope cl s S (fun i v => vs.toArray[i]? = some v) Fin vs.toArray.size 0 [] news :=
  kcf_list g hi (fun k t I oI C oC D m₂ ys h tk E' hk hC hx F N off ne _ => wpAny_mono (turn k t I oI C oC D m₂ ys h tk E' (ka _ hk) hC hx F N off ne) (fun _ _ hq => by
    obtain ⟨h', tk', nw, e, F', N', off', hS, hn, t', hy'⟩ := hq
    exact ⟨h', tk', nw, e, F', N', off', hS, hn, t', hy'⟩) fun _ _ e => e) (by unfold KPfDone; exact fin)
end
theorem PairsOf.mono {a b : Led} {ps : List Value} {as bs : List Int} (P : PairsOf a ps as bs) (h : ∀ p ∈ a, p ∈ b) : PairsOf b ps as bs :=
  ⟨P.len, P.leq, fun i v hv => by
    obtain ⟨T, x, y, t1, t2, e, e1, e2, hm⟩ := P.at' i v hv
    exact ⟨T, x, y, t1, t2, e, e1, e2, h _ hm⟩⟩
theorem pairs_room {news : Led} {ps : List Value} {as bs : List Int} (P : PairsOf news ps as bs) (h : as.length ≤ 1000) : ps.toArray.size ≤ sizeLine := by
  rw [List.size_toArray, P.len, sizeLine_eq]; omega
theorem ints_room {vs : List Value} {ns : List Int} (hI : IntsAre vs ns) (h : ns.length ≤ 1000) : vs.toArray.size ≤ sizeLine := by
  have := hI.length
  rw [List.size_toArray, sizeLine_eq]; omega
-- cuts: what a statement leaves behind
inductive KeepLed (news : Led) : Prop
  | mk : KeepLed news
def CutEnd (h₀ : Heap) (L : Addr) (m : Str → Option Value) (news : Led) (s : Shared) (fl : Flow) (s' : Shared) : Prop :=
  fl = .next ∧ ∃ h' tk', s' = { s with heap := h', toks := tk' } ∧ Fr h₀ L h' m ∧ News h₀ L h' news
theorem cut_end {h₀ h' : Heap} {L : Addr} {m : Str → Option Value} {news all : Led} {s : Shared} {tk' : Nat} (F : Fr h₀ L h' m) (N : News h₀ L h' all) (hs : ∀ p ∈ news, p ∈ all) : CutEnd h₀ L m news s .next { s with heap := h', toks := tk' } :=
  ⟨rfl, h', tk', rfl, F, cb_drop N hs⟩
section
variable {M : Model} {A : Around} {E : Value → Shared → Prop} {s : Shared} {h₀ : Heap} {L : Addr} {m : Str → Option Value} {news all : Led} {env : Env}
theorem cut_if {stmt : Stmt} {rest : List Stmt} {Q : Flow → Shared → Prop} (_hk : KeepLed news) (_F : Fr h₀ L s.heap m) (_N : News h₀ L s.heap all) (_hs : ∀ p ∈ news, p ∈ all)
    (h1 : wpAny M A (exec stmt env) (CutEnd h₀ L m news s) E s)
    (h2 : ∀ h' tk', Fr h₀ L h' m → News h₀ L h' news → wpAny M A (execs rest env) Q E { s with heap := h', toks := tk' }) : wpAny M A (execs (stmt :: rest) env) Q E s := by
  refine wpAny_execs_cons (wpAny_mono h1 (fun fl s' h => ?_) fun _ _ e => e)
  obtain ⟨rfl, h', tk', rfl, F', N'⟩ := h
  exact h2 h' tk' F' N'
theorem cut_gen {α : Type} {T : Sem α} {Q : α → Shared → Prop} (N : News h₀ L s.heap all) (H : ∀ news : Led, KeepLed news → (∀ p ∈ all, p ∈ news) → News h₀ L s.heap news → wpAny M A T Q E s) : wpAny M A T Q E s := H all (KeepLed.mk) (fun _ h => h) N
/-- behind the choice of the second row -/
def TwoEnd (h₀ : Heap) (L : Addr) (m : Str → Option Value) (D1 R : Addr) (vs1 : List Value) (c1 : Nat) (n : Nat) (s : Shared) (fl : Flow) (s' : Shared) : Prop :=
  fl = .next ∧ ∃ (D2 : Addr) (vs2 : List Value) (bs2 : List Int) (c2 : Nat) (vsR : List Value) (nsR : List Int) (cR : Nat) (h' : Heap) (tk' : Nat), s' = { s with heap := h', toks := tk' } ∧
    Fr h₀ L h' (fun z => if z = Str.ofString "two" then some (.ref D2) else m z) ∧ News h₀ L h' [(D2, listOf vs2.toArray c2), (D1, listOf vs1.toArray c1), (R, listOf vsR.toArray cR)] ∧
    IntsAre vs2 bs2 ∧ bs2.length = n ∧ (∀ b ∈ bs2, 0 ≤ b ∧ b ≤ 3) ∧ IntsAre vsR nsR ∧ nsR.length ≤ 1000000 ∧ D2 ≠ R
theorem two_end {D1 D2 R : Addr} {vs1 vs2 vsR : List Value} {bs2 nsR : List Int} {c1 c2 cR n : Nat} {h' : Heap} {tk' : Nat} (F : Fr h₀ L h' (fun z => if z = Str.ofString "two" then some (.ref D2) else m z))
    (N : News h₀ L h' all) (hs : ∀ p ∈ [(D2, listOf vs2.toArray c2), (D1, listOf vs1.toArray c1), (R, listOf vsR.toArray cR)], p ∈ all) (hI : IntsAre vs2 bs2) (hl : bs2.length = n) (hc : ∀ b ∈ bs2, 0 ≤ b ∧ b ≤ 3) (hJ : IntsAre vsR nsR) (hn : nsR.length ≤ 1000000) (hd : D2 ≠ R) :
    TwoEnd h₀ L m D1 R vs1 c1 n s .next { s with heap := h', toks := tk' } := ⟨rfl, D2, vs2, bs2, c2, vsR, nsR, cR, h', tk', rfl, F, cb_drop N hs, hI, hl, hc, hJ, hn, hd⟩
theorem cut_two {stmt : Stmt} {rest : List Stmt} {Q : Flow → Shared → Prop} {D1 R : Addr} {vs1 vsR : List Value} {bs1 : List Int} {c1 cR : Nat} (_F : Fr h₀ L s.heap m) (_N : News h₀ L s.heap [(D1, listOf vs1.toArray c1), (R, listOf vsR.toArray cR)]) (_hI : IntsAre vs1 bs1)
    (h1 : wpAny M A (exec stmt env) (TwoEnd h₀ L m D1 R vs1 c1 bs1.length s) E s)
    (h2 : ∀ (D2 : Addr) (vs2 : List Value) (bs2 : List Int) (c2 : Nat) (vsR : List Value) (nsR : List Int) (cR : Nat) (h' : Heap) (tk' : Nat), IntsAre vs2 bs2 → bs2.length = bs1.length → (∀ b ∈ bs2, 0 ≤ b ∧ b ≤ 3) → IntsAre vsR nsR → nsR.length ≤ 1000000 → D2 ≠ R →
      Fr h₀ L h' (fun z => if z = Str.ofString "two" then some (.ref D2) else m z) → News h₀ L h' [(D2, listOf vs2.toArray c2), (D1, listOf vs1.toArray c1), (R, listOf vsR.toArray cR)] → wpAny M A (execs rest env) Q E { s with heap := h', toks := tk' }) : wpAny M A (execs (stmt :: rest) env) Q E s := by
  refine wpAny_execs_cons (wpAny_mono h1 (fun fl s' h => ?_) fun _ _ e => e)
  obtain ⟨rfl, D2, vs2, bs2, c2, vsR, nsR, cR, h', tk', rfl, F', N', a1, a2, a3, a4, a5, a6⟩ := h
  exact h2 D2 vs2 bs2 c2 vsR nsR cR h' tk' a1 a2 a3 a4 a5 a6 F' N'
theorem set_r {bs : List Int} {i : Nat} {x : Int} (h : ∀ b ∈ bs, 0 ≤ b ∧ b ≤ 3) (hx : 0 ≤ x ∧ x ≤ 3) : ∀ b ∈ bs.set i x, 0 ≤ b ∧ b ≤ 3 := fun b hb => by
  rcases List.mem_or_eq_of_mem_set hb with hb | rfl
  · exact h b hb
  · exact hx
theorem fmod4_r (x : Int) : 0 ≤ x.fmod 4 ∧ x.fmod 4 ≤ 3 := by
  rw [Int.fmod_eq_emod_of_nonneg _ (by decide)]; omega
end
theorem fresh22 : True := by
  w_top off
  (try walk1)
  exact trivial
-- the plain law: bits as Bools on top of naturals
def cz (p : Bool) (a : Nat) : Nat := p.toNat + 2 * a
theorem cz_bit0 (p : Bool) (a : Nat) : (cz p a).testBit 0 = p := by
  rw [Nat.testBit_zero]; unfold cz
  cases p <;> simp <;> omega
theorem cz_bit (p : Bool) (a i : Nat) : (cz p a).testBit (i + 1) = a.testBit i := by
  rw [Nat.testBit_succ]
  congr 1
  unfold cz
  cases p <;> simp <;> omega
theorem cz_and (p q : Bool) (a b : Nat) : cz p a &&& cz q b = cz (p && q) (a &&& b) := by
  refine Nat.eq_of_testBit_eq fun i => ?_
  cases i with
  | zero => rw [Nat.testBit_and, cz_bit0, cz_bit0, cz_bit0]
  | succ i => rw [Nat.testBit_and, cz_bit, cz_bit, cz_bit, Nat.testBit_and]
theorem cz_or (p q : Bool) (a b : Nat) : cz p a ||| cz q b = cz (p || q) (a ||| b) := by
  refine Nat.eq_of_testBit_eq fun i => ?_
  cases i with
  | zero => rw [Nat.testBit_or, cz_bit0, cz_bit0, cz_bit0]
  | succ i => rw [Nat.testBit_or, cz_bit, cz_bit, cz_bit, Nat.testBit_or]
theorem cz_xor (p q : Bool) (a b : Nat) : cz p a ^^^ cz q b = cz (p ^^ q) (a ^^^ b) := by
  refine Nat.eq_of_testBit_eq fun i => ?_
  cases i with
  | zero => rw [Nat.testBit_xor, cz_bit0, cz_bit0, cz_bit0]
  | succ i => rw [Nat.testBit_xor, cz_bit, cz_bit, cz_bit, Nat.testBit_xor]
theorem cz_split (a : Nat) : a = cz (decide (a % 2 = 1)) (a / 2) := by
  unfold cz
  by_cases h : a % 2 = 1
  · simp [h]; omega
  · simp [h]; omega
theorem cz_zero (p : Bool) (a : Nat) : cz p a = 0 ↔ p = false ∧ a = 0 := by
  unfold cz
  cases p <;> simp <;> omega
theorem cz_inj {p q : Bool} {a b : Nat} : cz p a = cz q b ↔ p = q ∧ a = b := by
  unfold cz
  cases p <;> cases q <;> simp <;> omega
theorem xor_and_or : ∀ (n a b : Nat), a + b ≤ n → (a ^^^ b) + (a &&& b) = a ||| b
  | 0, a, b, h => by
    have h1 : a = 0 := by omega
    have h2 : b = 0 := by omega
    subst h1 h2
    rfl
  | n + 1, a, b, h => by
    by_cases hz : a + b = 0
    · have h1 : a = 0 := by omega
      have h2 : b = 0 := by omega
      subst h1 h2
      rfl
    · have ih := xor_and_or n (a / 2) (b / 2) (by omega)
      rw [cz_split a, cz_split b, cz_xor, cz_and, cz_or]
      unfold cz
      rw [← ih]
      cases decide (a % 2 = 1) <;> cases decide (b % 2 = 1) <;> simp <;> omega
theorem bAnd_nat (a b : Nat) : bAnd (a : Int) (b : Int) = ((a &&& b : Nat) : Int) := by
  show Builtin.bitAnd _ _ = _
  rw [bitAnd_pp (by omega) (by omega)]
  simp
theorem and_le_or (a b : Nat) : (a &&& b) ≤ (a ||| b) := by have := xor_and_or _ a b (Nat.le_refl _); omega
theorem bOr_nat (a b : Nat) : bOr (a : Int) (b : Int) = ((a ||| b : Nat) : Int) := by
  have e1 : Builtin.bitNot (a : Int) = -(a : Int) - 1 := rfl
  have e2 : Builtin.bitNot (b : Int) = -(b : Int) - 1 := rfl
  have n1 : ¬ (0 ≤ -(a : Int) - 1) := by omega
  have n2 : ¬ (0 ≤ -(b : Int) - 1) := by omega
  have t1 : Builtin.bitNot (-(a : Int) - 1) = a := by show -(-(a : Int) - 1) - 1 = a; omega
  have t2 : Builtin.bitNot (-(b : Int) - 1) = b := by show -(-(b : Int) - 1) - 1 = b; omega
  show Builtin.bitNot (Builtin.bitAnd (Builtin.bitNot a) (Builtin.bitNot b)) = _
  rw [e1, e2]
  unfold Builtin.bitAnd
  simp only [n1, n2, decide_false, t1, t2, Int.toNat_natCast]
  show -(-(((a ||| b : Nat)) : Int) - 1) - 1 = _
  omega
theorem bXor_nat (a b : Nat) : bXor (a : Int) (b : Int) = ((a ^^^ b : Nat) : Int) := by
  show bOr _ _ - bAnd _ _ = _
  rw [bOr_nat, bAnd_nat]
  have := xor_and_or _ a b (Nat.le_refl _)
  omega
def nMask : Nat → Nat
  | 0 => 0
  | n + 1 => cz true (nMask n)
theorem sMask_nat : ∀ n : Nat, sMask (n : Int) = (nMask n : Int)
  | 0 => by decide
  | n + 1 => by
    have ih := sMask_nat n
    unfold sMask at ih ⊢
    rw [Int.toNat_natCast] at ih ⊢
    rw [Int.pow_succ]
    show _ = ((cz true (nMask n) : Nat) : Int)
    unfold cz
    simp only [Bool.toNat_true]
    omega
def lo (x : Int) : Bool := decide (x % 2 = 1)
def hi (x : Int) : Bool := decide (x / 2 = 1)
def nLow : List Int → Nat
  | [] => 0
  | b :: r => cz (lo b) (nLow r)
def nHigh : List Int → Nat
  | [] => 0
  | b :: r => cz (hi b) (nHigh r)
abbrev Codes (ns : List Int) : Prop := ∀ b ∈ ns, 0 ≤ b ∧ b ≤ 3
theorem code4 {x : Int} (h : 0 ≤ x ∧ x ≤ 3) : x = 0 ∨ x = 1 ∨ x = 2 ∨ x = 3 := by omega
theorem codes_tail {x : Int} {r : List Int} (h : Codes (x :: r)) : Codes r := fun b hb => h b (.tail _ hb)
theorem codes_head {x : Int} {r : List Int} (h : Codes (x :: r)) : 0 ≤ x ∧ x ≤ 3 := h x (.head _)
theorem sLow_nat : ∀ {ns : List Int}, Codes ns → sLow ns = (nLow ns : Int)
  | [], _ => rfl
  | x :: r, h => by
    have ih := sLow_nat (codes_tail h)
    rcases code4 (codes_head h) with rfl | rfl | rfl | rfl <;> simp [sLow, nLow, cz, lo, ih]
theorem sHigh_nat : ∀ {ns : List Int}, Codes ns → sHigh ns = (nHigh ns : Int)
  | [], _ => rfl
  | x :: r, h => by
    have ih := sHigh_nat (codes_tail h)
    rcases code4 (codes_head h) with rfl | rfl | rfl | rfl <;> simp [sHigh, nHigh, cz, hi, ih]
theorem fresh23 : True := by
  w_top off
  (try walk1)
  exact trivial
abbrev tupL (ns : List Int) : V3 := ((ns.length : Int), sLow ns, sHigh ns)
theorem codes_map {f : Int → Int} (hf : ∀ x, 0 ≤ f x ∧ f x ≤ 3) (ns : List Int) : Codes (ns.map f) := fun b hb => by
  obtain ⟨x, _, rfl⟩ := List.mem_map.mp hb
  exact hf x
theorem codes_zip {f : Int → Int → Int} (hf : ∀ x y, 0 ≤ f x y ∧ f x y ≤ 3) : ∀ (as bs : List Int), Codes (List.zipWith f as bs)
  | [], _ => fun _ h => nomatch h
  | _ :: _, [] => fun _ h => nomatch h
  | a :: as, b :: bs => fun z hz => by
    rcases List.mem_cons.mp hz with rfl | hz
    · exact hf a b
    · exact codes_zip hf as bs z hz
theorem not_nat : ∀ {ns : List Int}, Codes ns → (nLow ns ^^^ nMask ns.length) ||| nHigh ns = nLow (ns.map lNot) ∧ nHigh ns = nHigh (ns.map lNot)
  | [], _ => ⟨rfl, rfl⟩
  | x :: r, h => by
    obtain ⟨e1, e2⟩ := not_nat (codes_tail h)
    simp only [List.map_cons, List.length_cons, nLow, nHigh, nMask, cz_xor, cz_or, e1, ← e2]
    rcases code4 (codes_head h) with rfl | rfl | rfl | rfl <;> exact ⟨rfl, rfl⟩
theorem law_not {ns : List Int} (h : Codes ns) : sNot ns.length (sLow ns) (sHigh ns) = tupL (ns.map lNot) := by
  obtain ⟨e1, e2⟩ := not_nat h
  have hc := codes_map lNot_r ns
  unfold sNot tupL
  rw [sLow_nat h, sHigh_nat h, sLow_nat hc, sHigh_nat hc, sMask_nat, bXor_nat, bOr_nat, e1, ← e2, List.length_map]
theorem and_nat : ∀ {as bs : List Int}, Codes as → Codes bs → as.length = bs.length → ((nLow as ||| nHigh as) &&& (nLow bs ||| nHigh bs)) = nLow (List.zipWith lAnd as bs) ∧ ((nLow as ||| nHigh as) &&& (nLow bs ||| nHigh bs)) &&& (nHigh as ||| nHigh bs) = nHigh (List.zipWith lAnd as bs)
  | [], [], _, _, _ => ⟨rfl, rfl⟩
  | [], _ :: _, _, _, h => by simp at h
  | _ :: _, [], _, _, h => by simp at h
  | x :: as, y :: bs, ha, hb, hl => by
    obtain ⟨e1, e2⟩ := and_nat (codes_tail ha) (codes_tail hb) (by simpa using hl)
    simp only [List.zipWith_cons_cons, nLow, nHigh, cz_and, cz_or, e1, ← e2]
    rcases code4 (codes_head ha) with rfl | rfl | rfl | rfl <;> rcases code4 (codes_head hb) with rfl | rfl | rfl | rfl <;> exact ⟨rfl, rfl⟩
theorem law_and {as bs : List Int} (ha : Codes as) (hb : Codes bs) (hl : as.length = bs.length) : sAnd as.length (sLow as) (sHigh as) (sLow bs) (sHigh bs) = tupL (List.zipWith lAnd as bs) := by
  obtain ⟨e1, e2⟩ := and_nat ha hb hl
  have hc := codes_zip lAnd_r as bs
  have el : (List.zipWith lAnd as bs).length = as.length := by rw [List.length_zipWith, hl, Nat.min_self]
  unfold sAnd tupL
  rw [sLow_nat ha, sHigh_nat ha, sLow_nat hb, sHigh_nat hb, sLow_nat hc, sHigh_nat hc]
  simp only [bOr_nat, bAnd_nat, e1, e2, el, ← e2]
theorem or_nat : ∀ {as bs : List Int}, Codes as → Codes bs → as.length = bs.length →
    ((nLow as ||| nHigh as) ||| (nLow bs ||| nHigh bs)) = nLow (List.zipWith lOr as bs) ∧
    (((nLow as ||| nHigh as) ||| (nLow bs ||| nHigh bs)) ^^^ (((nLow as ||| nHigh as) &&& (nHigh as ^^^ nMask as.length)) ||| ((nLow bs ||| nHigh bs) &&& (nHigh bs ^^^ nMask as.length)))) = nHigh (List.zipWith lOr as bs)
  | [], [], _, _, _ => ⟨rfl, rfl⟩
  | [], _ :: _, _, _, h => by simp at h
  | _ :: _, [], _, _, h => by simp at h
  | x :: as, y :: bs, ha, hb, hl => by
    obtain ⟨e1, e2⟩ := or_nat (codes_tail ha) (codes_tail hb) (by simpa using hl)
    simp only [List.zipWith_cons_cons, List.length_cons, nLow, nHigh, nMask, cz_and, cz_or, cz_xor, e1, ← e2]
    rcases code4 (codes_head ha) with rfl | rfl | rfl | rfl <;> rcases code4 (codes_head hb) with rfl | rfl | rfl | rfl <;> exact ⟨rfl, rfl⟩
theorem law_or {as bs : List Int} (ha : Codes as) (hb : Codes bs) (hl : as.length = bs.length) : sOr as.length (sLow as) (sHigh as) (sLow bs) (sHigh bs) = tupL (List.zipWith lOr as bs) := by
  obtain ⟨e1, e2⟩ := or_nat ha hb hl
  have hc := codes_zip lOr_r as bs
  have el : (List.zipWith lOr as bs).length = as.length := by rw [List.length_zipWith, hl, Nat.min_self]
  unfold sOr tupL
  rw [sLow_nat ha, sHigh_nat ha, sLow_nat hb, sHigh_nat hb, sLow_nat hc, sHigh_nat hc, ← e2, ← e1, el]
  simp only [sMask_nat, bOr_nat, bAnd_nat, bXor_nat]
theorem xor_nat : ∀ {as bs : List Int}, Codes as → Codes bs → as.length = bs.length →
    ((nLow as ^^^ nLow bs) ||| (nHigh as ||| nHigh bs)) = nLow (List.zipWith lXor as bs) ∧ (nHigh as ||| nHigh bs) = nHigh (List.zipWith lXor as bs)
  | [], [], _, _, _ => ⟨rfl, rfl⟩
  | [], _ :: _, _, _, h => by simp at h
  | _ :: _, [], _, _, h => by simp at h
  | x :: as, y :: bs, ha, hb, hl => by
    obtain ⟨e1, e2⟩ := xor_nat (codes_tail ha) (codes_tail hb) (by simpa using hl)
    simp only [List.zipWith_cons_cons, nLow, nHigh, cz_or, cz_xor, e1, ← e2]
    rcases code4 (codes_head ha) with rfl | rfl | rfl | rfl <;> rcases code4 (codes_head hb) with rfl | rfl | rfl | rfl <;> exact ⟨rfl, rfl⟩
theorem law_xor {as bs : List Int} (ha : Codes as) (hb : Codes bs) (hl : as.length = bs.length) : sXor as.length (sLow as) (sHigh as) (sLow bs) (sHigh bs) = tupL (List.zipWith lXor as bs) := by
  obtain ⟨e1, e2⟩ := xor_nat ha hb hl
  have hc := codes_zip lXor_r as bs
  have el : (List.zipWith lXor as bs).length = as.length := by rw [List.length_zipWith, hl, Nat.min_self]
  unfold sXor tupL
  rw [sLow_nat ha, sHigh_nat ha, sLow_nat hb, sHigh_nat hb, sLow_nat hc, sHigh_nat hc, ← e2, ← e1, el]
  simp only [bOr_nat, bXor_nat]
theorem map_zip {f : Int → Int} {g : Int → Int → Int} : ∀ (as bs : List Int), (List.zipWith g as bs).map f = List.zipWith (fun x y => f (g x y)) as bs
  | [], _ => by simp
  | _ :: _, [] => by simp
  | a :: as, b :: bs => by simp [map_zip as bs]
theorem law_xnor {as bs : List Int} (ha : Codes as) (hb : Codes bs) (hl : as.length = bs.length) : sXnor as.length (sLow as) (sHigh as) (sLow bs) (sHigh bs) = tupL (List.zipWith (fun x y => lNot (lXor x y)) as bs) := by
  unfold sXnor
  rw [law_xor ha hb hl]
  show sNot _ _ _ = _
  rw [law_not (codes_zip lXor_r as bs), map_zip]
theorem one_made {x : Int} (h : 0 ≤ x ∧ x ≤ 3) : sOne x = tupL [x] := by
  rcases code4 h with rfl | rfl | rfl | rfl <;> decide
theorem not_one {x : Int} (h : 0 ≤ x ∧ x ≤ 3) : sNotV (tupL [x]) = tupL [lNot x] := law_not (ns := [x]) (fun b hb => by rw [List.mem_singleton.mp hb]; exact h)
-- folds
def fAnd (ns : List Int) : Int := ns.foldr lAnd 1
def fOr (ns : List Int) : Int := ns.foldr lOr 0
def fXor (ns : List Int) : Int := ns.foldr lXor 0
def T3 (x : Int) : Prop := x = 0 ∨ x = 1 ∨ x = 3
theorem fold_over {f : Int → Int → Int} {e : Int} (hT : ∀ x y, T3 (f x y)) (hE : T3 e) (h0 : ∀ a, T3 a → f a e = a) (hA : ∀ a x y, T3 a → 0 ≤ x ∧ x ≤ 3 → T3 y → f (f a x) y = f a (f x y)) :
    ∀ (ns : List Int) (a : Int), Codes ns → T3 a → ns.foldl f a = f a (ns.foldr f e)
  | [], a, _, ha => (h0 a ha).symm
  | x :: r, a, h, ha => by
    have ht : T3 (r.foldr f e) := by cases r with
      | nil => exact hE
      | cons z r => exact hT _ _
    rw [List.foldl_cons, List.foldr_cons, fold_over hT hE h0 hA r (f a x) (codes_tail h) (hT a x), hA a x _ ha (codes_head h) ht]
theorem over_fold {f : Int → Int → Int} {e : Int} (hT : ∀ x y, T3 (f x y)) (hE : T3 e) (h0 : ∀ a, T3 a → f a e = a) (hA : ∀ a x y, T3 a → 0 ≤ x ∧ x ≤ 3 → T3 y → f (f a x) y = f a (f x y))
    (hN : ∀ x y, 0 ≤ x ∧ x ≤ 3 → T3 y → f (if x < 2 then x else 3) y = f x y) {ns : List Int} (h : Codes ns) (hne : 1 ≤ ns.length) : lOver f ns = ns.foldr f e := by
  cases ns with
  | nil => simp at hne
  | cons x r =>
    have ht : T3 (r.foldr f e) := by cases r with
      | nil => exact hE
      | cons z r => exact hT _ _
    have hx := codes_head h
    have hn : T3 (if x < 2 then x else 3) := by rcases code4 hx with rfl | rfl | rfl | rfl <;> simp [T3]
    unfold lOver
    show List.foldl f (if x < 2 then x else 3) r = f x (r.foldr f e)
    rw [fold_over hT hE h0 hA r _ (codes_tail h) hn, hN x _ hx ht]
theorem lAnd_T (x y : Int) : T3 (lAnd x y) := by unfold lAnd T3; (repeat' split) <;> simp
theorem lNot_T (x : Int) : T3 (lNot x) := by unfold lNot T3; (repeat' split) <;> simp
theorem lOr_T (x y : Int) : T3 (lOr x y) := lNot_T _
theorem lXor_T (x y : Int) : T3 (lXor x y) := by unfold lXor T3; (repeat' split) <;> simp
theorem over_and {ns : List Int} (h : Codes ns) (hne : 1 ≤ ns.length) : lOver lAnd ns = fAnd ns := by
  refine over_fold lAnd_T (by simp [T3]) ?_ ?_ ?_ h hne
  · rintro a (rfl | rfl | rfl) <;> decide
  · rintro a x y (rfl | rfl | rfl) hx (rfl | rfl | rfl) <;> rcases code4 hx with rfl | rfl | rfl | rfl <;> decide
  · rintro x y hx (rfl | rfl | rfl) <;> rcases code4 hx with rfl | rfl | rfl | rfl <;> decide
theorem over_or {ns : List Int} (h : Codes ns) (hne : 1 ≤ ns.length) : lOver lOr ns = fOr ns := by
  refine over_fold lOr_T (by simp [T3]) ?_ ?_ ?_ h hne
  · rintro a (rfl | rfl | rfl) <;> decide
  · rintro a x y (rfl | rfl | rfl) hx (rfl | rfl | rfl) <;> rcases code4 hx with rfl | rfl | rfl | rfl <;> decide
  · rintro x y hx (rfl | rfl | rfl) <;> rcases code4 hx with rfl | rfl | rfl | rfl <;> decide
theorem over_xor {ns : List Int} (h : Codes ns) (hne : 1 ≤ ns.length) : lOver lXor ns = fXor ns := by
  refine over_fold lXor_T (by simp [T3]) ?_ ?_ ?_ h hne
  · rintro a (rfl | rfl | rfl) <;> decide
  · rintro a x y (rfl | rfl | rfl) hx (rfl | rfl | rfl) <;> rcases code4 hx with rfl | rfl | rfl | rfl <;> decide
  · rintro x y hx (rfl | rfl | rfl) <;> rcases code4 hx with rfl | rfl | rfl | rfl <;> decide
theorem fOr_T : ∀ ns : List Int, T3 (fOr ns)
  | [] => .inl rfl
  | _ :: _ => lOr_T _ _
theorem fAnd_T : ∀ ns : List Int, T3 (fAnd ns)
  | [] => .inr (.inl rfl)
  | _ :: _ => lAnd_T _ _
theorem fXor_T : ∀ ns : List Int, T3 (fXor ns)
  | [] => .inl rfl
  | _ :: _ => lXor_T _ _
theorem T3_r {x : Int} (h : T3 x) : 0 ≤ x ∧ x ≤ 3 := by rcases h with rfl | rfl | rfl <;> omega
theorem fresh24 : True := by
  w_top off
  (try walk1)
  exact trivial
theorem truth_nat : ∀ {ns : List Int}, Codes ns → ((nLow ns &&& (nHigh ns ^^^ nMask ns.length)) = 0 ↔ fOr ns ≠ 1) ∧ ((nLow ns = 0 ∧ nHigh ns = 0) ↔ fOr ns = 0)
  | [], _ => by decide
  | x :: r, h => by
    obtain ⟨e1, e2⟩ := truth_nat (codes_tail h)
    have ht := fOr_T r
    simp only [List.length_cons, nLow, nHigh, nMask, cz_and, cz_xor, cz_zero]
    have e3 : (nLow r = 0 ∧ nHigh r = 0) ↔ fOr r = 0 := e2
    show _ ∧ (_ ↔ lOr x (fOr r) = 0)
    show (_ ↔ lOr x (fOr r) ≠ 1) ∧ _
    rcases ht with ht | ht | ht <;> rw [ht] at e1 e3 ⊢ <;> rcases code4 (codes_head h) with rfl | rfl | rfl | rfl <;> simp [lo, hi, e1, lOr, lNot, lAnd] <;> first | done | (intro; simp_all) | simp_all
theorem law_truth {ns : List Int} (h : Codes ns) (hne : 1 ≤ ns.length) : sTruth ns.length (sLow ns) (sHigh ns) = lOver lOr ns := by
  obtain ⟨e1, e2⟩ := truth_nat h
  have ht := fOr_T ns
  rw [over_or h hne]
  unfold sTruth
  rw [sLow_nat h, sHigh_nat h, sMask_nat, bXor_nat, bAnd_nat]
  have c1 : (((nLow ns &&& (nHigh ns ^^^ nMask ns.length) : Nat) : Int) ≠ 0) ↔ fOr ns = 1 := by
    constructor
    · intro q
      exact Classical.byContradiction fun z => q (by rw [e1.mpr z]; rfl)
    · intro q z
      exact e1.mp (by omega) q
  have c2 : (((nLow ns : Nat) : Int) = 0 ∧ ((nHigh ns : Nat) : Int) = 0) ↔ fOr ns = 0 := by
    rw [← e2]; omega
  simp only [c1, c2]
  rcases ht with ht | ht | ht <;> simp [ht]
theorem rand_nat : ∀ {ns : List Int}, Codes ns → ((nLow ns ||| nHigh ns) = nMask ns.length ↔ fAnd ns ≠ 0) ∧ (fAnd ns ≠ 0 → (nHigh ns = 0 ↔ fAnd ns = 1))
  | [], _ => by decide
  | x :: r, h => by
    obtain ⟨e1, e2⟩ := rand_nat (codes_tail h)
    have ht := fAnd_T r
    simp only [List.length_cons, nLow, nHigh, nMask, cz_or, cz_inj, cz_zero]
    show (_ ↔ lAnd x (fAnd r) ≠ 0) ∧ (lAnd x (fAnd r) ≠ 0 → (_ ↔ lAnd x (fAnd r) = 1))
    generalize nLow r ||| nHigh r = A at e1 ⊢
    generalize nHigh r = B at e2 ⊢
    rcases ht with ht | ht | ht <;> rw [ht] at e1 e2 ⊢ <;> rcases code4 (codes_head h) with rfl | rfl | rfl | rfl <;> simp [lo, hi, lAnd] at e1 e2 ⊢ <;> simp [e1, e2]
theorem law_rand {ns : List Int} (h : Codes ns) (hne : 1 ≤ ns.length) : sRAnd ns.length (sLow ns) (sHigh ns) = tupL [lOver lAnd ns] := by
  obtain ⟨e1, e2⟩ := rand_nat h
  have ht := fAnd_T ns
  rw [over_and h hne, ← one_made (T3_r ht)]
  unfold sRAnd
  rw [sLow_nat h, sHigh_nat h, sMask_nat, bOr_nat]
  congr 1
  have c1 : (((nLow ns ||| nHigh ns : Nat) : Int) ≠ ((nMask ns.length : Nat) : Int)) ↔ fAnd ns = 0 := by
    constructor
    · intro q
      exact Classical.byContradiction fun z => q (by rw [e1.mpr z])
    · intro q z
      exact e1.mp (by omega) q
  have c2 : (((nHigh ns : Nat) : Int) = 0) ↔ nHigh ns = 0 := by omega
  simp only [c1, c2]
  rcases ht with ht | ht | ht <;> simp [ht] at e2 ⊢
  · exact e2
  · exact e2
theorem rxor_hi : ∀ {ns : List Int}, Codes ns → (nHigh ns = 0 ↔ fXor ns ≠ 3)
  | [], _ => by decide
  | x :: r, h => by
    have e1 := rxor_hi (codes_tail h)
    have ht := fXor_T r
    simp only [nHigh, cz_zero]
    show _ ↔ lXor x (fXor r) ≠ 3
    rcases ht with ht | ht | ht <;> rw [ht] at e1 ⊢ <;> rcases code4 (codes_head h) with rfl | rfl | rfl | rfl <;> simp [hi, lXor, e1]
theorem rxor_lo : ∀ {ns : List Int} (a : Int), Codes ns → nHigh ns = 0 → (a = 0 ∨ a = 1) → (fXor ns = 0 ∨ fXor ns = 1) ∧ ns.foldl (fun p b => bXor p (b % 2)) a = lXor a (fXor ns)
  | [], a, _, _, ha => ⟨.inl rfl, by rcases ha with rfl | rfl <;> rfl⟩
  | x :: r, a, h, hz, ha => by
    simp only [nHigh, cz_zero] at hz
    obtain ⟨hx, hz⟩ := hz
    have hx' : x = 0 ∨ x = 1 := by rcases code4 (codes_head h) with rfl | rfl | rfl | rfl <;> simp [hi] at hx ⊢
    have hs : bXor a (x % 2) = 0 ∨ bXor a (x % 2) = 1 := by rcases ha with rfl | rfl <;> rcases hx' with rfl | rfl <;> decide
    obtain ⟨e1, e2⟩ := rxor_lo (bXor a (x % 2)) (codes_tail h) hz hs
    rw [List.foldl_cons, e2]
    show (lXor x (fXor r) = 0 ∨ lXor x (fXor r) = 1) ∧ _ = lXor a (lXor x (fXor r))
    rcases ha with rfl | rfl <;> rcases hx' with rfl | rfl <;> rcases e1 with e1 | e1 <;> rw [e1] <;> decide
theorem law_rxor {ns : List Int} (h : Codes ns) (hne : 1 ≤ ns.length) : sRXor ns = tupL [lOver lXor ns] := by
  have e1 := rxor_hi h
  have ht := fXor_T ns
  rw [over_xor h hne, ← one_made (T3_r ht)]
  unfold sRXor
  congr 1
  rw [sHigh_nat h]
  by_cases hz : nHigh ns = 0
  · obtain ⟨q, e2⟩ := rxor_lo 0 h hz (.inl rfl)
    have e3 : xf ns = lXor 0 (fXor ns) := e2
    rw [hz, e3]
    rcases q with q | q <;> rw [q] <;> decide
  · rw [if_pos (by omega)]
    exact (Classical.byContradiction fun q => hz (e1.mpr (Ne.symm q)))
abbrev lSame (x y : Int) : Int := lNot (lXor x y)
theorem lSame_r (x y : Int) : 0 ≤ lSame x y ∧ lSame x y ≤ 3 := lNot_r _
theorem eq_nat : ∀ {as bs : List Int}, Codes as → Codes bs → as.length = bs.length →
    (((nLow as ^^^ nLow bs) &&& ((nHigh as ||| nHigh bs) ^^^ nMask as.length)) = 0 ↔ fAnd (List.zipWith lSame as bs) ≠ 0) ∧ (fAnd (List.zipWith lSame as bs) ≠ 0 → ((nHigh as ||| nHigh bs) = 0 ↔ fAnd (List.zipWith lSame as bs) = 1))
  | [], [], _, _, _ => by decide
  | [], _ :: _, _, _, h => by simp at h
  | _ :: _, [], _, _, h => by simp at h
  | x :: as, y :: bs, ha, hb, hl => by
    obtain ⟨e1, e2⟩ := eq_nat (codes_tail ha) (codes_tail hb) (by simpa using hl)
    have ht := fAnd_T (List.zipWith lSame as bs)
    simp only [List.length_cons, nLow, nHigh, nMask, cz_or, cz_and, cz_xor, cz_zero, List.zipWith_cons_cons]
    show (_ ↔ lAnd (lSame x y) (fAnd (List.zipWith lSame as bs)) ≠ 0) ∧ (lAnd (lSame x y) (fAnd (List.zipWith lSame as bs)) ≠ 0 → (_ ↔ lAnd (lSame x y) (fAnd (List.zipWith lSame as bs)) = 1))
    generalize (nLow as ^^^ nLow bs) &&& ((nHigh as ||| nHigh bs) ^^^ nMask as.length) = A at e1 ⊢
    generalize nHigh as ||| nHigh bs = B at e2 ⊢
    rcases ht with ht | ht | ht <;> rw [ht] at e1 e2 ⊢ <;> rcases code4 (codes_head ha) with rfl | rfl | rfl | rfl <;> rcases code4 (codes_head hb) with rfl | rfl | rfl | rfl <;> simp [lo, hi, lSame, lNot, lXor, lAnd] at e1 e2 ⊢ <;> simp [e1, e2]
theorem law_eq {as bs : List Int} (ha : Codes as) (hb : Codes bs) (hl : as.length = bs.length) (hne : 1 ≤ as.length) :
    sEq as.length (sLow as) (sHigh as) (sLow bs) (sHigh bs) = tupL [lOver lAnd (List.zipWith lSame as bs)] := by
  obtain ⟨e1, e2⟩ := eq_nat ha hb hl
  have hc := codes_zip lSame_r as bs
  have ht := fAnd_T (List.zipWith lSame as bs)
  have el : 1 ≤ (List.zipWith lSame as bs).length := by rw [List.length_zipWith, hl, Nat.min_self, ← hl]; exact hne
  rw [over_and hc el, ← one_made (T3_r ht)]
  unfold sEq
  rw [sLow_nat ha, sHigh_nat ha, sLow_nat hb, sHigh_nat hb, sMask_nat]
  simp only [bOr_nat, bXor_nat, bAnd_nat]
  congr 1
  have c1 : ((((nLow as ^^^ nLow bs) &&& ((nHigh as ||| nHigh bs) ^^^ nMask as.length) : Nat) : Int) ≠ 0) ↔ fAnd (List.zipWith lSame as bs) = 0 := by
    constructor
    · intro q
      exact Classical.byContradiction fun z => q (by rw [e1.mpr z]; rfl)
    · intro q z
      exact e1.mp (by omega) q
  have c2 : (((nHigh as ||| nHigh bs : Nat) : Int) = 0) ↔ (nHigh as ||| nHigh bs) = 0 := by omega
  simp only [c1, c2]
  rcases ht with ht | ht | ht <;> simp [ht] at e2 ⊢
  · exact e2
  · exact e2
theorem fresh25 : True := by
  w_top off
  (try walk1)
  exact trivial
theorem law_land {x y : Int} (hx : 0 ≤ x ∧ x ≤ 3) (hy : 0 ≤ y ∧ y ≤ 3) : sLAnd x y = tupL [lAnd x y] := by
  unfold sLAnd
  rw [one_made hx, one_made hy]
  exact law_and (as := [x]) (bs := [y]) (fun b hb => by rw [List.mem_singleton.mp hb]; exact hx) (fun b hb => by rw [List.mem_singleton.mp hb]; exact hy) rfl
theorem law_lor {x y : Int} (hx : 0 ≤ x ∧ x ≤ 3) (hy : 0 ≤ y ∧ y ≤ 3) : sLOr x y = tupL [lOr x y] := by
  unfold sLOr
  rw [one_made hx, one_made hy]
  exact law_or (as := [x]) (bs := [y]) (fun b hb => by rw [List.mem_singleton.mp hb]; exact hx) (fun b hb => by rw [List.mem_singleton.mp hb]; exact hy) rfl
theorem ceq_nat : ∀ {as bs : List Int}, Codes as → Codes bs → as.length = bs.length → ((nLow as = nLow bs ∧ nHigh as = nHigh bs) ↔ as = bs)
  | [], [], _, _, _ => by decide
  | [], _ :: _, _, _, h => by simp at h
  | _ :: _, [], _, _, h => by simp at h
  | x :: as, y :: bs, ha, hb, hl => by
    have e := ceq_nat (codes_tail ha) (codes_tail hb) (by simpa using hl)
    have q : (lo x = lo y ∧ hi x = hi y) ↔ x = y := by
      rcases code4 (codes_head ha) with rfl | rfl | rfl | rfl <;> rcases code4 (codes_head hb) with rfl | rfl | rfl | rfl <;> decide
    simp only [nLow, nHigh, cz_inj, List.cons.injEq, ← e, ← q]
    constructor
    · rintro ⟨⟨a, b⟩, c, d⟩; exact ⟨⟨a, c⟩, b, d⟩
    · rintro ⟨⟨a, c⟩, b, d⟩; exact ⟨⟨a, b⟩, c, d⟩
theorem ceq_iff {as bs : List Int} (ha : Codes as) (hb : Codes bs) (hl : as.length = bs.length) : ((as.length : Int) = (bs.length : Int) ∧ sLow as = sLow bs ∧ sHigh as = sHigh bs) ↔ as = bs := by
  rw [sLow_nat ha, sHigh_nat ha, sLow_nat hb, sHigh_nat hb, ← ceq_nat ha hb hl, hl]
  omega
theorem law_ceq {as bs : List Int} (ha : Codes as) (hb : Codes bs) (hl : as.length = bs.length) : sCEq as.length (sLow as) (sHigh as) bs.length (sLow bs) (sHigh bs) = tupL [if as = bs then 1 else 0] := by
  unfold sCEq
  simp only [ceq_iff ha hb hl]
  by_cases e : as = bs
  · rw [if_pos e]; decide
  · rw [if_neg e]; decide
theorem law_cne {as bs : List Int} (ha : Codes as) (hb : Codes bs) (hl : as.length = bs.length) : sCNe as.length (sLow as) (sHigh as) bs.length (sLow bs) (sHigh bs) = tupL [1 - (if as = bs then 1 else 0)] := by
  unfold sCNe
  simp only [ceq_iff ha hb hl]
  by_cases e : as = bs
  · rw [if_pos e, if_pos e]; decide
  · rw [if_neg e, if_neg e]; decide
/-- what of the bits is free, by the kind -/
def nFree (k : Nat) (la ha lb hb : Nat) : Nat := if k = 0 then 0 else if k = 1 then (ha &&& (ha ^^^ la)) ||| (hb &&& (hb ^^^ lb)) else ha ||| hb
def freeOf (k : Nat) : List Int := if k = 0 then [] else if k = 1 then [2] else [2, 3]
def bFree (k : Nat) (x y : Int) : Bool := if k = 0 then false else if k = 1 then (hi x && (hi x ^^ lo x)) || (hi y && (hi y ^^ lo y)) else hi x || hi y
theorem nFree_cz (k : Nat) (x y : Int) (la ha lb hb : Nat) : nFree k (cz (lo x) la) (cz (hi x) ha) (cz (lo y) lb) (cz (hi y) hb) = cz (bFree k x y) (nFree k la ha lb hb) := by
  unfold nFree bFree
  by_cases h0 : k = 0
  · simp [h0, cz]
  · by_cases h1 : k = 1
    · simp only [h1, if_true, if_neg (by decide : ¬ (1 : Nat) = 0), cz_xor, cz_and, cz_or]
    · simp only [h0, h1, if_false, cz_or]
theorem match_nat (k : Nat) (hk : k ≤ 2) : ∀ {as bs : List Int}, Codes as → Codes bs → as.length = bs.length →
    ((((nLow as ^^^ nLow bs) &&& (nMask as.length ^^^ nFree k (nLow as) (nHigh as) (nLow bs) (nHigh bs))) = 0 ∧ ((nHigh as ^^^ nHigh bs) &&& (nMask as.length ^^^ nFree k (nLow as) (nHigh as) (nLow bs) (nHigh bs))) = 0) ↔ mMeets (freeOf k) as bs = true)
  | [], [], _, _, _ => by
    simp [mMeets, nLow, nHigh, nMask]
  | [], _ :: _, _, _, h => by simp at h
  | _ :: _, [], _, _, h => by simp at h
  | x :: as, y :: bs, ha, hb, hl => by
    have e := match_nat k hk (codes_tail ha) (codes_tail hb) (by simpa using hl)
    have em : mMeets (freeOf k) (x :: as) (y :: bs) = ((decide (x = y) || ((freeOf k).any fun z => z == x) || ((freeOf k).any fun z => z == y)) && mMeets (freeOf k) as bs) := rfl
    have q : (((lo x ^^ lo y) && (true ^^ bFree k x y)) = false ∧ ((hi x ^^ hi y) && (true ^^ bFree k x y)) = false) ↔ (decide (x = y) || ((freeOf k).any fun z => z == x) || ((freeOf k).any fun z => z == y)) = true := by
      have hk' : k = 0 ∨ k = 1 ∨ k = 2 := by omega
      rcases hk' with rfl | rfl | rfl <;> rcases code4 (codes_head ha) with rfl | rfl | rfl | rfl <;> rcases code4 (codes_head hb) with rfl | rfl | rfl | rfl <;> decide
    rw [em, Bool.and_eq_true, ← e, ← q]
    simp only [List.length_cons, nLow, nHigh, nMask, nFree_cz, cz_xor, cz_and, cz_zero]
    constructor
    · rintro ⟨⟨a, b⟩, c, d⟩; exact ⟨⟨a, c⟩, b, d⟩
    · rintro ⟨⟨a, c⟩, b, d⟩; exact ⟨⟨a, b⟩, c, d⟩
theorem law_match (k : Nat) (hk : k ≤ 2) {as bs : List Int} (ha : Codes as) (hb : Codes bs) (hl : as.length = bs.length) {f : Int} (hf : f = (nFree k (nLow as) (nHigh as) (nLow bs) (nHigh bs) : Nat)) :
    sMatch f as.length (sLow as) (sHigh as) (sLow bs) (sHigh bs) = mMeets (freeOf k) as bs := by
  have e := match_nat k hk ha hb hl
  unfold sMatch
  rw [sLow_nat ha, sHigh_nat ha, sLow_nat hb, sHigh_nat hb, sMask_nat, hf]
  simp only [bXor_nat, bAnd_nat]
  rw [Bool.eq_iff_iff, ← e, Bool.and_eq_true, beq_iff_eq, beq_iff_eq]
  omega
theorem law_m0 {as bs : List Int} (ha : Codes as) (hb : Codes bs) (hl : as.length = bs.length) :
    sMatch (sFree0 as.length (sLow as) (sHigh as) bs.length (sLow bs) (sHigh bs)) as.length (sLow as) (sHigh as) (sLow bs) (sHigh bs) = mMeets [] as bs :=
  law_match 0 (by decide) ha hb hl rfl
theorem law_mz {as bs : List Int} (ha : Codes as) (hb : Codes bs) (hl : as.length = bs.length) :
    sMatch (sFreeZ as.length (sLow as) (sHigh as) bs.length (sLow bs) (sHigh bs)) as.length (sLow as) (sHigh as) (sLow bs) (sHigh bs) = mMeets [2] as bs :=
  law_match 1 (by decide) ha hb hl (by
    unfold sFreeZ nFree
    rw [sLow_nat ha, sHigh_nat ha, sLow_nat hb, sHigh_nat hb]
    simp only [bXor_nat, bAnd_nat, bOr_nat]
    rfl)
theorem law_mx {as bs : List Int} (ha : Codes as) (hb : Codes bs) (hl : as.length = bs.length) :
    sMatch (sFreeX as.length (sLow as) (sHigh as) bs.length (sLow bs) (sHigh bs)) as.length (sLow as) (sHigh as) (sLow bs) (sHigh bs) = mMeets [2, 3] as bs :=
  law_match 2 (by decide) ha hb hl (by
    unfold sFreeX nFree
    rw [sHigh_nat ha, sHigh_nat hb]
    simp only [bOr_nat]
    rfl)
def lMix (x y : Int) : Int := if x = y ∧ x < 2 then x else 3
theorem lMix_r (x y : Int) (h : 0 ≤ x) : 0 ≤ lMix x y ∧ lMix x y ≤ 3 := by unfold lMix; split <;> omega
theorem codes_mix : ∀ (as bs : List Int), Codes as → Codes (List.zipWith lMix as bs)
  | [], _, _ => fun _ h => nomatch h
  | _ :: _, [], _ => fun _ h => nomatch h
  | a :: as, b :: bs, h => fun z hz => by
    rcases List.mem_cons.mp hz with rfl | hz
    · exact lMix_r a b (codes_head h).1
    · exact codes_mix as bs (codes_tail h) z hz
theorem mix_nat : ∀ {as bs : List Int}, Codes as → Codes bs → as.length = bs.length →
    ((nLow as &&& (nMask as.length ^^^ (((nLow as ^^^ nLow bs) ||| nHigh as) ||| nHigh bs))) ||| (nMask as.length ^^^ (nMask as.length ^^^ (((nLow as ^^^ nLow bs) ||| nHigh as) ||| nHigh bs)))) = nLow (List.zipWith lMix as bs) ∧
    (nMask as.length ^^^ (nMask as.length ^^^ (((nLow as ^^^ nLow bs) ||| nHigh as) ||| nHigh bs))) = nHigh (List.zipWith lMix as bs)
  | [], [], _, _, _ => ⟨rfl, rfl⟩
  | [], _ :: _, _, _, h => by simp at h
  | _ :: _, [], _, _, h => by simp at h
  | x :: as, y :: bs, ha, hb, hl => by
    obtain ⟨e1, e2⟩ := mix_nat (codes_tail ha) (codes_tail hb) (by simpa using hl)
    simp only [List.zipWith_cons_cons, List.length_cons, nLow, nHigh, nMask, cz_and, cz_or, cz_xor]
    rw [e2] at e1
    simp only [e2, e1]
    rcases code4 (codes_head ha) with rfl | rfl | rfl | rfl <;> rcases code4 (codes_head hb) with rfl | rfl | rfl | rfl <;> exact ⟨rfl, rfl⟩
theorem law_mix {as bs : List Int} (ha : Codes as) (hb : Codes bs) (hl : as.length = bs.length) : sMix as.length (sLow as) (sHigh as) (sLow bs) (sHigh bs) = tupL (List.zipWith lMix as bs) := by
  obtain ⟨e1, e2⟩ := mix_nat ha hb hl
  have hc := codes_mix as bs ha
  have el : (List.zipWith lMix as bs).length = as.length := by rw [List.length_zipWith, hl, Nat.min_self]
  unfold sMix tupL
  rw [sLow_nat ha, sHigh_nat ha, sLow_nat hb, sHigh_nat hb, sLow_nat hc, sHigh_nat hc, ← e2, ← e1, el, sMask_nat]
  simp only [bOr_nat, bXor_nat, bAnd_nat]
/-- the choice by the found truth -/
def lDue (t : Int) (as bs : List Int) : List Int := if t = 1 then as else if t = 0 then bs else List.zipWith lMix as bs
theorem law_choose {t : Int} {as bs : List Int} (ha : Codes as) (hb : Codes bs) (hl : as.length = bs.length) : sChoose t as.length (sLow as) (sHigh as) bs.length (sLow bs) (sHigh bs) = tupL (lDue t as bs) := by
  unfold sChoose lDue
  by_cases h1 : t = 1
  · simp only [h1, if_true]
  · by_cases h0 : t = 0
    · simp [h0]
    · simp only [h1, h0, if_false]
      exact law_mix ha hb hl
local macro_rules | `(tactic| walk_at "call ref") => `(tactic| k_extra "m48")
theorem word48 : True := by
  k_with "m48" => ((k_here; (with_reducible show wpAny _ _ (PySem.call (Value.ref 196) [Value.ref _]) _ _ _); k_dflt (first | (refine' use (c_law_next [] _ _ _ _ _ ?m48hI ?m48hn ?m48hO) ?m48k1 ?m48k2 ?m48k3 ?m48k4 ?m48k5 ?m48k6 ?m48k7 ?m48k8 ?_; (case m48k1 => k_asm); (case m48k2 => k_asm); (case m48k3 => k_asm); (case m48k4 => k_asm); (case m48k5 => k_asm); (case m48k6 => first | exact rfl | assumption); (case m48k7 => ktr_room); (case m48k8 => ktr_units); (case m48hI => assumption); (case m48hn => first | assumption | omega); (case m48hO => (repeat' (first | assumption | exact ownOff_nil | (refine ownOff_cons ?_ ?_) | (refine ownOff_app ?_ ?_) | exact ownOff_of (by assumption) (by simp) | k_ne)))) | (refine' use (c_law_next [_] _ _ _ _ _ ?m48hI ?m48hn ?m48hO) ?m48k1 ?m48k2 ?m48k3 ?m48k4 ?m48k5 ?m48k6 ?m48k7 ?m48k8 ?_; (case m48k1 => k_asm); (case m48k2 => k_asm); (case m48k3 => k_asm); (case m48k4 => k_asm); (case m48k5 => k_asm); (case m48k6 => first | exact rfl | assumption); (case m48k7 => ktr_room); (case m48k8 => ktr_units); (case m48hI => assumption); (case m48hn => first | assumption | omega); (case m48hO => (repeat' (first | assumption | exact ownOff_nil | (refine ownOff_cons ?_ ?_) | (refine ownOff_app ?_ ?_) | exact ownOff_of (by assumption) (by simp) | k_ne)))) | (refine' use (c_law_next [_, _] _ _ _ _ _ ?m48hI ?m48hn ?m48hO) ?m48k1 ?m48k2 ?m48k3 ?m48k4 ?m48k5 ?m48k6 ?m48k7 ?m48k8 ?_; (case m48k1 => k_asm); (case m48k2 => k_asm); (case m48k3 => k_asm); (case m48k4 => k_asm); (case m48k5 => k_asm); (case m48k6 => first | exact rfl | assumption); (case m48k7 => ktr_room); (case m48k8 => ktr_units); (case m48hI => assumption); (case m48hn => first | assumption | omega); (case m48hO => (repeat' (first | assumption | exact ownOff_nil | (refine ownOff_cons ?_ ?_) | (refine ownOff_app ?_ ?_) | exact ownOff_of (by assumption) (by simp) | k_ne))))); intro x' t' vs' ns' c' h' tk' hI' hle' F' N'; (try dsimp only [List.nil_append, List.cons_append] at N'); (try dsimp only); (try k_sweep)))
  exact trivial
theorem fresh26 : True := by
  w_top off
  (try walk1)
  exact trivial
theorem c_law_bits {w : World} {mean : ExcName → Option Value} {mg mb : Str → Option Value} (pre : Led) (R : Addr) (vs : List Value) (ns : List Int) (c : Nat) (post : Led) (wide : Int) (tw : Tok) (hI : IntsAre vs ns) (hn : ns.length ≤ 1000000) (hO : OwnOff (pre ++ post) [R]) (hw1 : 1 ≤ wide) (hw2 : wide ≤ 20) :
   Cl w mean mg mb 3 203 [.ref R, .int wide tw] (PreN (pre ++ (R, listOf vs.toArray c) :: post)) (fun h₀ L m s Q => ∀ (D : Addr) (ws : List Value) (bs : List Int) (vs' : List Value) (ns' : List Int) (c' : Nat) (h' : Heap) (tk' : Nat), IntsAre ws bs → bs.length = wide.toNat → (∀ b ∈ bs, 0 ≤ b ∧ b ≤ 3) → IntsAre vs' ns' → ns'.length ≤ 1000000 → D ≠ R → Fr h₀ L h' m → News h₀ L h' ((D, listOf ws.toArray 0) :: (pre ++ (R, listOf vs'.toArray c') :: post)) → Q (.ref D) { s with heap := h', toks := tk' }) := by
  intro dp un gd cn cs a ccd cl outer A₀ base h₀ L m s Q E B F X N T hk hd' hu' hret
  refine use (c_law_bits0 R vs ns c (pre ++ post) wide tw hI hn hO hw1 hw2) B F X (cb_drop N mem_move) T hk hd' hu' fun D ws bs vs' ns' c' h' tk' h1 h2 h3 h4 h5 h6 F' N' => hret D ws bs vs' ns' c' h' tk' h1 h2 h3 h4 h5 h6 F' (cb_drop N' fun p hp => ?_)
  rcases List.mem_cons.mp hp with rfl | hp
  · exact .head _
  · exact .tail _ (mem_back p hp)
local macro_rules | `(tactic| walk_at "call ref") => `(tactic| k_extra "m49")
theorem word49 : True := by
  k_with "m49" => ((k_here; (with_reducible show wpAny _ _ (PySem.call (Value.ref 203) [Value.ref _, Value.int _ _]) _ _ _); (try k_fmods); k_dflt (first | (refine' use (c_law_bits [] _ _ _ _ _ _ _ ?m49hI ?m49hn ?m49hO ?m49w1 ?m49w2) ?m49k1 ?m49k2 ?m49k3 ?m49k4 ?m49k5 ?m49k6 ?m49k7 ?m49k8 ?_; (case m49k1 => k_asm); (case m49k2 => k_asm); (case m49k3 => k_asm); (case m49k4 => k_asm); (case m49k5 => k_asm); (case m49k6 => first | exact rfl | assumption); (case m49k7 => ktr_room); (case m49k8 => ktr_units); (case m49hI => assumption); (case m49hn => first | assumption | omega); (case m49hO => (repeat' (first | assumption | exact ownOff_nil | (refine ownOff_cons ?_ ?_) | (refine ownOff_app ?_ ?_) | exact ownOff_of (by assumption) (by simp) | k_ne))); (case m49w1 => first | assumption | omega); (case m49w2 => first | assumption | omega)) | (refine' use (c_law_bits [_] _ _ _ _ _ _ _ ?m49hI ?m49hn ?m49hO ?m49w1 ?m49w2) ?m49k1 ?m49k2 ?m49k3 ?m49k4 ?m49k5 ?m49k6 ?m49k7 ?m49k8 ?_; (case m49k1 => k_asm); (case m49k2 => k_asm); (case m49k3 => k_asm); (case m49k4 => k_asm); (case m49k5 => k_asm); (case m49k6 => first | exact rfl | assumption); (case m49k7 => ktr_room); (case m49k8 => ktr_units); (case m49hI => assumption); (case m49hn => first | assumption | omega); (case m49hO => (repeat' (first | assumption | exact ownOff_nil | (refine ownOff_cons ?_ ?_) | (refine ownOff_app ?_ ?_) | exact ownOff_of (by assumption) (by simp) | k_ne))); (case m49w1 => first | assumption | omega); (case m49w2 => first | assumption | omega)) | (refine' use (c_law_bits [_, _] _ _ _ _ _ _ _ ?m49hI ?m49hn ?m49hO ?m49w1 ?m49w2) ?m49k1 ?m49k2 ?m49k3 ?m49k4 ?m49k5 ?m49k6 ?m49k7 ?m49k8 ?_; (case m49k1 => k_asm); (case m49k2 => k_asm); (case m49k3 => k_asm); (case m49k4 => k_asm); (case m49k5 => k_asm); (case m49k6 => first | exact rfl | assumption); (case m49k7 => ktr_room); (case m49k8 => ktr_units); (case m49hI => assumption); (case m49hn => first | assumption | omega); (case m49hO => (repeat' (first | assumption | exact ownOff_nil | (refine ownOff_cons ?_ ?_) | (refine ownOff_app ?_ ?_) | exact ownOff_of (by assumption) (by simp) | k_ne))); (case m49w1 => first | assumption | omega); (case m49w2 => first | assumption | omega)) | (refine' use (c_law_bits [_, _, _] _ _ _ _ _ _ _ ?m49hI ?m49hn ?m49hO ?m49w1 ?m49w2) ?m49k1 ?m49k2 ?m49k3 ?m49k4 ?m49k5 ?m49k6 ?m49k7 ?m49k8 ?_; (case m49k1 => k_asm); (case m49k2 => k_asm); (case m49k3 => k_asm); (case m49k4 => k_asm); (case m49k5 => k_asm); (case m49k6 => first | exact rfl | assumption); (case m49k7 => ktr_room); (case m49k8 => ktr_units); (case m49hI => assumption); (case m49hn => first | assumption | omega); (case m49hO => (repeat' (first | assumption | exact ownOff_nil | (refine ownOff_cons ?_ ?_) | (refine ownOff_app ?_ ?_) | exact ownOff_of (by assumption) (by simp) | k_ne))); (case m49w1 => first | assumption | omega); (case m49w2 => first | assumption | omega))); intro D' ws' bs' vs' ns' c' h' tk' hI' hL' hB' hJ' hN' hD' F' N'; (try dsimp only [List.nil_append, List.cons_append] at N'); (try dsimp only); (try k_sweep)))
  exact trivial
local macro_rules | `(tactic| walk_at "call ref") => `(tactic| k_extra "m50")
theorem word50 : True := by
  k_with "m50" => ((k_here; (with_reducible show wpAny _ _ (PySem.call (Value.ref 189) [Value.ref _]) _ _ _); k_dflt (refine' use (c_law_row _ _ _ _ ?m50hI ?m50hn) ?m50k1 ?m50k2 ?m50k3 ?m50k4 ?m50k5 ?m50k6 ?m50k7 ?m50k8 ?_; (case m50k1 => k_asm); (case m50k2 => k_asm); (case m50k3 => k_asm); (case m50k4 => exact ⟨by assumption, by k_asm⟩); (case m50k5 => k_asm); (case m50k6 => first | exact rfl | assumption); (case m50k7 => ktr_room); (case m50k8 => ktr_units); (case m50hI => assumption); (case m50hn => omega)); intro R' vs' ns' c' h' tk' hI' hL' hO' F' N'; (try dsimp only); (try k_sweep)))
  exact trivial
theorem fresh27 : True := by
  w_top off
  (try walk1)
  exact trivial
theorem law_ror {ns : List Int} (h : Codes ns) (hne : 1 ≤ ns.length) : sROr ns.length (sLow ns) (sHigh ns) = tupL [lOver lOr ns] := by
  unfold sROr
  rw [law_truth h hne]
  exact one_made (lOver_r lOr_r h)
theorem law_nand {ns : List Int} (h : Codes ns) (hne : 1 ≤ ns.length) : sNotV (sRAnd ns.length (sLow ns) (sHigh ns)) = tupL [lNot (lOver lAnd ns)] := by
  rw [law_rand h hne]
  exact not_one (lOver_r lAnd_r h)
theorem law_nor {ns : List Int} (h : Codes ns) (hne : 1 ≤ ns.length) : sNotV (sROr ns.length (sLow ns) (sHigh ns)) = tupL [lNot (lOver lOr ns)] := by
  rw [law_ror h hne]
  exact not_one (lOver_r lOr_r h)
theorem law_rxnor {ns : List Int} (h : Codes ns) (hne : 1 ≤ ns.length) : sNotV (sRXor ns) = tupL [lNot (lOver lXor ns)] := by
  rw [law_rxor h hne]
  exact not_one (lOver_r lXor_r h)
theorem law_land2 {ns ts : List Int} (h : Codes ns) (hne : 1 ≤ ns.length) (ht : Codes ts) (hte : 1 ≤ ts.length) : sLAnd (sTruth ns.length (sLow ns) (sHigh ns)) (sTruth ts.length (sLow ts) (sHigh ts)) = tupL [lAnd (lOver lOr ns) (lOver lOr ts)] := by
  rw [law_truth h hne, law_truth ht hte]
  exact law_land (lOver_r lOr_r h) (lOver_r lOr_r ht)
theorem law_lor2 {ns ts : List Int} (h : Codes ns) (hne : 1 ≤ ns.length) (ht : Codes ts) (hte : 1 ≤ ts.length) : sLOr (sTruth ns.length (sLow ns) (sHigh ns)) (sTruth ts.length (sLow ts) (sHigh ts)) = tupL [lOr (lOver lOr ns) (lOver lOr ts)] := by
  rw [law_truth h hne, law_truth ht hte]
  exact law_lor (lOver_r lOr_r h) (lOver_r lOr_r ht)
theorem law_neq {as bs : List Int} (ha : Codes as) (hb : Codes bs) (hl : as.length = bs.length) (hne : 1 ≤ as.length) :
    sNotV (sEq as.length (sLow as) (sHigh as) (sLow bs) (sHigh bs)) = tupL [lNot (lOver lAnd (List.zipWith lSame as bs))] := by
  rw [law_eq ha hb hl hne]
  exact not_one (lOver_r lAnd_r (codes_zip lSame_r as bs))
theorem q_bit_not {w : World} {mean : ExcName → Option Value} {mg mb : Str → Option Value} (U : Addr) (as : List Int) (tU1 tU2 tU3 : Tok) (cU : Nat) (news : Led) (hU : (U, tup3 (as.length : Int) (sLow as) (sHigh as) tU1 tU2 tU3 cU) ∈ news) (kA : Codes as) (n1 : 1 ≤ as.length) (n2 : as.length ≤ 20) :
   Cl w mean mg mb 1 49 [.ref U] (PreN news) (RetTup news ((as.map lNot).length : Int) (sLow (as.map lNot)) (sHigh (as.map lNot))) := by
  have e := law_not kA
  have c := c_bit_not (w := w) (mean := mean) (mg := mg) (mb := mb) U as.length (sLow as) (sHigh as) tU1 tU2 tU3 cU news hU (by omega) (by omega)
  rw [e] at c
  exact c
local macro_rules | `(tactic| walk_at "call ref") => `(tactic| k_extra "m51")
theorem word51 : True := by
  k_with "m51" => ((k_here; (with_reducible show wpAny _ _ (PySem.call (Value.ref 49) [Value.ref _]) _ _ _); k_dflt (refine' use (q_bit_not _ _ _ _ _ _ _ ?m51mU ?m51kA ?m51n1 ?m51n2) ?m51k1 ?m51k2 ?m51k3 ?m51k4 ?m51k5 ?m51k6 ?m51k7 ?m51k8 ?_; (case m51k1 => k_asm); (case m51k2 => k_asm); (case m51k3 => k_asm); (case m51k4 => k_asm); (case m51k5 => k_asm); (case m51k6 => first | exact rfl | assumption); (case m51k7 => ktr_room); (case m51k8 => ktr_units); (case m51mU => first | assumption | exact List.Mem.head _ | (refine' List.Mem.tail _ ?_; (first | assumption | exact List.Mem.head _ | (refine' List.Mem.tail _ ?_; (first | assumption | exact List.Mem.head _ | (refine' List.Mem.tail _ ?_; (first | assumption | exact List.Mem.head _ | (refine' List.Mem.tail _ ?_; (first | assumption | exact List.Mem.head _ | (refine' List.Mem.tail _ ?_; (first | assumption | exact List.Mem.head _ | (refine' List.Mem.tail _ ?_; (first | assumption | exact List.Mem.head _ | (refine' List.Mem.tail _ ?_; (first | assumption | exact List.Mem.head _ | (refine' List.Mem.tail _ ?_; (first | assumption | exact List.Mem.head _))))))))))))))))); (case m51kA => first | assumption); (case m51n1 => first | assumption | omega); (case m51n2 => first | assumption | omega); intro D' t1' t2' t3' c' h' tk' F' N'; (try dsimp only); (try k_sweep))))
  exact trivial
theorem q_bit_and {w : World} {mean : ExcName → Option Value} {mg mb : Str → Option Value} (U : Addr) (as : List Int) (tU1 tU2 tU3 : Tok) (cU : Nat) (V : Addr) (bs : List Int) (tV1 tV2 tV3 : Tok) (cV : Nat) (news : Led) (hU : (U, tup3 (as.length : Int) (sLow as) (sHigh as) tU1 tU2 tU3 cU) ∈ news) (hV : (V, tup3 (bs.length : Int) (sLow bs) (sHigh bs) tV1 tV2 tV3 cV) ∈ news) (kA : Codes as) (n1 : 1 ≤ as.length) (n2 : as.length ≤ 20) (kB : Codes bs) (n3 : as.length = bs.length) :
   Cl w mean mg mb 1 56 [.ref U, .ref V] (PreN news) (RetTup news ((List.zipWith lAnd as bs).length : Int) (sLow (List.zipWith lAnd as bs)) (sHigh (List.zipWith lAnd as bs))) := by
  have e := law_and kA kB n3
  have c := c_bit_and (w := w) (mean := mean) (mg := mg) (mb := mb) U as.length (sLow as) (sHigh as) tU1 tU2 tU3 cU V bs.length (sLow bs) (sHigh bs) tV1 tV2 tV3 cV news hU hV
  rw [e] at c
  exact c
local macro_rules | `(tactic| walk_at "call ref") => `(tactic| k_extra "m52")
theorem word52 : True := by
  k_with "m52" => ((k_here; (with_reducible show wpAny _ _ (PySem.call (Value.ref 56) [Value.ref _, Value.ref _]) _ _ _); k_dflt (refine' use (q_bit_and _ _ _ _ _ _ _ _ _ _ _ _ _ ?m52mU ?m52mV ?m52kA ?m52n1 ?m52n2 ?m52kB ?m52n3) ?m52k1 ?m52k2 ?m52k3 ?m52k4 ?m52k5 ?m52k6 ?m52k7 ?m52k8 ?_; (case m52k1 => k_asm); (case m52k2 => k_asm); (case m52k3 => k_asm); (case m52k4 => k_asm); (case m52k5 => k_asm); (case m52k6 => first | exact rfl | assumption); (case m52k7 => ktr_room); (case m52k8 => ktr_units); (case m52mU => first | assumption | exact List.Mem.head _ | (refine' List.Mem.tail _ ?_; (first | assumption | exact List.Mem.head _ | (refine' List.Mem.tail _ ?_; (first | assumption | exact List.Mem.head _ | (refine' List.Mem.tail _ ?_; (first | assumption | exact List.Mem.head _ | (refine' List.Mem.tail _ ?_; (first | assumption | exact List.Mem.head _ | (refine' List.Mem.tail _ ?_; (first | assumption | exact List.Mem.head _ | (refine' List.Mem.tail _ ?_; (first | assumption | exact List.Mem.head _ | (refine' List.Mem.tail _ ?_; (first | assumption | exact List.Mem.head _ | (refine' List.Mem.tail _ ?_; (first | assumption | exact List.Mem.head _))))))))))))))))); (case m52mV => first | assumption | exact List.Mem.head _ | (refine' List.Mem.tail _ ?_; (first | assumption | exact List.Mem.head _ | (refine' List.Mem.tail _ ?_; (first | assumption | exact List.Mem.head _ | (refine' List.Mem.tail _ ?_; (first | assumption | exact List.Mem.head _ | (refine' List.Mem.tail _ ?_; (first | assumption | exact List.Mem.head _ | (refine' List.Mem.tail _ ?_; (first | assumption | exact List.Mem.head _ | (refine' List.Mem.tail _ ?_; (first | assumption | exact List.Mem.head _ | (refine' List.Mem.tail _ ?_; (first | assumption | exact List.Mem.head _ | (refine' List.Mem.tail _ ?_; (first | assumption | exact List.Mem.head _))))))))))))))))); (case m52kA => first | assumption); (case m52n1 => first | assumption | omega); (case m52n2 => first | assumption | omega); (case m52kB => first | assumption); (case m52n3 => first | assumption | omega); intro D' t1' t2' t3' c' h' tk' F' N'; (try dsimp only); (try k_sweep))))
  exact trivial
theorem q_bit_or {w : World} {mean : ExcName → Option Value} {mg mb : Str → Option Value} (U : Addr) (as : List Int) (tU1 tU2 tU3 : Tok) (cU : Nat) (V : Addr) (bs : List Int) (tV1 tV2 tV3 : Tok) (cV : Nat) (news : Led) (hU : (U, tup3 (as.length : Int) (sLow as) (sHigh as) tU1 tU2 tU3 cU) ∈ news) (hV : (V, tup3 (bs.length : Int) (sLow bs) (sHigh bs) tV1 tV2 tV3 cV) ∈ news) (kA : Codes as) (n1 : 1 ≤ as.length) (n2 : as.length ≤ 20) (kB : Codes bs) (n3 : as.length = bs.length) :
   Cl w mean mg mb 1 63 [.ref U, .ref V] (PreN news) (RetTup news ((List.zipWith lOr as bs).length : Int) (sLow (List.zipWith lOr as bs)) (sHigh (List.zipWith lOr as bs))) := by
  have e := law_or kA kB n3
  have c := c_bit_or (w := w) (mean := mean) (mg := mg) (mb := mb) U as.length (sLow as) (sHigh as) tU1 tU2 tU3 cU V bs.length (sLow bs) (sHigh bs) tV1 tV2 tV3 cV news hU hV (by omega) (by omega)
  rw [e] at c
  exact c
local macro_rules | `(tactic| walk_at "call ref") => `(tactic| k_extra "m53")
theorem word53 : True := by
  k_with "m53" => ((k_here; (with_reducible show wpAny _ _ (PySem.call (Value.ref 63) [Value.ref _, Value.ref _]) _ _ _); k_dflt (refine' use (q_bit_or _ _ _ _ _ _ _ _ _ _ _ _ _ ?m53mU ?m53mV ?m53kA ?m53n1 ?m53n2 ?m53kB ?m53n3) ?m53k1 ?m53k2 ?m53k3 ?m53k4 ?m53k5 ?m53k6 ?m53k7 ?m53k8 ?_; (case m53k1 => k_asm); (case m53k2 => k_asm); (case m53k3 => k_asm); (case m53k4 => k_asm); (case m53k5 => k_asm); (case m53k6 => first | exact rfl | assumption); (case m53k7 => ktr_room); (case m53k8 => ktr_units); (case m53mU => first | assumption | exact List.Mem.head _ | (refine' List.Mem.tail _ ?_; (first | assumption | exact List.Mem.head _ | (refine' List.Mem.tail _ ?_; (first | assumption | exact List.Mem.head _ | (refine' List.Mem.tail _ ?_; (first | assumption | exact List.Mem.head _ | (refine' List.Mem.tail _ ?_; (first | assumption | exact List.Mem.head _ | (refine' List.Mem.tail _ ?_; (first | assumption | exact List.Mem.head _ | (refine' List.Mem.tail _ ?_; (first | assumption | exact List.Mem.head _ | (refine' List.Mem.tail _ ?_; (first | assumption | exact List.Mem.head _ | (refine' List.Mem.tail _ ?_; (first | assumption | exact List.Mem.head _))))))))))))))))); (case m53mV => first | assumption | exact List.Mem.head _ | (refine' List.Mem.tail _ ?_; (first | assumption | exact List.Mem.head _ | (refine' List.Mem.tail _ ?_; (first | assumption | exact List.Mem.head _ | (refine' List.Mem.tail _ ?_; (first | assumption | exact List.Mem.head _ | (refine' List.Mem.tail _ ?_; (first | assumption | exact List.Mem.head _ | (refine' List.Mem.tail _ ?_; (first | assumption | exact List.Mem.head _ | (refine' List.Mem.tail _ ?_; (first | assumption | exact List.Mem.head _ | (refine' List.Mem.tail _ ?_; (first | assumption | exact List.Mem.head _ | (refine' List.Mem.tail _ ?_; (first | assumption | exact List.Mem.head _))))))))))))))))); (case m53kA => first | assumption); (case m53n1 => first | assumption | omega); (case m53n2 => first | assumption | omega); (case m53kB => first | assumption); (case m53n3 => first | assumption | omega); intro D' t1' t2' t3' c' h' tk' F' N'; (try dsimp only); (try k_sweep))))
  exact trivial
theorem q_bit_xor {w : World} {mean : ExcName → Option Value} {mg mb : Str → Option Value} (U : Addr) (as : List Int) (tU1 tU2 tU3 : Tok) (cU : Nat) (V : Addr) (bs : List Int) (tV1 tV2 tV3 : Tok) (cV : Nat) (news : Led) (hU : (U, tup3 (as.length : Int) (sLow as) (sHigh as) tU1 tU2 tU3 cU) ∈ news) (hV : (V, tup3 (bs.length : Int) (sLow bs) (sHigh bs) tV1 tV2 tV3 cV) ∈ news) (kA : Codes as) (n1 : 1 ≤ as.length) (n2 : as.length ≤ 20) (kB : Codes bs) (n3 : as.length = bs.length) :
   Cl w mean mg mb 1 70 [.ref U, .ref V] (PreN news) (RetTup news ((List.zipWith lXor as bs).length : Int) (sLow (List.zipWith lXor as bs)) (sHigh (List.zipWith lXor as bs))) := by
  have e := law_xor kA kB n3
  have c := c_bit_xor (w := w) (mean := mean) (mg := mg) (mb := mb) U as.length (sLow as) (sHigh as) tU1 tU2 tU3 cU V bs.length (sLow bs) (sHigh bs) tV1 tV2 tV3 cV news hU hV
  rw [e] at c
  exact c
local macro_rules | `(tactic| walk_at "call ref") => `(tactic| k_extra "m54")
theorem word54 : True := by
  k_with "m54" => ((k_here; (with_reducible show wpAny _ _ (PySem.call (Value.ref 70) [Value.ref _, Value.ref _]) _ _ _); k_dflt (refine' use (q_bit_xor _ _ _ _ _ _ _ _ _ _ _ _ _ ?m54mU ?m54mV ?m54kA ?m54n1 ?m54n2 ?m54kB ?m54n3) ?m54k1 ?m54k2 ?m54k3 ?m54k4 ?m54k5 ?m54k6 ?m54k7 ?m54k8 ?_; (case m54k1 => k_asm); (case m54k2 => k_asm); (case m54k3 => k_asm); (case m54k4 => k_asm); (case m54k5 => k_asm); (case m54k6 => first | exact rfl | assumption); (case m54k7 => ktr_room); (case m54k8 => ktr_units); (case m54mU => first | assumption | exact List.Mem.head _ | (refine' List.Mem.tail _ ?_; (first | assumption | exact List.Mem.head _ | (refine' List.Mem.tail _ ?_; (first | assumption | exact List.Mem.head _ | (refine' List.Mem.tail _ ?_; (first | assumption | exact List.Mem.head _ | (refine' List.Mem.tail _ ?_; (first | assumption | exact List.Mem.head _ | (refine' List.Mem.tail _ ?_; (first | assumption | exact List.Mem.head _ | (refine' List.Mem.tail _ ?_; (first | assumption | exact List.Mem.head _ | (refine' List.Mem.tail _ ?_; (first | assumption | exact List.Mem.head _ | (refine' List.Mem.tail _ ?_; (first | assumption | exact List.Mem.head _))))))))))))))))); (case m54mV => first | assumption | exact List.Mem.head _ | (refine' List.Mem.tail _ ?_; (first | assumption | exact List.Mem.head _ | (refine' List.Mem.tail _ ?_; (first | assumption | exact List.Mem.head _ | (refine' List.Mem.tail _ ?_; (first | assumption | exact List.Mem.head _ | (refine' List.Mem.tail _ ?_; (first | assumption | exact List.Mem.head _ | (refine' List.Mem.tail _ ?_; (first | assumption | exact List.Mem.head _ | (refine' List.Mem.tail _ ?_; (first | assumption | exact List.Mem.head _ | (refine' List.Mem.tail _ ?_; (first | assumption | exact List.Mem.head _ | (refine' List.Mem.tail _ ?_; (first | assumption | exact List.Mem.head _))))))))))))))))); (case m54kA => first | assumption); (case m54n1 => first | assumption | omega); (case m54n2 => first | assumption | omega); (case m54kB => first | assumption); (case m54n3 => first | assumption | omega); intro D' t1' t2' t3' c' h' tk' F' N'; (try dsimp only); (try k_sweep))))
  exact trivial
theorem q_bit_xnor {w : World} {mean : ExcName → Option Value} {mg mb : Str → Option Value} (U : Addr) (as : List Int) (tU1 tU2 tU3 : Tok) (cU : Nat) (V : Addr) (bs : List Int) (tV1 tV2 tV3 : Tok) (cV : Nat) (news : Led) (hU : (U, tup3 (as.length : Int) (sLow as) (sHigh as) tU1 tU2 tU3 cU) ∈ news) (hV : (V, tup3 (bs.length : Int) (sLow bs) (sHigh bs) tV1 tV2 tV3 cV) ∈ news) (kA : Codes as) (n1 : 1 ≤ as.length) (n2 : as.length ≤ 20) (kB : Codes bs) (n3 : as.length = bs.length) :
   Cl w mean mg mb 2 77 [.ref U, .ref V] (PreN news) (RetTup news ((List.zipWith (fun x y => lNot (lXor x y)) as bs).length : Int) (sLow (List.zipWith (fun x y => lNot (lXor x y)) as bs)) (sHigh (List.zipWith (fun x y => lNot (lXor x y)) as bs))) := by
  have e := law_xnor kA kB n3
  have c := c_bit_xnor (w := w) (mean := mean) (mg := mg) (mb := mb) U as.length (sLow as) (sHigh as) tU1 tU2 tU3 cU V bs.length (sLow bs) (sHigh bs) tV1 tV2 tV3 cV news hU hV (by omega) (by omega)
  rw [e] at c
  exact c
local macro_rules | `(tactic| walk_at "call ref") => `(tactic| k_extra "m55")
theorem word55 : True := by
  k_with "m55" => ((k_here; (with_reducible show wpAny _ _ (PySem.call (Value.ref 77) [Value.ref _, Value.ref _]) _ _ _); k_dflt (refine' use (q_bit_xnor _ _ _ _ _ _ _ _ _ _ _ _ _ ?m55mU ?m55mV ?m55kA ?m55n1 ?m55n2 ?m55kB ?m55n3) ?m55k1 ?m55k2 ?m55k3 ?m55k4 ?m55k5 ?m55k6 ?m55k7 ?m55k8 ?_; (case m55k1 => k_asm); (case m55k2 => k_asm); (case m55k3 => k_asm); (case m55k4 => k_asm); (case m55k5 => k_asm); (case m55k6 => first | exact rfl | assumption); (case m55k7 => ktr_room); (case m55k8 => ktr_units); (case m55mU => first | assumption | exact List.Mem.head _ | (refine' List.Mem.tail _ ?_; (first | assumption | exact List.Mem.head _ | (refine' List.Mem.tail _ ?_; (first | assumption | exact List.Mem.head _ | (refine' List.Mem.tail _ ?_; (first | assumption | exact List.Mem.head _ | (refine' List.Mem.tail _ ?_; (first | assumption | exact List.Mem.head _ | (refine' List.Mem.tail _ ?_; (first | assumption | exact List.Mem.head _ | (refine' List.Mem.tail _ ?_; (first | assumption | exact List.Mem.head _ | (refine' List.Mem.tail _ ?_; (first | assumption | exact List.Mem.head _ | (refine' List.Mem.tail _ ?_; (first | assumption | exact List.Mem.head _))))))))))))))))); (case m55mV => first | assumption | exact List.Mem.head _ | (refine' List.Mem.tail _ ?_; (first | assumption | exact List.Mem.head _ | (refine' List.Mem.tail _ ?_; (first | assumption | exact List.Mem.head _ | (refine' List.Mem.tail _ ?_; (first | assumption | exact List.Mem.head _ | (refine' List.Mem.tail _ ?_; (first | assumption | exact List.Mem.head _ | (refine' List.Mem.tail _ ?_; (first | assumption | exact List.Mem.head _ | (refine' List.Mem.tail _ ?_; (first | assumption | exact List.Mem.head _ | (refine' List.Mem.tail _ ?_; (first | assumption | exact List.Mem.head _ | (refine' List.Mem.tail _ ?_; (first | assumption | exact List.Mem.head _))))))))))))))))); (case m55kA => first | assumption); (case m55n1 => first | assumption | omega); (case m55n2 => first | assumption | omega); (case m55kB => first | assumption); (case m55n3 => first | assumption | omega); intro D' t1' t2' t3' c' h' tk' F' N'; (try dsimp only); (try k_sweep))))
  exact trivial
theorem q_reduce_and {w : World} {mean : ExcName → Option Value} {mg mb : Str → Option Value} (U : Addr) (as : List Int) (tU1 tU2 tU3 : Tok) (cU : Nat) (news : Led) (hU : (U, tup3 (as.length : Int) (sLow as) (sHigh as) tU1 tU2 tU3 cU) ∈ news) (kA : Codes as) (n1 : 1 ≤ as.length) (n2 : as.length ≤ 20) :
   Cl w mean mg mb 1 84 [.ref U] (PreN news) (RetTup news (([lOver lAnd as]).length : Int) (sLow ([lOver lAnd as])) (sHigh ([lOver lAnd as]))) := by
  have e := law_rand kA n1
  have c := c_reduce_and (w := w) (mean := mean) (mg := mg) (mb := mb) U as.length (sLow as) (sHigh as) tU1 tU2 tU3 cU news hU (by omega) (by omega)
  rw [e] at c
  exact c
local macro_rules | `(tactic| walk_at "call ref") => `(tactic| k_extra "m56")
theorem word56 : True := by
  k_with "m56" => ((k_here; (with_reducible show wpAny _ _ (PySem.call (Value.ref 84) [Value.ref _]) _ _ _); k_dflt (refine' use (q_reduce_and _ _ _ _ _ _ _ ?m56mU ?m56kA ?m56n1 ?m56n2) ?m56k1 ?m56k2 ?m56k3 ?m56k4 ?m56k5 ?m56k6 ?m56k7 ?m56k8 ?_; (case m56k1 => k_asm); (case m56k2 => k_asm); (case m56k3 => k_asm); (case m56k4 => k_asm); (case m56k5 => k_asm); (case m56k6 => first | exact rfl | assumption); (case m56k7 => ktr_room); (case m56k8 => ktr_units); (case m56mU => first | assumption | exact List.Mem.head _ | (refine' List.Mem.tail _ ?_; (first | assumption | exact List.Mem.head _ | (refine' List.Mem.tail _ ?_; (first | assumption | exact List.Mem.head _ | (refine' List.Mem.tail _ ?_; (first | assumption | exact List.Mem.head _ | (refine' List.Mem.tail _ ?_; (first | assumption | exact List.Mem.head _ | (refine' List.Mem.tail _ ?_; (first | assumption | exact List.Mem.head _ | (refine' List.Mem.tail _ ?_; (first | assumption | exact List.Mem.head _ | (refine' List.Mem.tail _ ?_; (first | assumption | exact List.Mem.head _ | (refine' List.Mem.tail _ ?_; (first | assumption | exact List.Mem.head _))))))))))))))))); (case m56kA => first | assumption); (case m56n1 => first | assumption | omega); (case m56n2 => first | assumption | omega); intro D' t1' t2' t3' c' h' tk' F' N'; (try dsimp only); (try k_sweep))))
  exact trivial
theorem q_reduce_or {w : World} {mean : ExcName → Option Value} {mg mb : Str → Option Value} (U : Addr) (as : List Int) (tU1 tU2 tU3 : Tok) (cU : Nat) (news : Led) (hU : (U, tup3 (as.length : Int) (sLow as) (sHigh as) tU1 tU2 tU3 cU) ∈ news) (kA : Codes as) (n1 : 1 ≤ as.length) (n2 : as.length ≤ 20) :
   Cl w mean mg mb 2 98 [.ref U] (PreN news) (RetTup news (([lOver lOr as]).length : Int) (sLow ([lOver lOr as])) (sHigh ([lOver lOr as]))) := by
  have e := law_ror kA n1
  have c := c_reduce_or (w := w) (mean := mean) (mg := mg) (mb := mb) U as.length (sLow as) (sHigh as) tU1 tU2 tU3 cU news hU (by omega) (by omega)
  rw [e] at c
  exact c
local macro_rules | `(tactic| walk_at "call ref") => `(tactic| k_extra "m57")
theorem word57 : True := by
  k_with "m57" => ((k_here; (with_reducible show wpAny _ _ (PySem.call (Value.ref 98) [Value.ref _]) _ _ _); k_dflt (refine' use (q_reduce_or _ _ _ _ _ _ _ ?m57mU ?m57kA ?m57n1 ?m57n2) ?m57k1 ?m57k2 ?m57k3 ?m57k4 ?m57k5 ?m57k6 ?m57k7 ?m57k8 ?_; (case m57k1 => k_asm); (case m57k2 => k_asm); (case m57k3 => k_asm); (case m57k4 => k_asm); (case m57k5 => k_asm); (case m57k6 => first | exact rfl | assumption); (case m57k7 => ktr_room); (case m57k8 => ktr_units); (case m57mU => first | assumption | exact List.Mem.head _ | (refine' List.Mem.tail _ ?_; (first | assumption | exact List.Mem.head _ | (refine' List.Mem.tail _ ?_; (first | assumption | exact List.Mem.head _ | (refine' List.Mem.tail _ ?_; (first | assumption | exact List.Mem.head _ | (refine' List.Mem.tail _ ?_; (first | assumption | exact List.Mem.head _ | (refine' List.Mem.tail _ ?_; (first | assumption | exact List.Mem.head _ | (refine' List.Mem.tail _ ?_; (first | assumption | exact List.Mem.head _ | (refine' List.Mem.tail _ ?_; (first | assumption | exact List.Mem.head _ | (refine' List.Mem.tail _ ?_; (first | assumption | exact List.Mem.head _))))))))))))))))); (case m57kA => first | assumption); (case m57n1 => first | assumption | omega); (case m57n2 => first | assumption | omega); intro D' t1' t2' t3' c' h' tk' F' N'; (try dsimp only); (try k_sweep))))
  exact trivial
theorem q_reduce_xor {w : World} {mean : ExcName → Option Value} {mg mb : Str → Option Value} (U : Addr) (as : List Int) (tU1 tU2 tU3 : Tok) (cU : Nat) (news : Led) (hU : (U, tup3 (as.length : Int) (sLow as) (sHigh as) tU1 tU2 tU3 cU) ∈ news) (kA : Codes as) (n1 : 1 ≤ as.length) (n2 : as.length ≤ 20) :
   Cl w mean mg mb 1 112 [.ref U] (PreN news) (RetTup news (([lOver lXor as]).length : Int) (sLow ([lOver lXor as])) (sHigh ([lOver lXor as]))) := by
  have e := law_rxor kA n1
  have c := c_reduce_xor (w := w) (mean := mean) (mg := mg) (mb := mb) U as.length as tU1 tU2 tU3 cU news hU
  rw [e] at c
  exact c
local macro_rules | `(tactic| walk_at "call ref") => `(tactic| k_extra "m58")
theorem word58 : True := by
  k_with "m58" => ((k_here; (with_reducible show wpAny _ _ (PySem.call (Value.ref 112) [Value.ref _]) _ _ _); k_dflt (refine' use (q_reduce_xor _ _ _ _ _ _ _ ?m58mU ?m58kA ?m58n1 ?m58n2) ?m58k1 ?m58k2 ?m58k3 ?m58k4 ?m58k5 ?m58k6 ?m58k7 ?m58k8 ?_; (case m58k1 => k_asm); (case m58k2 => k_asm); (case m58k3 => k_asm); (case m58k4 => k_asm); (case m58k5 => k_asm); (case m58k6 => first | exact rfl | assumption); (case m58k7 => ktr_room); (case m58k8 => ktr_units); (case m58mU => first | assumption | exact List.Mem.head _ | (refine' List.Mem.tail _ ?_; (first | assumption | exact List.Mem.head _ | (refine' List.Mem.tail _ ?_; (first | assumption | exact List.Mem.head _ | (refine' List.Mem.tail _ ?_; (first | assumption | exact List.Mem.head _ | (refine' List.Mem.tail _ ?_; (first | assumption | exact List.Mem.head _ | (refine' List.Mem.tail _ ?_; (first | assumption | exact List.Mem.head _ | (refine' List.Mem.tail _ ?_; (first | assumption | exact List.Mem.head _ | (refine' List.Mem.tail _ ?_; (first | assumption | exact List.Mem.head _ | (refine' List.Mem.tail _ ?_; (first | assumption | exact List.Mem.head _))))))))))))))))); (case m58kA => first | assumption); (case m58n1 => first | assumption | omega); (case m58n2 => first | assumption | omega); intro D' t1' t2' t3' c' h' tk' F' N'; (try dsimp only); (try k_sweep))))
  exact trivial
theorem q_reduce_nand {w : World} {mean : ExcName → Option Value} {mg mb : Str → Option Value} (U : Addr) (as : List Int) (tU1 tU2 tU3 : Tok) (cU : Nat) (news : Led) (hU : (U, tup3 (as.length : Int) (sLow as) (sHigh as) tU1 tU2 tU3 cU) ∈ news) (kA : Codes as) (n1 : 1 ≤ as.length) (n2 : as.length ≤ 20) :
   Cl w mean mg mb 2 91 [.ref U] (PreN news) (RetTup news (([lNot (lOver lAnd as)]).length : Int) (sLow ([lNot (lOver lAnd as)])) (sHigh ([lNot (lOver lAnd as)]))) := by
  have e := law_nand kA n1
  have c := c_reduce_nand (w := w) (mean := mean) (mg := mg) (mb := mb) U as.length (sLow as) (sHigh as) tU1 tU2 tU3 cU news hU (by omega) (by omega)
  rw [e] at c
  exact c
local macro_rules | `(tactic| walk_at "call ref") => `(tactic| k_extra "m59")
theorem word59 : True := by
  k_with "m59" => ((k_here; (with_reducible show wpAny _ _ (PySem.call (Value.ref 91) [Value.ref _]) _ _ _); k_dflt (refine' use (q_reduce_nand _ _ _ _ _ _ _ ?m59mU ?m59kA ?m59n1 ?m59n2) ?m59k1 ?m59k2 ?m59k3 ?m59k4 ?m59k5 ?m59k6 ?m59k7 ?m59k8 ?_; (case m59k1 => k_asm); (case m59k2 => k_asm); (case m59k3 => k_asm); (case m59k4 => k_asm); (case m59k5 => k_asm); (case m59k6 => first | exact rfl | assumption); (case m59k7 => ktr_room); (case m59k8 => ktr_units); (case m59mU => first | assumption | exact List.Mem.head _ | (refine' List.Mem.tail _ ?_; (first | assumption | exact List.Mem.head _ | (refine' List.Mem.tail _ ?_; (first | assumption | exact List.Mem.head _ | (refine' List.Mem.tail _ ?_; (first | assumption | exact List.Mem.head _ | (refine' List.Mem.tail _ ?_; (first | assumption | exact List.Mem.head _ | (refine' List.Mem.tail _ ?_; (first | assumption | exact List.Mem.head _ | (refine' List.Mem.tail _ ?_; (first | assumption | exact List.Mem.head _ | (refine' List.Mem.tail _ ?_; (first | assumption | exact List.Mem.head _ | (refine' List.Mem.tail _ ?_; (first | assumption | exact List.Mem.head _))))))))))))))))); (case m59kA => first | assumption); (case m59n1 => first | assumption | omega); (case m59n2 => first | assumption | omega); intro D' t1' t2' t3' c' h' tk' F' N'; (try dsimp only); (try k_sweep))))
  exact trivial
theorem q_reduce_nor {w : World} {mean : ExcName → Option Value} {mg mb : Str → Option Value} (U : Addr) (as : List Int) (tU1 tU2 tU3 : Tok) (cU : Nat) (news : Led) (hU : (U, tup3 (as.length : Int) (sLow as) (sHigh as) tU1 tU2 tU3 cU) ∈ news) (kA : Codes as) (n1 : 1 ≤ as.length) (n2 : as.length ≤ 20) :
   Cl w mean mg mb 3 105 [.ref U] (PreN news) (RetTup news (([lNot (lOver lOr as)]).length : Int) (sLow ([lNot (lOver lOr as)])) (sHigh ([lNot (lOver lOr as)]))) := by
  have e := law_nor kA n1
  have c := c_reduce_nor (w := w) (mean := mean) (mg := mg) (mb := mb) U as.length (sLow as) (sHigh as) tU1 tU2 tU3 cU news hU (by omega) (by omega)
  rw [e] at c
  exact c
local macro_rules | `(tactic| walk_at "call ref") => `(tactic| k_extra "m60")
theorem word60 : True := by
  k_with "m60" => ((k_here; (with_reducible show wpAny _ _ (PySem.call (Value.ref 105) [Value.ref _]) _ _ _); k_dflt (refine' use (q_reduce_nor _ _ _ _ _ _ _ ?m60mU ?m60kA ?m60n1 ?m60n2) ?m60k1 ?m60k2 ?m60k3 ?m60k4 ?m60k5 ?m60k6 ?m60k7 ?m60k8 ?_; (case m60k1 => k_asm); (case m60k2 => k_asm); (case m60k3 => k_asm); (case m60k4 => k_asm); (case m60k5 => k_asm); (case m60k6 => first | exact rfl | assumption); (case m60k7 => ktr_room); (case m60k8 => ktr_units); (case m60mU => first | assumption | exact List.Mem.head _ | (refine' List.Mem.tail _ ?_; (first | assumption | exact List.Mem.head _ | (refine' List.Mem.tail _ ?_; (first | assumption | exact List.Mem.head _ | (refine' List.Mem.tail _ ?_; (first | assumption | exact List.Mem.head _ | (refine' List.Mem.tail _ ?_; (first | assumption | exact List.Mem.head _ | (refine' List.Mem.tail _ ?_; (first | assumption | exact List.Mem.head _ | (refine' List.Mem.tail _ ?_; (first | assumption | exact List.Mem.head _ | (refine' List.Mem.tail _ ?_; (first | assumption | exact List.Mem.head _ | (refine' List.Mem.tail _ ?_; (first | assumption | exact List.Mem.head _))))))))))))))))); (case m60kA => first | assumption); (case m60n1 => first | assumption | omega); (case m60n2 => first | assumption | omega); intro D' t1' t2' t3' c' h' tk' F' N'; (try dsimp only); (try k_sweep))))
  exact trivial
theorem q_reduce_xnor {w : World} {mean : ExcName → Option Value} {mg mb : Str → Option Value} (U : Addr) (as : List Int) (tU1 tU2 tU3 : Tok) (cU : Nat) (news : Led) (hU : (U, tup3 (as.length : Int) (sLow as) (sHigh as) tU1 tU2 tU3 cU) ∈ news) (kA : Codes as) (n1 : 1 ≤ as.length) (n2 : as.length ≤ 20) :
   Cl w mean mg mb 2 119 [.ref U] (PreN news) (RetTup news (([lNot (lOver lXor as)]).length : Int) (sLow ([lNot (lOver lXor as)])) (sHigh ([lNot (lOver lXor as)]))) := by
  have e := law_rxnor kA n1
  have c := c_reduce_xnor (w := w) (mean := mean) (mg := mg) (mb := mb) U as.length as tU1 tU2 tU3 cU news hU
  rw [e] at c
  exact c
local macro_rules | `(tactic| walk_at "call ref") => `(tactic| k_extra "m61")
theorem word61 : True := by
  k_with "m61" => ((k_here; (with_reducible show wpAny _ _ (PySem.call (Value.ref 119) [Value.ref _]) _ _ _); k_dflt (refine' use (q_reduce_xnor _ _ _ _ _ _ _ ?m61mU ?m61kA ?m61n1 ?m61n2) ?m61k1 ?m61k2 ?m61k3 ?m61k4 ?m61k5 ?m61k6 ?m61k7 ?m61k8 ?_; (case m61k1 => k_asm); (case m61k2 => k_asm); (case m61k3 => k_asm); (case m61k4 => k_asm); (case m61k5 => k_asm); (case m61k6 => first | exact rfl | assumption); (case m61k7 => ktr_room); (case m61k8 => ktr_units); (case m61mU => first | assumption | exact List.Mem.head _ | (refine' List.Mem.tail _ ?_; (first | assumption | exact List.Mem.head _ | (refine' List.Mem.tail _ ?_; (first | assumption | exact List.Mem.head _ | (refine' List.Mem.tail _ ?_; (first | assumption | exact List.Mem.head _ | (refine' List.Mem.tail _ ?_; (first | assumption | exact List.Mem.head _ | (refine' List.Mem.tail _ ?_; (first | assumption | exact List.Mem.head _ | (refine' List.Mem.tail _ ?_; (first | assumption | exact List.Mem.head _ | (refine' List.Mem.tail _ ?_; (first | assumption | exact List.Mem.head _ | (refine' List.Mem.tail _ ?_; (first | assumption | exact List.Mem.head _))))))))))))))))); (case m61kA => first | assumption); (case m61n1 => first | assumption | omega); (case m61n2 => first | assumption | omega); intro D' t1' t2' t3' c' h' tk' F' N'; (try dsimp only); (try k_sweep))))
  exact trivial
theorem q_logic_not {w : World} {mean : ExcName → Option Value} {mg mb : Str → Option Value} (U : Addr) (as : List Int) (tU1 tU2 tU3 : Tok) (cU : Nat) (news : Led) (hU : (U, tup3 (as.length : Int) (sLow as) (sHigh as) tU1 tU2 tU3 cU) ∈ news) (kA : Codes as) (n1 : 1 ≤ as.length) (n2 : as.length ≤ 20) :
   Cl w mean mg mb 3 126 [.ref U] (PreN news) (RetTup news (([lNot (lOver lOr as)]).length : Int) (sLow ([lNot (lOver lOr as)])) (sHigh ([lNot (lOver lOr as)]))) := by
  have e := law_nor kA n1
  have c := c_logic_not (w := w) (mean := mean) (mg := mg) (mb := mb) U as.length (sLow as) (sHigh as) tU1 tU2 tU3 cU news hU (by omega) (by omega)
  rw [e] at c
  exact c
local macro_rules | `(tactic| walk_at "call ref") => `(tactic| k_extra "m62")
theorem word62 : True := by
  k_with "m62" => ((k_here; (with_reducible show wpAny _ _ (PySem.call (Value.ref 126) [Value.ref _]) _ _ _); k_dflt (refine' use (q_logic_not _ _ _ _ _ _ _ ?m62mU ?m62kA ?m62n1 ?m62n2) ?m62k1 ?m62k2 ?m62k3 ?m62k4 ?m62k5 ?m62k6 ?m62k7 ?m62k8 ?_; (case m62k1 => k_asm); (case m62k2 => k_asm); (case m62k3 => k_asm); (case m62k4 => k_asm); (case m62k5 => k_asm); (case m62k6 => first | exact rfl | assumption); (case m62k7 => ktr_room); (case m62k8 => ktr_units); (case m62mU => first | assumption | exact List.Mem.head _ | (refine' List.Mem.tail _ ?_; (first | assumption | exact List.Mem.head _ | (refine' List.Mem.tail _ ?_; (first | assumption | exact List.Mem.head _ | (refine' List.Mem.tail _ ?_; (first | assumption | exact List.Mem.head _ | (refine' List.Mem.tail _ ?_; (first | assumption | exact List.Mem.head _ | (refine' List.Mem.tail _ ?_; (first | assumption | exact List.Mem.head _ | (refine' List.Mem.tail _ ?_; (first | assumption | exact List.Mem.head _ | (refine' List.Mem.tail _ ?_; (first | assumption | exact List.Mem.head _ | (refine' List.Mem.tail _ ?_; (first | assumption | exact List.Mem.head _))))))))))))))))); (case m62kA => first | assumption); (case m62n1 => first | assumption | omega); (case m62n2 => first | assumption | omega); intro D' t1' t2' t3' c' h' tk' F' N'; (try dsimp only); (try k_sweep))))
  exact trivial
theorem q_logic_and {w : World} {mean : ExcName → Option Value} {mg mb : Str → Option Value} (U : Addr) (as : List Int) (tU1 tU2 tU3 : Tok) (cU : Nat) (T : Addr) (ts : List Int) (tT1 tT2 tT3 : Tok) (cT : Nat) (news : Led) (hU : (U, tup3 (as.length : Int) (sLow as) (sHigh as) tU1 tU2 tU3 cU) ∈ news) (hT : (T, tup3 (ts.length : Int) (sLow ts) (sHigh ts) tT1 tT2 tT3 cT) ∈ news) (kA : Codes as) (n1 : 1 ≤ as.length) (n2 : as.length ≤ 20) (kT : Codes ts) (n4 : 1 ≤ ts.length) (n5 : ts.length ≤ 20) :
   Cl w mean mg mb 3 133 [.ref U, .ref T] (PreN news) (RetTup news (([lAnd (lOver lOr as) (lOver lOr ts)]).length : Int) (sLow ([lAnd (lOver lOr as) (lOver lOr ts)])) (sHigh ([lAnd (lOver lOr as) (lOver lOr ts)]))) := by
  have e := law_land2 kA n1 kT n4
  have c := c_logic_and (w := w) (mean := mean) (mg := mg) (mb := mb) U as.length (sLow as) (sHigh as) tU1 tU2 tU3 cU T ts.length (sLow ts) (sHigh ts) tT1 tT2 tT3 cT news hU hT (by omega) (by omega) (by omega) (by omega)
  rw [e] at c
  exact c
local macro_rules | `(tactic| walk_at "call ref") => `(tactic| k_extra "m63")
theorem word63 : True := by
  k_with "m63" => ((k_here; (with_reducible show wpAny _ _ (PySem.call (Value.ref 133) [Value.ref _, Value.ref _]) _ _ _); k_dflt (refine' use (q_logic_and _ _ _ _ _ _ _ _ _ _ _ _ _ ?m63mU ?m63mT ?m63kA ?m63n1 ?m63n2 ?m63kT ?m63n4 ?m63n5) ?m63k1 ?m63k2 ?m63k3 ?m63k4 ?m63k5 ?m63k6 ?m63k7 ?m63k8 ?_; (case m63k1 => k_asm); (case m63k2 => k_asm); (case m63k3 => k_asm); (case m63k4 => k_asm); (case m63k5 => k_asm); (case m63k6 => first | exact rfl | assumption); (case m63k7 => ktr_room); (case m63k8 => ktr_units); (case m63mU => first | assumption | exact List.Mem.head _ | (refine' List.Mem.tail _ ?_; (first | assumption | exact List.Mem.head _ | (refine' List.Mem.tail _ ?_; (first | assumption | exact List.Mem.head _ | (refine' List.Mem.tail _ ?_; (first | assumption | exact List.Mem.head _ | (refine' List.Mem.tail _ ?_; (first | assumption | exact List.Mem.head _ | (refine' List.Mem.tail _ ?_; (first | assumption | exact List.Mem.head _ | (refine' List.Mem.tail _ ?_; (first | assumption | exact List.Mem.head _ | (refine' List.Mem.tail _ ?_; (first | assumption | exact List.Mem.head _ | (refine' List.Mem.tail _ ?_; (first | assumption | exact List.Mem.head _))))))))))))))))); (case m63mT => first | assumption | exact List.Mem.head _ | (refine' List.Mem.tail _ ?_; (first | assumption | exact List.Mem.head _ | (refine' List.Mem.tail _ ?_; (first | assumption | exact List.Mem.head _ | (refine' List.Mem.tail _ ?_; (first | assumption | exact List.Mem.head _ | (refine' List.Mem.tail _ ?_; (first | assumption | exact List.Mem.head _ | (refine' List.Mem.tail _ ?_; (first | assumption | exact List.Mem.head _ | (refine' List.Mem.tail _ ?_; (first | assumption | exact List.Mem.head _ | (refine' List.Mem.tail _ ?_; (first | assumption | exact List.Mem.head _ | (refine' List.Mem.tail _ ?_; (first | assumption | exact List.Mem.head _))))))))))))))))); (case m63kA => first | assumption); (case m63n1 => first | assumption | omega); (case m63n2 => first | assumption | omega); (case m63kT => first | assumption); (case m63n4 => first | assumption | omega); (case m63n5 => first | assumption | omega); intro D' t1' t2' t3' c' h' tk' F' N'; (try dsimp only); (try k_sweep))))
  exact trivial
theorem q_logic_or {w : World} {mean : ExcName → Option Value} {mg mb : Str → Option Value} (U : Addr) (as : List Int) (tU1 tU2 tU3 : Tok) (cU : Nat) (T : Addr) (ts : List Int) (tT1 tT2 tT3 : Tok) (cT : Nat) (news : Led) (hU : (U, tup3 (as.length : Int) (sLow as) (sHigh as) tU1 tU2 tU3 cU) ∈ news) (hT : (T, tup3 (ts.length : Int) (sLow ts) (sHigh ts) tT1 tT2 tT3 cT) ∈ news) (kA : Codes as) (n1 : 1 ≤ as.length) (n2 : as.length ≤ 20) (kT : Codes ts) (n4 : 1 ≤ ts.length) (n5 : ts.length ≤ 20) :
   Cl w mean mg mb 3 140 [.ref U, .ref T] (PreN news) (RetTup news (([lOr (lOver lOr as) (lOver lOr ts)]).length : Int) (sLow ([lOr (lOver lOr as) (lOver lOr ts)])) (sHigh ([lOr (lOver lOr as) (lOver lOr ts)]))) := by
  have e := law_lor2 kA n1 kT n4
  have c := c_logic_or (w := w) (mean := mean) (mg := mg) (mb := mb) U as.length (sLow as) (sHigh as) tU1 tU2 tU3 cU T ts.length (sLow ts) (sHigh ts) tT1 tT2 tT3 cT news hU hT (by omega) (by omega) (by omega) (by omega)
  rw [e] at c
  exact c
local macro_rules | `(tactic| walk_at "call ref") => `(tactic| k_extra "m64")
theorem word64 : True := by
  k_with "m64" => ((k_here; (with_reducible show wpAny _ _ (PySem.call (Value.ref 140) [Value.ref _, Value.ref _]) _ _ _); k_dflt (refine' use (q_logic_or _ _ _ _ _ _ _ _ _ _ _ _ _ ?m64mU ?m64mT ?m64kA ?m64n1 ?m64n2 ?m64kT ?m64n4 ?m64n5) ?m64k1 ?m64k2 ?m64k3 ?m64k4 ?m64k5 ?m64k6 ?m64k7 ?m64k8 ?_; (case m64k1 => k_asm); (case m64k2 => k_asm); (case m64k3 => k_asm); (case m64k4 => k_asm); (case m64k5 => k_asm); (case m64k6 => first | exact rfl | assumption); (case m64k7 => ktr_room); (case m64k8 => ktr_units); (case m64mU => first | assumption | exact List.Mem.head _ | (refine' List.Mem.tail _ ?_; (first | assumption | exact List.Mem.head _ | (refine' List.Mem.tail _ ?_; (first | assumption | exact List.Mem.head _ | (refine' List.Mem.tail _ ?_; (first | assumption | exact List.Mem.head _ | (refine' List.Mem.tail _ ?_; (first | assumption | exact List.Mem.head _ | (refine' List.Mem.tail _ ?_; (first | assumption | exact List.Mem.head _ | (refine' List.Mem.tail _ ?_; (first | assumption | exact List.Mem.head _ | (refine' List.Mem.tail _ ?_; (first | assumption | exact List.Mem.head _ | (refine' List.Mem.tail _ ?_; (first | assumption | exact List.Mem.head _))))))))))))))))); (case m64mT => first | assumption | exact List.Mem.head _ | (refine' List.Mem.tail _ ?_; (first | assumption | exact List.Mem.head _ | (refine' List.Mem.tail _ ?_; (first | assumption | exact List.Mem.head _ | (refine' List.Mem.tail _ ?_; (first | assumption | exact List.Mem.head _ | (refine' List.Mem.tail _ ?_; (first | assumption | exact List.Mem.head _ | (refine' List.Mem.tail _ ?_; (first | assumption | exact List.Mem.head _ | (refine' List.Mem.tail _ ?_; (first | assumption | exact List.Mem.head _ | (refine' List.Mem.tail _ ?_; (first | assumption | exact List.Mem.head _ | (refine' List.Mem.tail _ ?_; (first | assumption | exact List.Mem.head _))))))))))))))))); (case m64kA => first | assumption); (case m64n1 => first | assumption | omega); (case m64n2 => first | assumption | omega); (case m64kT => first | assumption); (case m64n4 => first | assumption | omega); (case m64n5 => first | assumption | omega); intro D' t1' t2' t3' c' h' tk' F' N'; (try dsimp only); (try k_sweep))))
  exact trivial
theorem q_equal {w : World} {mean : ExcName → Option Value} {mg mb : Str → Option Value} (U : Addr) (as : List Int) (tU1 tU2 tU3 : Tok) (cU : Nat) (V : Addr) (bs : List Int) (tV1 tV2 tV3 : Tok) (cV : Nat) (news : Led) (hU : (U, tup3 (as.length : Int) (sLow as) (sHigh as) tU1 tU2 tU3 cU) ∈ news) (hV : (V, tup3 (bs.length : Int) (sLow bs) (sHigh bs) tV1 tV2 tV3 cV) ∈ news) (kA : Codes as) (n1 : 1 ≤ as.length) (n2 : as.length ≤ 20) (kB : Codes bs) (n3 : as.length = bs.length) :
   Cl w mean mg mb 1 147 [.ref U, .ref V] (PreN news) (RetTup news (([lOver lAnd (List.zipWith (fun x y => lNot (lXor x y)) as bs)]).length : Int) (sLow ([lOver lAnd (List.zipWith (fun x y => lNot (lXor x y)) as bs)])) (sHigh ([lOver lAnd (List.zipWith (fun x y => lNot (lXor x y)) as bs)]))) := by
  have e := law_eq kA kB n3 n1
  have c := c_equal (w := w) (mean := mean) (mg := mg) (mb := mb) U as.length (sLow as) (sHigh as) tU1 tU2 tU3 cU V bs.length (sLow bs) (sHigh bs) tV1 tV2 tV3 cV news hU hV (by omega) (by omega)
  rw [e] at c
  exact c
local macro_rules | `(tactic| walk_at "call ref") => `(tactic| k_extra "m65")
theorem word65 : True := by
  k_with "m65" => ((k_here; (with_reducible show wpAny _ _ (PySem.call (Value.ref 147) [Value.ref _, Value.ref _]) _ _ _); k_dflt (refine' use (q_equal _ _ _ _ _ _ _ _ _ _ _ _ _ ?m65mU ?m65mV ?m65kA ?m65n1 ?m65n2 ?m65kB ?m65n3) ?m65k1 ?m65k2 ?m65k3 ?m65k4 ?m65k5 ?m65k6 ?m65k7 ?m65k8 ?_; (case m65k1 => k_asm); (case m65k2 => k_asm); (case m65k3 => k_asm); (case m65k4 => k_asm); (case m65k5 => k_asm); (case m65k6 => first | exact rfl | assumption); (case m65k7 => ktr_room); (case m65k8 => ktr_units); (case m65mU => first | assumption | exact List.Mem.head _ | (refine' List.Mem.tail _ ?_; (first | assumption | exact List.Mem.head _ | (refine' List.Mem.tail _ ?_; (first | assumption | exact List.Mem.head _ | (refine' List.Mem.tail _ ?_; (first | assumption | exact List.Mem.head _ | (refine' List.Mem.tail _ ?_; (first | assumption | exact List.Mem.head _ | (refine' List.Mem.tail _ ?_; (first | assumption | exact List.Mem.head _ | (refine' List.Mem.tail _ ?_; (first | assumption | exact List.Mem.head _ | (refine' List.Mem.tail _ ?_; (first | assumption | exact List.Mem.head _ | (refine' List.Mem.tail _ ?_; (first | assumption | exact List.Mem.head _))))))))))))))))); (case m65mV => first | assumption | exact List.Mem.head _ | (refine' List.Mem.tail _ ?_; (first | assumption | exact List.Mem.head _ | (refine' List.Mem.tail _ ?_; (first | assumption | exact List.Mem.head _ | (refine' List.Mem.tail _ ?_; (first | assumption | exact List.Mem.head _ | (refine' List.Mem.tail _ ?_; (first | assumption | exact List.Mem.head _ | (refine' List.Mem.tail _ ?_; (first | assumption | exact List.Mem.head _ | (refine' List.Mem.tail _ ?_; (first | assumption | exact List.Mem.head _ | (refine' List.Mem.tail _ ?_; (first | assumption | exact List.Mem.head _ | (refine' List.Mem.tail _ ?_; (first | assumption | exact List.Mem.head _))))))))))))))))); (case m65kA => first | assumption); (case m65n1 => first | assumption | omega); (case m65n2 => first | assumption | omega); (case m65kB => first | assumption); (case m65n3 => first | assumption | omega); intro D' t1' t2' t3' c' h' tk' F' N'; (try dsimp only); (try k_sweep))))
  exact trivial
theorem q_not_equal {w : World} {mean : ExcName → Option Value} {mg mb : Str → Option Value} (U : Addr) (as : List Int) (tU1 tU2 tU3 : Tok) (cU : Nat) (V : Addr) (bs : List Int) (tV1 tV2 tV3 : Tok) (cV : Nat) (news : Led) (hU : (U, tup3 (as.length : Int) (sLow as) (sHigh as) tU1 tU2 tU3 cU) ∈ news) (hV : (V, tup3 (bs.length : Int) (sLow bs) (sHigh bs) tV1 tV2 tV3 cV) ∈ news) (kA : Codes as) (n1 : 1 ≤ as.length) (n2 : as.length ≤ 20) (kB : Codes bs) (n3 : as.length = bs.length) :
   Cl w mean mg mb 2 154 [.ref U, .ref V] (PreN news) (RetTup news (([lNot (lOver lAnd (List.zipWith (fun x y => lNot (lXor x y)) as bs))]).length : Int) (sLow ([lNot (lOver lAnd (List.zipWith (fun x y => lNot (lXor x y)) as bs))])) (sHigh ([lNot (lOver lAnd (List.zipWith (fun x y => lNot (lXor x y)) as bs))]))) := by
  have e := law_neq kA kB n3 n1
  have c := c_not_equal (w := w) (mean := mean) (mg := mg) (mb := mb) U as.length (sLow as) (sHigh as) tU1 tU2 tU3 cU V bs.length (sLow bs) (sHigh bs) tV1 tV2 tV3 cV news hU hV (by omega) (by omega)
  rw [e] at c
  exact c
local macro_rules | `(tactic| walk_at "call ref") => `(tactic| k_extra "m66")
theorem word66 : True := by
  k_with "m66" => ((k_here; (with_reducible show wpAny _ _ (PySem.call (Value.ref 154) [Value.ref _, Value.ref _]) _ _ _); k_dflt (refine' use (q_not_equal _ _ _ _ _ _ _ _ _ _ _ _ _ ?m66mU ?m66mV ?m66kA ?m66n1 ?m66n2 ?m66kB ?m66n3) ?m66k1 ?m66k2 ?m66k3 ?m66k4 ?m66k5 ?m66k6 ?m66k7 ?m66k8 ?_; (case m66k1 => k_asm); (case m66k2 => k_asm); (case m66k3 => k_asm); (case m66k4 => k_asm); (case m66k5 => k_asm); (case m66k6 => first | exact rfl | assumption); (case m66k7 => ktr_room); (case m66k8 => ktr_units); (case m66mU => first | assumption | exact List.Mem.head _ | (refine' List.Mem.tail _ ?_; (first | assumption | exact List.Mem.head _ | (refine' List.Mem.tail _ ?_; (first | assumption | exact List.Mem.head _ | (refine' List.Mem.tail _ ?_; (first | assumption | exact List.Mem.head _ | (refine' List.Mem.tail _ ?_; (first | assumption | exact List.Mem.head _ | (refine' List.Mem.tail _ ?_; (first | assumption | exact List.Mem.head _ | (refine' List.Mem.tail _ ?_; (first | assumption | exact List.Mem.head _ | (refine' List.Mem.tail _ ?_; (first | assumption | exact List.Mem.head _ | (refine' List.Mem.tail _ ?_; (first | assumption | exact List.Mem.head _))))))))))))))))); (case m66mV => first | assumption | exact List.Mem.head _ | (refine' List.Mem.tail _ ?_; (first | assumption | exact List.Mem.head _ | (refine' List.Mem.tail _ ?_; (first | assumption | exact List.Mem.head _ | (refine' List.Mem.tail _ ?_; (first | assumption | exact List.Mem.head _ | (refine' List.Mem.tail _ ?_; (first | assumption | exact List.Mem.head _ | (refine' List.Mem.tail _ ?_; (first | assumption | exact List.Mem.head _ | (refine' List.Mem.tail _ ?_; (first | assumption | exact List.Mem.head _ | (refine' List.Mem.tail _ ?_; (first | assumption | exact List.Mem.head _ | (refine' List.Mem.tail _ ?_; (first | assumption | exact List.Mem.head _))))))))))))))))); (case m66kA => first | assumption); (case m66n1 => first | assumption | omega); (case m66n2 => first | assumption | omega); (case m66kB => first | assumption); (case m66n3 => first | assumption | omega); intro D' t1' t2' t3' c' h' tk' F' N'; (try dsimp only); (try k_sweep))))
  exact trivial
theorem q_case_equal {w : World} {mean : ExcName → Option Value} {mg mb : Str → Option Value} (U : Addr) (as : List Int) (tU1 tU2 tU3 : Tok) (cU : Nat) (V : Addr) (bs : List Int) (tV1 tV2 tV3 : Tok) (cV : Nat) (news : Led) (hU : (U, tup3 (as.length : Int) (sLow as) (sHigh as) tU1 tU2 tU3 cU) ∈ news) (hV : (V, tup3 (bs.length : Int) (sLow bs) (sHigh bs) tV1 tV2 tV3 cV) ∈ news) (kA : Codes as) (n1 : 1 ≤ as.length) (n2 : as.length ≤ 20) (kB : Codes bs) (n3 : as.length = bs.length) :
   Cl w mean mg mb 1 161 [.ref U, .ref V] (PreN news) (RetTup news (([if as = bs then 1 else 0]).length : Int) (sLow ([if as = bs then 1 else 0])) (sHigh ([if as = bs then 1 else 0]))) := by
  have e := law_ceq kA kB n3
  have c := c_case_equal (w := w) (mean := mean) (mg := mg) (mb := mb) U as.length (sLow as) (sHigh as) tU1 tU2 tU3 cU V bs.length (sLow bs) (sHigh bs) tV1 tV2 tV3 cV news hU hV
  rw [e] at c
  exact c
local macro_rules | `(tactic| walk_at "call ref") => `(tactic| k_extra "m67")
theorem word67 : True := by
  k_with "m67" => ((k_here; (with_reducible show wpAny _ _ (PySem.call (Value.ref 161) [Value.ref _, Value.ref _]) _ _ _); k_dflt (refine' use (q_case_equal _ _ _ _ _ _ _ _ _ _ _ _ _ ?m67mU ?m67mV ?m67kA ?m67n1 ?m67n2 ?m67kB ?m67n3) ?m67k1 ?m67k2 ?m67k3 ?m67k4 ?m67k5 ?m67k6 ?m67k7 ?m67k8 ?_; (case m67k1 => k_asm); (case m67k2 => k_asm); (case m67k3 => k_asm); (case m67k4 => k_asm); (case m67k5 => k_asm); (case m67k6 => first | exact rfl | assumption); (case m67k7 => ktr_room); (case m67k8 => ktr_units); (case m67mU => first | assumption | exact List.Mem.head _ | (refine' List.Mem.tail _ ?_; (first | assumption | exact List.Mem.head _ | (refine' List.Mem.tail _ ?_; (first | assumption | exact List.Mem.head _ | (refine' List.Mem.tail _ ?_; (first | assumption | exact List.Mem.head _ | (refine' List.Mem.tail _ ?_; (first | assumption | exact List.Mem.head _ | (refine' List.Mem.tail _ ?_; (first | assumption | exact List.Mem.head _ | (refine' List.Mem.tail _ ?_; (first | assumption | exact List.Mem.head _ | (refine' List.Mem.tail _ ?_; (first | assumption | exact List.Mem.head _ | (refine' List.Mem.tail _ ?_; (first | assumption | exact List.Mem.head _))))))))))))))))); (case m67mV => first | assumption | exact List.Mem.head _ | (refine' List.Mem.tail _ ?_; (first | assumption | exact List.Mem.head _ | (refine' List.Mem.tail _ ?_; (first | assumption | exact List.Mem.head _ | (refine' List.Mem.tail _ ?_; (first | assumption | exact List.Mem.head _ | (refine' List.Mem.tail _ ?_; (first | assumption | exact List.Mem.head _ | (refine' List.Mem.tail _ ?_; (first | assumption | exact List.Mem.head _ | (refine' List.Mem.tail _ ?_; (first | assumption | exact List.Mem.head _ | (refine' List.Mem.tail _ ?_; (first | assumption | exact List.Mem.head _ | (refine' List.Mem.tail _ ?_; (first | assumption | exact List.Mem.head _))))))))))))))))); (case m67kA => first | assumption); (case m67n1 => first | assumption | omega); (case m67n2 => first | assumption | omega); (case m67kB => first | assumption); (case m67n3 => first | assumption | omega); intro D' t1' t2' t3' c' h' tk' F' N'; (try dsimp only); (try k_sweep))))
  exact trivial
theorem q_case_not_equal {w : World} {mean : ExcName → Option Value} {mg mb : Str → Option Value} (U : Addr) (as : List Int) (tU1 tU2 tU3 : Tok) (cU : Nat) (V : Addr) (bs : List Int) (tV1 tV2 tV3 : Tok) (cV : Nat) (news : Led) (hU : (U, tup3 (as.length : Int) (sLow as) (sHigh as) tU1 tU2 tU3 cU) ∈ news) (hV : (V, tup3 (bs.length : Int) (sLow bs) (sHigh bs) tV1 tV2 tV3 cV) ∈ news) (kA : Codes as) (n1 : 1 ≤ as.length) (n2 : as.length ≤ 20) (kB : Codes bs) (n3 : as.length = bs.length) :
   Cl w mean mg mb 1 168 [.ref U, .ref V] (PreN news) (RetTup news (([1 - (if as = bs then 1 else 0)]).length : Int) (sLow ([1 - (if as = bs then 1 else 0)])) (sHigh ([1 - (if as = bs then 1 else 0)]))) := by
  have e := law_cne kA kB n3
  have c := c_case_not_equal (w := w) (mean := mean) (mg := mg) (mb := mb) U as.length (sLow as) (sHigh as) tU1 tU2 tU3 cU V bs.length (sLow bs) (sHigh bs) tV1 tV2 tV3 cV news hU hV
  rw [e] at c
  exact c
local macro_rules | `(tactic| walk_at "call ref") => `(tactic| k_extra "m68")
theorem word68 : True := by
  k_with "m68" => ((k_here; (with_reducible show wpAny _ _ (PySem.call (Value.ref 168) [Value.ref _, Value.ref _]) _ _ _); k_dflt (refine' use (q_case_not_equal _ _ _ _ _ _ _ _ _ _ _ _ _ ?m68mU ?m68mV ?m68kA ?m68n1 ?m68n2 ?m68kB ?m68n3) ?m68k1 ?m68k2 ?m68k3 ?m68k4 ?m68k5 ?m68k6 ?m68k7 ?m68k8 ?_; (case m68k1 => k_asm); (case m68k2 => k_asm); (case m68k3 => k_asm); (case m68k4 => k_asm); (case m68k5 => k_asm); (case m68k6 => first | exact rfl | assumption); (case m68k7 => ktr_room); (case m68k8 => ktr_units); (case m68mU => first | assumption | exact List.Mem.head _ | (refine' List.Mem.tail _ ?_; (first | assumption | exact List.Mem.head _ | (refine' List.Mem.tail _ ?_; (first | assumption | exact List.Mem.head _ | (refine' List.Mem.tail _ ?_; (first | assumption | exact List.Mem.head _ | (refine' List.Mem.tail _ ?_; (first | assumption | exact List.Mem.head _ | (refine' List.Mem.tail _ ?_; (first | assumption | exact List.Mem.head _ | (refine' List.Mem.tail _ ?_; (first | assumption | exact List.Mem.head _ | (refine' List.Mem.tail _ ?_; (first | assumption | exact List.Mem.head _ | (refine' List.Mem.tail _ ?_; (first | assumption | exact List.Mem.head _))))))))))))))))); (case m68mV => first | assumption | exact List.Mem.head _ | (refine' List.Mem.tail _ ?_; (first | assumption | exact List.Mem.head _ | (refine' List.Mem.tail _ ?_; (first | assumption | exact List.Mem.head _ | (refine' List.Mem.tail _ ?_; (first | assumption | exact List.Mem.head _ | (refine' List.Mem.tail _ ?_; (first | assumption | exact List.Mem.head _ | (refine' List.Mem.tail _ ?_; (first | assumption | exact List.Mem.head _ | (refine' List.Mem.tail _ ?_; (first | assumption | exact List.Mem.head _ | (refine' List.Mem.tail _ ?_; (first | assumption | exact List.Mem.head _ | (refine' List.Mem.tail _ ?_; (first | assumption | exact List.Mem.head _))))))))))))))))); (case m68kA => first | assumption); (case m68n1 => first | assumption | omega); (case m68n2 => first | assumption | omega); (case m68kB => first | assumption); (case m68n3 => first | assumption | omega); intro D' t1' t2' t3' c' h' tk' F' N'; (try dsimp only); (try k_sweep))))
  exact trivial
theorem q_matches_case {w : World} {mean : ExcName → Option Value} {mg mb : Str → Option Value} (tkk : Tok) (U : Addr) (as : List Int) (tU1 tU2 tU3 : Tok) (cU : Nat) (V : Addr) (bs : List Int) (tV1 tV2 tV3 : Tok) (cV : Nat) (news : Led) (hU : (U, tup3 (as.length : Int) (sLow as) (sHigh as) tU1 tU2 tU3 cU) ∈ news) (hV : (V, tup3 (bs.length : Int) (sLow bs) (sHigh bs) tV1 tV2 tV3 cV) ∈ news) (kA : Codes as) (n1 : 1 ≤ as.length) (n2 : as.length ≤ 20) (kB : Codes bs) (n3 : as.length = bs.length) :
   Cl w mean mg mb 1 175 [.str (Str.ofString "case") tkk, .ref U, .ref V] (PreN news) (RetBool news (mMeets [] as bs)) := by
  have e := law_m0 kA kB n3
  have c := c_matches_case (w := w) (mean := mean) (mg := mg) (mb := mb) tkk U as.length (sLow as) (sHigh as) tU1 tU2 tU3 cU V bs.length (sLow bs) (sHigh bs) tV1 tV2 tV3 cV news hU hV (by omega) (by omega)
  rw [e] at c
  exact c
local macro_rules | `(tactic| walk_at "call ref") => `(tactic| k_extra "m69")
theorem word69 : True := by
  k_with "m69" => ((k_here; (with_reducible show wpAny _ _ (PySem.call (Value.ref 175) [Value.str _ _, Value.ref _, Value.ref _]) _ _ _); k_dflt (refine' use (q_matches_case _ _ _ _ _ _ _ _ _ _ _ _ _ _ ?m69mU ?m69mV ?m69kA ?m69n1 ?m69n2 ?m69kB ?m69n3) ?m69k1 ?m69k2 ?m69k3 ?m69k4 ?m69k5 ?m69k6 ?m69k7 ?m69k8 ?_; (case m69k1 => k_asm); (case m69k2 => k_asm); (case m69k3 => k_asm); (case m69k4 => k_asm); (case m69k5 => k_asm); (case m69k6 => first | exact rfl | assumption); (case m69k7 => ktr_room); (case m69k8 => ktr_units); (case m69mU => first | assumption | exact List.Mem.head _ | (refine' List.Mem.tail _ ?_; (first | assumption | exact List.Mem.head _ | (refine' List.Mem.tail _ ?_; (first | assumption | exact List.Mem.head _ | (refine' List.Mem.tail _ ?_; (first | assumption | exact List.Mem.head _ | (refine' List.Mem.tail _ ?_; (first | assumption | exact List.Mem.head _ | (refine' List.Mem.tail _ ?_; (first | assumption | exact List.Mem.head _ | (refine' List.Mem.tail _ ?_; (first | assumption | exact List.Mem.head _ | (refine' List.Mem.tail _ ?_; (first | assumption | exact List.Mem.head _ | (refine' List.Mem.tail _ ?_; (first | assumption | exact List.Mem.head _))))))))))))))))); (case m69mV => first | assumption | exact List.Mem.head _ | (refine' List.Mem.tail _ ?_; (first | assumption | exact List.Mem.head _ | (refine' List.Mem.tail _ ?_; (first | assumption | exact List.Mem.head _ | (refine' List.Mem.tail _ ?_; (first | assumption | exact List.Mem.head _ | (refine' List.Mem.tail _ ?_; (first | assumption | exact List.Mem.head _ | (refine' List.Mem.tail _ ?_; (first | assumption | exact List.Mem.head _ | (refine' List.Mem.tail _ ?_; (first | assumption | exact List.Mem.head _ | (refine' List.Mem.tail _ ?_; (first | assumption | exact List.Mem.head _ | (refine' List.Mem.tail _ ?_; (first | assumption | exact List.Mem.head _))))))))))))))))); (case m69kA => first | assumption); (case m69n1 => first | assumption | omega); (case m69n2 => first | assumption | omega); (case m69kB => first | assumption); (case m69n3 => first | assumption | omega); intro h' tk' F' N'; (try dsimp only); (try k_sweep))))
  exact trivial
theorem q_matches_casez {w : World} {mean : ExcName → Option Value} {mg mb : Str → Option Value} (tkk : Tok) (U : Addr) (as : List Int) (tU1 tU2 tU3 : Tok) (cU : Nat) (V : Addr) (bs : List Int) (tV1 tV2 tV3 : Tok) (cV : Nat) (news : Led) (hU : (U, tup3 (as.length : Int) (sLow as) (sHigh as) tU1 tU2 tU3 cU) ∈ news) (hV : (V, tup3 (bs.length : Int) (sLow bs) (sHigh bs) tV1 tV2 tV3 cV) ∈ news) (kA : Codes as) (n1 : 1 ≤ as.length) (n2 : as.length ≤ 20) (kB : Codes bs) (n3 : as.length = bs.length) :
   Cl w mean mg mb 1 175 [.str (Str.ofString "casez") tkk, .ref U, .ref V] (PreN news) (RetBool news (mMeets [2] as bs)) := by
  have e := law_mz kA kB n3
  have c := c_matches_casez (w := w) (mean := mean) (mg := mg) (mb := mb) tkk U as.length (sLow as) (sHigh as) tU1 tU2 tU3 cU V bs.length (sLow bs) (sHigh bs) tV1 tV2 tV3 cV news hU hV (by omega) (by omega)
  rw [e] at c
  exact c
local macro_rules | `(tactic| walk_at "call ref") => `(tactic| k_extra "m70")
theorem word70 : True := by
  k_with "m70" => ((k_here; (with_reducible show wpAny _ _ (PySem.call (Value.ref 175) [Value.str _ _, Value.ref _, Value.ref _]) _ _ _); k_dflt (refine' use (q_matches_casez _ _ _ _ _ _ _ _ _ _ _ _ _ _ ?m70mU ?m70mV ?m70kA ?m70n1 ?m70n2 ?m70kB ?m70n3) ?m70k1 ?m70k2 ?m70k3 ?m70k4 ?m70k5 ?m70k6 ?m70k7 ?m70k8 ?_; (case m70k1 => k_asm); (case m70k2 => k_asm); (case m70k3 => k_asm); (case m70k4 => k_asm); (case m70k5 => k_asm); (case m70k6 => first | exact rfl | assumption); (case m70k7 => ktr_room); (case m70k8 => ktr_units); (case m70mU => first | assumption | exact List.Mem.head _ | (refine' List.Mem.tail _ ?_; (first | assumption | exact List.Mem.head _ | (refine' List.Mem.tail _ ?_; (first | assumption | exact List.Mem.head _ | (refine' List.Mem.tail _ ?_; (first | assumption | exact List.Mem.head _ | (refine' List.Mem.tail _ ?_; (first | assumption | exact List.Mem.head _ | (refine' List.Mem.tail _ ?_; (first | assumption | exact List.Mem.head _ | (refine' List.Mem.tail _ ?_; (first | assumption | exact List.Mem.head _ | (refine' List.Mem.tail _ ?_; (first | assumption | exact List.Mem.head _ | (refine' List.Mem.tail _ ?_; (first | assumption | exact List.Mem.head _))))))))))))))))); (case m70mV => first | assumption | exact List.Mem.head _ | (refine' List.Mem.tail _ ?_; (first | assumption | exact List.Mem.head _ | (refine' List.Mem.tail _ ?_; (first | assumption | exact List.Mem.head _ | (refine' List.Mem.tail _ ?_; (first | assumption | exact List.Mem.head _ | (refine' List.Mem.tail _ ?_; (first | assumption | exact List.Mem.head _ | (refine' List.Mem.tail _ ?_; (first | assumption | exact List.Mem.head _ | (refine' List.Mem.tail _ ?_; (first | assumption | exact List.Mem.head _ | (refine' List.Mem.tail _ ?_; (first | assumption | exact List.Mem.head _ | (refine' List.Mem.tail _ ?_; (first | assumption | exact List.Mem.head _))))))))))))))))); (case m70kA => first | assumption); (case m70n1 => first | assumption | omega); (case m70n2 => first | assumption | omega); (case m70kB => first | assumption); (case m70n3 => first | assumption | omega); intro h' tk' F' N'; (try dsimp only); (try k_sweep))))
  exact trivial
theorem q_matches_casex {w : World} {mean : ExcName → Option Value} {mg mb : Str → Option Value} (tkk : Tok) (U : Addr) (as : List Int) (tU1 tU2 tU3 : Tok) (cU : Nat) (V : Addr) (bs : List Int) (tV1 tV2 tV3 : Tok) (cV : Nat) (news : Led) (hU : (U, tup3 (as.length : Int) (sLow as) (sHigh as) tU1 tU2 tU3 cU) ∈ news) (hV : (V, tup3 (bs.length : Int) (sLow bs) (sHigh bs) tV1 tV2 tV3 cV) ∈ news) (kA : Codes as) (n1 : 1 ≤ as.length) (n2 : as.length ≤ 20) (kB : Codes bs) (n3 : as.length = bs.length) :
   Cl w mean mg mb 1 175 [.str (Str.ofString "casex") tkk, .ref U, .ref V] (PreN news) (RetBool news (mMeets [2, 3] as bs)) := by
  have e := law_mx kA kB n3
  have c := c_matches_casex (w := w) (mean := mean) (mg := mg) (mb := mb) tkk U as.length (sLow as) (sHigh as) tU1 tU2 tU3 cU V bs.length (sLow bs) (sHigh bs) tV1 tV2 tV3 cV news hU hV (by omega) (by omega)
  rw [e] at c
  exact c
local macro_rules | `(tactic| walk_at "call ref") => `(tactic| k_extra "m71")
theorem word71 : True := by
  k_with "m71" => ((k_here; (with_reducible show wpAny _ _ (PySem.call (Value.ref 175) [Value.str _ _, Value.ref _, Value.ref _]) _ _ _); k_dflt (refine' use (q_matches_casex _ _ _ _ _ _ _ _ _ _ _ _ _ _ ?m71mU ?m71mV ?m71kA ?m71n1 ?m71n2 ?m71kB ?m71n3) ?m71k1 ?m71k2 ?m71k3 ?m71k4 ?m71k5 ?m71k6 ?m71k7 ?m71k8 ?_; (case m71k1 => k_asm); (case m71k2 => k_asm); (case m71k3 => k_asm); (case m71k4 => k_asm); (case m71k5 => k_asm); (case m71k6 => first | exact rfl | assumption); (case m71k7 => ktr_room); (case m71k8 => ktr_units); (case m71mU => first | assumption | exact List.Mem.head _ | (refine' List.Mem.tail _ ?_; (first | assumption | exact List.Mem.head _ | (refine' List.Mem.tail _ ?_; (first | assumption | exact List.Mem.head _ | (refine' List.Mem.tail _ ?_; (first | assumption | exact List.Mem.head _ | (refine' List.Mem.tail _ ?_; (first | assumption | exact List.Mem.head _ | (refine' List.Mem.tail _ ?_; (first | assumption | exact List.Mem.head _ | (refine' List.Mem.tail _ ?_; (first | assumption | exact List.Mem.head _ | (refine' List.Mem.tail _ ?_; (first | assumption | exact List.Mem.head _ | (refine' List.Mem.tail _ ?_; (first | assumption | exact List.Mem.head _))))))))))))))))); (case m71mV => first | assumption | exact List.Mem.head _ | (refine' List.Mem.tail _ ?_; (first | assumption | exact List.Mem.head _ | (refine' List.Mem.tail _ ?_; (first | assumption | exact List.Mem.head _ | (refine' List.Mem.tail _ ?_; (first | assumption | exact List.Mem.head _ | (refine' List.Mem.tail _ ?_; (first | assumption | exact List.Mem.head _ | (refine' List.Mem.tail _ ?_; (first | assumption | exact List.Mem.head _ | (refine' List.Mem.tail _ ?_; (first | assumption | exact List.Mem.head _ | (refine' List.Mem.tail _ ?_; (first | assumption | exact List.Mem.head _ | (refine' List.Mem.tail _ ?_; (first | assumption | exact List.Mem.head _))))))))))))))))); (case m71kA => first | assumption); (case m71n1 => first | assumption | omega); (case m71n2 => first | assumption | omega); (case m71kB => first | assumption); (case m71n3 => first | assumption | omega); intro h' tk' F' N'; (try dsimp only); (try k_sweep))))
  exact trivial
theorem q_choose {w : World} {mean : ExcName → Option Value} {mg mb : Str → Option Value} (T : Addr) (ts : List Int) (tT1 tT2 tT3 : Tok) (cT : Nat) (U : Addr) (as : List Int) (tU1 tU2 tU3 : Tok) (cU : Nat) (V : Addr) (bs : List Int) (tV1 tV2 tV3 : Tok) (cV : Nat) (news : Led) (hT : (T, tup3 (ts.length : Int) (sLow ts) (sHigh ts) tT1 tT2 tT3 cT) ∈ news) (hU : (U, tup3 (as.length : Int) (sLow as) (sHigh as) tU1 tU2 tU3 cU) ∈ news) (hV : (V, tup3 (bs.length : Int) (sLow bs) (sHigh bs) tV1 tV2 tV3 cV) ∈ news) (kT : Codes ts) (n4 : 1 ≤ ts.length) (n5 : ts.length ≤ 20) (kA : Codes as) (n1 : 1 ≤ as.length) (n2 : as.length ≤ 20) (kB : Codes bs) (n3 : as.length = bs.length) :
   Cl w mean mg mb 3 182 [.ref T, .ref U, .ref V] (PreN news) (RetTup news ((lDue (lOver lOr ts) as bs).length : Int) (sLow (lDue (lOver lOr ts) as bs)) (sHigh (lDue (lOver lOr ts) as bs))) := by
  have e := law_choose (t := lOver lOr ts) kA kB n3
  have c := c_choose (w := w) (mean := mean) (mg := mg) (mb := mb) T ts.length (sLow ts) (sHigh ts) tT1 tT2 tT3 cT U as.length (sLow as) (sHigh as) tU1 tU2 tU3 cU V bs.length (sLow bs) (sHigh bs) tV1 tV2 tV3 cV news hT hU hV (by omega) (by omega) (by omega) (by omega)
  rw [law_truth kT n4, e] at c
  exact c
local macro_rules | `(tactic| walk_at "call ref") => `(tactic| k_extra "m72")
theorem word72 : True := by
  k_with "m72" => ((k_here; (with_reducible show wpAny _ _ (PySem.call (Value.ref 182) [Value.ref _, Value.ref _, Value.ref _]) _ _ _); k_dflt (refine' use (q_choose _ _ _ _ _ _ _ _ _ _ _ _ _ _ _ _ _ _ _ ?m72mT ?m72mU ?m72mV ?m72kT ?m72n4 ?m72n5 ?m72kA ?m72n1 ?m72n2 ?m72kB ?m72n3) ?m72k1 ?m72k2 ?m72k3 ?m72k4 ?m72k5 ?m72k6 ?m72k7 ?m72k8 ?_; (case m72k1 => k_asm); (case m72k2 => k_asm); (case m72k3 => k_asm); (case m72k4 => k_asm); (case m72k5 => k_asm); (case m72k6 => first | exact rfl | assumption); (case m72k7 => ktr_room); (case m72k8 => ktr_units); (case m72mT => first | assumption | exact List.Mem.head _ | (refine' List.Mem.tail _ ?_; (first | assumption | exact List.Mem.head _ | (refine' List.Mem.tail _ ?_; (first | assumption | exact List.Mem.head _ | (refine' List.Mem.tail _ ?_; (first | assumption | exact List.Mem.head _ | (refine' List.Mem.tail _ ?_; (first | assumption | exact List.Mem.head _ | (refine' List.Mem.tail _ ?_; (first | assumption | exact List.Mem.head _ | (refine' List.Mem.tail _ ?_; (first | assumption | exact List.Mem.head _ | (refine' List.Mem.tail _ ?_; (first | assumption | exact List.Mem.head _ | (refine' List.Mem.tail _ ?_; (first | assumption | exact List.Mem.head _))))))))))))))))); (case m72mU => first | assumption | exact List.Mem.head _ | (refine' List.Mem.tail _ ?_; (first | assumption | exact List.Mem.head _ | (refine' List.Mem.tail _ ?_; (first | assumption | exact List.Mem.head _ | (refine' List.Mem.tail _ ?_; (first | assumption | exact List.Mem.head _ | (refine' List.Mem.tail _ ?_; (first | assumption | exact List.Mem.head _ | (refine' List.Mem.tail _ ?_; (first | assumption | exact List.Mem.head _ | (refine' List.Mem.tail _ ?_; (first | assumption | exact List.Mem.head _ | (refine' List.Mem.tail _ ?_; (first | assumption | exact List.Mem.head _ | (refine' List.Mem.tail _ ?_; (first | assumption | exact List.Mem.head _))))))))))))))))); (case m72mV => first | assumption | exact List.Mem.head _ | (refine' List.Mem.tail _ ?_; (first | assumption | exact List.Mem.head _ | (refine' List.Mem.tail _ ?_; (first | assumption | exact List.Mem.head _ | (refine' List.Mem.tail _ ?_; (first | assumption | exact List.Mem.head _ | (refine' List.Mem.tail _ ?_; (first | assumption | exact List.Mem.head _ | (refine' List.Mem.tail _ ?_; (first | assumption | exact List.Mem.head _ | (refine' List.Mem.tail _ ?_; (first | assumption | exact List.Mem.head _ | (refine' List.Mem.tail _ ?_; (first | assumption | exact List.Mem.head _ | (refine' List.Mem.tail _ ?_; (first | assumption | exact List.Mem.head _))))))))))))))))); (case m72kT => first | assumption); (case m72n4 => first | assumption | omega); (case m72n5 => first | assumption | omega); (case m72kA => first | assumption); (case m72n1 => first | assumption | omega); (case m72n2 => first | assumption | omega); (case m72kB => first | assumption); (case m72n3 => first | assumption | omega); intro D' t1' t2' t3' c' h' tk' F' N'; (try dsimp only); (try k_sweep))))
  exact trivial
theorem fresh28 : True := by
  w_top off
  (try walk1)
  exact trivial
theorem codes_one {x : Int} (h : 0 ≤ x ∧ x ≤ 3) : Codes [x] := fun b hb => by rw [List.mem_singleton.mp hb]; exact h
theorem ite_r {p : Prop} [Decidable p] : 0 ≤ (if p then (1 : Int) else 0) ∧ (if p then (1 : Int) else 0) ≤ 3 := by split <;> omega
theorem ite_r2 {p : Prop} [Decidable p] : 0 ≤ 1 - (if p then (1 : Int) else 0) ∧ 1 - (if p then (1 : Int) else 0) ≤ 3 := by split <;> omega
local macro_rules | `(tactic| walk_at "call ref") => `(tactic| k_extra "m73")
theorem word73 : True := by
  k_with "m73" => ((k_here; (with_reducible show wpAny _ _ (PySem.call (Value.ref 210) [Value.ref _]) _ _ _); k_dflt (refine' use (c_law_made _ _ _ _ _ ?m73hP ?m73hI ?m73hn ?m73hb) ?m73k1 ?m73k2 ?m73k3 ?m73k4 ?m73k5 ?m73k6 ?m73k7 ?m73k8 ?_; (case m73k1 => k_asm); (case m73k2 => k_asm); (case m73k3 => k_asm); (case m73k4 => k_asm); (case m73k5 => k_asm); (case m73k6 => first | exact rfl | assumption); (case m73k7 => ktr_room); (case m73k8 => ktr_units); (case m73hP => first | exact List.Mem.head _ | (refine' List.Mem.tail _ ?_; (first | exact List.Mem.head _ | (refine' List.Mem.tail _ ?_; (first | exact List.Mem.head _ | (refine' List.Mem.tail _ ?_; (first | exact List.Mem.head _ | (refine' List.Mem.tail _ ?_; (first | exact List.Mem.head _ | (refine' List.Mem.tail _ ?_; (first | exact List.Mem.head _ | (refine' List.Mem.tail _ ?_; (first | exact List.Mem.head _ | (refine' List.Mem.tail _ ?_; (first | exact List.Mem.head _ | (refine' List.Mem.tail _ ?_; (first | exact List.Mem.head _ | (refine' List.Mem.tail _ ?_; (first | exact List.Mem.head _ | (refine' List.Mem.tail _ ?_; (first | exact List.Mem.head _ | (refine' List.Mem.tail _ ?_; (first | exact List.Mem.head _ | (refine' List.Mem.tail _ ?_; (first | exact List.Mem.head _ | (refine' List.Mem.tail _ ?_; (first | exact List.Mem.head _ | (refine' List.Mem.tail _ ?_; (first | exact List.Mem.head _ | (refine' List.Mem.tail _ ?_; (first | exact List.Mem.head _ | (refine' List.Mem.tail _ ?_; (first | exact List.Mem.head _ | (refine' List.Mem.tail _ ?_; (first | exact List.Mem.head _ | (refine' List.Mem.tail _ ?_; (first | exact List.Mem.head _ | (refine' List.Mem.tail _ ?_; (first | exact List.Mem.head _ | (refine' List.Mem.tail _ ?_; (first | exact List.Mem.head _ | (refine' List.Mem.tail _ ?_; (first | exact List.Mem.head _ | (refine' List.Mem.tail _ ?_; (first | exact List.Mem.head _ | (refine' List.Mem.tail _ ?_; (first | exact List.Mem.head _ | (refine' List.Mem.tail _ ?_; (first | exact List.Mem.head _ | (refine' List.Mem.tail _ ?_; (first | exact List.Mem.head _ | (refine' List.Mem.tail _ ?_; (first | exact List.Mem.head _ | assumption)) | assumption)) | assumption)) | assumption)) | assumption)) | assumption)) | assumption)) | assumption)) | assumption)) | assumption)) | assumption)) | assumption)) | assumption)) | assumption)) | assumption)) | assumption)) | assumption)) | assumption)) | assumption)) | assumption)) | assumption)) | assumption)) | assumption)) | assumption)) | assumption)) | assumption)) | assumption); (case m73hI => first | assumption | exact IntsAre.cons _ _ IntsAre.nil); (case m73hn => first | assumption | exact Nat.le_of_ble_eq_true rfl | (simp only [List.length_map, List.length_zipWith, List.length_cons, List.length_nil]; omega) | omega); (case m73hb => first | assumption | exact codes_map lNot_r _ | exact codes_zip lAnd_r _ _ | exact codes_zip lOr_r _ _ | exact codes_zip lXor_r _ _ | exact codes_zip lSame_r _ _ | exact codes_mix _ _ (by assumption) | exact codes_one (lOver_r lAnd_r (by assumption)) | exact codes_one (lOver_r lOr_r (by assumption)) | exact codes_one (lOver_r lXor_r (by assumption)) | exact codes_one (lNot_r _) | exact codes_one (lAnd_r _ _) | exact codes_one (lOr_r _ _) | exact codes_one (lOver_r lAnd_r (codes_zip lSame_r _ _)) | exact codes_one (by assumption) | exact codes_one ⟨by omega, by omega⟩ | exact codes_one ite_r | exact codes_one ite_r2); intro D' t1' t2' t3' c' h' tk' hf' F' N'; (try dsimp only); (try k_sweep))))
  exact trivial
local macro_rules | `(tactic| walk_at "call ref") => `(tactic| k_extra "m74")
theorem word74 : True := by
  k_with "m74" => ((k_here; (with_reducible show wpAny _ _ (PySem.call (Value.ref 252) [Value.ref _]) _ _ _); k_dflt (refine' use (c_law_truth _ _ _ _ _ ?m74hP ?m74hI ?m74hn ?m74hn1 ?m74hb) ?m74k1 ?m74k2 ?m74k3 ?m74k4 ?m74k5 ?m74k6 ?m74k7 ?m74k8 ?_; (case m74k1 => k_asm); (case m74k2 => k_asm); (case m74k3 => k_asm); (case m74k4 => k_asm); (case m74k5 => k_asm); (case m74k6 => first | exact rfl | assumption); (case m74k7 => ktr_room); (case m74k8 => ktr_units); (case m74hP => first | exact List.Mem.head _ | (refine' List.Mem.tail _ ?_; (first | exact List.Mem.head _ | (refine' List.Mem.tail _ ?_; (first | exact List.Mem.head _ | (refine' List.Mem.tail _ ?_; (first | exact List.Mem.head _ | (refine' List.Mem.tail _ ?_; (first | exact List.Mem.head _ | (refine' List.Mem.tail _ ?_; (first | exact List.Mem.head _ | (refine' List.Mem.tail _ ?_; (first | exact List.Mem.head _ | (refine' List.Mem.tail _ ?_; (first | exact List.Mem.head _ | (refine' List.Mem.tail _ ?_; (first | exact List.Mem.head _ | (refine' List.Mem.tail _ ?_; (first | exact List.Mem.head _ | (refine' List.Mem.tail _ ?_; (first | exact List.Mem.head _ | (refine' List.Mem.tail _ ?_; (first | exact List.Mem.head _ | (refine' List.Mem.tail _ ?_; (first | exact List.Mem.head _ | (refine' List.Mem.tail _ ?_; (first | exact List.Mem.head _ | (refine' List.Mem.tail _ ?_; (first | exact List.Mem.head _ | (refine' List.Mem.tail _ ?_; (first | exact List.Mem.head _ | (refine' List.Mem.tail _ ?_; (first | exact List.Mem.head _ | (refine' List.Mem.tail _ ?_; (first | exact List.Mem.head _ | (refine' List.Mem.tail _ ?_; (first | exact List.Mem.head _ | (refine' List.Mem.tail _ ?_; (first | exact List.Mem.head _ | (refine' List.Mem.tail _ ?_; (first | exact List.Mem.head _ | (refine' List.Mem.tail _ ?_; (first | exact List.Mem.head _ | (refine' List.Mem.tail _ ?_; (first | exact List.Mem.head _ | (refine' List.Mem.tail _ ?_; (first | exact List.Mem.head _ | (refine' List.Mem.tail _ ?_; (first | exact List.Mem.head _ | (refine' List.Mem.tail _ ?_; (first | exact List.Mem.head _ | (refine' List.Mem.tail _ ?_; (first | exact List.Mem.head _ | assumption)) | assumption)) | assumption)) | assumption)) | assumption)) | assumption)) | assumption)) | assumption)) | assumption)) | assumption)) | assumption)) | assumption)) | assumption)) | assumption)) | assumption)) | assumption)) | assumption)) | assumption)) | assumption)) | assumption)) | assumption)) | assumption)) | assumption)) | assumption)) | assumption)) | assumption)) | assumption); (case m74hI => first | assumption | exact IntsAre.cons _ _ IntsAre.nil); (case m74hn => first | assumption | exact Nat.le_of_ble_eq_true rfl | (simp only [List.length_map, List.length_zipWith, List.length_cons, List.length_nil]; omega) | omega); (case m74hn1 => first | assumption | exact Nat.le_of_ble_eq_true rfl | (simp only [List.length_map, List.length_zipWith, List.length_cons, List.length_nil]; omega) | omega); (case m74hb => first | assumption | exact codes_map lNot_r _ | exact codes_zip lAnd_r _ _ | exact codes_zip lOr_r _ _ | exact codes_zip lXor_r _ _ | exact codes_zip lSame_r _ _ | exact codes_mix _ _ (by assumption) | exact codes_one (lOver_r lAnd_r (by assumption)) | exact codes_one (lOver_r lOr_r (by assumption)) | exact codes_one (lOver_r lXor_r (by assumption)) | exact codes_one (lNot_r _) | exact codes_one (lAnd_r _ _) | exact codes_one (lOr_r _ _) | exact codes_one (lOver_r lAnd_r (codes_zip lSame_r _ _)) | exact codes_one (by assumption) | exact codes_one ⟨by omega, by omega⟩ | exact codes_one ite_r | exact codes_one ite_r2); intro t' h' tk' F' N'; (try dsimp only); (try k_sweep))))
  exact trivial
local macro_rules | `(tactic| walk_at "call ref") => `(tactic| k_extra "m75")
theorem word75 : True := by
  k_with "m75" => ((k_here; (with_reducible show wpAny _ _ (PySem.call (Value.ref 245) [Value.ref 224, Value.ref _]) _ _ _); k_dflt (refine' use (c_law_over_and _ _ _ _ _ ?m75hP ?m75hI ?m75hn ?m75hn1 ?m75hb) ?m75k1 ?m75k2 ?m75k3 ?m75k4 ?m75k5 ?m75k6 ?m75k7 ?m75k8 ?_; (case m75k1 => k_asm); (case m75k2 => k_asm); (case m75k3 => k_asm); (case m75k4 => k_asm); (case m75k5 => k_asm); (case m75k6 => first | exact rfl | assumption); (case m75k7 => ktr_room); (case m75k8 => ktr_units); (case m75hP => first | exact List.Mem.head _ | (refine' List.Mem.tail _ ?_; (first | exact List.Mem.head _ | (refine' List.Mem.tail _ ?_; (first | exact List.Mem.head _ | (refine' List.Mem.tail _ ?_; (first | exact List.Mem.head _ | (refine' List.Mem.tail _ ?_; (first | exact List.Mem.head _ | (refine' List.Mem.tail _ ?_; (first | exact List.Mem.head _ | (refine' List.Mem.tail _ ?_; (first | exact List.Mem.head _ | (refine' List.Mem.tail _ ?_; (first | exact List.Mem.head _ | (refine' List.Mem.tail _ ?_; (first | exact List.Mem.head _ | (refine' List.Mem.tail _ ?_; (first | exact List.Mem.head _ | (refine' List.Mem.tail _ ?_; (first | exact List.Mem.head _ | (refine' List.Mem.tail _ ?_; (first | exact List.Mem.head _ | (refine' List.Mem.tail _ ?_; (first | exact List.Mem.head _ | (refine' List.Mem.tail _ ?_; (first | exact List.Mem.head _ | (refine' List.Mem.tail _ ?_; (first | exact List.Mem.head _ | (refine' List.Mem.tail _ ?_; (first | exact List.Mem.head _ | (refine' List.Mem.tail _ ?_; (first | exact List.Mem.head _ | (refine' List.Mem.tail _ ?_; (first | exact List.Mem.head _ | (refine' List.Mem.tail _ ?_; (first | exact List.Mem.head _ | (refine' List.Mem.tail _ ?_; (first | exact List.Mem.head _ | (refine' List.Mem.tail _ ?_; (first | exact List.Mem.head _ | (refine' List.Mem.tail _ ?_; (first | exact List.Mem.head _ | (refine' List.Mem.tail _ ?_; (first | exact List.Mem.head _ | (refine' List.Mem.tail _ ?_; (first | exact List.Mem.head _ | (refine' List.Mem.tail _ ?_; (first | exact List.Mem.head _ | (refine' List.Mem.tail _ ?_; (first | exact List.Mem.head _ | (refine' List.Mem.tail _ ?_; (first | exact List.Mem.head _ | assumption)) | assumption)) | assumption)) | assumption)) | assumption)) | assumption)) | assumption)) | assumption)) | assumption)) | assumption)) | assumption)) | assumption)) | assumption)) | assumption)) | assumption)) | assumption)) | assumption)) | assumption)) | assumption)) | assumption)) | assumption)) | assumption)) | assumption)) | assumption)) | assumption)) | assumption)) | assumption); (case m75hI => first | assumption | exact IntsAre.cons _ _ IntsAre.nil); (case m75hn => first | assumption | exact Nat.le_of_ble_eq_true rfl | (simp only [List.length_map, List.length_zipWith, List.length_cons, List.length_nil]; omega) | omega); (case m75hn1 => first | assumption | exact Nat.le_of_ble_eq_true rfl | (simp only [List.length_map, List.length_zipWith, List.length_cons, List.length_nil]; omega) | omega); (case m75hb => first | assumption | exact codes_map lNot_r _ | exact codes_zip lAnd_r _ _ | exact codes_zip lOr_r _ _ | exact codes_zip lXor_r _ _ | exact codes_zip lSame_r _ _ | exact codes_mix _ _ (by assumption) | exact codes_one (lOver_r lAnd_r (by assumption)) | exact codes_one (lOver_r lOr_r (by assumption)) | exact codes_one (lOver_r lXor_r (by assumption)) | exact codes_one (lNot_r _) | exact codes_one (lAnd_r _ _) | exact codes_one (lOr_r _ _) | exact codes_one (lOver_r lAnd_r (codes_zip lSame_r _ _)) | exact codes_one (by assumption) | exact codes_one ⟨by omega, by omega⟩ | exact codes_one ite_r | exact codes_one ite_r2); intro t' h' tk' F' N'; (try dsimp only); (try k_sweep))))
  exact trivial
local macro_rules | `(tactic| walk_at "call ref") => `(tactic| k_extra "m76")
theorem word76 : True := by
  k_with "m76" => ((k_here; (with_reducible show wpAny _ _ (PySem.call (Value.ref 245) [Value.ref 231, Value.ref _]) _ _ _); k_dflt (refine' use (c_law_over_or _ _ _ _ _ ?m76hP ?m76hI ?m76hn ?m76hn1 ?m76hb) ?m76k1 ?m76k2 ?m76k3 ?m76k4 ?m76k5 ?m76k6 ?m76k7 ?m76k8 ?_; (case m76k1 => k_asm); (case m76k2 => k_asm); (case m76k3 => k_asm); (case m76k4 => k_asm); (case m76k5 => k_asm); (case m76k6 => first | exact rfl | assumption); (case m76k7 => ktr_room); (case m76k8 => ktr_units); (case m76hP => first | exact List.Mem.head _ | (refine' List.Mem.tail _ ?_; (first | exact List.Mem.head _ | (refine' List.Mem.tail _ ?_; (first | exact List.Mem.head _ | (refine' List.Mem.tail _ ?_; (first | exact List.Mem.head _ | (refine' List.Mem.tail _ ?_; (first | exact List.Mem.head _ | (refine' List.Mem.tail _ ?_; (first | exact List.Mem.head _ | (refine' List.Mem.tail _ ?_; (first | exact List.Mem.head _ | (refine' List.Mem.tail _ ?_; (first | exact List.Mem.head _ | (refine' List.Mem.tail _ ?_; (first | exact List.Mem.head _ | (refine' List.Mem.tail _ ?_; (first | exact List.Mem.head _ | (refine' List.Mem.tail _ ?_; (first | exact List.Mem.head _ | (refine' List.Mem.tail _ ?_; (first | exact List.Mem.head _ | (refine' List.Mem.tail _ ?_; (first | exact List.Mem.head _ | (refine' List.Mem.tail _ ?_; (first | exact List.Mem.head _ | (refine' List.Mem.tail _ ?_; (first | exact List.Mem.head _ | (refine' List.Mem.tail _ ?_; (first | exact List.Mem.head _ | (refine' List.Mem.tail _ ?_; (first | exact List.Mem.head _ | (refine' List.Mem.tail _ ?_; (first | exact List.Mem.head _ | (refine' List.Mem.tail _ ?_; (first | exact List.Mem.head _ | (refine' List.Mem.tail _ ?_; (first | exact List.Mem.head _ | (refine' List.Mem.tail _ ?_; (first | exact List.Mem.head _ | (refine' List.Mem.tail _ ?_; (first | exact List.Mem.head _ | (refine' List.Mem.tail _ ?_; (first | exact List.Mem.head _ | (refine' List.Mem.tail _ ?_; (first | exact List.Mem.head _ | (refine' List.Mem.tail _ ?_; (first | exact List.Mem.head _ | (refine' List.Mem.tail _ ?_; (first | exact List.Mem.head _ | (refine' List.Mem.tail _ ?_; (first | exact List.Mem.head _ | assumption)) | assumption)) | assumption)) | assumption)) | assumption)) | assumption)) | assumption)) | assumption)) | assumption)) | assumption)) | assumption)) | assumption)) | assumption)) | assumption)) | assumption)) | assumption)) | assumption)) | assumption)) | assumption)) | assumption)) | assumption)) | assumption)) | assumption)) | assumption)) | assumption)) | assumption)) | assumption); (case m76hI => first | assumption | exact IntsAre.cons _ _ IntsAre.nil); (case m76hn => first | assumption | exact Nat.le_of_ble_eq_true rfl | (simp only [List.length_map, List.length_zipWith, List.length_cons, List.length_nil]; omega) | omega); (case m76hn1 => first | assumption | exact Nat.le_of_ble_eq_true rfl | (simp only [List.length_map, List.length_zipWith, List.length_cons, List.length_nil]; omega) | omega); (case m76hb => first | assumption | exact codes_map lNot_r _ | exact codes_zip lAnd_r _ _ | exact codes_zip lOr_r _ _ | exact codes_zip lXor_r _ _ | exact codes_zip lSame_r _ _ | exact codes_mix _ _ (by assumption) | exact codes_one (lOver_r lAnd_r (by assumption)) | exact codes_one (lOver_r lOr_r (by assumption)) | exact codes_one (lOver_r lXor_r (by assumption)) | exact codes_one (lNot_r _) | exact codes_one (lAnd_r _ _) | exact codes_one (lOr_r _ _) | exact codes_one (lOver_r lAnd_r (codes_zip lSame_r _ _)) | exact codes_one (by assumption) | exact codes_one ⟨by omega, by omega⟩ | exact codes_one ite_r | exact codes_one ite_r2); intro t' h' tk' F' N'; (try dsimp only); (try k_sweep))))
  exact trivial
local macro_rules | `(tactic| walk_at "call ref") => `(tactic| k_extra "m77")
theorem word77 : True := by
  k_with "m77" => ((k_here; (with_reducible show wpAny _ _ (PySem.call (Value.ref 245) [Value.ref 238, Value.ref _]) _ _ _); k_dflt (refine' use (c_law_over_xor _ _ _ _ _ ?m77hP ?m77hI ?m77hn ?m77hn1 ?m77hb) ?m77k1 ?m77k2 ?m77k3 ?m77k4 ?m77k5 ?m77k6 ?m77k7 ?m77k8 ?_; (case m77k1 => k_asm); (case m77k2 => k_asm); (case m77k3 => k_asm); (case m77k4 => k_asm); (case m77k5 => k_asm); (case m77k6 => first | exact rfl | assumption); (case m77k7 => ktr_room); (case m77k8 => ktr_units); (case m77hP => first | exact List.Mem.head _ | (refine' List.Mem.tail _ ?_; (first | exact List.Mem.head _ | (refine' List.Mem.tail _ ?_; (first | exact List.Mem.head _ | (refine' List.Mem.tail _ ?_; (first | exact List.Mem.head _ | (refine' List.Mem.tail _ ?_; (first | exact List.Mem.head _ | (refine' List.Mem.tail _ ?_; (first | exact List.Mem.head _ | (refine' List.Mem.tail _ ?_; (first | exact List.Mem.head _ | (refine' List.Mem.tail _ ?_; (first | exact List.Mem.head _ | (refine' List.Mem.tail _ ?_; (first | exact List.Mem.head _ | (refine' List.Mem.tail _ ?_; (first | exact List.Mem.head _ | (refine' List.Mem.tail _ ?_; (first | exact List.Mem.head _ | (refine' List.Mem.tail _ ?_; (first | exact List.Mem.head _ | (refine' List.Mem.tail _ ?_; (first | exact List.Mem.head _ | (refine' List.Mem.tail _ ?_; (first | exact List.Mem.head _ | (refine' List.Mem.tail _ ?_; (first | exact List.Mem.head _ | (refine' List.Mem.tail _ ?_; (first | exact List.Mem.head _ | (refine' List.Mem.tail _ ?_; (first | exact List.Mem.head _ | (refine' List.Mem.tail _ ?_; (first | exact List.Mem.head _ | (refine' List.Mem.tail _ ?_; (first | exact List.Mem.head _ | (refine' List.Mem.tail _ ?_; (first | exact List.Mem.head _ | (refine' List.Mem.tail _ ?_; (first | exact List.Mem.head _ | (refine' List.Mem.tail _ ?_; (first | exact List.Mem.head _ | (refine' List.Mem.tail _ ?_; (first | exact List.Mem.head _ | (refine' List.Mem.tail _ ?_; (first | exact List.Mem.head _ | (refine' List.Mem.tail _ ?_; (first | exact List.Mem.head _ | (refine' List.Mem.tail _ ?_; (first | exact List.Mem.head _ | (refine' List.Mem.tail _ ?_; (first | exact List.Mem.head _ | assumption)) | assumption)) | assumption)) | assumption)) | assumption)) | assumption)) | assumption)) | assumption)) | assumption)) | assumption)) | assumption)) | assumption)) | assumption)) | assumption)) | assumption)) | assumption)) | assumption)) | assumption)) | assumption)) | assumption)) | assumption)) | assumption)) | assumption)) | assumption)) | assumption)) | assumption)) | assumption); (case m77hI => first | assumption | exact IntsAre.cons _ _ IntsAre.nil); (case m77hn => first | assumption | exact Nat.le_of_ble_eq_true rfl | (simp only [List.length_map, List.length_zipWith, List.length_cons, List.length_nil]; omega) | omega); (case m77hn1 => first | assumption | exact Nat.le_of_ble_eq_true rfl | (simp only [List.length_map, List.length_zipWith, List.length_cons, List.length_nil]; omega) | omega); (case m77hb => first | assumption | exact codes_map lNot_r _ | exact codes_zip lAnd_r _ _ | exact codes_zip lOr_r _ _ | exact codes_zip lXor_r _ _ | exact codes_zip lSame_r _ _ | exact codes_mix _ _ (by assumption) | exact codes_one (lOver_r lAnd_r (by assumption)) | exact codes_one (lOver_r lOr_r (by assumption)) | exact codes_one (lOver_r lXor_r (by assumption)) | exact codes_one (lNot_r _) | exact codes_one (lAnd_r _ _) | exact codes_one (lOr_r _ _) | exact codes_one (lOver_r lAnd_r (codes_zip lSame_r _ _)) | exact codes_one (by assumption) | exact codes_one ⟨by omega, by omega⟩ | exact codes_one ite_r | exact codes_one ite_r2); intro t' h' tk' F' N'; (try dsimp only); (try k_sweep))))
  exact trivial
local macro_rules | `(tactic| walk_at "call ref") => `(tactic| k_extra "m78")
theorem word78 : True := by
  k_with "m78" => ((k_here; (with_reducible show wpAny _ _ (PySem.call (Value.ref 217) [Value.int _ _]) _ _ _); k_dflt (refine' use (c_law_not _ _ _ ?m78p0 ?m78p1) ?m78k1 ?m78k2 ?m78k3 ?m78k4 ?m78k5 ?m78k6 ?m78k7 ?m78k8 ?_; (case m78k1 => k_asm); (case m78k2 => k_asm); (case m78k3 => k_asm); (case m78k4 => k_asm); (case m78k5 => k_asm); (case m78k6 => first | exact rfl | assumption); (case m78k7 => ktr_room); (case m78k8 => ktr_units); (case m78p0 => first | assumption | decide | exact And.left (by assumption) | exact And.right (by assumption) | exact (lNot_r _).1 | exact (lNot_r _).2 | exact (lAnd_r _ _).1 | exact (lAnd_r _ _).2 | exact (lXor_r _ _).1 | exact (lXor_r _ _).2 | exact (lOr_r _ _).1 | exact (lOr_r _ _).2 | exact (lOver_r lAnd_r (by assumption)).1 | exact (lOver_r lAnd_r (by assumption)).2 | exact (lOver_r lOr_r (by assumption)).1 | exact (lOver_r lOr_r (by assumption)).2 | exact (lOver_r lXor_r (by assumption)).1 | exact (lOver_r lXor_r (by assumption)).2 | exact (lOver_r lAnd_r (codes_zip lSame_r _ _)).1 | exact (lOver_r lAnd_r (codes_zip lSame_r _ _)).2 | omega); (case m78p1 => first | assumption | decide | exact And.left (by assumption) | exact And.right (by assumption) | exact (lNot_r _).1 | exact (lNot_r _).2 | exact (lAnd_r _ _).1 | exact (lAnd_r _ _).2 | exact (lXor_r _ _).1 | exact (lXor_r _ _).2 | exact (lOr_r _ _).1 | exact (lOr_r _ _).2 | exact (lOver_r lAnd_r (by assumption)).1 | exact (lOver_r lAnd_r (by assumption)).2 | exact (lOver_r lOr_r (by assumption)).1 | exact (lOver_r lOr_r (by assumption)).2 | exact (lOver_r lXor_r (by assumption)).1 | exact (lOver_r lXor_r (by assumption)).2 | exact (lOver_r lAnd_r (codes_zip lSame_r _ _)).1 | exact (lOver_r lAnd_r (codes_zip lSame_r _ _)).2 | omega); intro t' h' tk' F' N'; (try dsimp only); (try k_sweep))))
  exact trivial
local macro_rules | `(tactic| walk_at "call ref") => `(tactic| k_extra "m79")
theorem word79 : True := by
  k_with "m79" => ((k_here; (with_reducible show wpAny _ _ (PySem.call (Value.ref 231) [Value.int _ _, Value.int _ _]) _ _ _); k_dflt (refine' use (c_law_or _ _ _ _ _ ?m79p0 ?m79p1 ?m79p2 ?m79p3) ?m79k1 ?m79k2 ?m79k3 ?m79k4 ?m79k5 ?m79k6 ?m79k7 ?m79k8 ?_; (case m79k1 => k_asm); (case m79k2 => k_asm); (case m79k3 => k_asm); (case m79k4 => k_asm); (case m79k5 => k_asm); (case m79k6 => first | exact rfl | assumption); (case m79k7 => ktr_room); (case m79k8 => ktr_units); (case m79p0 => first | assumption | decide | exact And.left (by assumption) | exact And.right (by assumption) | exact (lNot_r _).1 | exact (lNot_r _).2 | exact (lAnd_r _ _).1 | exact (lAnd_r _ _).2 | exact (lXor_r _ _).1 | exact (lXor_r _ _).2 | exact (lOr_r _ _).1 | exact (lOr_r _ _).2 | exact (lOver_r lAnd_r (by assumption)).1 | exact (lOver_r lAnd_r (by assumption)).2 | exact (lOver_r lOr_r (by assumption)).1 | exact (lOver_r lOr_r (by assumption)).2 | exact (lOver_r lXor_r (by assumption)).1 | exact (lOver_r lXor_r (by assumption)).2 | exact (lOver_r lAnd_r (codes_zip lSame_r _ _)).1 | exact (lOver_r lAnd_r (codes_zip lSame_r _ _)).2 | omega); (case m79p1 => first | assumption | decide | exact And.left (by assumption) | exact And.right (by assumption) | exact (lNot_r _).1 | exact (lNot_r _).2 | exact (lAnd_r _ _).1 | exact (lAnd_r _ _).2 | exact (lXor_r _ _).1 | exact (lXor_r _ _).2 | exact (lOr_r _ _).1 | exact (lOr_r _ _).2 | exact (lOver_r lAnd_r (by assumption)).1 | exact (lOver_r lAnd_r (by assumption)).2 | exact (lOver_r lOr_r (by assumption)).1 | exact (lOver_r lOr_r (by assumption)).2 | exact (lOver_r lXor_r (by assumption)).1 | exact (lOver_r lXor_r (by assumption)).2 | exact (lOver_r lAnd_r (codes_zip lSame_r _ _)).1 | exact (lOver_r lAnd_r (codes_zip lSame_r _ _)).2 | omega); (case m79p2 => first | assumption | decide | exact And.left (by assumption) | exact And.right (by assumption) | exact (lNot_r _).1 | exact (lNot_r _).2 | exact (lAnd_r _ _).1 | exact (lAnd_r _ _).2 | exact (lXor_r _ _).1 | exact (lXor_r _ _).2 | exact (lOr_r _ _).1 | exact (lOr_r _ _).2 | exact (lOver_r lAnd_r (by assumption)).1 | exact (lOver_r lAnd_r (by assumption)).2 | exact (lOver_r lOr_r (by assumption)).1 | exact (lOver_r lOr_r (by assumption)).2 | exact (lOver_r lXor_r (by assumption)).1 | exact (lOver_r lXor_r (by assumption)).2 | exact (lOver_r lAnd_r (codes_zip lSame_r _ _)).1 | exact (lOver_r lAnd_r (codes_zip lSame_r _ _)).2 | omega); (case m79p3 => first | assumption | decide | exact And.left (by assumption) | exact And.right (by assumption) | exact (lNot_r _).1 | exact (lNot_r _).2 | exact (lAnd_r _ _).1 | exact (lAnd_r _ _).2 | exact (lXor_r _ _).1 | exact (lXor_r _ _).2 | exact (lOr_r _ _).1 | exact (lOr_r _ _).2 | exact (lOver_r lAnd_r (by assumption)).1 | exact (lOver_r lAnd_r (by assumption)).2 | exact (lOver_r lOr_r (by assumption)).1 | exact (lOver_r lOr_r (by assumption)).2 | exact (lOver_r lXor_r (by assumption)).1 | exact (lOver_r lXor_r (by assumption)).2 | exact (lOver_r lAnd_r (codes_zip lSame_r _ _)).1 | exact (lOver_r lAnd_r (codes_zip lSame_r _ _)).2 | omega); intro t' h' tk' F' N'; (try dsimp only); (try k_sweep))))
  exact trivial
local macro_rules | `(tactic| walk_at "call ref") => `(tactic| k_extra "m80")
theorem word80 : True := by
  k_with "m80" => ((k_here; (with_reducible show wpAny _ _ (PySem.call (Value.ref 224) [Value.int _ _, Value.int _ _]) _ _ _); k_dflt (refine' use (c_law_and _ _ _ _ _ ) ?m80k1 ?m80k2 ?m80k3 ?m80k4 ?m80k5 ?m80k6 ?m80k7 ?m80k8 ?_; (case m80k1 => k_asm); (case m80k2 => k_asm); (case m80k3 => k_asm); (case m80k4 => k_asm); (case m80k5 => k_asm); (case m80k6 => first | exact rfl | assumption); (case m80k7 => ktr_room); (case m80k8 => ktr_units);  intro t' h' tk' F' N'; (try dsimp only); (try k_sweep))))
  exact trivial
local macro_rules | `(tactic| walk_at "call ref") => `(tactic| k_extra "m81")
theorem word81 : True := by
  k_with "m81" => ((k_here; (with_reducible show wpAny _ _ (PySem.call (Value.ref 238) [Value.int _ _, Value.int _ _]) _ _ _); k_dflt (refine' use (c_law_xor _ _ _ _ _ ) ?m81k1 ?m81k2 ?m81k3 ?m81k4 ?m81k5 ?m81k6 ?m81k7 ?m81k8 ?_; (case m81k1 => k_asm); (case m81k2 => k_asm); (case m81k3 => k_asm); (case m81k4 => k_asm); (case m81k5 => k_asm); (case m81k6 => first | exact rfl | assumption); (case m81k7 => ktr_room); (case m81k8 => ktr_units);  intro t' h' tk' F' N'; (try dsimp only); (try k_sweep))))
  exact trivial
local macro_rules | `(tactic| walk_at "call ref") => `(tactic| k_extra "m82")
theorem word82 : True := by
  k_with "m82" => ((k_here; (with_reducible show wpAny _ _ (PySem.call (Value.ref 259) [Value.str _ _, Value.ref _, Value.ref _]) _ _ _); k_dflt (refine' use (c_meets_case _ _ _ _ _ _ _ _ _ _ ?m82hP ?m82hR ?m82hI ?m82hJ) ?m82k1 ?m82k2 ?m82k3 ?m82k4 ?m82k5 ?m82k6 ?m82k7 ?m82k8 ?_; (case m82k1 => k_asm); (case m82k2 => k_asm); (case m82k3 => k_asm); (case m82k4 => k_asm); (case m82k5 => k_asm); (case m82k6 => first | exact rfl | assumption); (case m82k7 => ktr_room); (case m82k8 => ktr_units); (case m82hP => first | exact List.Mem.head _ | (refine' List.Mem.tail _ ?_; (first | exact List.Mem.head _ | (refine' List.Mem.tail _ ?_; (first | exact List.Mem.head _ | (refine' List.Mem.tail _ ?_; (first | exact List.Mem.head _ | (refine' List.Mem.tail _ ?_; (first | exact List.Mem.head _ | (refine' List.Mem.tail _ ?_; (first | exact List.Mem.head _ | (refine' List.Mem.tail _ ?_; (first | exact List.Mem.head _ | (refine' List.Mem.tail _ ?_; (first | exact List.Mem.head _ | (refine' List.Mem.tail _ ?_; (first | exact List.Mem.head _ | (refine' List.Mem.tail _ ?_; (first | exact List.Mem.head _ | (refine' List.Mem.tail _ ?_; (first | exact List.Mem.head _ | (refine' List.Mem.tail _ ?_; (first | exact List.Mem.head _ | (refine' List.Mem.tail _ ?_; (first | exact List.Mem.head _ | (refine' List.Mem.tail _ ?_; (first | exact List.Mem.head _ | (refine' List.Mem.tail _ ?_; (first | exact List.Mem.head _ | (refine' List.Mem.tail _ ?_; (first | exact List.Mem.head _ | (refine' List.Mem.tail _ ?_; (first | exact List.Mem.head _ | (refine' List.Mem.tail _ ?_; (first | exact List.Mem.head _ | (refine' List.Mem.tail _ ?_; (first | exact List.Mem.head _ | (refine' List.Mem.tail _ ?_; (first | exact List.Mem.head _ | (refine' List.Mem.tail _ ?_; (first | exact List.Mem.head _ | (refine' List.Mem.tail _ ?_; (first | exact List.Mem.head _ | (refine' List.Mem.tail _ ?_; (first | exact List.Mem.head _ | (refine' List.Mem.tail _ ?_; (first | exact List.Mem.head _ | (refine' List.Mem.tail _ ?_; (first | exact List.Mem.head _ | (refine' List.Mem.tail _ ?_; (first | exact List.Mem.head _ | (refine' List.Mem.tail _ ?_; (first | exact List.Mem.head _ | assumption)) | assumption)) | assumption)) | assumption)) | assumption)) | assumption)) | assumption)) | assumption)) | assumption)) | assumption)) | assumption)) | assumption)) | assumption)) | assumption)) | assumption)) | assumption)) | assumption)) | assumption)) | assumption)) | assumption)) | assumption)) | assumption)) | assumption)) | assumption)) | assumption)) | assumption)) | assumption); (case m82hR => first | exact List.Mem.head _ | (refine' List.Mem.tail _ ?_; (first | exact List.Mem.head _ | (refine' List.Mem.tail _ ?_; (first | exact List.Mem.head _ | (refine' List.Mem.tail _ ?_; (first | exact List.Mem.head _ | (refine' List.Mem.tail _ ?_; (first | exact List.Mem.head _ | (refine' List.Mem.tail _ ?_; (first | exact List.Mem.head _ | (refine' List.Mem.tail _ ?_; (first | exact List.Mem.head _ | (refine' List.Mem.tail _ ?_; (first | exact List.Mem.head _ | (refine' List.Mem.tail _ ?_; (first | exact List.Mem.head _ | (refine' List.Mem.tail _ ?_; (first | exact List.Mem.head _ | (refine' List.Mem.tail _ ?_; (first | exact List.Mem.head _ | (refine' List.Mem.tail _ ?_; (first | exact List.Mem.head _ | (refine' List.Mem.tail _ ?_; (first | exact List.Mem.head _ | (refine' List.Mem.tail _ ?_; (first | exact List.Mem.head _ | (refine' List.Mem.tail _ ?_; (first | exact List.Mem.head _ | (refine' List.Mem.tail _ ?_; (first | exact List.Mem.head _ | (refine' List.Mem.tail _ ?_; (first | exact List.Mem.head _ | (refine' List.Mem.tail _ ?_; (first | exact List.Mem.head _ | (refine' List.Mem.tail _ ?_; (first | exact List.Mem.head _ | (refine' List.Mem.tail _ ?_; (first | exact List.Mem.head _ | (refine' List.Mem.tail _ ?_; (first | exact List.Mem.head _ | (refine' List.Mem.tail _ ?_; (first | exact List.Mem.head _ | (refine' List.Mem.tail _ ?_; (first | exact List.Mem.head _ | (refine' List.Mem.tail _ ?_; (first | exact List.Mem.head _ | (refine' List.Mem.tail _ ?_; (first | exact List.Mem.head _ | (refine' List.Mem.tail _ ?_; (first | exact List.Mem.head _ | (refine' List.Mem.tail _ ?_; (first | exact List.Mem.head _ | assumption)) | assumption)) | assumption)) | assumption)) | assumption)) | assumption)) | assumption)) | assumption)) | assumption)) | assumption)) | assumption)) | assumption)) | assumption)) | assumption)) | assumption)) | assumption)) | assumption)) | assumption)) | assumption)) | assumption)) | assumption)) | assumption)) | assumption)) | assumption)) | assumption)) | assumption)) | assumption); (case m82hI => first | assumption | exact IntsAre.cons _ _ IntsAre.nil); (case m82hJ => first | assumption | exact IntsAre.cons _ _ IntsAre.nil); intro h' tk' F' N'; (try dsimp only); (try k_sweep))))
  exact trivial
local macro_rules | `(tactic| walk_at "call ref") => `(tactic| k_extra "m83")
theorem word83 : True := by
  k_with "m83" => ((k_here; (with_reducible show wpAny _ _ (PySem.call (Value.ref 259) [Value.str _ _, Value.ref _, Value.ref _]) _ _ _); k_dflt (refine' use (c_meets_casez _ _ _ _ _ _ _ _ _ _ ?m83hP ?m83hR ?m83hI ?m83hJ) ?m83k1 ?m83k2 ?m83k3 ?m83k4 ?m83k5 ?m83k6 ?m83k7 ?m83k8 ?_; (case m83k1 => k_asm); (case m83k2 => k_asm); (case m83k3 => k_asm); (case m83k4 => k_asm); (case m83k5 => k_asm); (case m83k6 => first | exact rfl | assumption); (case m83k7 => ktr_room); (case m83k8 => ktr_units); (case m83hP => first | exact List.Mem.head _ | (refine' List.Mem.tail _ ?_; (first | exact List.Mem.head _ | (refine' List.Mem.tail _ ?_; (first | exact List.Mem.head _ | (refine' List.Mem.tail _ ?_; (first | exact List.Mem.head _ | (refine' List.Mem.tail _ ?_; (first | exact List.Mem.head _ | (refine' List.Mem.tail _ ?_; (first | exact List.Mem.head _ | (refine' List.Mem.tail _ ?_; (first | exact List.Mem.head _ | (refine' List.Mem.tail _ ?_; (first | exact List.Mem.head _ | (refine' List.Mem.tail _ ?_; (first | exact List.Mem.head _ | (refine' List.Mem.tail _ ?_; (first | exact List.Mem.head _ | (refine' List.Mem.tail _ ?_; (first | exact List.Mem.head _ | (refine' List.Mem.tail _ ?_; (first | exact List.Mem.head _ | (refine' List.Mem.tail _ ?_; (first | exact List.Mem.head _ | (refine' List.Mem.tail _ ?_; (first | exact List.Mem.head _ | (refine' List.Mem.tail _ ?_; (first | exact List.Mem.head _ | (refine' List.Mem.tail _ ?_; (first | exact List.Mem.head _ | (refine' List.Mem.tail _ ?_; (first | exact List.Mem.head _ | (refine' List.Mem.tail _ ?_; (first | exact List.Mem.head _ | (refine' List.Mem.tail _ ?_; (first | exact List.Mem.head _ | (refine' List.Mem.tail _ ?_; (first | exact List.Mem.head _ | (refine' List.Mem.tail _ ?_; (first | exact List.Mem.head _ | (refine' List.Mem.tail _ ?_; (first | exact List.Mem.head _ | (refine' List.Mem.tail _ ?_; (first | exact List.Mem.head _ | (refine' List.Mem.tail _ ?_; (first | exact List.Mem.head _ | (refine' List.Mem.tail _ ?_; (first | exact List.Mem.head _ | (refine' List.Mem.tail _ ?_; (first | exact List.Mem.head _ | (refine' List.Mem.tail _ ?_; (first | exact List.Mem.head _ | assumption)) | assumption)) | assumption)) | assumption)) | assumption)) | assumption)) | assumption)) | assumption)) | assumption)) | assumption)) | assumption)) | assumption)) | assumption)) | assumption)) | assumption)) | assumption)) | assumption)) | assumption)) | assumption)) | assumption)) | assumption)) | assumption)) | assumption)) | assumption)) | assumption)) | assumption)) | assumption); (case m83hR => first | exact List.Mem.head _ | (refine' List.Mem.tail _ ?_; (first | exact List.Mem.head _ | (refine' List.Mem.tail _ ?_; (first | exact List.Mem.head _ | (refine' List.Mem.tail _ ?_; (first | exact List.Mem.head _ | (refine' List.Mem.tail _ ?_; (first | exact List.Mem.head _ | (refine' List.Mem.tail _ ?_; (first | exact List.Mem.head _ | (refine' List.Mem.tail _ ?_; (first | exact List.Mem.head _ | (refine' List.Mem.tail _ ?_; (first | exact List.Mem.head _ | (refine' List.Mem.tail _ ?_; (first | exact List.Mem.head _ | (refine' List.Mem.tail _ ?_; (first | exact List.Mem.head _ | (refine' List.Mem.tail _ ?_; (first | exact List.Mem.head _ | (refine' List.Mem.tail _ ?_; (first | exact List.Mem.head _ | (refine' List.Mem.tail _ ?_; (first | exact List.Mem.head _ | (refine' List.Mem.tail _ ?_; (first | exact List.Mem.head _ | (refine' List.Mem.tail _ ?_; (first | exact List.Mem.head _ | (refine' List.Mem.tail _ ?_; (first | exact List.Mem.head _ | (refine' List.Mem.tail _ ?_; (first | exact List.Mem.head _ | (refine' List.Mem.tail _ ?_; (first | exact List.Mem.head _ | (refine' List.Mem.tail _ ?_; (first | exact List.Mem.head _ | (refine' List.Mem.tail _ ?_; (first | exact List.Mem.head _ | (refine' List.Mem.tail _ ?_; (first | exact List.Mem.head _ | (refine' List.Mem.tail _ ?_; (first | exact List.Mem.head _ | (refine' List.Mem.tail _ ?_; (first | exact List.Mem.head _ | (refine' List.Mem.tail _ ?_; (first | exact List.Mem.head _ | (refine' List.Mem.tail _ ?_; (first | exact List.Mem.head _ | (refine' List.Mem.tail _ ?_; (first | exact List.Mem.head _ | (refine' List.Mem.tail _ ?_; (first | exact List.Mem.head _ | assumption)) | assumption)) | assumption)) | assumption)) | assumption)) | assumption)) | assumption)) | assumption)) | assumption)) | assumption)) | assumption)) | assumption)) | assumption)) | assumption)) | assumption)) | assumption)) | assumption)) | assumption)) | assumption)) | assumption)) | assumption)) | assumption)) | assumption)) | assumption)) | assumption)) | assumption)) | assumption); (case m83hI => first | assumption | exact IntsAre.cons _ _ IntsAre.nil); (case m83hJ => first | assumption | exact IntsAre.cons _ _ IntsAre.nil); intro h' tk' F' N'; (try dsimp only); (try k_sweep))))
  exact trivial
local macro_rules | `(tactic| walk_at "call ref") => `(tactic| k_extra "m84")
theorem word84 : True := by
  k_with "m84" => ((k_here; (with_reducible show wpAny _ _ (PySem.call (Value.ref 259) [Value.str _ _, Value.ref _, Value.ref _]) _ _ _); k_dflt (refine' use (c_meets_casex _ _ _ _ _ _ _ _ _ _ ?m84hP ?m84hR ?m84hI ?m84hJ) ?m84k1 ?m84k2 ?m84k3 ?m84k4 ?m84k5 ?m84k6 ?m84k7 ?m84k8 ?_; (case m84k1 => k_asm); (case m84k2 => k_asm); (case m84k3 => k_asm); (case m84k4 => k_asm); (case m84k5 => k_asm); (case m84k6 => first | exact rfl | assumption); (case m84k7 => ktr_room); (case m84k8 => ktr_units); (case m84hP => first | exact List.Mem.head _ | (refine' List.Mem.tail _ ?_; (first | exact List.Mem.head _ | (refine' List.Mem.tail _ ?_; (first | exact List.Mem.head _ | (refine' List.Mem.tail _ ?_; (first | exact List.Mem.head _ | (refine' List.Mem.tail _ ?_; (first | exact List.Mem.head _ | (refine' List.Mem.tail _ ?_; (first | exact List.Mem.head _ | (refine' List.Mem.tail _ ?_; (first | exact List.Mem.head _ | (refine' List.Mem.tail _ ?_; (first | exact List.Mem.head _ | (refine' List.Mem.tail _ ?_; (first | exact List.Mem.head _ | (refine' List.Mem.tail _ ?_; (first | exact List.Mem.head _ | (refine' List.Mem.tail _ ?_; (first | exact List.Mem.head _ | (refine' List.Mem.tail _ ?_; (first | exact List.Mem.head _ | (refine' List.Mem.tail _ ?_; (first | exact List.Mem.head _ | (refine' List.Mem.tail _ ?_; (first | exact List.Mem.head _ | (refine' List.Mem.tail _ ?_; (first | exact List.Mem.head _ | (refine' List.Mem.tail _ ?_; (first | exact List.Mem.head _ | (refine' List.Mem.tail _ ?_; (first | exact List.Mem.head _ | (refine' List.Mem.tail _ ?_; (first | exact List.Mem.head _ | (refine' List.Mem.tail _ ?_; (first | exact List.Mem.head _ | (refine' List.Mem.tail _ ?_; (first | exact List.Mem.head _ | (refine' List.Mem.tail _ ?_; (first | exact List.Mem.head _ | (refine' List.Mem.tail _ ?_; (first | exact List.Mem.head _ | (refine' List.Mem.tail _ ?_; (first | exact List.Mem.head _ | (refine' List.Mem.tail _ ?_; (first | exact List.Mem.head _ | (refine' List.Mem.tail _ ?_; (first | exact List.Mem.head _ | (refine' List.Mem.tail _ ?_; (first | exact List.Mem.head _ | (refine' List.Mem.tail _ ?_; (first | exact List.Mem.head _ | assumption)) | assumption)) | assumption)) | assumption)) | assumption)) | assumption)) | assumption)) | assumption)) | assumption)) | assumption)) | assumption)) | assumption)) | assumption)) | assumption)) | assumption)) | assumption)) | assumption)) | assumption)) | assumption)) | assumption)) | assumption)) | assumption)) | assumption)) | assumption)) | assumption)) | assumption)) | assumption); (case m84hR => first | exact List.Mem.head _ | (refine' List.Mem.tail _ ?_; (first | exact List.Mem.head _ | (refine' List.Mem.tail _ ?_; (first | exact List.Mem.head _ | (refine' List.Mem.tail _ ?_; (first | exact List.Mem.head _ | (refine' List.Mem.tail _ ?_; (first | exact List.Mem.head _ | (refine' List.Mem.tail _ ?_; (first | exact List.Mem.head _ | (refine' List.Mem.tail _ ?_; (first | exact List.Mem.head _ | (refine' List.Mem.tail _ ?_; (first | exact List.Mem.head _ | (refine' List.Mem.tail _ ?_; (first | exact List.Mem.head _ | (refine' List.Mem.tail _ ?_; (first | exact List.Mem.head _ | (refine' List.Mem.tail _ ?_; (first | exact List.Mem.head _ | (refine' List.Mem.tail _ ?_; (first | exact List.Mem.head _ | (refine' List.Mem.tail _ ?_; (first | exact List.Mem.head _ | (refine' List.Mem.tail _ ?_; (first | exact List.Mem.head _ | (refine' List.Mem.tail _ ?_; (first | exact List.Mem.head _ | (refine' List.Mem.tail _ ?_; (first | exact List.Mem.head _ | (refine' List.Mem.tail _ ?_; (first | exact List.Mem.head _ | (refine' List.Mem.tail _ ?_; (first | exact List.Mem.head _ | (refine' List.Mem.tail _ ?_; (first | exact List.Mem.head _ | (refine' List.Mem.tail _ ?_; (first | exact List.Mem.head _ | (refine' List.Mem.tail _ ?_; (first | exact List.Mem.head _ | (refine' List.Mem.tail _ ?_; (first | exact List.Mem.head _ | (refine' List.Mem.tail _ ?_; (first | exact List.Mem.head _ | (refine' List.Mem.tail _ ?_; (first | exact List.Mem.head _ | (refine' List.Mem.tail _ ?_; (first | exact List.Mem.head _ | (refine' List.Mem.tail _ ?_; (first | exact List.Mem.head _ | (refine' List.Mem.tail _ ?_; (first | exact List.Mem.head _ | assumption)) | assumption)) | assumption)) | assumption)) | assumption)) | assumption)) | assumption)) | assumption)) | assumption)) | assumption)) | assumption)) | assumption)) | assumption)) | assumption)) | assumption)) | assumption)) | assumption)) | assumption)) | assumption)) | assumption)) | assumption)) | assumption)) | assumption)) | assumption)) | assumption)) | assumption)) | assumption); (case m84hI => first | assumption | exact IntsAre.cons _ _ IntsAre.nil); (case m84hJ => first | assumption | exact IntsAre.cons _ _ IntsAre.nil); intro h' tk' F' N'; (try dsimp only); (try k_sweep))))
  exact trivial
theorem eq_same {prog : Program} {w : World} {A : Around} {E : Value → Shared → Prop} {s : Shared} {h₀ : Heap} {L U V : Addr} {news : Led} {n a b : Int} {t1 t2 t3 v1 v2 v3 : Tok} {x y : Nat} {Q : Value → Shared → Prop}
    (N : News h₀ L s.heap news) (h1 : (U, tup3 n a b t1 t2 t3 x) ∈ news) (h2 : (V, tup3 n a b v1 v2 v3 y) ∈ news) (hu : A.units + 64 < cLine)
    (h : Q (.bool true) s) : wpAny (model prog w) A (compareOp .Eq (.ref U) (.ref V)) Q E s := eq_tup3 N h1 h2 hu (by simpa using h)
theorem ne_same {prog : Program} {w : World} {A : Around} {E : Value → Shared → Prop} {s : Shared} {h₀ : Heap} {L U V : Addr} {news : Led} {n a b : Int} {t1 t2 t3 v1 v2 v3 : Tok} {x y : Nat} {Q : Value → Shared → Prop}
    (N : News h₀ L s.heap news) (h1 : (U, tup3 n a b t1 t2 t3 x) ∈ news) (h2 : (V, tup3 n a b v1 v2 v3 y) ∈ news) (hu : A.units + 64 < cLine)
    (h : Q (.bool false) s) : wpAny (model prog w) A (compareOp .NotEq (.ref U) (.ref V)) Q E s := ne_tup3 N h1 h2 hu (by simpa using h)
local macro_rules | `(tactic| walk_at "compareOp Eq ref ref") => `(tactic| k_extra "m85")
theorem word85 : True := by
  k_with "m85" => ((k_here; (with_reducible show wpAny _ _ (compareOp CmpOp.Eq (Value.ref _) (Value.ref _)) _ _ _); k_dflt (refine' eq_same ?m85N ?m85m1 ?m85m2 ?m85u ?_; (case m85N => k_asm); (case m85m1 => first | exact List.Mem.head _ | (refine' List.Mem.tail _ ?_; (first | exact List.Mem.head _ | (refine' List.Mem.tail _ ?_; (first | exact List.Mem.head _ | (refine' List.Mem.tail _ ?_; (first | exact List.Mem.head _ | (refine' List.Mem.tail _ ?_; (first | exact List.Mem.head _ | (refine' List.Mem.tail _ ?_; (first | exact List.Mem.head _ | (refine' List.Mem.tail _ ?_; (first | exact List.Mem.head _ | (refine' List.Mem.tail _ ?_; (first | exact List.Mem.head _ | (refine' List.Mem.tail _ ?_; (first | exact List.Mem.head _ | (refine' List.Mem.tail _ ?_; (first | exact List.Mem.head _ | (refine' List.Mem.tail _ ?_; (first | exact List.Mem.head _ | (refine' List.Mem.tail _ ?_; (first | exact List.Mem.head _ | (refine' List.Mem.tail _ ?_; (first | exact List.Mem.head _ | (refine' List.Mem.tail _ ?_; (first | exact List.Mem.head _ | (refine' List.Mem.tail _ ?_; (first | exact List.Mem.head _ | (refine' List.Mem.tail _ ?_; (first | exact List.Mem.head _ | (refine' List.Mem.tail _ ?_; (first | exact List.Mem.head _ | (refine' List.Mem.tail _ ?_; (first | exact List.Mem.head _ | (refine' List.Mem.tail _ ?_; (first | exact List.Mem.head _ | (refine' List.Mem.tail _ ?_; (first | exact List.Mem.head _ | (refine' List.Mem.tail _ ?_; (first | exact List.Mem.head _ | (refine' List.Mem.tail _ ?_; (first | exact List.Mem.head _ | (refine' List.Mem.tail _ ?_; (first | exact List.Mem.head _ | (refine' List.Mem.tail _ ?_; (first | exact List.Mem.head _ | (refine' List.Mem.tail _ ?_; (first | exact List.Mem.head _ | (refine' List.Mem.tail _ ?_; (first | exact List.Mem.head _ | (refine' List.Mem.tail _ ?_; (first | exact List.Mem.head _ | assumption)) | assumption)) | assumption)) | assumption)) | assumption)) | assumption)) | assumption)) | assumption)) | assumption)) | assumption)) | assumption)) | assumption)) | assumption)) | assumption)) | assumption)) | assumption)) | assumption)) | assumption)) | assumption)) | assumption)) | assumption)) | assumption)) | assumption)) | assumption)) | assumption)) | assumption)) | assumption); (case m85m2 => first | exact List.Mem.head _ | (refine' List.Mem.tail _ ?_; (first | exact List.Mem.head _ | (refine' List.Mem.tail _ ?_; (first | exact List.Mem.head _ | (refine' List.Mem.tail _ ?_; (first | exact List.Mem.head _ | (refine' List.Mem.tail _ ?_; (first | exact List.Mem.head _ | (refine' List.Mem.tail _ ?_; (first | exact List.Mem.head _ | (refine' List.Mem.tail _ ?_; (first | exact List.Mem.head _ | (refine' List.Mem.tail _ ?_; (first | exact List.Mem.head _ | (refine' List.Mem.tail _ ?_; (first | exact List.Mem.head _ | (refine' List.Mem.tail _ ?_; (first | exact List.Mem.head _ | (refine' List.Mem.tail _ ?_; (first | exact List.Mem.head _ | (refine' List.Mem.tail _ ?_; (first | exact List.Mem.head _ | (refine' List.Mem.tail _ ?_; (first | exact List.Mem.head _ | (refine' List.Mem.tail _ ?_; (first | exact List.Mem.head _ | (refine' List.Mem.tail _ ?_; (first | exact List.Mem.head _ | (refine' List.Mem.tail _ ?_; (first | exact List.Mem.head _ | (refine' List.Mem.tail _ ?_; (first | exact List.Mem.head _ | (refine' List.Mem.tail _ ?_; (first | exact List.Mem.head _ | (refine' List.Mem.tail _ ?_; (first | exact List.Mem.head _ | (refine' List.Mem.tail _ ?_; (first | exact List.Mem.head _ | (refine' List.Mem.tail _ ?_; (first | exact List.Mem.head _ | (refine' List.Mem.tail _ ?_; (first | exact List.Mem.head _ | (refine' List.Mem.tail _ ?_; (first | exact List.Mem.head _ | (refine' List.Mem.tail _ ?_; (first | exact List.Mem.head _ | (refine' List.Mem.tail _ ?_; (first | exact List.Mem.head _ | (refine' List.Mem.tail _ ?_; (first | exact List.Mem.head _ | (refine' List.Mem.tail _ ?_; (first | exact List.Mem.head _ | assumption)) | assumption)) | assumption)) | assumption)) | assumption)) | assumption)) | assumption)) | assumption)) | assumption)) | assumption)) | assumption)) | assumption)) | assumption)) | assumption)) | assumption)) | assumption)) | assumption)) | assumption)) | assumption)) | assumption)) | assumption)) | assumption)) | assumption)) | assumption)) | assumption)) | assumption)) | assumption); (case m85u => ktr_units))))
  exact trivial
local macro_rules | `(tactic| walk_at "compareOp NotEq ref ref") => `(tactic| k_extra "m86")
theorem word86 : True := by
  k_with "m86" => ((k_here; (with_reducible show wpAny _ _ (compareOp CmpOp.NotEq (Value.ref _) (Value.ref _)) _ _ _); k_dflt (refine' ne_same ?m86N ?m86m1 ?m86m2 ?m86u ?_; (case m86N => k_asm); (case m86m1 => first | exact List.Mem.head _ | (refine' List.Mem.tail _ ?_; (first | exact List.Mem.head _ | (refine' List.Mem.tail _ ?_; (first | exact List.Mem.head _ | (refine' List.Mem.tail _ ?_; (first | exact List.Mem.head _ | (refine' List.Mem.tail _ ?_; (first | exact List.Mem.head _ | (refine' List.Mem.tail _ ?_; (first | exact List.Mem.head _ | (refine' List.Mem.tail _ ?_; (first | exact List.Mem.head _ | (refine' List.Mem.tail _ ?_; (first | exact List.Mem.head _ | (refine' List.Mem.tail _ ?_; (first | exact List.Mem.head _ | (refine' List.Mem.tail _ ?_; (first | exact List.Mem.head _ | (refine' List.Mem.tail _ ?_; (first | exact List.Mem.head _ | (refine' List.Mem.tail _ ?_; (first | exact List.Mem.head _ | (refine' List.Mem.tail _ ?_; (first | exact List.Mem.head _ | (refine' List.Mem.tail _ ?_; (first | exact List.Mem.head _ | (refine' List.Mem.tail _ ?_; (first | exact List.Mem.head _ | (refine' List.Mem.tail _ ?_; (first | exact List.Mem.head _ | (refine' List.Mem.tail _ ?_; (first | exact List.Mem.head _ | (refine' List.Mem.tail _ ?_; (first | exact List.Mem.head _ | (refine' List.Mem.tail _ ?_; (first | exact List.Mem.head _ | (refine' List.Mem.tail _ ?_; (first | exact List.Mem.head _ | (refine' List.Mem.tail _ ?_; (first | exact List.Mem.head _ | (refine' List.Mem.tail _ ?_; (first | exact List.Mem.head _ | (refine' List.Mem.tail _ ?_; (first | exact List.Mem.head _ | (refine' List.Mem.tail _ ?_; (first | exact List.Mem.head _ | (refine' List.Mem.tail _ ?_; (first | exact List.Mem.head _ | (refine' List.Mem.tail _ ?_; (first | exact List.Mem.head _ | (refine' List.Mem.tail _ ?_; (first | exact List.Mem.head _ | assumption)) | assumption)) | assumption)) | assumption)) | assumption)) | assumption)) | assumption)) | assumption)) | assumption)) | assumption)) | assumption)) | assumption)) | assumption)) | assumption)) | assumption)) | assumption)) | assumption)) | assumption)) | assumption)) | assumption)) | assumption)) | assumption)) | assumption)) | assumption)) | assumption)) | assumption)) | assumption); (case m86m2 => first | exact List.Mem.head _ | (refine' List.Mem.tail _ ?_; (first | exact List.Mem.head _ | (refine' List.Mem.tail _ ?_; (first | exact List.Mem.head _ | (refine' List.Mem.tail _ ?_; (first | exact List.Mem.head _ | (refine' List.Mem.tail _ ?_; (first | exact List.Mem.head _ | (refine' List.Mem.tail _ ?_; (first | exact List.Mem.head _ | (refine' List.Mem.tail _ ?_; (first | exact List.Mem.head _ | (refine' List.Mem.tail _ ?_; (first | exact List.Mem.head _ | (refine' List.Mem.tail _ ?_; (first | exact List.Mem.head _ | (refine' List.Mem.tail _ ?_; (first | exact List.Mem.head _ | (refine' List.Mem.tail _ ?_; (first | exact List.Mem.head _ | (refine' List.Mem.tail _ ?_; (first | exact List.Mem.head _ | (refine' List.Mem.tail _ ?_; (first | exact List.Mem.head _ | (refine' List.Mem.tail _ ?_; (first | exact List.Mem.head _ | (refine' List.Mem.tail _ ?_; (first | exact List.Mem.head _ | (refine' List.Mem.tail _ ?_; (first | exact List.Mem.head _ | (refine' List.Mem.tail _ ?_; (first | exact List.Mem.head _ | (refine' List.Mem.tail _ ?_; (first | exact List.Mem.head _ | (refine' List.Mem.tail _ ?_; (first | exact List.Mem.head _ | (refine' List.Mem.tail _ ?_; (first | exact List.Mem.head _ | (refine' List.Mem.tail _ ?_; (first | exact List.Mem.head _ | (refine' List.Mem.tail _ ?_; (first | exact List.Mem.head _ | (refine' List.Mem.tail _ ?_; (first | exact List.Mem.head _ | (refine' List.Mem.tail _ ?_; (first | exact List.Mem.head _ | (refine' List.Mem.tail _ ?_; (first | exact List.Mem.head _ | (refine' List.Mem.tail _ ?_; (first | exact List.Mem.head _ | (refine' List.Mem.tail _ ?_; (first | exact List.Mem.head _ | assumption)) | assumption)) | assumption)) | assumption)) | assumption)) | assumption)) | assumption)) | assumption)) | assumption)) | assumption)) | assumption)) | assumption)) | assumption)) | assumption)) | assumption)) | assumption)) | assumption)) | assumption)) | assumption)) | assumption)) | assumption)) | assumption)) | assumption)) | assumption)) | assumption)) | assumption)) | assumption); (case m86u => ktr_units))))
  exact trivial
inductive TL (news : Led) : List Value → List V3 → Prop
  | nil : TL news [] []
  | cons {T : Addr} {n a b : Int} {t1 t2 t3 : Tok} {c : Nat} {vs : List Value} {ds : List V3} (hm : (T, tup3 n a b t1 t2 t3 c) ∈ news) (r : TL news vs ds) : TL news (.ref T :: vs) ((n, a, b) :: ds)
abbrev v3d (d : V3) : PyData := .tuple [.int d.1, .int d.2.1, .int d.2.2]
theorem TL.reads {h₀ h : Heap} {L : Addr} {news : Led} (N : News h₀ L h news) : ∀ {vs : List Value} {ds : List V3}, TL news vs ds → ∃ as, ReadsAll h vs (ds.map v3d) as
  | _, _, .nil => ⟨_, ReadsAll.nil⟩
  | _, _, .cons hm r => by
    obtain ⟨_, r1⟩ := reads_tup3 N hm
    obtain ⟨_, r2⟩ := TL.reads N r
    exact ⟨_, ReadsAll.cons r1 r2⟩
theorem eqvAll_v3 : ∀ ds : List V3, PyData.eqvAll (ds.map v3d) (ds.map v3d) = true
  | [] => rfl
  | d :: r => by
    have e1 : PyData.eqv (v3d d) (v3d d) = true := by rw [eqv_tup3]; simp
    have e2 := eqvAll_v3 r
    rw [List.map_cons, PyData.eqvAll, e1, e2]; rfl
theorem ne_tups {prog : Program} {w : World} {A : Around} {E : Value → Shared → Prop} {s : Shared} {h₀ : Heap} {L P R : Addr} {news : Led} {vs us : List Value} {c d : Nat} {ds : List V3} {Q : Value → Shared → Prop}
    (N : News h₀ L s.heap news) (hP : (P, listOf vs.toArray c) ∈ news) (hR : (R, listOf us.toArray d) ∈ news) (T1 : TL news vs ds) (T2 : TL news us ds) (hsh : SeqAt.shaped (.list (ds.map v3d)) = true) (hu : A.units + 64 < cLine)
    (h : Q (.bool false) s) : wpAny (model prog w) A (compareOp .NotEq (.ref P) (.ref R)) Q E s := by
  obtain ⟨_, r1⟩ := TL.reads N T1
  obtain ⟨_, r2⟩ := TL.reads N T2
  have q1 : Reads s.heap (.ref P) (.list (ds.map v3d)) _ := reads_list_at (News.get N hP) rfl rfl (by simpa using r1)
  have q2 : Reads s.heap (.ref R) (.list (ds.map v3d)) _ := reads_list_at (News.get N hR) rfl rfl (by simpa using r2)
  refine ne_dataH q1 q2 hsh hsh hu ?_
  have e : PyData.eqv (.list (ds.map v3d)) (.list (ds.map v3d)) = true := by
    rw [PyData.eqv]; exact eqvAll_v3 ds
  rw [e]
  exact h
theorem ce_tup {h₀ : Heap} {L : Addr} {m : Str → Option Value} {s₁ : Shared} {I : Addr} {oI : Obj} {C : Addr} {oC : Obj} {D : Addr} {oD : Obj} {S : Led → Prop} {rest : Value → Led → Prop} {T : Addr} {o : Obj} {b : Addr × Obj} {old : Led} {h' : Heap} {tk : Nat}
    (F : Fr h₀ L h' m) (N : News h₀ L h' ((T, o) :: b :: (I, oI) :: (C, oC) :: (D, oD) :: old)) (hf : ∀ p ∈ b :: (I, oI) :: (C, oC) :: (D, oD) :: old, p.1 ≠ T) (off : LCg.Off3 I C D old) (hS : S ((T, o) :: old)) (r : rest (.ref T) ((T, o) :: old)) :
    LCg.CompEnd h₀ L m s₁ I oI C oC D oD S rest (.ref T) { s₁ with heap := h', toks := tk } := by
  have h1 := hf (I, oI) (.tail _ (.head _))
  have h2 := hf (C, oC) (.tail _ (.tail _ (.head _)))
  have h3 := hf (D, oD) (.tail _ (.tail _ (.tail _ (.head _))))
  refine LCg.CompEnd.intro F N ((T, o) :: old) (fun p hp => ?_) ⟨⟨Ne.symm h1, Ne.symm h2, Ne.symm h3⟩, off⟩ hS r
  rcases List.mem_cons.mp hp with rfl | hp
  · exact .tail _ (.tail _ (.head _))
  rcases List.mem_cons.mp hp with rfl | hp
  · exact .tail _ (.tail _ (.tail _ (.head _)))
  rcases List.mem_cons.mp hp with rfl | hp
  · exact .tail _ (.tail _ (.tail _ (.tail _ (.head _))))
  rcases List.mem_cons.mp hp with rfl | hp
  · exact .head _
  · exact .tail _ (.tail _ (.tail _ (.tail _ (.tail _ hp))))
local macro_rules | `(tactic| walk_at "compareOp NotEq ref ref") => `(tactic| k_extra "m87")
theorem word87 : True := by
  k_with "m87" => ((k_here; (with_reducible show wpAny _ _ (compareOp CmpOp.NotEq (Value.ref _) (Value.ref _)) _ _ _); k_dflt (refine' ne_tups (ds := [(_, _, _), (_, _, _), (_, _, _), (_, _, _), (_, _, _), (_, _, _), (_, _, _)]) ?m87N ?m87m1 ?m87m2 ?m87t1 ?m87t2 ?m87sh ?m87u ?_; (case m87N => k_asm); (case m87m1 => first | exact List.Mem.head _ | (refine' List.Mem.tail _ ?_; (first | exact List.Mem.head _ | (refine' List.Mem.tail _ ?_; (first | exact List.Mem.head _ | (refine' List.Mem.tail _ ?_; (first | exact List.Mem.head _ | (refine' List.Mem.tail _ ?_; (first | exact List.Mem.head _ | (refine' List.Mem.tail _ ?_; (first | exact List.Mem.head _ | (refine' List.Mem.tail _ ?_; (first | exact List.Mem.head _ | (refine' List.Mem.tail _ ?_; (first | exact List.Mem.head _ | (refine' List.Mem.tail _ ?_; (first | exact List.Mem.head _ | (refine' List.Mem.tail _ ?_; (first | exact List.Mem.head _ | (refine' List.Mem.tail _ ?_; (first | exact List.Mem.head _ | (refine' List.Mem.tail _ ?_; (first | exact List.Mem.head _ | (refine' List.Mem.tail _ ?_; (first | exact List.Mem.head _ | (refine' List.Mem.tail _ ?_; (first | exact List.Mem.head _ | (refine' List.Mem.tail _ ?_; (first | exact List.Mem.head _ | (refine' List.Mem.tail _ ?_; (first | exact List.Mem.head _ | (refine' List.Mem.tail _ ?_; (first | exact List.Mem.head _ | (refine' List.Mem.tail _ ?_; (first | exact List.Mem.head _ | (refine' List.Mem.tail _ ?_; (first | exact List.Mem.head _ | (refine' List.Mem.tail _ ?_; (first | exact List.Mem.head _ | (refine' List.Mem.tail _ ?_; (first | exact List.Mem.head _ | (refine' List.Mem.tail _ ?_; (first | exact List.Mem.head _ | (refine' List.Mem.tail _ ?_; (first | exact List.Mem.head _ | (refine' List.Mem.tail _ ?_; (first | exact List.Mem.head _ | (refine' List.Mem.tail _ ?_; (first | exact List.Mem.head _ | (refine' List.Mem.tail _ ?_; (first | exact List.Mem.head _ | (refine' List.Mem.tail _ ?_; (first | exact List.Mem.head _ | assumption)) | assumption)) | assumption)) | assumption)) | assumption)) | assumption)) | assumption)) | assumption)) | assumption)) | assumption)) | assumption)) | assumption)) | assumption)) | assumption)) | assumption)) | assumption)) | assumption)) | assumption)) | assumption)) | assumption)) | assumption)) | assumption)) | assumption)) | assumption)) | assumption)) | assumption)) | assumption); (case m87m2 => first | exact List.Mem.head _ | (refine' List.Mem.tail _ ?_; (first | exact List.Mem.head _ | (refine' List.Mem.tail _ ?_; (first | exact List.Mem.head _ | (refine' List.Mem.tail _ ?_; (first | exact List.Mem.head _ | (refine' List.Mem.tail _ ?_; (first | exact List.Mem.head _ | (refine' List.Mem.tail _ ?_; (first | exact List.Mem.head _ | (refine' List.Mem.tail _ ?_; (first | exact List.Mem.head _ | (refine' List.Mem.tail _ ?_; (first | exact List.Mem.head _ | (refine' List.Mem.tail _ ?_; (first | exact List.Mem.head _ | (refine' List.Mem.tail _ ?_; (first | exact List.Mem.head _ | (refine' List.Mem.tail _ ?_; (first | exact List.Mem.head _ | (refine' List.Mem.tail _ ?_; (first | exact List.Mem.head _ | (refine' List.Mem.tail _ ?_; (first | exact List.Mem.head _ | (refine' List.Mem.tail _ ?_; (first | exact List.Mem.head _ | (refine' List.Mem.tail _ ?_; (first | exact List.Mem.head _ | (refine' List.Mem.tail _ ?_; (first | exact List.Mem.head _ | (refine' List.Mem.tail _ ?_; (first | exact List.Mem.head _ | (refine' List.Mem.tail _ ?_; (first | exact List.Mem.head _ | (refine' List.Mem.tail _ ?_; (first | exact List.Mem.head _ | (refine' List.Mem.tail _ ?_; (first | exact List.Mem.head _ | (refine' List.Mem.tail _ ?_; (first | exact List.Mem.head _ | (refine' List.Mem.tail _ ?_; (first | exact List.Mem.head _ | (refine' List.Mem.tail _ ?_; (first | exact List.Mem.head _ | (refine' List.Mem.tail _ ?_; (first | exact List.Mem.head _ | (refine' List.Mem.tail _ ?_; (first | exact List.Mem.head _ | (refine' List.Mem.tail _ ?_; (first | exact List.Mem.head _ | (refine' List.Mem.tail _ ?_; (first | exact List.Mem.head _ | assumption)) | assumption)) | assumption)) | assumption)) | assumption)) | assumption)) | assumption)) | assumption)) | assumption)) | assumption)) | assumption)) | assumption)) | assumption)) | assumption)) | assumption)) | assumption)) | assumption)) | assumption)) | assumption)) | assumption)) | assumption)) | assumption)) | assumption)) | assumption)) | assumption)) | assumption)) | assumption); (case m87t1 => (iterate 7 (refine TL.cons (by first | exact List.Mem.head _ | (refine' List.Mem.tail _ ?_; (first | exact List.Mem.head _ | (refine' List.Mem.tail _ ?_; (first | exact List.Mem.head _ | (refine' List.Mem.tail _ ?_; (first | exact List.Mem.head _ | (refine' List.Mem.tail _ ?_; (first | exact List.Mem.head _ | (refine' List.Mem.tail _ ?_; (first | exact List.Mem.head _ | (refine' List.Mem.tail _ ?_; (first | exact List.Mem.head _ | (refine' List.Mem.tail _ ?_; (first | exact List.Mem.head _ | (refine' List.Mem.tail _ ?_; (first | exact List.Mem.head _ | (refine' List.Mem.tail _ ?_; (first | exact List.Mem.head _ | (refine' List.Mem.tail _ ?_; (first | exact List.Mem.head _ | (refine' List.Mem.tail _ ?_; (first | exact List.Mem.head _ | (refine' List.Mem.tail _ ?_; (first | exact List.Mem.head _ | (refine' List.Mem.tail _ ?_; (first | exact List.Mem.head _ | (refine' List.Mem.tail _ ?_; (first | exact List.Mem.head _ | (refine' List.Mem.tail _ ?_; (first | exact List.Mem.head _ | (refine' List.Mem.tail _ ?_; (first | exact List.Mem.head _ | (refine' List.Mem.tail _ ?_; (first | exact List.Mem.head _ | (refine' List.Mem.tail _ ?_; (first | exact List.Mem.head _ | (refine' List.Mem.tail _ ?_; (first | exact List.Mem.head _ | (refine' List.Mem.tail _ ?_; (first | exact List.Mem.head _ | (refine' List.Mem.tail _ ?_; (first | exact List.Mem.head _ | (refine' List.Mem.tail _ ?_; (first | exact List.Mem.head _ | (refine' List.Mem.tail _ ?_; (first | exact List.Mem.head _ | (refine' List.Mem.tail _ ?_; (first | exact List.Mem.head _ | (refine' List.Mem.tail _ ?_; (first | exact List.Mem.head _ | (refine' List.Mem.tail _ ?_; (first | exact List.Mem.head _ | assumption)) | assumption)) | assumption)) | assumption)) | assumption)) | assumption)) | assumption)) | assumption)) | assumption)) | assumption)) | assumption)) | assumption)) | assumption)) | assumption)) | assumption)) | assumption)) | assumption)) | assumption)) | assumption)) | assumption)) | assumption)) | assumption)) | assumption)) | assumption)) | assumption)) | assumption)) | assumption) ?_)); exact TL.nil); (case m87t2 => (iterate 7 (refine TL.cons (by first | exact List.Mem.head _ | (refine' List.Mem.tail _ ?_; (first | exact List.Mem.head _ | (refine' List.Mem.tail _ ?_; (first | exact List.Mem.head _ | (refine' List.Mem.tail _ ?_; (first | exact List.Mem.head _ | (refine' List.Mem.tail _ ?_; (first | exact List.Mem.head _ | (refine' List.Mem.tail _ ?_; (first | exact List.Mem.head _ | (refine' List.Mem.tail _ ?_; (first | exact List.Mem.head _ | (refine' List.Mem.tail _ ?_; (first | exact List.Mem.head _ | (refine' List.Mem.tail _ ?_; (first | exact List.Mem.head _ | (refine' List.Mem.tail _ ?_; (first | exact List.Mem.head _ | (refine' List.Mem.tail _ ?_; (first | exact List.Mem.head _ | (refine' List.Mem.tail _ ?_; (first | exact List.Mem.head _ | (refine' List.Mem.tail _ ?_; (first | exact List.Mem.head _ | (refine' List.Mem.tail _ ?_; (first | exact List.Mem.head _ | (refine' List.Mem.tail _ ?_; (first | exact List.Mem.head _ | (refine' List.Mem.tail _ ?_; (first | exact List.Mem.head _ | (refine' List.Mem.tail _ ?_; (first | exact List.Mem.head _ | (refine' List.Mem.tail _ ?_; (first | exact List.Mem.head _ | (refine' List.Mem.tail _ ?_; (first | exact List.Mem.head _ | (refine' List.Mem.tail _ ?_; (first | exact List.Mem.head _ | (refine' List.Mem.tail _ ?_; (first | exact List.Mem.head _ | (refine' List.Mem.tail _ ?_; (first | exact List.Mem.head _ | (refine' List.Mem.tail _ ?_; (first | exact List.Mem.head _ | (refine' List.Mem.tail _ ?_; (first | exact List.Mem.head _ | (refine' List.Mem.tail _ ?_; (first | exact List.Mem.head _ | (refine' List.Mem.tail _ ?_; (first | exact List.Mem.head _ | (refine' List.Mem.tail _ ?_; (first | exact List.Mem.head _ | assumption)) | assumption)) | assumption)) | assumption)) | assumption)) | assumption)) | assumption)) | assumption)) | assumption)) | assumption)) | assumption)) | assumption)) | assumption)) | assumption)) | assumption)) | assumption)) | assumption)) | assumption)) | assumption)) | assumption)) | assumption)) | assumption)) | assumption)) | assumption)) | assumption)) | assumption)) | assumption) ?_)); exact TL.nil); (case m87sh => rfl); (case m87u => ktr_units))))
  exact trivial
theorem eq_lists {prog : Program} {w : World} {A : Around} {E : Value → Shared → Prop} {s : Shared} {h₀ : Heap} {L U V : Addr} {news : Led} {as cs : List Int} {t1 t2 t3 v1 v2 v3 : Tok} {x y : Nat} {Q : Value → Shared → Prop}
    (N : News h₀ L s.heap news) (h1 : (U, tup3 (as.length : Int) (sLow as) (sHigh as) t1 t2 t3 x) ∈ news) (h2 : (V, tup3 (cs.length : Int) (sLow cs) (sHigh cs) v1 v2 v3 y) ∈ news) (e : as = cs) (hu : A.units + 64 < cLine)
    (h : Q (.bool true) s) : wpAny (model prog w) A (compareOp .Eq (.ref U) (.ref V)) Q E s := by subst e; exact eq_same N h1 h2 hu h
theorem eq_ints {prog : Program} {w : World} {A : Around} {E : Value → Shared → Prop} {s : Shared} {h₀ : Heap} {L U V : Addr} {news : Led} {vs us : List Value} {as bs : List Int} {c d : Nat} {Q : Value → Shared → Prop}
    (N : News h₀ L s.heap news) (h1 : (U, listOf vs.toArray c) ∈ news) (h2 : (V, listOf us.toArray d) ∈ news) (hI : IntsAre vs as) (hJ : IntsAre us bs) (hu : A.units + 64 < cLine)
    (h : Q (.bool (decide (as = bs))) s) : wpAny (model prog w) A (compareOp .Eq (.ref U) (.ref V)) Q E s := eq_intsK (News.isList N h1) hI (News.isList N h2) hJ hu h
def SameEnd (h₀ : Heap) (L : Addr) (m : Str → Option Value) (news : Led) (as bs : List Int) (s : Shared) (fl : Flow) (s' : Shared) : Prop :=
  fl = .next ∧ ∃ t h' tk', s' = { s with heap := h', toks := tk' } ∧ Fr h₀ L h' (fun z => if z = Str.ofString "same" then some (.int (if as = bs then 1 else 0) t) else m z) ∧ News h₀ L h' news
theorem same_end {h₀ h' : Heap} {L : Addr} {m : Str → Option Value} {news all : Led} {as bs : List Int} {s : Shared} {tk' : Nat} {x : Int} {t : Tok} (F : Fr h₀ L h' (fun z => if z = Str.ofString "same" then some (.int x t) else m z)) (N : News h₀ L h' all) (hs : ∀ p ∈ news, p ∈ all) (e : x = if as = bs then 1 else 0) :
    SameEnd h₀ L m news as bs s .next { s with heap := h', toks := tk' } := by subst e; exact ⟨rfl, t, h', tk', rfl, F, cb_drop N hs⟩
theorem cut_same {M : Model} {A : Around} {E : Value → Shared → Prop} {s : Shared} {h₀ : Heap} {L : Addr} {m : Str → Option Value} {news all : Led} {env : Env} {ps : List Value} {as bs : List Int} {stmt : Stmt} {rest : List Stmt} {Q : Flow → Shared → Prop} (_hp : PairsOf news ps as bs) (_F : Fr h₀ L s.heap m) (_N : News h₀ L s.heap all) (_hs : ∀ p ∈ news, p ∈ all)
    (h1 : wpAny M A (exec stmt env) (SameEnd h₀ L m news as bs s) E s)
    (h2 : ∀ t h' tk', Fr h₀ L h' (fun z => if z = Str.ofString "same" then some (.int (if as = bs then 1 else 0) t) else m z) → News h₀ L h' news → wpAny M A (execs rest env) Q E { s with heap := h', toks := tk' }) : wpAny M A (execs (stmt :: rest) env) Q E s := by
  refine wpAny_execs_cons (wpAny_mono h1 (fun fl s' h => ?_) fun _ _ e => e)
  obtain ⟨rfl, t, h', tk', rfl, F', N'⟩ := h
  exact h2 t h' tk' F' N'
theorem lOver_T {ns : List Int} (h : Codes ns) (hne : 1 ≤ ns.length) : T3 (lOver lOr ns) := by rw [over_or h hne]; exact fOr_T ns
theorem w_item4 {prog : Program} {w : World} {A : Around} {E : Value → Shared → Prop} {s : Shared} {h₀ : Heap} {L P : Addr} {news : Led} {value slice : PySem.Expr} {v0 v1 v2 v3 : Value} {c : Nat} {x : Int} {t : Tok} {Q : Value → Shared → Prop}
    (N : News h₀ L s.heap news) (hm : (P, listOf [v0, v1, v2, v3].toArray c) ∈ news) (hx : T3 x) (h0 : x = 0 → Q v0 s) (h1 : x = 1 → Q v1 s) (h3 : x = 3 → Q v3 s)
    (hs : subscripted slice false (.ref P) (.int x t) = operate [.ref P, .int x t] (getItem (.ref P) (.int x t)) := by with_unfolding_all rfl) :
    wpAny (model prog w) A (subscriptTail value slice (.ref P) (.int x t)) Q E s := by
  have hl : s.heap.IsList P [v0, v1, v2, v3].toArray := News.isList N hm
  rcases hx with rfl | rfl | rfl
  · exact tail_any hl.typeIs slot_list_getitem.lookup (wpAny_getItem_list (x := v0) hl (by decide) (by decide) rfl (h0 rfl)) hs
  · exact tail_any hl.typeIs slot_list_getitem.lookup (wpAny_getItem_list (x := v1) hl (by decide) (by decide) rfl (h1 rfl)) hs
  · exact tail_any hl.typeIs slot_list_getitem.lookup (wpAny_getItem_list (x := v3) hl (by decide) (by decide) rfl (h3 rfl)) hs
local macro_rules | `(tactic| walk_at "compareOp Eq ref ref") => `(tactic| k_extra "m88")
theorem word88 : True := by
  k_with "m88" => ((k_here; (with_reducible show wpAny _ _ (compareOp CmpOp.Eq (Value.ref _) (Value.ref _)) _ _ _); k_dflt (refine' eq_lists ?m88N ?m88m1 ?m88m2 ?m88e ?m88u ?_; (case m88N => k_asm); (case m88m1 => first | exact List.Mem.head _ | (refine' List.Mem.tail _ ?_; (first | exact List.Mem.head _ | (refine' List.Mem.tail _ ?_; (first | exact List.Mem.head _ | (refine' List.Mem.tail _ ?_; (first | exact List.Mem.head _ | (refine' List.Mem.tail _ ?_; (first | exact List.Mem.head _ | (refine' List.Mem.tail _ ?_; (first | exact List.Mem.head _ | (refine' List.Mem.tail _ ?_; (first | exact List.Mem.head _ | (refine' List.Mem.tail _ ?_; (first | exact List.Mem.head _ | (refine' List.Mem.tail _ ?_; (first | exact List.Mem.head _ | (refine' List.Mem.tail _ ?_; (first | exact List.Mem.head _ | (refine' List.Mem.tail _ ?_; (first | exact List.Mem.head _ | (refine' List.Mem.tail _ ?_; (first | exact List.Mem.head _ | (refine' List.Mem.tail _ ?_; (first | exact List.Mem.head _ | (refine' List.Mem.tail _ ?_; (first | exact List.Mem.head _ | (refine' List.Mem.tail _ ?_; (first | exact List.Mem.head _ | (refine' List.Mem.tail _ ?_; (first | exact List.Mem.head _ | (refine' List.Mem.tail _ ?_; (first | exact List.Mem.head _ | (refine' List.Mem.tail _ ?_; (first | exact List.Mem.head _ | (refine' List.Mem.tail _ ?_; (first | exact List.Mem.head _ | (refine' List.Mem.tail _ ?_; (first | exact List.Mem.head _ | (refine' List.Mem.tail _ ?_; (first | exact List.Mem.head _ | (refine' List.Mem.tail _ ?_; (first | exact List.Mem.head _ | (refine' List.Mem.tail _ ?_; (first | exact List.Mem.head _ | (refine' List.Mem.tail _ ?_; (first | exact List.Mem.head _ | (refine' List.Mem.tail _ ?_; (first | exact List.Mem.head _ | (refine' List.Mem.tail _ ?_; (first | exact List.Mem.head _ | (refine' List.Mem.tail _ ?_; (first | exact List.Mem.head _ | assumption)) | assumption)) | assumption)) | assumption)) | assumption)) | assumption)) | assumption)) | assumption)) | assumption)) | assumption)) | assumption)) | assumption)) | assumption)) | assumption)) | assumption)) | assumption)) | assumption)) | assumption)) | assumption)) | assumption)) | assumption)) | assumption)) | assumption)) | assumption)) | assumption)) | assumption)) | assumption); (case m88m2 => first | exact List.Mem.head _ | (refine' List.Mem.tail _ ?_; (first | exact List.Mem.head _ | (refine' List.Mem.tail _ ?_; (first | exact List.Mem.head _ | (refine' List.Mem.tail _ ?_; (first | exact List.Mem.head _ | (refine' List.Mem.tail _ ?_; (first | exact List.Mem.head _ | (refine' List.Mem.tail _ ?_; (first | exact List.Mem.head _ | (refine' List.Mem.tail _ ?_; (first | exact List.Mem.head _ | (refine' List.Mem.tail _ ?_; (first | exact List.Mem.head _ | (refine' List.Mem.tail _ ?_; (first | exact List.Mem.head _ | (refine' List.Mem.tail _ ?_; (first | exact List.Mem.head _ | (refine' List.Mem.tail _ ?_; (first | exact List.Mem.head _ | (refine' List.Mem.tail _ ?_; (first | exact List.Mem.head _ | (refine' List.Mem.tail _ ?_; (first | exact List.Mem.head _ | (refine' List.Mem.tail _ ?_; (first | exact List.Mem.head _ | (refine' List.Mem.tail _ ?_; (first | exact List.Mem.head _ | (refine' List.Mem.tail _ ?_; (first | exact List.Mem.head _ | (refine' List.Mem.tail _ ?_; (first | exact List.Mem.head _ | (refine' List.Mem.tail _ ?_; (first | exact List.Mem.head _ | (refine' List.Mem.tail _ ?_; (first | exact List.Mem.head _ | (refine' List.Mem.tail _ ?_; (first | exact List.Mem.head _ | (refine' List.Mem.tail _ ?_; (first | exact List.Mem.head _ | (refine' List.Mem.tail _ ?_; (first | exact List.Mem.head _ | (refine' List.Mem.tail _ ?_; (first | exact List.Mem.head _ | (refine' List.Mem.tail _ ?_; (first | exact List.Mem.head _ | (refine' List.Mem.tail _ ?_; (first | exact List.Mem.head _ | (refine' List.Mem.tail _ ?_; (first | exact List.Mem.head _ | (refine' List.Mem.tail _ ?_; (first | exact List.Mem.head _ | assumption)) | assumption)) | assumption)) | assumption)) | assumption)) | assumption)) | assumption)) | assumption)) | assumption)) | assumption)) | assumption)) | assumption)) | assumption)) | assumption)) | assumption)) | assumption)) | assumption)) | assumption)) | assumption)) | assumption)) | assumption)) | assumption)) | assumption)) | assumption)) | assumption)) | assumption)) | assumption); (case m88e => first | rfl | (unfold lDue; simp only [*]; rfl) | (unfold lDue; simp [*])); (case m88u => ktr_units))))
  exact trivial
local macro_rules | `(tactic| walk_at "compareOp Eq ref ref") => `(tactic| k_extra "m89")
theorem word89 : True := by
  k_with "m89" => ((k_here; (with_reducible show wpAny _ _ (compareOp CmpOp.Eq (Value.ref _) (Value.ref _)) _ _ _); k_dflt (refine' eq_ints ?m89N ?m89m1 ?m89m2 ?m89I ?m89J ?m89u ?_; (case m89N => k_asm); (case m89m1 => first | exact List.Mem.head _ | (refine' List.Mem.tail _ ?_; (first | exact List.Mem.head _ | (refine' List.Mem.tail _ ?_; (first | exact List.Mem.head _ | (refine' List.Mem.tail _ ?_; (first | exact List.Mem.head _ | (refine' List.Mem.tail _ ?_; (first | exact List.Mem.head _ | (refine' List.Mem.tail _ ?_; (first | exact List.Mem.head _ | (refine' List.Mem.tail _ ?_; (first | exact List.Mem.head _ | (refine' List.Mem.tail _ ?_; (first | exact List.Mem.head _ | (refine' List.Mem.tail _ ?_; (first | exact List.Mem.head _ | (refine' List.Mem.tail _ ?_; (first | exact List.Mem.head _ | (refine' List.Mem.tail _ ?_; (first | exact List.Mem.head _ | (refine' List.Mem.tail _ ?_; (first | exact List.Mem.head _ | (refine' List.Mem.tail _ ?_; (first | exact List.Mem.head _ | (refine' List.Mem.tail _ ?_; (first | exact List.Mem.head _ | (refine' List.Mem.tail _ ?_; (first | exact List.Mem.head _ | (refine' List.Mem.tail _ ?_; (first | exact List.Mem.head _ | (refine' List.Mem.tail _ ?_; (first | exact List.Mem.head _ | (refine' List.Mem.tail _ ?_; (first | exact List.Mem.head _ | (refine' List.Mem.tail _ ?_; (first | exact List.Mem.head _ | (refine' List.Mem.tail _ ?_; (first | exact List.Mem.head _ | (refine' List.Mem.tail _ ?_; (first | exact List.Mem.head _ | (refine' List.Mem.tail _ ?_; (first | exact List.Mem.head _ | (refine' List.Mem.tail _ ?_; (first | exact List.Mem.head _ | (refine' List.Mem.tail _ ?_; (first | exact List.Mem.head _ | (refine' List.Mem.tail _ ?_; (first | exact List.Mem.head _ | (refine' List.Mem.tail _ ?_; (first | exact List.Mem.head _ | (refine' List.Mem.tail _ ?_; (first | exact List.Mem.head _ | assumption)) | assumption)) | assumption)) | assumption)) | assumption)) | assumption)) | assumption)) | assumption)) | assumption)) | assumption)) | assumption)) | assumption)) | assumption)) | assumption)) | assumption)) | assumption)) | assumption)) | assumption)) | assumption)) | assumption)) | assumption)) | assumption)) | assumption)) | assumption)) | assumption)) | assumption)) | assumption); (case m89m2 => first | exact List.Mem.head _ | (refine' List.Mem.tail _ ?_; (first | exact List.Mem.head _ | (refine' List.Mem.tail _ ?_; (first | exact List.Mem.head _ | (refine' List.Mem.tail _ ?_; (first | exact List.Mem.head _ | (refine' List.Mem.tail _ ?_; (first | exact List.Mem.head _ | (refine' List.Mem.tail _ ?_; (first | exact List.Mem.head _ | (refine' List.Mem.tail _ ?_; (first | exact List.Mem.head _ | (refine' List.Mem.tail _ ?_; (first | exact List.Mem.head _ | (refine' List.Mem.tail _ ?_; (first | exact List.Mem.head _ | (refine' List.Mem.tail _ ?_; (first | exact List.Mem.head _ | (refine' List.Mem.tail _ ?_; (first | exact List.Mem.head _ | (refine' List.Mem.tail _ ?_; (first | exact List.Mem.head _ | (refine' List.Mem.tail _ ?_; (first | exact List.Mem.head _ | (refine' List.Mem.tail _ ?_; (first | exact List.Mem.head _ | (refine' List.Mem.tail _ ?_; (first | exact List.Mem.head _ | (refine' List.Mem.tail _ ?_; (first | exact List.Mem.head _ | (refine' List.Mem.tail _ ?_; (first | exact List.Mem.head _ | (refine' List.Mem.tail _ ?_; (first | exact List.Mem.head _ | (refine' List.Mem.tail _ ?_; (first | exact List.Mem.head _ | (refine' List.Mem.tail _ ?_; (first | exact List.Mem.head _ | (refine' List.Mem.tail _ ?_; (first | exact List.Mem.head _ | (refine' List.Mem.tail _ ?_; (first | exact List.Mem.head _ | (refine' List.Mem.tail _ ?_; (first | exact List.Mem.head _ | (refine' List.Mem.tail _ ?_; (first | exact List.Mem.head _ | (refine' List.Mem.tail _ ?_; (first | exact List.Mem.head _ | (refine' List.Mem.tail _ ?_; (first | exact List.Mem.head _ | (refine' List.Mem.tail _ ?_; (first | exact List.Mem.head _ | assumption)) | assumption)) | assumption)) | assumption)) | assumption)) | assumption)) | assumption)) | assumption)) | assumption)) | assumption)) | assumption)) | assumption)) | assumption)) | assumption)) | assumption)) | assumption)) | assumption)) | assumption)) | assumption)) | assumption)) | assumption)) | assumption)) | assumption)) | assumption)) | assumption)) | assumption)) | assumption); (case m89I => with_reducible assumption); (case m89J => with_reducible assumption); (case m89u => ktr_units))))
  exact trivial
local macro_rules | `(tactic| walk_at "SameEnd") => `(tactic| k_extra "m90")
theorem word90 : True := by
  k_with "m90" => ((refine' same_end ?m90F ?m90N ?m90s ?m90e; (case m90F => k_asm); (case m90N => k_asm); (case m90s => first | exact fun _ hp => hp | exact fun _ hp => List.mem_cons_of_mem _ (hp) | exact fun _ hp => List.mem_cons_of_mem _ (List.mem_cons_of_mem _ (hp)) | exact fun _ hp => List.mem_cons_of_mem _ (List.mem_cons_of_mem _ (List.mem_cons_of_mem _ (hp))) | exact fun _ hp => List.mem_cons_of_mem _ (List.mem_cons_of_mem _ (List.mem_cons_of_mem _ (List.mem_cons_of_mem _ (hp)))) | exact fun _ hp => List.mem_cons_of_mem _ (List.mem_cons_of_mem _ (List.mem_cons_of_mem _ (List.mem_cons_of_mem _ (List.mem_cons_of_mem _ (hp))))) | exact fun _ hp => List.mem_cons_of_mem _ (List.mem_cons_of_mem _ (List.mem_cons_of_mem _ (List.mem_cons_of_mem _ (List.mem_cons_of_mem _ (List.mem_cons_of_mem _ (hp)))))) | exact fun _ hp => List.mem_cons_of_mem _ (List.mem_cons_of_mem _ (List.mem_cons_of_mem _ (List.mem_cons_of_mem _ (List.mem_cons_of_mem _ (List.mem_cons_of_mem _ (List.mem_cons_of_mem _ (hp))))))) | exact fun _ hp => List.mem_cons_of_mem _ (List.mem_cons_of_mem _ (List.mem_cons_of_mem _ (List.mem_cons_of_mem _ (List.mem_cons_of_mem _ (List.mem_cons_of_mem _ (List.mem_cons_of_mem _ (List.mem_cons_of_mem _ (hp)))))))) | exact fun _ hp => List.mem_cons_of_mem _ (List.mem_cons_of_mem _ (List.mem_cons_of_mem _ (List.mem_cons_of_mem _ (List.mem_cons_of_mem _ (List.mem_cons_of_mem _ (List.mem_cons_of_mem _ (List.mem_cons_of_mem _ (List.mem_cons_of_mem _ (hp))))))))) | exact fun _ hp => List.mem_cons_of_mem _ (List.mem_cons_of_mem _ (List.mem_cons_of_mem _ (List.mem_cons_of_mem _ (List.mem_cons_of_mem _ (List.mem_cons_of_mem _ (List.mem_cons_of_mem _ (List.mem_cons_of_mem _ (List.mem_cons_of_mem _ (List.mem_cons_of_mem _ (hp)))))))))) | exact fun _ hp => List.mem_cons_of_mem _ (List.mem_cons_of_mem _ (List.mem_cons_of_mem _ (List.mem_cons_of_mem _ (List.mem_cons_of_mem _ (List.mem_cons_of_mem _ (List.mem_cons_of_mem _ (List.mem_cons_of_mem _ (List.mem_cons_of_mem _ (List.mem_cons_of_mem _ (List.mem_cons_of_mem _ (hp))))))))))) | exact fun _ hp => List.mem_cons_of_mem _ (List.mem_cons_of_mem _ (List.mem_cons_of_mem _ (List.mem_cons_of_mem _ (List.mem_cons_of_mem _ (List.mem_cons_of_mem _ (List.mem_cons_of_mem _ (List.mem_cons_of_mem _ (List.mem_cons_of_mem _ (List.mem_cons_of_mem _ (List.mem_cons_of_mem _ (List.mem_cons_of_mem _ (hp)))))))))))) | exact fun _ hp => List.mem_cons_of_mem _ (List.mem_cons_of_mem _ (List.mem_cons_of_mem _ (List.mem_cons_of_mem _ (List.mem_cons_of_mem _ (List.mem_cons_of_mem _ (List.mem_cons_of_mem _ (List.mem_cons_of_mem _ (List.mem_cons_of_mem _ (List.mem_cons_of_mem _ (List.mem_cons_of_mem _ (List.mem_cons_of_mem _ (List.mem_cons_of_mem _ (hp))))))))))))) | exact fun _ hp => List.mem_cons_of_mem _ (List.mem_cons_of_mem _ (List.mem_cons_of_mem _ (List.mem_cons_of_mem _ (List.mem_cons_of_mem _ (List.mem_cons_of_mem _ (List.mem_cons_of_mem _ (List.mem_cons_of_mem _ (List.mem_cons_of_mem _ (List.mem_cons_of_mem _ (List.mem_cons_of_mem _ (List.mem_cons_of_mem _ (List.mem_cons_of_mem _ (List.mem_cons_of_mem _ (hp)))))))))))))) | exact fun _ hp => List.mem_cons_of_mem _ (List.mem_cons_of_mem _ (List.mem_cons_of_mem _ (List.mem_cons_of_mem _ (List.mem_cons_of_mem _ (List.mem_cons_of_mem _ (List.mem_cons_of_mem _ (List.mem_cons_of_mem _ (List.mem_cons_of_mem _ (List.mem_cons_of_mem _ (List.mem_cons_of_mem _ (List.mem_cons_of_mem _ (List.mem_cons_of_mem _ (List.mem_cons_of_mem _ (List.mem_cons_of_mem _ (hp))))))))))))))) | exact fun _ hp => List.mem_cons_of_mem _ (List.mem_cons_of_mem _ (List.mem_cons_of_mem _ (List.mem_cons_of_mem _ (List.mem_cons_of_mem _ (List.mem_cons_of_mem _ (List.mem_cons_of_mem _ (List.mem_cons_of_mem _ (List.mem_cons_of_mem _ (List.mem_cons_of_mem _ (List.mem_cons_of_mem _ (List.mem_cons_of_mem _ (List.mem_cons_of_mem _ (List.mem_cons_of_mem _ (List.mem_cons_of_mem _ (List.mem_cons_of_mem _ (hp)))))))))))))))) | exact fun _ hp => List.mem_cons_of_mem _ (List.mem_cons_of_mem _ (List.mem_cons_of_mem _ (List.mem_cons_of_mem _ (List.mem_cons_of_mem _ (List.mem_cons_of_mem _ (List.mem_cons_of_mem _ (List.mem_cons_of_mem _ (List.mem_cons_of_mem _ (List.mem_cons_of_mem _ (List.mem_cons_of_mem _ (List.mem_cons_of_mem _ (List.mem_cons_of_mem _ (List.mem_cons_of_mem _ (List.mem_cons_of_mem _ (List.mem_cons_of_mem _ (List.mem_cons_of_mem _ (hp))))))))))))))))) | exact fun _ hp => List.mem_cons_of_mem _ (List.mem_cons_of_mem _ (List.mem_cons_of_mem _ (List.mem_cons_of_mem _ (List.mem_cons_of_mem _ (List.mem_cons_of_mem _ (List.mem_cons_of_mem _ (List.mem_cons_of_mem _ (List.mem_cons_of_mem _ (List.mem_cons_of_mem _ (List.mem_cons_of_mem _ (List.mem_cons_of_mem _ (List.mem_cons_of_mem _ (List.mem_cons_of_mem _ (List.mem_cons_of_mem _ (List.mem_cons_of_mem _ (List.mem_cons_of_mem _ (List.mem_cons_of_mem _ (hp)))))))))))))))))) | exact fun _ hp => List.mem_cons_of_mem _ (List.mem_cons_of_mem _ (List.mem_cons_of_mem _ (List.mem_cons_of_mem _ (List.mem_cons_of_mem _ (List.mem_cons_of_mem _ (List.mem_cons_of_mem _ (List.mem_cons_of_mem _ (List.mem_cons_of_mem _ (List.mem_cons_of_mem _ (List.mem_cons_of_mem _ (List.mem_cons_of_mem _ (List.mem_cons_of_mem _ (List.mem_cons_of_mem _ (List.mem_cons_of_mem _ (List.mem_cons_of_mem _ (List.mem_cons_of_mem _ (List.mem_cons_of_mem _ (List.mem_cons_of_mem _ (hp))))))))))))))))))) | exact fun _ hp => List.mem_cons_of_mem _ (List.mem_cons_of_mem _ (List.mem_cons_of_mem _ (List.mem_cons_of_mem _ (List.mem_cons_of_mem _ (List.mem_cons_of_mem _ (List.mem_cons_of_mem _ (List.mem_cons_of_mem _ (List.mem_cons_of_mem _ (List.mem_cons_of_mem _ (List.mem_cons_of_mem _ (List.mem_cons_of_mem _ (List.mem_cons_of_mem _ (List.mem_cons_of_mem _ (List.mem_cons_of_mem _ (List.mem_cons_of_mem _ (List.mem_cons_of_mem _ (List.mem_cons_of_mem _ (List.mem_cons_of_mem _ (List.mem_cons_of_mem _ (hp)))))))))))))))))))) | exact fun _ hp => List.mem_cons_of_mem _ (List.mem_cons_of_mem _ (List.mem_cons_of_mem _ (List.mem_cons_of_mem _ (List.mem_cons_of_mem _ (List.mem_cons_of_mem _ (List.mem_cons_of_mem _ (List.mem_cons_of_mem _ (List.mem_cons_of_mem _ (List.mem_cons_of_mem _ (List.mem_cons_of_mem _ (List.mem_cons_of_mem _ (List.mem_cons_of_mem _ (List.mem_cons_of_mem _ (List.mem_cons_of_mem _ (List.mem_cons_of_mem _ (List.mem_cons_of_mem _ (List.mem_cons_of_mem _ (List.mem_cons_of_mem _ (List.mem_cons_of_mem _ (List.mem_cons_of_mem _ (hp))))))))))))))))))))) | exact fun _ hp => List.mem_cons_of_mem _ (List.mem_cons_of_mem _ (List.mem_cons_of_mem _ (List.mem_cons_of_mem _ (List.mem_cons_of_mem _ (List.mem_cons_of_mem _ (List.mem_cons_of_mem _ (List.mem_cons_of_mem _ (List.mem_cons_of_mem _ (List.mem_cons_of_mem _ (List.mem_cons_of_mem _ (List.mem_cons_of_mem _ (List.mem_cons_of_mem _ (List.mem_cons_of_mem _ (List.mem_cons_of_mem _ (List.mem_cons_of_mem _ (List.mem_cons_of_mem _ (List.mem_cons_of_mem _ (List.mem_cons_of_mem _ (List.mem_cons_of_mem _ (List.mem_cons_of_mem _ (List.mem_cons_of_mem _ (hp)))))))))))))))))))))) | exact fun _ hp => List.mem_cons_of_mem _ (List.mem_cons_of_mem _ (List.mem_cons_of_mem _ (List.mem_cons_of_mem _ (List.mem_cons_of_mem _ (List.mem_cons_of_mem _ (List.mem_cons_of_mem _ (List.mem_cons_of_mem _ (List.mem_cons_of_mem _ (List.mem_cons_of_mem _ (List.mem_cons_of_mem _ (List.mem_cons_of_mem _ (List.mem_cons_of_mem _ (List.mem_cons_of_mem _ (List.mem_cons_of_mem _ (List.mem_cons_of_mem _ (List.mem_cons_of_mem _ (List.mem_cons_of_mem _ (List.mem_cons_of_mem _ (List.mem_cons_of_mem _ (List.mem_cons_of_mem _ (List.mem_cons_of_mem _ (List.mem_cons_of_mem _ (hp))))))))))))))))))))))) | kcj_all); (case m90e => first | (rw [if_pos (by assumption)]) | (rw [if_neg (by assumption)]) | simp_all)))
  exact trivial
local macro_rules | `(tactic| walk_at "execs cons") => `(tactic| k_extra "m91")
theorem word91 : True := by
  k_with "m91" => ((k_here; (with_reducible show wpAny _ _ (execs (Stmt.Assign [PySem.Expr.Name (PySem.Str.ofString "same") _] _ _ :: _) _) _ _ _); k_dflt (refine' cut_same ?m91p ?m91F ?m91N ?m91s ?_ (fun t' h' tk' F' N' => ?_); (case m91p => assumption); (case m91F => k_asm); (case m91N => k_asm); (case m91s => first | exact fun _ hp => hp | exact fun _ hp => List.mem_cons_of_mem _ (hp) | exact fun _ hp => List.mem_cons_of_mem _ (List.mem_cons_of_mem _ (hp)) | exact fun _ hp => List.mem_cons_of_mem _ (List.mem_cons_of_mem _ (List.mem_cons_of_mem _ (hp))) | exact fun _ hp => List.mem_cons_of_mem _ (List.mem_cons_of_mem _ (List.mem_cons_of_mem _ (List.mem_cons_of_mem _ (hp)))) | exact fun _ hp => List.mem_cons_of_mem _ (List.mem_cons_of_mem _ (List.mem_cons_of_mem _ (List.mem_cons_of_mem _ (List.mem_cons_of_mem _ (hp))))) | exact fun _ hp => List.mem_cons_of_mem _ (List.mem_cons_of_mem _ (List.mem_cons_of_mem _ (List.mem_cons_of_mem _ (List.mem_cons_of_mem _ (List.mem_cons_of_mem _ (hp)))))) | exact fun _ hp => List.mem_cons_of_mem _ (List.mem_cons_of_mem _ (List.mem_cons_of_mem _ (List.mem_cons_of_mem _ (List.mem_cons_of_mem _ (List.mem_cons_of_mem _ (List.mem_cons_of_mem _ (hp))))))) | exact fun _ hp => List.mem_cons_of_mem _ (List.mem_cons_of_mem _ (List.mem_cons_of_mem _ (List.mem_cons_of_mem _ (List.mem_cons_of_mem _ (List.mem_cons_of_mem _ (List.mem_cons_of_mem _ (List.mem_cons_of_mem _ (hp)))))))) | exact fun _ hp => List.mem_cons_of_mem _ (List.mem_cons_of_mem _ (List.mem_cons_of_mem _ (List.mem_cons_of_mem _ (List.mem_cons_of_mem _ (List.mem_cons_of_mem _ (List.mem_cons_of_mem _ (List.mem_cons_of_mem _ (List.mem_cons_of_mem _ (hp))))))))) | exact fun _ hp => List.mem_cons_of_mem _ (List.mem_cons_of_mem _ (List.mem_cons_of_mem _ (List.mem_cons_of_mem _ (List.mem_cons_of_mem _ (List.mem_cons_of_mem _ (List.mem_cons_of_mem _ (List.mem_cons_of_mem _ (List.mem_cons_of_mem _ (List.mem_cons_of_mem _ (hp)))))))))) | exact fun _ hp => List.mem_cons_of_mem _ (List.mem_cons_of_mem _ (List.mem_cons_of_mem _ (List.mem_cons_of_mem _ (List.mem_cons_of_mem _ (List.mem_cons_of_mem _ (List.mem_cons_of_mem _ (List.mem_cons_of_mem _ (List.mem_cons_of_mem _ (List.mem_cons_of_mem _ (List.mem_cons_of_mem _ (hp))))))))))) | exact fun _ hp => List.mem_cons_of_mem _ (List.mem_cons_of_mem _ (List.mem_cons_of_mem _ (List.mem_cons_of_mem _ (List.mem_cons_of_mem _ (List.mem_cons_of_mem _ (List.mem_cons_of_mem _ (List.mem_cons_of_mem _ (List.mem_cons_of_mem _ (List.mem_cons_of_mem _ (List.mem_cons_of_mem _ (List.mem_cons_of_mem _ (hp)))))))))))) | exact fun _ hp => List.mem_cons_of_mem _ (List.mem_cons_of_mem _ (List.mem_cons_of_mem _ (List.mem_cons_of_mem _ (List.mem_cons_of_mem _ (List.mem_cons_of_mem _ (List.mem_cons_of_mem _ (List.mem_cons_of_mem _ (List.mem_cons_of_mem _ (List.mem_cons_of_mem _ (List.mem_cons_of_mem _ (List.mem_cons_of_mem _ (List.mem_cons_of_mem _ (hp))))))))))))) | exact fun _ hp => List.mem_cons_of_mem _ (List.mem_cons_of_mem _ (List.mem_cons_of_mem _ (List.mem_cons_of_mem _ (List.mem_cons_of_mem _ (List.mem_cons_of_mem _ (List.mem_cons_of_mem _ (List.mem_cons_of_mem _ (List.mem_cons_of_mem _ (List.mem_cons_of_mem _ (List.mem_cons_of_mem _ (List.mem_cons_of_mem _ (List.mem_cons_of_mem _ (List.mem_cons_of_mem _ (hp)))))))))))))) | exact fun _ hp => List.mem_cons_of_mem _ (List.mem_cons_of_mem _ (List.mem_cons_of_mem _ (List.mem_cons_of_mem _ (List.mem_cons_of_mem _ (List.mem_cons_of_mem _ (List.mem_cons_of_mem _ (List.mem_cons_of_mem _ (List.mem_cons_of_mem _ (List.mem_cons_of_mem _ (List.mem_cons_of_mem _ (List.mem_cons_of_mem _ (List.mem_cons_of_mem _ (List.mem_cons_of_mem _ (List.mem_cons_of_mem _ (hp))))))))))))))) | exact fun _ hp => List.mem_cons_of_mem _ (List.mem_cons_of_mem _ (List.mem_cons_of_mem _ (List.mem_cons_of_mem _ (List.mem_cons_of_mem _ (List.mem_cons_of_mem _ (List.mem_cons_of_mem _ (List.mem_cons_of_mem _ (List.mem_cons_of_mem _ (List.mem_cons_of_mem _ (List.mem_cons_of_mem _ (List.mem_cons_of_mem _ (List.mem_cons_of_mem _ (List.mem_cons_of_mem _ (List.mem_cons_of_mem _ (List.mem_cons_of_mem _ (hp)))))))))))))))) | exact fun _ hp => List.mem_cons_of_mem _ (List.mem_cons_of_mem _ (List.mem_cons_of_mem _ (List.mem_cons_of_mem _ (List.mem_cons_of_mem _ (List.mem_cons_of_mem _ (List.mem_cons_of_mem _ (List.mem_cons_of_mem _ (List.mem_cons_of_mem _ (List.mem_cons_of_mem _ (List.mem_cons_of_mem _ (List.mem_cons_of_mem _ (List.mem_cons_of_mem _ (List.mem_cons_of_mem _ (List.mem_cons_of_mem _ (List.mem_cons_of_mem _ (List.mem_cons_of_mem _ (hp))))))))))))))))) | exact fun _ hp => List.mem_cons_of_mem _ (List.mem_cons_of_mem _ (List.mem_cons_of_mem _ (List.mem_cons_of_mem _ (List.mem_cons_of_mem _ (List.mem_cons_of_mem _ (List.mem_cons_of_mem _ (List.mem_cons_of_mem _ (List.mem_cons_of_mem _ (List.mem_cons_of_mem _ (List.mem_cons_of_mem _ (List.mem_cons_of_mem _ (List.mem_cons_of_mem _ (List.mem_cons_of_mem _ (List.mem_cons_of_mem _ (List.mem_cons_of_mem _ (List.mem_cons_of_mem _ (List.mem_cons_of_mem _ (hp)))))))))))))))))) | exact fun _ hp => List.mem_cons_of_mem _ (List.mem_cons_of_mem _ (List.mem_cons_of_mem _ (List.mem_cons_of_mem _ (List.mem_cons_of_mem _ (List.mem_cons_of_mem _ (List.mem_cons_of_mem _ (List.mem_cons_of_mem _ (List.mem_cons_of_mem _ (List.mem_cons_of_mem _ (List.mem_cons_of_mem _ (List.mem_cons_of_mem _ (List.mem_cons_of_mem _ (List.mem_cons_of_mem _ (List.mem_cons_of_mem _ (List.mem_cons_of_mem _ (List.mem_cons_of_mem _ (List.mem_cons_of_mem _ (List.mem_cons_of_mem _ (hp))))))))))))))))))) | exact fun _ hp => List.mem_cons_of_mem _ (List.mem_cons_of_mem _ (List.mem_cons_of_mem _ (List.mem_cons_of_mem _ (List.mem_cons_of_mem _ (List.mem_cons_of_mem _ (List.mem_cons_of_mem _ (List.mem_cons_of_mem _ (List.mem_cons_of_mem _ (List.mem_cons_of_mem _ (List.mem_cons_of_mem _ (List.mem_cons_of_mem _ (List.mem_cons_of_mem _ (List.mem_cons_of_mem _ (List.mem_cons_of_mem _ (List.mem_cons_of_mem _ (List.mem_cons_of_mem _ (List.mem_cons_of_mem _ (List.mem_cons_of_mem _ (List.mem_cons_of_mem _ (hp)))))))))))))))))))) | exact fun _ hp => List.mem_cons_of_mem _ (List.mem_cons_of_mem _ (List.mem_cons_of_mem _ (List.mem_cons_of_mem _ (List.mem_cons_of_mem _ (List.mem_cons_of_mem _ (List.mem_cons_of_mem _ (List.mem_cons_of_mem _ (List.mem_cons_of_mem _ (List.mem_cons_of_mem _ (List.mem_cons_of_mem _ (List.mem_cons_of_mem _ (List.mem_cons_of_mem _ (List.mem_cons_of_mem _ (List.mem_cons_of_mem _ (List.mem_cons_of_mem _ (List.mem_cons_of_mem _ (List.mem_cons_of_mem _ (List.mem_cons_of_mem _ (List.mem_cons_of_mem _ (List.mem_cons_of_mem _ (hp))))))))))))))))))))) | exact fun _ hp => List.mem_cons_of_mem _ (List.mem_cons_of_mem _ (List.mem_cons_of_mem _ (List.mem_cons_of_mem _ (List.mem_cons_of_mem _ (List.mem_cons_of_mem _ (List.mem_cons_of_mem _ (List.mem_cons_of_mem _ (List.mem_cons_of_mem _ (List.mem_cons_of_mem _ (List.mem_cons_of_mem _ (List.mem_cons_of_mem _ (List.mem_cons_of_mem _ (List.mem_cons_of_mem _ (List.mem_cons_of_mem _ (List.mem_cons_of_mem _ (List.mem_cons_of_mem _ (List.mem_cons_of_mem _ (List.mem_cons_of_mem _ (List.mem_cons_of_mem _ (List.mem_cons_of_mem _ (List.mem_cons_of_mem _ (hp)))))))))))))))))))))) | exact fun _ hp => List.mem_cons_of_mem _ (List.mem_cons_of_mem _ (List.mem_cons_of_mem _ (List.mem_cons_of_mem _ (List.mem_cons_of_mem _ (List.mem_cons_of_mem _ (List.mem_cons_of_mem _ (List.mem_cons_of_mem _ (List.mem_cons_of_mem _ (List.mem_cons_of_mem _ (List.mem_cons_of_mem _ (List.mem_cons_of_mem _ (List.mem_cons_of_mem _ (List.mem_cons_of_mem _ (List.mem_cons_of_mem _ (List.mem_cons_of_mem _ (List.mem_cons_of_mem _ (List.mem_cons_of_mem _ (List.mem_cons_of_mem _ (List.mem_cons_of_mem _ (List.mem_cons_of_mem _ (List.mem_cons_of_mem _ (List.mem_cons_of_mem _ (hp))))))))))))))))))))))) | kcj_all))))
  exact trivial
local macro_rules | `(tactic| walk_at "subscriptTail") => `(tactic| k_extra "m92")
theorem word92 : True := by
  k_with "m92" => ((k_here; (with_reducible show wpAny _ _ (subscriptTail _ _ (Value.ref _) (Value.int _ _)) _ _ _); k_dflt (refine' w_item4 ?m92N ?m92m ?m92x (fun hw' => ?_) (fun hw' => ?_) (fun hw' => ?_) ?m92s; (case m92N => k_asm); (case m92m => first | exact List.Mem.head _ | (refine' List.Mem.tail _ ?_; (first | exact List.Mem.head _ | (refine' List.Mem.tail _ ?_; (first | exact List.Mem.head _ | (refine' List.Mem.tail _ ?_; (first | exact List.Mem.head _ | (refine' List.Mem.tail _ ?_; (first | exact List.Mem.head _ | (refine' List.Mem.tail _ ?_; (first | exact List.Mem.head _ | (refine' List.Mem.tail _ ?_; (first | exact List.Mem.head _ | (refine' List.Mem.tail _ ?_; (first | exact List.Mem.head _ | (refine' List.Mem.tail _ ?_; (first | exact List.Mem.head _ | (refine' List.Mem.tail _ ?_; (first | exact List.Mem.head _ | (refine' List.Mem.tail _ ?_; (first | exact List.Mem.head _ | (refine' List.Mem.tail _ ?_; (first | exact List.Mem.head _ | (refine' List.Mem.tail _ ?_; (first | exact List.Mem.head _ | (refine' List.Mem.tail _ ?_; (first | exact List.Mem.head _ | (refine' List.Mem.tail _ ?_; (first | exact List.Mem.head _ | (refine' List.Mem.tail _ ?_; (first | exact List.Mem.head _ | (refine' List.Mem.tail _ ?_; (first | exact List.Mem.head _ | (refine' List.Mem.tail _ ?_; (first | exact List.Mem.head _ | (refine' List.Mem.tail _ ?_; (first | exact List.Mem.head _ | (refine' List.Mem.tail _ ?_; (first | exact List.Mem.head _ | (refine' List.Mem.tail _ ?_; (first | exact List.Mem.head _ | (refine' List.Mem.tail _ ?_; (first | exact List.Mem.head _ | (refine' List.Mem.tail _ ?_; (first | exact List.Mem.head _ | (refine' List.Mem.tail _ ?_; (first | exact List.Mem.head _ | (refine' List.Mem.tail _ ?_; (first | exact List.Mem.head _ | (refine' List.Mem.tail _ ?_; (first | exact List.Mem.head _ | (refine' List.Mem.tail _ ?_; (first | exact List.Mem.head _ | assumption)) | assumption)) | assumption)) | assumption)) | assumption)) | assumption)) | assumption)) | assumption)) | assumption)) | assumption)) | assumption)) | assumption)) | assumption)) | assumption)) | assumption)) | assumption)) | assumption)) | assumption)) | assumption)) | assumption)) | assumption)) | assumption)) | assumption)) | assumption)) | assumption)) | assumption)) | assumption); (case m92x => exact lOver_T (by assumption) (by first | assumption | omega)); (case m92s => with_unfolding_all rfl))))
  exact trivial
local macro_rules | `(tactic| walk_at "call type:zip") => `(tactic| k_extra "m93")
theorem word93 : True := by
  k_with "m93" => ((k_here; (with_reducible show wpAny _ _ (call (Value.type _) [Value.ref _, Value.ref _]) _ _ _); k_dflt (refine' w_zip ?m93F ?m93N ?m93m1 ?m93m2 ?_; (case m93F => k_asm); (case m93N => k_asm); (case m93m1 => first | exact List.Mem.head _ | (refine' List.Mem.tail _ ?_; (first | exact List.Mem.head _ | (refine' List.Mem.tail _ ?_; (first | exact List.Mem.head _ | (refine' List.Mem.tail _ ?_; (first | exact List.Mem.head _ | (refine' List.Mem.tail _ ?_; (first | exact List.Mem.head _ | (refine' List.Mem.tail _ ?_; (first | exact List.Mem.head _ | (refine' List.Mem.tail _ ?_; (first | exact List.Mem.head _ | (refine' List.Mem.tail _ ?_; (first | exact List.Mem.head _ | (refine' List.Mem.tail _ ?_; (first | exact List.Mem.head _ | (refine' List.Mem.tail _ ?_; (first | exact List.Mem.head _ | (refine' List.Mem.tail _ ?_; (first | exact List.Mem.head _ | (refine' List.Mem.tail _ ?_; (first | exact List.Mem.head _ | (refine' List.Mem.tail _ ?_; (first | exact List.Mem.head _ | (refine' List.Mem.tail _ ?_; (first | exact List.Mem.head _ | (refine' List.Mem.tail _ ?_; (first | exact List.Mem.head _ | (refine' List.Mem.tail _ ?_; (first | exact List.Mem.head _ | (refine' List.Mem.tail _ ?_; (first | exact List.Mem.head _ | (refine' List.Mem.tail _ ?_; (first | exact List.Mem.head _ | (refine' List.Mem.tail _ ?_; (first | exact List.Mem.head _ | (refine' List.Mem.tail _ ?_; (first | exact List.Mem.head _ | (refine' List.Mem.tail _ ?_; (first | exact List.Mem.head _ | (refine' List.Mem.tail _ ?_; (first | exact List.Mem.head _ | (refine' List.Mem.tail _ ?_; (first | exact List.Mem.head _ | (refine' List.Mem.tail _ ?_; (first | exact List.Mem.head _ | (refine' List.Mem.tail _ ?_; (first | exact List.Mem.head _ | (refine' List.Mem.tail _ ?_; (first | exact List.Mem.head _ | (refine' List.Mem.tail _ ?_; (first | exact List.Mem.head _ | assumption)) | assumption)) | assumption)) | assumption)) | assumption)) | assumption)) | assumption)) | assumption)) | assumption)) | assumption)) | assumption)) | assumption)) | assumption)) | assumption)) | assumption)) | assumption)) | assumption)) | assumption)) | assumption)) | assumption)) | assumption)) | assumption)) | assumption)) | assumption)) | assumption)) | assumption)) | assumption); (case m93m2 => first | exact List.Mem.head _ | (refine' List.Mem.tail _ ?_; (first | exact List.Mem.head _ | (refine' List.Mem.tail _ ?_; (first | exact List.Mem.head _ | (refine' List.Mem.tail _ ?_; (first | exact List.Mem.head _ | (refine' List.Mem.tail _ ?_; (first | exact List.Mem.head _ | (refine' List.Mem.tail _ ?_; (first | exact List.Mem.head _ | (refine' List.Mem.tail _ ?_; (first | exact List.Mem.head _ | (refine' List.Mem.tail _ ?_; (first | exact List.Mem.head _ | (refine' List.Mem.tail _ ?_; (first | exact List.Mem.head _ | (refine' List.Mem.tail _ ?_; (first | exact List.Mem.head _ | (refine' List.Mem.tail _ ?_; (first | exact List.Mem.head _ | (refine' List.Mem.tail _ ?_; (first | exact List.Mem.head _ | (refine' List.Mem.tail _ ?_; (first | exact List.Mem.head _ | (refine' List.Mem.tail _ ?_; (first | exact List.Mem.head _ | (refine' List.Mem.tail _ ?_; (first | exact List.Mem.head _ | (refine' List.Mem.tail _ ?_; (first | exact List.Mem.head _ | (refine' List.Mem.tail _ ?_; (first | exact List.Mem.head _ | (refine' List.Mem.tail _ ?_; (first | exact List.Mem.head _ | (refine' List.Mem.tail _ ?_; (first | exact List.Mem.head _ | (refine' List.Mem.tail _ ?_; (first | exact List.Mem.head _ | (refine' List.Mem.tail _ ?_; (first | exact List.Mem.head _ | (refine' List.Mem.tail _ ?_; (first | exact List.Mem.head _ | (refine' List.Mem.tail _ ?_; (first | exact List.Mem.head _ | (refine' List.Mem.tail _ ?_; (first | exact List.Mem.head _ | (refine' List.Mem.tail _ ?_; (first | exact List.Mem.head _ | (refine' List.Mem.tail _ ?_; (first | exact List.Mem.head _ | (refine' List.Mem.tail _ ?_; (first | exact List.Mem.head _ | assumption)) | assumption)) | assumption)) | assumption)) | assumption)) | assumption)) | assumption)) | assumption)) | assumption)) | assumption)) | assumption)) | assumption)) | assumption)) | assumption)) | assumption)) | assumption)) | assumption)) | assumption)) | assumption)) | assumption)) | assumption)) | assumption)) | assumption)) | assumption)) | assumption)) | assumption)) | assumption)); intro z' h' hZ' F' N'; (try k_sweep)))
  exact trivial
local macro_rules | `(tactic| walk_at "call type:list") => `(tactic| k_extra "m94")
theorem word94 : True := by
  k_with "m94" => ((k_here; (with_reducible show wpAny _ _ (call (Value.type _) [Value.ref _]) _ _ _); k_dflt (refine' w_listzip ?m94hh ?m94F ?m94N ?m94Z ?m94I ?m94J ?m94n ?m94l ?_; (case m94hh => with_unfolding_all rfl); (case m94F => k_asm); (case m94N => k_asm); (case m94Z => assumption); (case m94I => assumption); (case m94J => assumption); (case m94n => omega); (case m94l => first | assumption | omega)); intro D' tups' ps' c' h' tk' F' N' hP' hlt'; (try k_sweep)))
  exact trivial
theorem src_led {h₀ : Heap} {ax : Addr} {xs : List Value} {c : Nat} {news : Led} (hm : (ax, listOf xs.toArray c) ∈ news) : LCg.SrcAt h₀ ax xs.toArray news := .inr ⟨_, hm, rfl, _, rfl⟩
theorem ce_ints {h₀ : Heap} {L : Addr} {m : Str → Option Value} {s₁ : Shared} {I : Addr} {oI : Obj} {C : Addr} {oC : Obj} {D : Addr} {oD : Obj} {S : Led → Prop} {news : Led} {r r' : Int} {t : Tok} {h' : Heap} {tk : Nat}
    (F : Fr h₀ L h' m) (N : News h₀ L h' ((I, oI) :: (C, oC) :: (D, oD) :: news)) (off : LCg.Off3 I C D news) (hS : S news) (e : r = r') : LCg.CompEnd h₀ L m s₁ I oI C oC D oD S (fun y n' => MyEl news r y n') (.int r' t) { s₁ with heap := h', toks := tk } :=
  LCg.CompEnd.intro F N news (fun _ hp => hp) off hS (my_el e)
local macro_rules | `(tactic| walk_at "CompEnd") => `(tactic| k_extra "m95")
theorem word95 : True := by
  k_with "m95" => ((k_here; k_dflt (refine' ce_tup ?m95F ?m95N ?m95hf ?m95o ?m95S ?_; (case m95F => k_asm); (case m95N => k_asm); (case m95hf => assumption); (case m95o => assumption); (case m95S => exact src_led (by first | exact List.Mem.head _ | (refine' List.Mem.tail _ ?_; (first | exact List.Mem.head _ | (refine' List.Mem.tail _ ?_; (first | exact List.Mem.head _ | (refine' List.Mem.tail _ ?_; (first | exact List.Mem.head _ | (refine' List.Mem.tail _ ?_; (first | exact List.Mem.head _ | (refine' List.Mem.tail _ ?_; (first | exact List.Mem.head _ | (refine' List.Mem.tail _ ?_; (first | exact List.Mem.head _ | (refine' List.Mem.tail _ ?_; (first | exact List.Mem.head _ | (refine' List.Mem.tail _ ?_; (first | exact List.Mem.head _ | (refine' List.Mem.tail _ ?_; (first | exact List.Mem.head _ | (refine' List.Mem.tail _ ?_; (first | exact List.Mem.head _ | (refine' List.Mem.tail _ ?_; (first | exact List.Mem.head _ | (refine' List.Mem.tail _ ?_; (first | exact List.Mem.head _ | (refine' List.Mem.tail _ ?_; (first | exact List.Mem.head _ | (refine' List.Mem.tail _ ?_; (first | exact List.Mem.head _ | (refine' List.Mem.tail _ ?_; (first | exact List.Mem.head _ | (refine' List.Mem.tail _ ?_; (first | exact List.Mem.head _ | (refine' List.Mem.tail _ ?_; (first | exact List.Mem.head _ | (refine' List.Mem.tail _ ?_; (first | exact List.Mem.head _ | (refine' List.Mem.tail _ ?_; (first | exact List.Mem.head _ | (refine' List.Mem.tail _ ?_; (first | exact List.Mem.head _ | (refine' List.Mem.tail _ ?_; (first | exact List.Mem.head _ | (refine' List.Mem.tail _ ?_; (first | exact List.Mem.head _ | (refine' List.Mem.tail _ ?_; (first | exact List.Mem.head _ | (refine' List.Mem.tail _ ?_; (first | exact List.Mem.head _ | (refine' List.Mem.tail _ ?_; (first | exact List.Mem.head _ | (refine' List.Mem.tail _ ?_; (first | exact List.Mem.head _ | assumption)) | assumption)) | assumption)) | assumption)) | assumption)) | assumption)) | assumption)) | assumption)) | assumption)) | assumption)) | assumption)) | assumption)) | assumption)) | assumption)) | assumption)) | assumption)) | assumption)) | assumption)) | assumption)) | assumption)) | assumption)) | assumption)) | assumption)) | assumption)) | assumption)) | assumption)) | assumption)))))
  exact trivial
local macro_rules | `(tactic| walk_at "CompEnd") => `(tactic| k_extra "m96")
theorem word96 : True := by
  k_with "m96" => ((refine' ce_ints ?m96F ?m96N ?m96o ?m96S ?m96e; (case m96F => k_asm); (case m96N => k_asm); (case m96o => assumption); (case m96S => first | assumption | exact src_led (by first | exact List.Mem.head _ | (refine' List.Mem.tail _ ?_; (first | exact List.Mem.head _ | (refine' List.Mem.tail _ ?_; (first | exact List.Mem.head _ | (refine' List.Mem.tail _ ?_; (first | exact List.Mem.head _ | (refine' List.Mem.tail _ ?_; (first | exact List.Mem.head _ | (refine' List.Mem.tail _ ?_; (first | exact List.Mem.head _ | (refine' List.Mem.tail _ ?_; (first | exact List.Mem.head _ | (refine' List.Mem.tail _ ?_; (first | exact List.Mem.head _ | (refine' List.Mem.tail _ ?_; (first | exact List.Mem.head _ | (refine' List.Mem.tail _ ?_; (first | exact List.Mem.head _ | (refine' List.Mem.tail _ ?_; (first | exact List.Mem.head _ | (refine' List.Mem.tail _ ?_; (first | exact List.Mem.head _ | (refine' List.Mem.tail _ ?_; (first | exact List.Mem.head _ | (refine' List.Mem.tail _ ?_; (first | exact List.Mem.head _ | (refine' List.Mem.tail _ ?_; (first | exact List.Mem.head _ | (refine' List.Mem.tail _ ?_; (first | exact List.Mem.head _ | (refine' List.Mem.tail _ ?_; (first | exact List.Mem.head _ | (refine' List.Mem.tail _ ?_; (first | exact List.Mem.head _ | (refine' List.Mem.tail _ ?_; (first | exact List.Mem.head _ | (refine' List.Mem.tail _ ?_; (first | exact List.Mem.head _ | (refine' List.Mem.tail _ ?_; (first | exact List.Mem.head _ | (refine' List.Mem.tail _ ?_; (first | exact List.Mem.head _ | (refine' List.Mem.tail _ ?_; (first | exact List.Mem.head _ | (refine' List.Mem.tail _ ?_; (first | exact List.Mem.head _ | (refine' List.Mem.tail _ ?_; (first | exact List.Mem.head _ | (refine' List.Mem.tail _ ?_; (first | exact List.Mem.head _ | (refine' List.Mem.tail _ ?_; (first | exact List.Mem.head _ | assumption)) | assumption)) | assumption)) | assumption)) | assumption)) | assumption)) | assumption)) | assumption)) | assumption)) | assumption)) | assumption)) | assumption)) | assumption)) | assumption)) | assumption)) | assumption)) | assumption)) | assumption)) | assumption)) | assumption)) | assumption)) | assumption)) | assumption)) | assumption)) | assumption)) | assumption)) | assumption)); (case m96e => first | rfl | (unfold lMix; first | rfl | (rw [if_pos (And.intro (by assumption) (by assumption))]) | (rw [if_neg (fun q => by omega)]) | simp_all))))
  exact trivial
local macro_rules | `(tactic| walk_at "SrcLP") => `(tactic| k_extra "m97")
theorem word97 : True := by
  k_with "m97" => ((k_here; (with_reducible show LCp.SrcLP _ _ _ _ _ _ _ (PySem.Expr.Call (PySem.Expr.Name (PySem.Str.ofString "_law_and") _) _ _ _) _ _ _ _ _ _ _); k_dflt (refine' LCp.SrcLP.ledger ?m97hh ?m97F ?m97N ?m97m ?m97z ?_; (case m97hh => with_unfolding_all rfl); (case m97F => k_asm); (case m97N => k_asm); (case m97m => first | exact List.Mem.head _ | (refine' List.Mem.tail _ ?_; (first | exact List.Mem.head _ | (refine' List.Mem.tail _ ?_; (first | exact List.Mem.head _ | (refine' List.Mem.tail _ ?_; (first | exact List.Mem.head _ | (refine' List.Mem.tail _ ?_; (first | exact List.Mem.head _ | (refine' List.Mem.tail _ ?_; (first | exact List.Mem.head _ | (refine' List.Mem.tail _ ?_; (first | exact List.Mem.head _ | (refine' List.Mem.tail _ ?_; (first | exact List.Mem.head _ | (refine' List.Mem.tail _ ?_; (first | exact List.Mem.head _ | (refine' List.Mem.tail _ ?_; (first | exact List.Mem.head _ | (refine' List.Mem.tail _ ?_; (first | exact List.Mem.head _ | (refine' List.Mem.tail _ ?_; (first | exact List.Mem.head _ | (refine' List.Mem.tail _ ?_; (first | exact List.Mem.head _ | (refine' List.Mem.tail _ ?_; (first | exact List.Mem.head _ | (refine' List.Mem.tail _ ?_; (first | exact List.Mem.head _ | (refine' List.Mem.tail _ ?_; (first | exact List.Mem.head _ | (refine' List.Mem.tail _ ?_; (first | exact List.Mem.head _ | (refine' List.Mem.tail _ ?_; (first | exact List.Mem.head _ | (refine' List.Mem.tail _ ?_; (first | exact List.Mem.head _ | (refine' List.Mem.tail _ ?_; (first | exact List.Mem.head _ | (refine' List.Mem.tail _ ?_; (first | exact List.Mem.head _ | (refine' List.Mem.tail _ ?_; (first | exact List.Mem.head _ | (refine' List.Mem.tail _ ?_; (first | exact List.Mem.head _ | (refine' List.Mem.tail _ ?_; (first | exact List.Mem.head _ | (refine' List.Mem.tail _ ?_; (first | exact List.Mem.head _ | (refine' List.Mem.tail _ ?_; (first | exact List.Mem.head _ | (refine' List.Mem.tail _ ?_; (first | exact List.Mem.head _ | assumption)) | assumption)) | assumption)) | assumption)) | assumption)) | assumption)) | assumption)) | assumption)) | assumption)) | assumption)) | assumption)) | assumption)) | assumption)) | assumption)) | assumption)) | assumption)) | assumption)) | assumption)) | assumption)) | assumption)) | assumption)) | assumption)) | assumption)) | assumption)) | assumption)) | assumption)) | assumption); (case m97z => exact pairs_room (by assumption) (by omega)); intro g'; (refine' lc_pairs lAnd ?m97P ?m97ka ?m97kb (fun x' y' t1' t2' I' oI' C' oC' D' m' ys' h' tk' E' rx' ry' hC' hxv' hyv' F' N' off' ne' => ?_) (fun ys' hI' => ?_); (case m97P => exact PairsOf.mono (by assumption) (by first | exact fun _ hp => hp | exact fun _ hp => List.mem_cons_of_mem _ (hp) | exact fun _ hp => List.mem_cons_of_mem _ (List.mem_cons_of_mem _ (hp)) | exact fun _ hp => List.mem_cons_of_mem _ (List.mem_cons_of_mem _ (List.mem_cons_of_mem _ (hp))) | exact fun _ hp => List.mem_cons_of_mem _ (List.mem_cons_of_mem _ (List.mem_cons_of_mem _ (List.mem_cons_of_mem _ (hp)))) | exact fun _ hp => List.mem_cons_of_mem _ (List.mem_cons_of_mem _ (List.mem_cons_of_mem _ (List.mem_cons_of_mem _ (List.mem_cons_of_mem _ (hp))))) | exact fun _ hp => List.mem_cons_of_mem _ (List.mem_cons_of_mem _ (List.mem_cons_of_mem _ (List.mem_cons_of_mem _ (List.mem_cons_of_mem _ (List.mem_cons_of_mem _ (hp)))))) | exact fun _ hp => List.mem_cons_of_mem _ (List.mem_cons_of_mem _ (List.mem_cons_of_mem _ (List.mem_cons_of_mem _ (List.mem_cons_of_mem _ (List.mem_cons_of_mem _ (List.mem_cons_of_mem _ (hp))))))) | exact fun _ hp => List.mem_cons_of_mem _ (List.mem_cons_of_mem _ (List.mem_cons_of_mem _ (List.mem_cons_of_mem _ (List.mem_cons_of_mem _ (List.mem_cons_of_mem _ (List.mem_cons_of_mem _ (List.mem_cons_of_mem _ (hp)))))))) | exact fun _ hp => List.mem_cons_of_mem _ (List.mem_cons_of_mem _ (List.mem_cons_of_mem _ (List.mem_cons_of_mem _ (List.mem_cons_of_mem _ (List.mem_cons_of_mem _ (List.mem_cons_of_mem _ (List.mem_cons_of_mem _ (List.mem_cons_of_mem _ (hp))))))))) | exact fun _ hp => List.mem_cons_of_mem _ (List.mem_cons_of_mem _ (List.mem_cons_of_mem _ (List.mem_cons_of_mem _ (List.mem_cons_of_mem _ (List.mem_cons_of_mem _ (List.mem_cons_of_mem _ (List.mem_cons_of_mem _ (List.mem_cons_of_mem _ (List.mem_cons_of_mem _ (hp)))))))))) | exact fun _ hp => List.mem_cons_of_mem _ (List.mem_cons_of_mem _ (List.mem_cons_of_mem _ (List.mem_cons_of_mem _ (List.mem_cons_of_mem _ (List.mem_cons_of_mem _ (List.mem_cons_of_mem _ (List.mem_cons_of_mem _ (List.mem_cons_of_mem _ (List.mem_cons_of_mem _ (List.mem_cons_of_mem _ (hp))))))))))) | exact fun _ hp => List.mem_cons_of_mem _ (List.mem_cons_of_mem _ (List.mem_cons_of_mem _ (List.mem_cons_of_mem _ (List.mem_cons_of_mem _ (List.mem_cons_of_mem _ (List.mem_cons_of_mem _ (List.mem_cons_of_mem _ (List.mem_cons_of_mem _ (List.mem_cons_of_mem _ (List.mem_cons_of_mem _ (List.mem_cons_of_mem _ (hp)))))))))))) | exact fun _ hp => List.mem_cons_of_mem _ (List.mem_cons_of_mem _ (List.mem_cons_of_mem _ (List.mem_cons_of_mem _ (List.mem_cons_of_mem _ (List.mem_cons_of_mem _ (List.mem_cons_of_mem _ (List.mem_cons_of_mem _ (List.mem_cons_of_mem _ (List.mem_cons_of_mem _ (List.mem_cons_of_mem _ (List.mem_cons_of_mem _ (List.mem_cons_of_mem _ (hp))))))))))))) | exact fun _ hp => List.mem_cons_of_mem _ (List.mem_cons_of_mem _ (List.mem_cons_of_mem _ (List.mem_cons_of_mem _ (List.mem_cons_of_mem _ (List.mem_cons_of_mem _ (List.mem_cons_of_mem _ (List.mem_cons_of_mem _ (List.mem_cons_of_mem _ (List.mem_cons_of_mem _ (List.mem_cons_of_mem _ (List.mem_cons_of_mem _ (List.mem_cons_of_mem _ (List.mem_cons_of_mem _ (hp)))))))))))))) | exact fun _ hp => List.mem_cons_of_mem _ (List.mem_cons_of_mem _ (List.mem_cons_of_mem _ (List.mem_cons_of_mem _ (List.mem_cons_of_mem _ (List.mem_cons_of_mem _ (List.mem_cons_of_mem _ (List.mem_cons_of_mem _ (List.mem_cons_of_mem _ (List.mem_cons_of_mem _ (List.mem_cons_of_mem _ (List.mem_cons_of_mem _ (List.mem_cons_of_mem _ (List.mem_cons_of_mem _ (List.mem_cons_of_mem _ (hp))))))))))))))) | exact fun _ hp => List.mem_cons_of_mem _ (List.mem_cons_of_mem _ (List.mem_cons_of_mem _ (List.mem_cons_of_mem _ (List.mem_cons_of_mem _ (List.mem_cons_of_mem _ (List.mem_cons_of_mem _ (List.mem_cons_of_mem _ (List.mem_cons_of_mem _ (List.mem_cons_of_mem _ (List.mem_cons_of_mem _ (List.mem_cons_of_mem _ (List.mem_cons_of_mem _ (List.mem_cons_of_mem _ (List.mem_cons_of_mem _ (List.mem_cons_of_mem _ (hp)))))))))))))))) | exact fun _ hp => List.mem_cons_of_mem _ (List.mem_cons_of_mem _ (List.mem_cons_of_mem _ (List.mem_cons_of_mem _ (List.mem_cons_of_mem _ (List.mem_cons_of_mem _ (List.mem_cons_of_mem _ (List.mem_cons_of_mem _ (List.mem_cons_of_mem _ (List.mem_cons_of_mem _ (List.mem_cons_of_mem _ (List.mem_cons_of_mem _ (List.mem_cons_of_mem _ (List.mem_cons_of_mem _ (List.mem_cons_of_mem _ (List.mem_cons_of_mem _ (List.mem_cons_of_mem _ (hp))))))))))))))))) | exact fun _ hp => List.mem_cons_of_mem _ (List.mem_cons_of_mem _ (List.mem_cons_of_mem _ (List.mem_cons_of_mem _ (List.mem_cons_of_mem _ (List.mem_cons_of_mem _ (List.mem_cons_of_mem _ (List.mem_cons_of_mem _ (List.mem_cons_of_mem _ (List.mem_cons_of_mem _ (List.mem_cons_of_mem _ (List.mem_cons_of_mem _ (List.mem_cons_of_mem _ (List.mem_cons_of_mem _ (List.mem_cons_of_mem _ (List.mem_cons_of_mem _ (List.mem_cons_of_mem _ (List.mem_cons_of_mem _ (hp)))))))))))))))))) | exact fun _ hp => List.mem_cons_of_mem _ (List.mem_cons_of_mem _ (List.mem_cons_of_mem _ (List.mem_cons_of_mem _ (List.mem_cons_of_mem _ (List.mem_cons_of_mem _ (List.mem_cons_of_mem _ (List.mem_cons_of_mem _ (List.mem_cons_of_mem _ (List.mem_cons_of_mem _ (List.mem_cons_of_mem _ (List.mem_cons_of_mem _ (List.mem_cons_of_mem _ (List.mem_cons_of_mem _ (List.mem_cons_of_mem _ (List.mem_cons_of_mem _ (List.mem_cons_of_mem _ (List.mem_cons_of_mem _ (List.mem_cons_of_mem _ (hp))))))))))))))))))) | exact fun _ hp => List.mem_cons_of_mem _ (List.mem_cons_of_mem _ (List.mem_cons_of_mem _ (List.mem_cons_of_mem _ (List.mem_cons_of_mem _ (List.mem_cons_of_mem _ (List.mem_cons_of_mem _ (List.mem_cons_of_mem _ (List.mem_cons_of_mem _ (List.mem_cons_of_mem _ (List.mem_cons_of_mem _ (List.mem_cons_of_mem _ (List.mem_cons_of_mem _ (List.mem_cons_of_mem _ (List.mem_cons_of_mem _ (List.mem_cons_of_mem _ (List.mem_cons_of_mem _ (List.mem_cons_of_mem _ (List.mem_cons_of_mem _ (List.mem_cons_of_mem _ (hp)))))))))))))))))))) | exact fun _ hp => List.mem_cons_of_mem _ (List.mem_cons_of_mem _ (List.mem_cons_of_mem _ (List.mem_cons_of_mem _ (List.mem_cons_of_mem _ (List.mem_cons_of_mem _ (List.mem_cons_of_mem _ (List.mem_cons_of_mem _ (List.mem_cons_of_mem _ (List.mem_cons_of_mem _ (List.mem_cons_of_mem _ (List.mem_cons_of_mem _ (List.mem_cons_of_mem _ (List.mem_cons_of_mem _ (List.mem_cons_of_mem _ (List.mem_cons_of_mem _ (List.mem_cons_of_mem _ (List.mem_cons_of_mem _ (List.mem_cons_of_mem _ (List.mem_cons_of_mem _ (List.mem_cons_of_mem _ (hp))))))))))))))))))))) | exact fun _ hp => List.mem_cons_of_mem _ (List.mem_cons_of_mem _ (List.mem_cons_of_mem _ (List.mem_cons_of_mem _ (List.mem_cons_of_mem _ (List.mem_cons_of_mem _ (List.mem_cons_of_mem _ (List.mem_cons_of_mem _ (List.mem_cons_of_mem _ (List.mem_cons_of_mem _ (List.mem_cons_of_mem _ (List.mem_cons_of_mem _ (List.mem_cons_of_mem _ (List.mem_cons_of_mem _ (List.mem_cons_of_mem _ (List.mem_cons_of_mem _ (List.mem_cons_of_mem _ (List.mem_cons_of_mem _ (List.mem_cons_of_mem _ (List.mem_cons_of_mem _ (List.mem_cons_of_mem _ (List.mem_cons_of_mem _ (hp)))))))))))))))))))))) | exact fun _ hp => List.mem_cons_of_mem _ (List.mem_cons_of_mem _ (List.mem_cons_of_mem _ (List.mem_cons_of_mem _ (List.mem_cons_of_mem _ (List.mem_cons_of_mem _ (List.mem_cons_of_mem _ (List.mem_cons_of_mem _ (List.mem_cons_of_mem _ (List.mem_cons_of_mem _ (List.mem_cons_of_mem _ (List.mem_cons_of_mem _ (List.mem_cons_of_mem _ (List.mem_cons_of_mem _ (List.mem_cons_of_mem _ (List.mem_cons_of_mem _ (List.mem_cons_of_mem _ (List.mem_cons_of_mem _ (List.mem_cons_of_mem _ (List.mem_cons_of_mem _ (List.mem_cons_of_mem _ (List.mem_cons_of_mem _ (List.mem_cons_of_mem _ (hp))))))))))))))))))))))) | kcj_all)); (case m97ka => assumption); (case m97kb => assumption)))))
  exact trivial
local macro_rules | `(tactic| walk_at "SrcLP") => `(tactic| k_extra "m98")
theorem word98 : True := by
  k_with "m98" => ((k_here; (with_reducible show LCp.SrcLP _ _ _ _ _ _ _ (PySem.Expr.Call (PySem.Expr.Name (PySem.Str.ofString "_law_or") _) _ _ _) _ _ _ _ _ _ _); k_dflt (refine' LCp.SrcLP.ledger ?m98hh ?m98F ?m98N ?m98m ?m98z ?_; (case m98hh => with_unfolding_all rfl); (case m98F => k_asm); (case m98N => k_asm); (case m98m => first | exact List.Mem.head _ | (refine' List.Mem.tail _ ?_; (first | exact List.Mem.head _ | (refine' List.Mem.tail _ ?_; (first | exact List.Mem.head _ | (refine' List.Mem.tail _ ?_; (first | exact List.Mem.head _ | (refine' List.Mem.tail _ ?_; (first | exact List.Mem.head _ | (refine' List.Mem.tail _ ?_; (first | exact List.Mem.head _ | (refine' List.Mem.tail _ ?_; (first | exact List.Mem.head _ | (refine' List.Mem.tail _ ?_; (first | exact List.Mem.head _ | (refine' List.Mem.tail _ ?_; (first | exact List.Mem.head _ | (refine' List.Mem.tail _ ?_; (first | exact List.Mem.head _ | (refine' List.Mem.tail _ ?_; (first | exact List.Mem.head _ | (refine' List.Mem.tail _ ?_; (first | exact List.Mem.head _ | (refine' List.Mem.tail _ ?_; (first | exact List.Mem.head _ | (refine' List.Mem.tail _ ?_; (first | exact List.Mem.head _ | (refine' List.Mem.tail _ ?_; (first | exact List.Mem.head _ | (refine' List.Mem.tail _ ?_; (first | exact List.Mem.head _ | (refine' List.Mem.tail _ ?_; (first | exact List.Mem.head _ | (refine' List.Mem.tail _ ?_; (first | exact List.Mem.head _ | (refine' List.Mem.tail _ ?_; (first | exact List.Mem.head _ | (refine' List.Mem.tail _ ?_; (first | exact List.Mem.head _ | (refine' List.Mem.tail _ ?_; (first | exact List.Mem.head _ | (refine' List.Mem.tail _ ?_; (first | exact List.Mem.head _ | (refine' List.Mem.tail _ ?_; (first | exact List.Mem.head _ | (refine' List.Mem.tail _ ?_; (first | exact List.Mem.head _ | (refine' List.Mem.tail _ ?_; (first | exact List.Mem.head _ | (refine' List.Mem.tail _ ?_; (first | exact List.Mem.head _ | (refine' List.Mem.tail _ ?_; (first | exact List.Mem.head _ | assumption)) | assumption)) | assumption)) | assumption)) | assumption)) | assumption)) | assumption)) | assumption)) | assumption)) | assumption)) | assumption)) | assumption)) | assumption)) | assumption)) | assumption)) | assumption)) | assumption)) | assumption)) | assumption)) | assumption)) | assumption)) | assumption)) | assumption)) | assumption)) | assumption)) | assumption)) | assumption); (case m98z => exact pairs_room (by assumption) (by omega)); intro g'; (refine' lc_pairs lOr ?m98P ?m98ka ?m98kb (fun x' y' t1' t2' I' oI' C' oC' D' m' ys' h' tk' E' rx' ry' hC' hxv' hyv' F' N' off' ne' => ?_) (fun ys' hI' => ?_); (case m98P => exact PairsOf.mono (by assumption) (by first | exact fun _ hp => hp | exact fun _ hp => List.mem_cons_of_mem _ (hp) | exact fun _ hp => List.mem_cons_of_mem _ (List.mem_cons_of_mem _ (hp)) | exact fun _ hp => List.mem_cons_of_mem _ (List.mem_cons_of_mem _ (List.mem_cons_of_mem _ (hp))) | exact fun _ hp => List.mem_cons_of_mem _ (List.mem_cons_of_mem _ (List.mem_cons_of_mem _ (List.mem_cons_of_mem _ (hp)))) | exact fun _ hp => List.mem_cons_of_mem _ (List.mem_cons_of_mem _ (List.mem_cons_of_mem _ (List.mem_cons_of_mem _ (List.mem_cons_of_mem _ (hp))))) | exact fun _ hp => List.mem_cons_of_mem _ (List.mem_cons_of_mem _ (List.mem_cons_of_mem _ (List.mem_cons_of_mem _ (List.mem_cons_of_mem _ (List.mem_cons_of_mem _ (hp)))))) | exact fun _ hp => List.mem_cons_of_mem _ (List.mem_cons_of_mem _ (List.mem_cons_of_mem _ (List.mem_cons_of_mem _ (List.mem_cons_of_mem _ (List.mem_cons_of_mem _ (List.mem_cons_of_mem _ (hp))))))) | exact fun _ hp => List.mem_cons_of_mem _ (List.mem_cons_of_mem _ (List.mem_cons_of_mem _ (List.mem_cons_of_mem _ (List.mem_cons_of_mem _ (List.mem_cons_of_mem _ (List.mem_cons_of_mem _ (List.mem_cons_of_mem _ (hp)))))))) | exact fun _ hp => List.mem_cons_of_mem _ (List.mem_cons_of_mem _ (List.mem_cons_of_mem _ (List.mem_cons_of_mem _ (List.mem_cons_of_mem _ (List.mem_cons_of_mem _ (List.mem_cons_of_mem _ (List.mem_cons_of_mem _ (List.mem_cons_of_mem _ (hp))))))))) | exact fun _ hp => List.mem_cons_of_mem _ (List.mem_cons_of_mem _ (List.mem_cons_of_mem _ (List.mem_cons_of_mem _ (List.mem_cons_of_mem _ (List.mem_cons_of_mem _ (List.mem_cons_of_mem _ (List.mem_cons_of_mem _ (List.mem_cons_of_mem _ (List.mem_cons_of_mem _ (hp)))))))))) | exact fun _ hp => List.mem_cons_of_mem _ (List.mem_cons_of_mem _ (List.mem_cons_of_mem _ (List.mem_cons_of_mem _ (List.mem_cons_of_mem _ (List.mem_cons_of_mem _ (List.mem_cons_of_mem _ (List.mem_cons_of_mem _ (List.mem_cons_of_mem _ (List.mem_cons_of_mem _ (List.mem_cons_of_mem _ (hp))))))))))) | exact fun _ hp => List.mem_cons_of_mem _ (List.mem_cons_of_mem _ (List.mem_cons_of_mem _ (List.mem_cons_of_mem _ (List.mem_cons_of_mem _ (List.mem_cons_of_mem _ (List.mem_cons_of_mem _ (List.mem_cons_of_mem _ (List.mem_cons_of_mem _ (List.mem_cons_of_mem _ (List.mem_cons_of_mem _ (List.mem_cons_of_mem _ (hp)))))))))))) | exact fun _ hp => List.mem_cons_of_mem _ (List.mem_cons_of_mem _ (List.mem_cons_of_mem _ (List.mem_cons_of_mem _ (List.mem_cons_of_mem _ (List.mem_cons_of_mem _ (List.mem_cons_of_mem _ (List.mem_cons_of_mem _ (List.mem_cons_of_mem _ (List.mem_cons_of_mem _ (List.mem_cons_of_mem _ (List.mem_cons_of_mem _ (List.mem_cons_of_mem _ (hp))))))))))))) | exact fun _ hp => List.mem_cons_of_mem _ (List.mem_cons_of_mem _ (List.mem_cons_of_mem _ (List.mem_cons_of_mem _ (List.mem_cons_of_mem _ (List.mem_cons_of_mem _ (List.mem_cons_of_mem _ (List.mem_cons_of_mem _ (List.mem_cons_of_mem _ (List.mem_cons_of_mem _ (List.mem_cons_of_mem _ (List.mem_cons_of_mem _ (List.mem_cons_of_mem _ (List.mem_cons_of_mem _ (hp)))))))))))))) | exact fun _ hp => List.mem_cons_of_mem _ (List.mem_cons_of_mem _ (List.mem_cons_of_mem _ (List.mem_cons_of_mem _ (List.mem_cons_of_mem _ (List.mem_cons_of_mem _ (List.mem_cons_of_mem _ (List.mem_cons_of_mem _ (List.mem_cons_of_mem _ (List.mem_cons_of_mem _ (List.mem_cons_of_mem _ (List.mem_cons_of_mem _ (List.mem_cons_of_mem _ (List.mem_cons_of_mem _ (List.mem_cons_of_mem _ (hp))))))))))))))) | exact fun _ hp => List.mem_cons_of_mem _ (List.mem_cons_of_mem _ (List.mem_cons_of_mem _ (List.mem_cons_of_mem _ (List.mem_cons_of_mem _ (List.mem_cons_of_mem _ (List.mem_cons_of_mem _ (List.mem_cons_of_mem _ (List.mem_cons_of_mem _ (List.mem_cons_of_mem _ (List.mem_cons_of_mem _ (List.mem_cons_of_mem _ (List.mem_cons_of_mem _ (List.mem_cons_of_mem _ (List.mem_cons_of_mem _ (List.mem_cons_of_mem _ (hp)))))))))))))))) | exact fun _ hp => List.mem_cons_of_mem _ (List.mem_cons_of_mem _ (List.mem_cons_of_mem _ (List.mem_cons_of_mem _ (List.mem_cons_of_mem _ (List.mem_cons_of_mem _ (List.mem_cons_of_mem _ (List.mem_cons_of_mem _ (List.mem_cons_of_mem _ (List.mem_cons_of_mem _ (List.mem_cons_of_mem _ (List.mem_cons_of_mem _ (List.mem_cons_of_mem _ (List.mem_cons_of_mem _ (List.mem_cons_of_mem _ (List.mem_cons_of_mem _ (List.mem_cons_of_mem _ (hp))))))))))))))))) | exact fun _ hp => List.mem_cons_of_mem _ (List.mem_cons_of_mem _ (List.mem_cons_of_mem _ (List.mem_cons_of_mem _ (List.mem_cons_of_mem _ (List.mem_cons_of_mem _ (List.mem_cons_of_mem _ (List.mem_cons_of_mem _ (List.mem_cons_of_mem _ (List.mem_cons_of_mem _ (List.mem_cons_of_mem _ (List.mem_cons_of_mem _ (List.mem_cons_of_mem _ (List.mem_cons_of_mem _ (List.mem_cons_of_mem _ (List.mem_cons_of_mem _ (List.mem_cons_of_mem _ (List.mem_cons_of_mem _ (hp)))))))))))))))))) | exact fun _ hp => List.mem_cons_of_mem _ (List.mem_cons_of_mem _ (List.mem_cons_of_mem _ (List.mem_cons_of_mem _ (List.mem_cons_of_mem _ (List.mem_cons_of_mem _ (List.mem_cons_of_mem _ (List.mem_cons_of_mem _ (List.mem_cons_of_mem _ (List.mem_cons_of_mem _ (List.mem_cons_of_mem _ (List.mem_cons_of_mem _ (List.mem_cons_of_mem _ (List.mem_cons_of_mem _ (List.mem_cons_of_mem _ (List.mem_cons_of_mem _ (List.mem_cons_of_mem _ (List.mem_cons_of_mem _ (List.mem_cons_of_mem _ (hp))))))))))))))))))) | exact fun _ hp => List.mem_cons_of_mem _ (List.mem_cons_of_mem _ (List.mem_cons_of_mem _ (List.mem_cons_of_mem _ (List.mem_cons_of_mem _ (List.mem_cons_of_mem _ (List.mem_cons_of_mem _ (List.mem_cons_of_mem _ (List.mem_cons_of_mem _ (List.mem_cons_of_mem _ (List.mem_cons_of_mem _ (List.mem_cons_of_mem _ (List.mem_cons_of_mem _ (List.mem_cons_of_mem _ (List.mem_cons_of_mem _ (List.mem_cons_of_mem _ (List.mem_cons_of_mem _ (List.mem_cons_of_mem _ (List.mem_cons_of_mem _ (List.mem_cons_of_mem _ (hp)))))))))))))))))))) | exact fun _ hp => List.mem_cons_of_mem _ (List.mem_cons_of_mem _ (List.mem_cons_of_mem _ (List.mem_cons_of_mem _ (List.mem_cons_of_mem _ (List.mem_cons_of_mem _ (List.mem_cons_of_mem _ (List.mem_cons_of_mem _ (List.mem_cons_of_mem _ (List.mem_cons_of_mem _ (List.mem_cons_of_mem _ (List.mem_cons_of_mem _ (List.mem_cons_of_mem _ (List.mem_cons_of_mem _ (List.mem_cons_of_mem _ (List.mem_cons_of_mem _ (List.mem_cons_of_mem _ (List.mem_cons_of_mem _ (List.mem_cons_of_mem _ (List.mem_cons_of_mem _ (List.mem_cons_of_mem _ (hp))))))))))))))))))))) | exact fun _ hp => List.mem_cons_of_mem _ (List.mem_cons_of_mem _ (List.mem_cons_of_mem _ (List.mem_cons_of_mem _ (List.mem_cons_of_mem _ (List.mem_cons_of_mem _ (List.mem_cons_of_mem _ (List.mem_cons_of_mem _ (List.mem_cons_of_mem _ (List.mem_cons_of_mem _ (List.mem_cons_of_mem _ (List.mem_cons_of_mem _ (List.mem_cons_of_mem _ (List.mem_cons_of_mem _ (List.mem_cons_of_mem _ (List.mem_cons_of_mem _ (List.mem_cons_of_mem _ (List.mem_cons_of_mem _ (List.mem_cons_of_mem _ (List.mem_cons_of_mem _ (List.mem_cons_of_mem _ (List.mem_cons_of_mem _ (hp)))))))))))))))))))))) | exact fun _ hp => List.mem_cons_of_mem _ (List.mem_cons_of_mem _ (List.mem_cons_of_mem _ (List.mem_cons_of_mem _ (List.mem_cons_of_mem _ (List.mem_cons_of_mem _ (List.mem_cons_of_mem _ (List.mem_cons_of_mem _ (List.mem_cons_of_mem _ (List.mem_cons_of_mem _ (List.mem_cons_of_mem _ (List.mem_cons_of_mem _ (List.mem_cons_of_mem _ (List.mem_cons_of_mem _ (List.mem_cons_of_mem _ (List.mem_cons_of_mem _ (List.mem_cons_of_mem _ (List.mem_cons_of_mem _ (List.mem_cons_of_mem _ (List.mem_cons_of_mem _ (List.mem_cons_of_mem _ (List.mem_cons_of_mem _ (List.mem_cons_of_mem _ (hp))))))))))))))))))))))) | kcj_all)); (case m98ka => assumption); (case m98kb => assumption)))))
  exact trivial
local macro_rules | `(tactic| walk_at "SrcLP") => `(tactic| k_extra "m99")
theorem word99 : True := by
  k_with "m99" => ((k_here; (with_reducible show LCp.SrcLP _ _ _ _ _ _ _ (PySem.Expr.Call (PySem.Expr.Name (PySem.Str.ofString "_law_xor") _) _ _ _) _ _ _ _ _ _ _); k_dflt (refine' LCp.SrcLP.ledger ?m99hh ?m99F ?m99N ?m99m ?m99z ?_; (case m99hh => with_unfolding_all rfl); (case m99F => k_asm); (case m99N => k_asm); (case m99m => first | exact List.Mem.head _ | (refine' List.Mem.tail _ ?_; (first | exact List.Mem.head _ | (refine' List.Mem.tail _ ?_; (first | exact List.Mem.head _ | (refine' List.Mem.tail _ ?_; (first | exact List.Mem.head _ | (refine' List.Mem.tail _ ?_; (first | exact List.Mem.head _ | (refine' List.Mem.tail _ ?_; (first | exact List.Mem.head _ | (refine' List.Mem.tail _ ?_; (first | exact List.Mem.head _ | (refine' List.Mem.tail _ ?_; (first | exact List.Mem.head _ | (refine' List.Mem.tail _ ?_; (first | exact List.Mem.head _ | (refine' List.Mem.tail _ ?_; (first | exact List.Mem.head _ | (refine' List.Mem.tail _ ?_; (first | exact List.Mem.head _ | (refine' List.Mem.tail _ ?_; (first | exact List.Mem.head _ | (refine' List.Mem.tail _ ?_; (first | exact List.Mem.head _ | (refine' List.Mem.tail _ ?_; (first | exact List.Mem.head _ | (refine' List.Mem.tail _ ?_; (first | exact List.Mem.head _ | (refine' List.Mem.tail _ ?_; (first | exact List.Mem.head _ | (refine' List.Mem.tail _ ?_; (first | exact List.Mem.head _ | (refine' List.Mem.tail _ ?_; (first | exact List.Mem.head _ | (refine' List.Mem.tail _ ?_; (first | exact List.Mem.head _ | (refine' List.Mem.tail _ ?_; (first | exact List.Mem.head _ | (refine' List.Mem.tail _ ?_; (first | exact List.Mem.head _ | (refine' List.Mem.tail _ ?_; (first | exact List.Mem.head _ | (refine' List.Mem.tail _ ?_; (first | exact List.Mem.head _ | (refine' List.Mem.tail _ ?_; (first | exact List.Mem.head _ | (refine' List.Mem.tail _ ?_; (first | exact List.Mem.head _ | (refine' List.Mem.tail _ ?_; (first | exact List.Mem.head _ | (refine' List.Mem.tail _ ?_; (first | exact List.Mem.head _ | assumption)) | assumption)) | assumption)) | assumption)) | assumption)) | assumption)) | assumption)) | assumption)) | assumption)) | assumption)) | assumption)) | assumption)) | assumption)) | assumption)) | assumption)) | assumption)) | assumption)) | assumption)) | assumption)) | assumption)) | assumption)) | assumption)) | assumption)) | assumption)) | assumption)) | assumption)) | assumption); (case m99z => exact pairs_room (by assumption) (by omega)); intro g'; (refine' lc_pairs lXor ?m99P ?m99ka ?m99kb (fun x' y' t1' t2' I' oI' C' oC' D' m' ys' h' tk' E' rx' ry' hC' hxv' hyv' F' N' off' ne' => ?_) (fun ys' hI' => ?_); (case m99P => exact PairsOf.mono (by assumption) (by first | exact fun _ hp => hp | exact fun _ hp => List.mem_cons_of_mem _ (hp) | exact fun _ hp => List.mem_cons_of_mem _ (List.mem_cons_of_mem _ (hp)) | exact fun _ hp => List.mem_cons_of_mem _ (List.mem_cons_of_mem _ (List.mem_cons_of_mem _ (hp))) | exact fun _ hp => List.mem_cons_of_mem _ (List.mem_cons_of_mem _ (List.mem_cons_of_mem _ (List.mem_cons_of_mem _ (hp)))) | exact fun _ hp => List.mem_cons_of_mem _ (List.mem_cons_of_mem _ (List.mem_cons_of_mem _ (List.mem_cons_of_mem _ (List.mem_cons_of_mem _ (hp))))) | exact fun _ hp => List.mem_cons_of_mem _ (List.mem_cons_of_mem _ (List.mem_cons_of_mem _ (List.mem_cons_of_mem _ (List.mem_cons_of_mem _ (List.mem_cons_of_mem _ (hp)))))) | exact fun _ hp => List.mem_cons_of_mem _ (List.mem_cons_of_mem _ (List.mem_cons_of_mem _ (List.mem_cons_of_mem _ (List.mem_cons_of_mem _ (List.mem_cons_of_mem _ (List.mem_cons_of_mem _ (hp))))))) | exact fun _ hp => List.mem_cons_of_mem _ (List.mem_cons_of_mem _ (List.mem_cons_of_mem _ (List.mem_cons_of_mem _ (List.mem_cons_of_mem _ (List.mem_cons_of_mem _ (List.mem_cons_of_mem _ (List.mem_cons_of_mem _ (hp)))))))) | exact fun _ hp => List.mem_cons_of_mem _ (List.mem_cons_of_mem _ (List.mem_cons_of_mem _ (List.mem_cons_of_mem _ (List.mem_cons_of_mem _ (List.mem_cons_of_mem _ (List.mem_cons_of_mem _ (List.mem_cons_of_mem _ (List.mem_cons_of_mem _ (hp))))))))) | exact fun _ hp => List.mem_cons_of_mem _ (List.mem_cons_of_mem _ (List.mem_cons_of_mem _ (List.mem_cons_of_mem _ (List.mem_cons_of_mem _ (List.mem_cons_of_mem _ (List.mem_cons_of_mem _ (List.mem_cons_of_mem _ (List.mem_cons_of_mem _ (List.mem_cons_of_mem _ (hp)))))))))) | exact fun _ hp => List.mem_cons_of_mem _ (List.mem_cons_of_mem _ (List.mem_cons_of_mem _ (List.mem_cons_of_mem _ (List.mem_cons_of_mem _ (List.mem_cons_of_mem _ (List.mem_cons_of_mem _ (List.mem_cons_of_mem _ (List.mem_cons_of_mem _ (List.mem_cons_of_mem _ (List.mem_cons_of_mem _ (hp))))))))))) | exact fun _ hp => List.mem_cons_of_mem _ (List.mem_cons_of_mem _ (List.mem_cons_of_mem _ (List.mem_cons_of_mem _ (List.mem_cons_of_mem _ (List.mem_cons_of_mem _ (List.mem_cons_of_mem _ (List.mem_cons_of_mem _ (List.mem_cons_of_mem _ (List.mem_cons_of_mem _ (List.mem_cons_of_mem _ (List.mem_cons_of_mem _ (hp)))))))))))) | exact fun _ hp => List.mem_cons_of_mem _ (List.mem_cons_of_mem _ (List.mem_cons_of_mem _ (List.mem_cons_of_mem _ (List.mem_cons_of_mem _ (List.mem_cons_of_mem _ (List.mem_cons_of_mem _ (List.mem_cons_of_mem _ (List.mem_cons_of_mem _ (List.mem_cons_of_mem _ (List.mem_cons_of_mem _ (List.mem_cons_of_mem _ (List.mem_cons_of_mem _ (hp))))))))))))) | exact fun _ hp => List.mem_cons_of_mem _ (List.mem_cons_of_mem _ (List.mem_cons_of_mem _ (List.mem_cons_of_mem _ (List.mem_cons_of_mem _ (List.mem_cons_of_mem _ (List.mem_cons_of_mem _ (List.mem_cons_of_mem _ (List.mem_cons_of_mem _ (List.mem_cons_of_mem _ (List.mem_cons_of_mem _ (List.mem_cons_of_mem _ (List.mem_cons_of_mem _ (List.mem_cons_of_mem _ (hp)))))))))))))) | exact fun _ hp => List.mem_cons_of_mem _ (List.mem_cons_of_mem _ (List.mem_cons_of_mem _ (List.mem_cons_of_mem _ (List.mem_cons_of_mem _ (List.mem_cons_of_mem _ (List.mem_cons_of_mem _ (List.mem_cons_of_mem _ (List.mem_cons_of_mem _ (List.mem_cons_of_mem _ (List.mem_cons_of_mem _ (List.mem_cons_of_mem _ (List.mem_cons_of_mem _ (List.mem_cons_of_mem _ (List.mem_cons_of_mem _ (hp))))))))))))))) | exact fun _ hp => List.mem_cons_of_mem _ (List.mem_cons_of_mem _ (List.mem_cons_of_mem _ (List.mem_cons_of_mem _ (List.mem_cons_of_mem _ (List.mem_cons_of_mem _ (List.mem_cons_of_mem _ (List.mem_cons_of_mem _ (List.mem_cons_of_mem _ (List.mem_cons_of_mem _ (List.mem_cons_of_mem _ (List.mem_cons_of_mem _ (List.mem_cons_of_mem _ (List.mem_cons_of_mem _ (List.mem_cons_of_mem _ (List.mem_cons_of_mem _ (hp)))))))))))))))) | exact fun _ hp => List.mem_cons_of_mem _ (List.mem_cons_of_mem _ (List.mem_cons_of_mem _ (List.mem_cons_of_mem _ (List.mem_cons_of_mem _ (List.mem_cons_of_mem _ (List.mem_cons_of_mem _ (List.mem_cons_of_mem _ (List.mem_cons_of_mem _ (List.mem_cons_of_mem _ (List.mem_cons_of_mem _ (List.mem_cons_of_mem _ (List.mem_cons_of_mem _ (List.mem_cons_of_mem _ (List.mem_cons_of_mem _ (List.mem_cons_of_mem _ (List.mem_cons_of_mem _ (hp))))))))))))))))) | exact fun _ hp => List.mem_cons_of_mem _ (List.mem_cons_of_mem _ (List.mem_cons_of_mem _ (List.mem_cons_of_mem _ (List.mem_cons_of_mem _ (List.mem_cons_of_mem _ (List.mem_cons_of_mem _ (List.mem_cons_of_mem _ (List.mem_cons_of_mem _ (List.mem_cons_of_mem _ (List.mem_cons_of_mem _ (List.mem_cons_of_mem _ (List.mem_cons_of_mem _ (List.mem_cons_of_mem _ (List.mem_cons_of_mem _ (List.mem_cons_of_mem _ (List.mem_cons_of_mem _ (List.mem_cons_of_mem _ (hp)))))))))))))))))) | exact fun _ hp => List.mem_cons_of_mem _ (List.mem_cons_of_mem _ (List.mem_cons_of_mem _ (List.mem_cons_of_mem _ (List.mem_cons_of_mem _ (List.mem_cons_of_mem _ (List.mem_cons_of_mem _ (List.mem_cons_of_mem _ (List.mem_cons_of_mem _ (List.mem_cons_of_mem _ (List.mem_cons_of_mem _ (List.mem_cons_of_mem _ (List.mem_cons_of_mem _ (List.mem_cons_of_mem _ (List.mem_cons_of_mem _ (List.mem_cons_of_mem _ (List.mem_cons_of_mem _ (List.mem_cons_of_mem _ (List.mem_cons_of_mem _ (hp))))))))))))))))))) | exact fun _ hp => List.mem_cons_of_mem _ (List.mem_cons_of_mem _ (List.mem_cons_of_mem _ (List.mem_cons_of_mem _ (List.mem_cons_of_mem _ (List.mem_cons_of_mem _ (List.mem_cons_of_mem _ (List.mem_cons_of_mem _ (List.mem_cons_of_mem _ (List.mem_cons_of_mem _ (List.mem_cons_of_mem _ (List.mem_cons_of_mem _ (List.mem_cons_of_mem _ (List.mem_cons_of_mem _ (List.mem_cons_of_mem _ (List.mem_cons_of_mem _ (List.mem_cons_of_mem _ (List.mem_cons_of_mem _ (List.mem_cons_of_mem _ (List.mem_cons_of_mem _ (hp)))))))))))))))))))) | exact fun _ hp => List.mem_cons_of_mem _ (List.mem_cons_of_mem _ (List.mem_cons_of_mem _ (List.mem_cons_of_mem _ (List.mem_cons_of_mem _ (List.mem_cons_of_mem _ (List.mem_cons_of_mem _ (List.mem_cons_of_mem _ (List.mem_cons_of_mem _ (List.mem_cons_of_mem _ (List.mem_cons_of_mem _ (List.mem_cons_of_mem _ (List.mem_cons_of_mem _ (List.mem_cons_of_mem _ (List.mem_cons_of_mem _ (List.mem_cons_of_mem _ (List.mem_cons_of_mem _ (List.mem_cons_of_mem _ (List.mem_cons_of_mem _ (List.mem_cons_of_mem _ (List.mem_cons_of_mem _ (hp))))))))))))))))))))) | exact fun _ hp => List.mem_cons_of_mem _ (List.mem_cons_of_mem _ (List.mem_cons_of_mem _ (List.mem_cons_of_mem _ (List.mem_cons_of_mem _ (List.mem_cons_of_mem _ (List.mem_cons_of_mem _ (List.mem_cons_of_mem _ (List.mem_cons_of_mem _ (List.mem_cons_of_mem _ (List.mem_cons_of_mem _ (List.mem_cons_of_mem _ (List.mem_cons_of_mem _ (List.mem_cons_of_mem _ (List.mem_cons_of_mem _ (List.mem_cons_of_mem _ (List.mem_cons_of_mem _ (List.mem_cons_of_mem _ (List.mem_cons_of_mem _ (List.mem_cons_of_mem _ (List.mem_cons_of_mem _ (List.mem_cons_of_mem _ (hp)))))))))))))))))))))) | exact fun _ hp => List.mem_cons_of_mem _ (List.mem_cons_of_mem _ (List.mem_cons_of_mem _ (List.mem_cons_of_mem _ (List.mem_cons_of_mem _ (List.mem_cons_of_mem _ (List.mem_cons_of_mem _ (List.mem_cons_of_mem _ (List.mem_cons_of_mem _ (List.mem_cons_of_mem _ (List.mem_cons_of_mem _ (List.mem_cons_of_mem _ (List.mem_cons_of_mem _ (List.mem_cons_of_mem _ (List.mem_cons_of_mem _ (List.mem_cons_of_mem _ (List.mem_cons_of_mem _ (List.mem_cons_of_mem _ (List.mem_cons_of_mem _ (List.mem_cons_of_mem _ (List.mem_cons_of_mem _ (List.mem_cons_of_mem _ (List.mem_cons_of_mem _ (hp))))))))))))))))))))))) | kcj_all)); (case m99ka => assumption); (case m99kb => assumption)))))
  exact trivial
local macro_rules | `(tactic| walk_at "SrcLP") => `(tactic| k_extra "m100")
theorem word100 : True := by
  k_with "m100" => ((k_here; (with_reducible show LCp.SrcLP _ _ _ _ _ _ _ (PySem.Expr.Call (PySem.Expr.Name (PySem.Str.ofString "_law_not") _) _ _ _) _ _ _ _ _ _ _); k_dflt (refine' LCp.SrcLP.ledger ?m100hh ?m100F ?m100N ?m100m ?m100z ?_; (case m100hh => with_unfolding_all rfl); (case m100F => k_asm); (case m100N => k_asm); (case m100m => first | exact List.Mem.head _ | (refine' List.Mem.tail _ ?_; (first | exact List.Mem.head _ | (refine' List.Mem.tail _ ?_; (first | exact List.Mem.head _ | (refine' List.Mem.tail _ ?_; (first | exact List.Mem.head _ | (refine' List.Mem.tail _ ?_; (first | exact List.Mem.head _ | (refine' List.Mem.tail _ ?_; (first | exact List.Mem.head _ | (refine' List.Mem.tail _ ?_; (first | exact List.Mem.head _ | (refine' List.Mem.tail _ ?_; (first | exact List.Mem.head _ | (refine' List.Mem.tail _ ?_; (first | exact List.Mem.head _ | (refine' List.Mem.tail _ ?_; (first | exact List.Mem.head _ | (refine' List.Mem.tail _ ?_; (first | exact List.Mem.head _ | (refine' List.Mem.tail _ ?_; (first | exact List.Mem.head _ | (refine' List.Mem.tail _ ?_; (first | exact List.Mem.head _ | (refine' List.Mem.tail _ ?_; (first | exact List.Mem.head _ | (refine' List.Mem.tail _ ?_; (first | exact List.Mem.head _ | (refine' List.Mem.tail _ ?_; (first | exact List.Mem.head _ | (refine' List.Mem.tail _ ?_; (first | exact List.Mem.head _ | (refine' List.Mem.tail _ ?_; (first | exact List.Mem.head _ | (refine' List.Mem.tail _ ?_; (first | exact List.Mem.head _ | (refine' List.Mem.tail _ ?_; (first | exact List.Mem.head _ | (refine' List.Mem.tail _ ?_; (first | exact List.Mem.head _ | (refine' List.Mem.tail _ ?_; (first | exact List.Mem.head _ | (refine' List.Mem.tail _ ?_; (first | exact List.Mem.head _ | (refine' List.Mem.tail _ ?_; (first | exact List.Mem.head _ | (refine' List.Mem.tail _ ?_; (first | exact List.Mem.head _ | (refine' List.Mem.tail _ ?_; (first | exact List.Mem.head _ | (refine' List.Mem.tail _ ?_; (first | exact List.Mem.head _ | assumption)) | assumption)) | assumption)) | assumption)) | assumption)) | assumption)) | assumption)) | assumption)) | assumption)) | assumption)) | assumption)) | assumption)) | assumption)) | assumption)) | assumption)) | assumption)) | assumption)) | assumption)) | assumption)) | assumption)) | assumption)) | assumption)) | assumption)) | assumption)) | assumption)) | assumption)) | assumption); (case m100z => exact pairs_room (by assumption) (by omega)); intro g'; (refine' lc_pairs (fun x y => lNot (lXor x y)) ?m100P ?m100ka ?m100kb (fun x' y' t1' t2' I' oI' C' oC' D' m' ys' h' tk' E' rx' ry' hC' hxv' hyv' F' N' off' ne' => ?_) (fun ys' hI' => ?_); (case m100P => exact PairsOf.mono (by assumption) (by first | exact fun _ hp => hp | exact fun _ hp => List.mem_cons_of_mem _ (hp) | exact fun _ hp => List.mem_cons_of_mem _ (List.mem_cons_of_mem _ (hp)) | exact fun _ hp => List.mem_cons_of_mem _ (List.mem_cons_of_mem _ (List.mem_cons_of_mem _ (hp))) | exact fun _ hp => List.mem_cons_of_mem _ (List.mem_cons_of_mem _ (List.mem_cons_of_mem _ (List.mem_cons_of_mem _ (hp)))) | exact fun _ hp => List.mem_cons_of_mem _ (List.mem_cons_of_mem _ (List.mem_cons_of_mem _ (List.mem_cons_of_mem _ (List.mem_cons_of_mem _ (hp))))) | exact fun _ hp => List.mem_cons_of_mem _ (List.mem_cons_of_mem _ (List.mem_cons_of_mem _ (List.mem_cons_of_mem _ (List.mem_cons_of_mem _ (List.mem_cons_of_mem _ (hp)))))) | exact fun _ hp => List.mem_cons_of_mem _ (List.mem_cons_of_mem _ (List.mem_cons_of_mem _ (List.mem_cons_of_mem _ (List.mem_cons_of_mem _ (List.mem_cons_of_mem _ (List.mem_cons_of_mem _ (hp))))))) | exact fun _ hp => List.mem_cons_of_mem _ (List.mem_cons_of_mem _ (List.mem_cons_of_mem _ (List.mem_cons_of_mem _ (List.mem_cons_of_mem _ (List.mem_cons_of_mem _ (List.mem_cons_of_mem _ (List.mem_cons_of_mem _ (hp)))))))) | exact fun _ hp => List.mem_cons_of_mem _ (List.mem_cons_of_mem _ (List.mem_cons_of_mem _ (List.mem_cons_of_mem _ (List.mem_cons_of_mem _ (List.mem_cons_of_mem _ (List.mem_cons_of_mem _ (List.mem_cons_of_mem _ (List.mem_cons_of_mem _ (hp))))))))) | exact fun _ hp => List.mem_cons_of_mem _ (List.mem_cons_of_mem _ (List.mem_cons_of_mem _ (List.mem_cons_of_mem _ (List.mem_cons_of_mem _ (List.mem_cons_of_mem _ (List.mem_cons_of_mem _ (List.mem_cons_of_mem _ (List.mem_cons_of_mem _ (List.mem_cons_of_mem _ (hp)))))))))) | exact fun _ hp => List.mem_cons_of_mem _ (List.mem_cons_of_mem _ (List.mem_cons_of_mem _ (List.mem_cons_of_mem _ (List.mem_cons_of_mem _ (List.mem_cons_of_mem _ (List.mem_cons_of_mem _ (List.mem_cons_of_mem _ (List.mem_cons_of_mem _ (List.mem_cons_of_mem _ (List.mem_cons_of_mem _ (hp))))))))))) | exact fun _ hp => List.mem_cons_of_mem _ (List.mem_cons_of_mem _ (List.mem_cons_of_mem _ (List.mem_cons_of_mem _ (List.mem_cons_of_mem _ (List.mem_cons_of_mem _ (List.mem_cons_of_mem _ (List.mem_cons_of_mem _ (List.mem_cons_of_mem _ (List.mem_cons_of_mem _ (List.mem_cons_of_mem _ (List.mem_cons_of_mem _ (hp)))))))))))) | exact fun _ hp => List.mem_cons_of_mem _ (List.mem_cons_of_mem _ (List.mem_cons_of_mem _ (List.mem_cons_of_mem _ (List.mem_cons_of_mem _ (List.mem_cons_of_mem _ (List.mem_cons_of_mem _ (List.mem_cons_of_mem _ (List.mem_cons_of_mem _ (List.mem_cons_of_mem _ (List.mem_cons_of_mem _ (List.mem_cons_of_mem _ (List.mem_cons_of_mem _ (hp))))))))))))) | exact fun _ hp => List.mem_cons_of_mem _ (List.mem_cons_of_mem _ (List.mem_cons_of_mem _ (List.mem_cons_of_mem _ (List.mem_cons_of_mem _ (List.mem_cons_of_mem _ (List.mem_cons_of_mem _ (List.mem_cons_of_mem _ (List.mem_cons_of_mem _ (List.mem_cons_of_mem _ (List.mem_cons_of_mem _ (List.mem_cons_of_mem _ (List.mem_cons_of_mem _ (List.mem_cons_of_mem _ (hp)))))))))))))) | exact fun _ hp => List.mem_cons_of_mem _ (List.mem_cons_of_mem _ (List.mem_cons_of_mem _ (List.mem_cons_of_mem _ (List.mem_cons_of_mem _ (List.mem_cons_of_mem _ (List.mem_cons_of_mem _ (List.mem_cons_of_mem _ (List.mem_cons_of_mem _ (List.mem_cons_of_mem _ (List.mem_cons_of_mem _ (List.mem_cons_of_mem _ (List.mem_cons_of_mem _ (List.mem_cons_of_mem _ (List.mem_cons_of_mem _ (hp))))))))))))))) | exact fun _ hp => List.mem_cons_of_mem _ (List.mem_cons_of_mem _ (List.mem_cons_of_mem _ (List.mem_cons_of_mem _ (List.mem_cons_of_mem _ (List.mem_cons_of_mem _ (List.mem_cons_of_mem _ (List.mem_cons_of_mem _ (List.mem_cons_of_mem _ (List.mem_cons_of_mem _ (List.mem_cons_of_mem _ (List.mem_cons_of_mem _ (List.mem_cons_of_mem _ (List.mem_cons_of_mem _ (List.mem_cons_of_mem _ (List.mem_cons_of_mem _ (hp)))))))))))))))) | exact fun _ hp => List.mem_cons_of_mem _ (List.mem_cons_of_mem _ (List.mem_cons_of_mem _ (List.mem_cons_of_mem _ (List.mem_cons_of_mem _ (List.mem_cons_of_mem _ (List.mem_cons_of_mem _ (List.mem_cons_of_mem _ (List.mem_cons_of_mem _ (List.mem_cons_of_mem _ (List.mem_cons_of_mem _ (List.mem_cons_of_mem _ (List.mem_cons_of_mem _ (List.mem_cons_of_mem _ (List.mem_cons_of_mem _ (List.mem_cons_of_mem _ (List.mem_cons_of_mem _ (hp))))))))))))))))) | exact fun _ hp => List.mem_cons_of_mem _ (List.mem_cons_of_mem _ (List.mem_cons_of_mem _ (List.mem_cons_of_mem _ (List.mem_cons_of_mem _ (List.mem_cons_of_mem _ (List.mem_cons_of_mem _ (List.mem_cons_of_mem _ (List.mem_cons_of_mem _ (List.mem_cons_of_mem _ (List.mem_cons_of_mem _ (List.mem_cons_of_mem _ (List.mem_cons_of_mem _ (List.mem_cons_of_mem _ (List.mem_cons_of_mem _ (List.mem_cons_of_mem _ (List.mem_cons_of_mem _ (List.mem_cons_of_mem _ (hp)))))))))))))))))) | exact fun _ hp => List.mem_cons_of_mem _ (List.mem_cons_of_mem _ (List.mem_cons_of_mem _ (List.mem_cons_of_mem _ (List.mem_cons_of_mem _ (List.mem_cons_of_mem _ (List.mem_cons_of_mem _ (List.mem_cons_of_mem _ (List.mem_cons_of_mem _ (List.mem_cons_of_mem _ (List.mem_cons_of_mem _ (List.mem_cons_of_mem _ (List.mem_cons_of_mem _ (List.mem_cons_of_mem _ (List.mem_cons_of_mem _ (List.mem_cons_of_mem _ (List.mem_cons_of_mem _ (List.mem_cons_of_mem _ (List.mem_cons_of_mem _ (hp))))))))))))))))))) | exact fun _ hp => List.mem_cons_of_mem _ (List.mem_cons_of_mem _ (List.mem_cons_of_mem _ (List.mem_cons_of_mem _ (List.mem_cons_of_mem _ (List.mem_cons_of_mem _ (List.mem_cons_of_mem _ (List.mem_cons_of_mem _ (List.mem_cons_of_mem _ (List.mem_cons_of_mem _ (List.mem_cons_of_mem _ (List.mem_cons_of_mem _ (List.mem_cons_of_mem _ (List.mem_cons_of_mem _ (List.mem_cons_of_mem _ (List.mem_cons_of_mem _ (List.mem_cons_of_mem _ (List.mem_cons_of_mem _ (List.mem_cons_of_mem _ (List.mem_cons_of_mem _ (hp)))))))))))))))))))) | exact fun _ hp => List.mem_cons_of_mem _ (List.mem_cons_of_mem _ (List.mem_cons_of_mem _ (List.mem_cons_of_mem _ (List.mem_cons_of_mem _ (List.mem_cons_of_mem _ (List.mem_cons_of_mem _ (List.mem_cons_of_mem _ (List.mem_cons_of_mem _ (List.mem_cons_of_mem _ (List.mem_cons_of_mem _ (List.mem_cons_of_mem _ (List.mem_cons_of_mem _ (List.mem_cons_of_mem _ (List.mem_cons_of_mem _ (List.mem_cons_of_mem _ (List.mem_cons_of_mem _ (List.mem_cons_of_mem _ (List.mem_cons_of_mem _ (List.mem_cons_of_mem _ (List.mem_cons_of_mem _ (hp))))))))))))))))))))) | exact fun _ hp => List.mem_cons_of_mem _ (List.mem_cons_of_mem _ (List.mem_cons_of_mem _ (List.mem_cons_of_mem _ (List.mem_cons_of_mem _ (List.mem_cons_of_mem _ (List.mem_cons_of_mem _ (List.mem_cons_of_mem _ (List.mem_cons_of_mem _ (List.mem_cons_of_mem _ (List.mem_cons_of_mem _ (List.mem_cons_of_mem _ (List.mem_cons_of_mem _ (List.mem_cons_of_mem _ (List.mem_cons_of_mem _ (List.mem_cons_of_mem _ (List.mem_cons_of_mem _ (List.mem_cons_of_mem _ (List.mem_cons_of_mem _ (List.mem_cons_of_mem _ (List.mem_cons_of_mem _ (List.mem_cons_of_mem _ (hp)))))))))))))))))))))) | exact fun _ hp => List.mem_cons_of_mem _ (List.mem_cons_of_mem _ (List.mem_cons_of_mem _ (List.mem_cons_of_mem _ (List.mem_cons_of_mem _ (List.mem_cons_of_mem _ (List.mem_cons_of_mem _ (List.mem_cons_of_mem _ (List.mem_cons_of_mem _ (List.mem_cons_of_mem _ (List.mem_cons_of_mem _ (List.mem_cons_of_mem _ (List.mem_cons_of_mem _ (List.mem_cons_of_mem _ (List.mem_cons_of_mem _ (List.mem_cons_of_mem _ (List.mem_cons_of_mem _ (List.mem_cons_of_mem _ (List.mem_cons_of_mem _ (List.mem_cons_of_mem _ (List.mem_cons_of_mem _ (List.mem_cons_of_mem _ (List.mem_cons_of_mem _ (hp))))))))))))))))))))))) | kcj_all)); (case m100ka => assumption); (case m100kb => assumption)))))
  exact trivial
local macro_rules | `(tactic| walk_at "SrcLP") => `(tactic| k_extra "m101")
theorem word101 : True := by
  k_with "m101" => ((k_here; (with_reducible show LCp.SrcLP _ _ _ _ _ _ _ (PySem.Expr.IfExp _ _ _ _) _ _ _ _ _ _ _); k_dflt (refine' LCp.SrcLP.ledger ?m101hh ?m101F ?m101N ?m101m ?m101z ?_; (case m101hh => with_unfolding_all rfl); (case m101F => k_asm); (case m101N => k_asm); (case m101m => first | exact List.Mem.head _ | (refine' List.Mem.tail _ ?_; (first | exact List.Mem.head _ | (refine' List.Mem.tail _ ?_; (first | exact List.Mem.head _ | (refine' List.Mem.tail _ ?_; (first | exact List.Mem.head _ | (refine' List.Mem.tail _ ?_; (first | exact List.Mem.head _ | (refine' List.Mem.tail _ ?_; (first | exact List.Mem.head _ | (refine' List.Mem.tail _ ?_; (first | exact List.Mem.head _ | (refine' List.Mem.tail _ ?_; (first | exact List.Mem.head _ | (refine' List.Mem.tail _ ?_; (first | exact List.Mem.head _ | (refine' List.Mem.tail _ ?_; (first | exact List.Mem.head _ | (refine' List.Mem.tail _ ?_; (first | exact List.Mem.head _ | (refine' List.Mem.tail _ ?_; (first | exact List.Mem.head _ | (refine' List.Mem.tail _ ?_; (first | exact List.Mem.head _ | (refine' List.Mem.tail _ ?_; (first | exact List.Mem.head _ | (refine' List.Mem.tail _ ?_; (first | exact List.Mem.head _ | (refine' List.Mem.tail _ ?_; (first | exact List.Mem.head _ | (refine' List.Mem.tail _ ?_; (first | exact List.Mem.head _ | (refine' List.Mem.tail _ ?_; (first | exact List.Mem.head _ | (refine' List.Mem.tail _ ?_; (first | exact List.Mem.head _ | (refine' List.Mem.tail _ ?_; (first | exact List.Mem.head _ | (refine' List.Mem.tail _ ?_; (first | exact List.Mem.head _ | (refine' List.Mem.tail _ ?_; (first | exact List.Mem.head _ | (refine' List.Mem.tail _ ?_; (first | exact List.Mem.head _ | (refine' List.Mem.tail _ ?_; (first | exact List.Mem.head _ | (refine' List.Mem.tail _ ?_; (first | exact List.Mem.head _ | (refine' List.Mem.tail _ ?_; (first | exact List.Mem.head _ | (refine' List.Mem.tail _ ?_; (first | exact List.Mem.head _ | assumption)) | assumption)) | assumption)) | assumption)) | assumption)) | assumption)) | assumption)) | assumption)) | assumption)) | assumption)) | assumption)) | assumption)) | assumption)) | assumption)) | assumption)) | assumption)) | assumption)) | assumption)) | assumption)) | assumption)) | assumption)) | assumption)) | assumption)) | assumption)) | assumption)) | assumption)) | assumption); (case m101z => exact pairs_room (by assumption) (by omega)); intro g'; (refine' lc_pairs lMix ?m101P ?m101ka ?m101kb (fun x' y' t1' t2' I' oI' C' oC' D' m' ys' h' tk' E' rx' ry' hC' hxv' hyv' F' N' off' ne' => ?_) (fun ys' hI' => ?_); (case m101P => exact PairsOf.mono (by assumption) (by first | exact fun _ hp => hp | exact fun _ hp => List.mem_cons_of_mem _ (hp) | exact fun _ hp => List.mem_cons_of_mem _ (List.mem_cons_of_mem _ (hp)) | exact fun _ hp => List.mem_cons_of_mem _ (List.mem_cons_of_mem _ (List.mem_cons_of_mem _ (hp))) | exact fun _ hp => List.mem_cons_of_mem _ (List.mem_cons_of_mem _ (List.mem_cons_of_mem _ (List.mem_cons_of_mem _ (hp)))) | exact fun _ hp => List.mem_cons_of_mem _ (List.mem_cons_of_mem _ (List.mem_cons_of_mem _ (List.mem_cons_of_mem _ (List.mem_cons_of_mem _ (hp))))) | exact fun _ hp => List.mem_cons_of_mem _ (List.mem_cons_of_mem _ (List.mem_cons_of_mem _ (List.mem_cons_of_mem _ (List.mem_cons_of_mem _ (List.mem_cons_of_mem _ (hp)))))) | exact fun _ hp => List.mem_cons_of_mem _ (List.mem_cons_of_mem _ (List.mem_cons_of_mem _ (List.mem_cons_of_mem _ (List.mem_cons_of_mem _ (List.mem_cons_of_mem _ (List.mem_cons_of_mem _ (hp))))))) | exact fun _ hp => List.mem_cons_of_mem _ (List.mem_cons_of_mem _ (List.mem_cons_of_mem _ (List.mem_cons_of_mem _ (List.mem_cons_of_mem _ (List.mem_cons_of_mem _ (List.mem_cons_of_mem _ (List.mem_cons_of_mem _ (hp)))))))) | exact fun _ hp => List.mem_cons_of_mem _ (List.mem_cons_of_mem _ (List.mem_cons_of_mem _ (List.mem_cons_of_mem _ (List.mem_cons_of_mem _ (List.mem_cons_of_mem _ (List.mem_cons_of_mem _ (List.mem_cons_of_mem _ (List.mem_cons_of_mem _ (hp))))))))) | exact fun _ hp => List.mem_cons_of_mem _ (List.mem_cons_of_mem _ (List.mem_cons_of_mem _ (List.mem_cons_of_mem _ (List.mem_cons_of_mem _ (List.mem_cons_of_mem _ (List.mem_cons_of_mem _ (List.mem_cons_of_mem _ (List.mem_cons_of_mem _ (List.mem_cons_of_mem _ (hp)))))))))) | exact fun _ hp => List.mem_cons_of_mem _ (List.mem_cons_of_mem _ (List.mem_cons_of_mem _ (List.mem_cons_of_mem _ (List.mem_cons_of_mem _ (List.mem_cons_of_mem _ (List.mem_cons_of_mem _ (List.mem_cons_of_mem _ (List.mem_cons_of_mem _ (List.mem_cons_of_mem _ (List.mem_cons_of_mem _ (hp))))))))))) | exact fun _ hp => List.mem_cons_of_mem _ (List.mem_cons_of_mem _ (List.mem_cons_of_mem _ (List.mem_cons_of_mem _ (List.mem_cons_of_mem _ (List.mem_cons_of_mem _ (List.mem_cons_of_mem _ (List.mem_cons_of_mem _ (List.mem_cons_of_mem _ (List.mem_cons_of_mem _ (List.mem_cons_of_mem _ (List.mem_cons_of_mem _ (hp)))))))))))) | exact fun _ hp => List.mem_cons_of_mem _ (List.mem_cons_of_mem _ (List.mem_cons_of_mem _ (List.mem_cons_of_mem _ (List.mem_cons_of_mem _ (List.mem_cons_of_mem _ (List.mem_cons_of_mem _ (List.mem_cons_of_mem _ (List.mem_cons_of_mem _ (List.mem_cons_of_mem _ (List.mem_cons_of_mem _ (List.mem_cons_of_mem _ (List.mem_cons_of_mem _ (hp))))))))))))) | exact fun _ hp => List.mem_cons_of_mem _ (List.mem_cons_of_mem _ (List.mem_cons_of_mem _ (List.mem_cons_of_mem _ (List.mem_cons_of_mem _ (List.mem_cons_of_mem _ (List.mem_cons_of_mem _ (List.mem_cons_of_mem _ (List.mem_cons_of_mem _ (List.mem_cons_of_mem _ (List.mem_cons_of_mem _ (List.mem_cons_of_mem _ (List.mem_cons_of_mem _ (List.mem_cons_of_mem _ (hp)))))))))))))) | exact fun _ hp => List.mem_cons_of_mem _ (List.mem_cons_of_mem _ (List.mem_cons_of_mem _ (List.mem_cons_of_mem _ (List.mem_cons_of_mem _ (List.mem_cons_of_mem _ (List.mem_cons_of_mem _ (List.mem_cons_of_mem _ (List.mem_cons_of_mem _ (List.mem_cons_of_mem _ (List.mem_cons_of_mem _ (List.mem_cons_of_mem _ (List.mem_cons_of_mem _ (List.mem_cons_of_mem _ (List.mem_cons_of_mem _ (hp))))))))))))))) | exact fun _ hp => List.mem_cons_of_mem _ (List.mem_cons_of_mem _ (List.mem_cons_of_mem _ (List.mem_cons_of_mem _ (List.mem_cons_of_mem _ (List.mem_cons_of_mem _ (List.mem_cons_of_mem _ (List.mem_cons_of_mem _ (List.mem_cons_of_mem _ (List.mem_cons_of_mem _ (List.mem_cons_of_mem _ (List.mem_cons_of_mem _ (List.mem_cons_of_mem _ (List.mem_cons_of_mem _ (List.mem_cons_of_mem _ (List.mem_cons_of_mem _ (hp)))))))))))))))) | exact fun _ hp => List.mem_cons_of_mem _ (List.mem_cons_of_mem _ (List.mem_cons_of_mem _ (List.mem_cons_of_mem _ (List.mem_cons_of_mem _ (List.mem_cons_of_mem _ (List.mem_cons_of_mem _ (List.mem_cons_of_mem _ (List.mem_cons_of_mem _ (List.mem_cons_of_mem _ (List.mem_cons_of_mem _ (List.mem_cons_of_mem _ (List.mem_cons_of_mem _ (List.mem_cons_of_mem _ (List.mem_cons_of_mem _ (List.mem_cons_of_mem _ (List.mem_cons_of_mem _ (hp))))))))))))))))) | exact fun _ hp => List.mem_cons_of_mem _ (List.mem_cons_of_mem _ (List.mem_cons_of_mem _ (List.mem_cons_of_mem _ (List.mem_cons_of_mem _ (List.mem_cons_of_mem _ (List.mem_cons_of_mem _ (List.mem_cons_of_mem _ (List.mem_cons_of_mem _ (List.mem_cons_of_mem _ (List.mem_cons_of_mem _ (List.mem_cons_of_mem _ (List.mem_cons_of_mem _ (List.mem_cons_of_mem _ (List.mem_cons_of_mem _ (List.mem_cons_of_mem _ (List.mem_cons_of_mem _ (List.mem_cons_of_mem _ (hp)))))))))))))))))) | exact fun _ hp => List.mem_cons_of_mem _ (List.mem_cons_of_mem _ (List.mem_cons_of_mem _ (List.mem_cons_of_mem _ (List.mem_cons_of_mem _ (List.mem_cons_of_mem _ (List.mem_cons_of_mem _ (List.mem_cons_of_mem _ (List.mem_cons_of_mem _ (List.mem_cons_of_mem _ (List.mem_cons_of_mem _ (List.mem_cons_of_mem _ (List.mem_cons_of_mem _ (List.mem_cons_of_mem _ (List.mem_cons_of_mem _ (List.mem_cons_of_mem _ (List.mem_cons_of_mem _ (List.mem_cons_of_mem _ (List.mem_cons_of_mem _ (hp))))))))))))))))))) | exact fun _ hp => List.mem_cons_of_mem _ (List.mem_cons_of_mem _ (List.mem_cons_of_mem _ (List.mem_cons_of_mem _ (List.mem_cons_of_mem _ (List.mem_cons_of_mem _ (List.mem_cons_of_mem _ (List.mem_cons_of_mem _ (List.mem_cons_of_mem _ (List.mem_cons_of_mem _ (List.mem_cons_of_mem _ (List.mem_cons_of_mem _ (List.mem_cons_of_mem _ (List.mem_cons_of_mem _ (List.mem_cons_of_mem _ (List.mem_cons_of_mem _ (List.mem_cons_of_mem _ (List.mem_cons_of_mem _ (List.mem_cons_of_mem _ (List.mem_cons_of_mem _ (hp)))))))))))))))))))) | exact fun _ hp => List.mem_cons_of_mem _ (List.mem_cons_of_mem _ (List.mem_cons_of_mem _ (List.mem_cons_of_mem _ (List.mem_cons_of_mem _ (List.mem_cons_of_mem _ (List.mem_cons_of_mem _ (List.mem_cons_of_mem _ (List.mem_cons_of_mem _ (List.mem_cons_of_mem _ (List.mem_cons_of_mem _ (List.mem_cons_of_mem _ (List.mem_cons_of_mem _ (List.mem_cons_of_mem _ (List.mem_cons_of_mem _ (List.mem_cons_of_mem _ (List.mem_cons_of_mem _ (List.mem_cons_of_mem _ (List.mem_cons_of_mem _ (List.mem_cons_of_mem _ (List.mem_cons_of_mem _ (hp))))))))))))))))))))) | exact fun _ hp => List.mem_cons_of_mem _ (List.mem_cons_of_mem _ (List.mem_cons_of_mem _ (List.mem_cons_of_mem _ (List.mem_cons_of_mem _ (List.mem_cons_of_mem _ (List.mem_cons_of_mem _ (List.mem_cons_of_mem _ (List.mem_cons_of_mem _ (List.mem_cons_of_mem _ (List.mem_cons_of_mem _ (List.mem_cons_of_mem _ (List.mem_cons_of_mem _ (List.mem_cons_of_mem _ (List.mem_cons_of_mem _ (List.mem_cons_of_mem _ (List.mem_cons_of_mem _ (List.mem_cons_of_mem _ (List.mem_cons_of_mem _ (List.mem_cons_of_mem _ (List.mem_cons_of_mem _ (List.mem_cons_of_mem _ (hp)))))))))))))))))))))) | exact fun _ hp => List.mem_cons_of_mem _ (List.mem_cons_of_mem _ (List.mem_cons_of_mem _ (List.mem_cons_of_mem _ (List.mem_cons_of_mem _ (List.mem_cons_of_mem _ (List.mem_cons_of_mem _ (List.mem_cons_of_mem _ (List.mem_cons_of_mem _ (List.mem_cons_of_mem _ (List.mem_cons_of_mem _ (List.mem_cons_of_mem _ (List.mem_cons_of_mem _ (List.mem_cons_of_mem _ (List.mem_cons_of_mem _ (List.mem_cons_of_mem _ (List.mem_cons_of_mem _ (List.mem_cons_of_mem _ (List.mem_cons_of_mem _ (List.mem_cons_of_mem _ (List.mem_cons_of_mem _ (List.mem_cons_of_mem _ (List.mem_cons_of_mem _ (hp))))))))))))))))))))))) | kcj_all)); (case m101ka => assumption); (case m101kb => assumption)))))
  exact trivial
local macro_rules | `(tactic| walk_at "eval ListComp") => `(tactic| k_extra "m102")
theorem word102 : True := by
  k_with "m102" => ((k_here; (with_reducible show wpAny _ _ (eval (PySem.Expr.ListComp _ [PySem.Comprehension.mk (PySem.Expr.Tuple _ _ _) _ _ _] _ _) _) _ _ _); k_dflt (refine LCp.ListComp_P (F₀ := by k_asm) (by with_unfolding_all rfl) (by decide) (by rfl) (by decide) (by rfl) (by rfl) (by decide) ?_)))
  exact trivial
local macro_rules | `(tactic| walk_at "eval ListComp") => `(tactic| k_extra "m103")
theorem word103 : True := by
  k_with "m103" => ((k_here; (with_reducible show wpAny _ _ (eval (PySem.Expr.ListComp (PySem.Expr.Call (PySem.Expr.Name (PySem.Str.ofString "_law_not") _) _ _ _) [PySem.Comprehension.mk (PySem.Expr.Name _ _) _ _ _] _ _) _) _ _ _); k_dflt (refine LCg.ListComp_U (F₀ := by k_asm) (by with_unfolding_all rfl) (by decide) (by rfl) (by decide) (by rfl) ?_)))
  exact trivial
local macro_rules | `(tactic| walk_at "CompSrc") => `(tactic| k_extra "m104")
theorem word104 : True := by
  k_with "m104" => ((k_here; k_dflt (refine' LCg.CompSrc.ledger ?m104hh ?m104F ?m104N ?m104m ?m104z ?_; (case m104hh => with_unfolding_all rfl); (case m104F => k_asm); (case m104N => k_asm); (case m104m => first | exact List.Mem.head _ | (refine' List.Mem.tail _ ?_; (first | exact List.Mem.head _ | (refine' List.Mem.tail _ ?_; (first | exact List.Mem.head _ | (refine' List.Mem.tail _ ?_; (first | exact List.Mem.head _ | (refine' List.Mem.tail _ ?_; (first | exact List.Mem.head _ | (refine' List.Mem.tail _ ?_; (first | exact List.Mem.head _ | (refine' List.Mem.tail _ ?_; (first | exact List.Mem.head _ | (refine' List.Mem.tail _ ?_; (first | exact List.Mem.head _ | (refine' List.Mem.tail _ ?_; (first | exact List.Mem.head _ | (refine' List.Mem.tail _ ?_; (first | exact List.Mem.head _ | (refine' List.Mem.tail _ ?_; (first | exact List.Mem.head _ | (refine' List.Mem.tail _ ?_; (first | exact List.Mem.head _ | (refine' List.Mem.tail _ ?_; (first | exact List.Mem.head _ | (refine' List.Mem.tail _ ?_; (first | exact List.Mem.head _ | (refine' List.Mem.tail _ ?_; (first | exact List.Mem.head _ | (refine' List.Mem.tail _ ?_; (first | exact List.Mem.head _ | (refine' List.Mem.tail _ ?_; (first | exact List.Mem.head _ | (refine' List.Mem.tail _ ?_; (first | exact List.Mem.head _ | (refine' List.Mem.tail _ ?_; (first | exact List.Mem.head _ | (refine' List.Mem.tail _ ?_; (first | exact List.Mem.head _ | (refine' List.Mem.tail _ ?_; (first | exact List.Mem.head _ | (refine' List.Mem.tail _ ?_; (first | exact List.Mem.head _ | (refine' List.Mem.tail _ ?_; (first | exact List.Mem.head _ | (refine' List.Mem.tail _ ?_; (first | exact List.Mem.head _ | (refine' List.Mem.tail _ ?_; (first | exact List.Mem.head _ | (refine' List.Mem.tail _ ?_; (first | exact List.Mem.head _ | (refine' List.Mem.tail _ ?_; (first | exact List.Mem.head _ | assumption)) | assumption)) | assumption)) | assumption)) | assumption)) | assumption)) | assumption)) | assumption)) | assumption)) | assumption)) | assumption)) | assumption)) | assumption)) | assumption)) | assumption)) | assumption)) | assumption)) | assumption)) | assumption)) | assumption)) | assumption)) | assumption)) | assumption)) | assumption)) | assumption)) | assumption)) | assumption); (case m104z => exact ints_room (by assumption) (by omega)); intro g'; (refine' lc_ints lNot ?m104P ?m104ka (fun k' t' I' oI' C' oC' D' m' ys' h' tk' E' rk' hC' hx' F' N' off' ne' => ?_) (fun ys' hI' => ?_); (case m104P => assumption); (case m104ka => assumption)))))
  exact trivial
local macro_rules | `(tactic| walk_at "TwoEnd") => `(tactic| k_extra "m105")
theorem word105 : True := by
  k_with "m105" => ((refine' two_end ?m105F ?m105N ?m105s ?m105I ?m105l ?m105c ?m105J ?m105n ?m105d; (case m105F => k_asm); (case m105N => k_asm); (case m105s => first | exact fun _ hp => hp | exact fun _ hp => List.mem_cons_of_mem _ (hp) | exact fun _ hp => List.mem_cons_of_mem _ (List.mem_cons_of_mem _ (hp)) | exact fun _ hp => List.mem_cons_of_mem _ (List.mem_cons_of_mem _ (List.mem_cons_of_mem _ (hp))) | exact fun _ hp => List.mem_cons_of_mem _ (List.mem_cons_of_mem _ (List.mem_cons_of_mem _ (List.mem_cons_of_mem _ (hp)))) | exact fun _ hp => List.mem_cons_of_mem _ (List.mem_cons_of_mem _ (List.mem_cons_of_mem _ (List.mem_cons_of_mem _ (List.mem_cons_of_mem _ (hp))))) | exact fun _ hp => List.mem_cons_of_mem _ (List.mem_cons_of_mem _ (List.mem_cons_of_mem _ (List.mem_cons_of_mem _ (List.mem_cons_of_mem _ (List.mem_cons_of_mem _ (hp)))))) | exact fun _ hp => List.mem_cons_of_mem _ (List.mem_cons_of_mem _ (List.mem_cons_of_mem _ (List.mem_cons_of_mem _ (List.mem_cons_of_mem _ (List.mem_cons_of_mem _ (List.mem_cons_of_mem _ (hp))))))) | exact fun _ hp => List.mem_cons_of_mem _ (List.mem_cons_of_mem _ (List.mem_cons_of_mem _ (List.mem_cons_of_mem _ (List.mem_cons_of_mem _ (List.mem_cons_of_mem _ (List.mem_cons_of_mem _ (List.mem_cons_of_mem _ (hp)))))))) | exact fun _ hp => List.mem_cons_of_mem _ (List.mem_cons_of_mem _ (List.mem_cons_of_mem _ (List.mem_cons_of_mem _ (List.mem_cons_of_mem _ (List.mem_cons_of_mem _ (List.mem_cons_of_mem _ (List.mem_cons_of_mem _ (List.mem_cons_of_mem _ (hp))))))))) | exact fun _ hp => List.mem_cons_of_mem _ (List.mem_cons_of_mem _ (List.mem_cons_of_mem _ (List.mem_cons_of_mem _ (List.mem_cons_of_mem _ (List.mem_cons_of_mem _ (List.mem_cons_of_mem _ (List.mem_cons_of_mem _ (List.mem_cons_of_mem _ (List.mem_cons_of_mem _ (hp)))))))))) | exact fun _ hp => List.mem_cons_of_mem _ (List.mem_cons_of_mem _ (List.mem_cons_of_mem _ (List.mem_cons_of_mem _ (List.mem_cons_of_mem _ (List.mem_cons_of_mem _ (List.mem_cons_of_mem _ (List.mem_cons_of_mem _ (List.mem_cons_of_mem _ (List.mem_cons_of_mem _ (List.mem_cons_of_mem _ (hp))))))))))) | exact fun _ hp => List.mem_cons_of_mem _ (List.mem_cons_of_mem _ (List.mem_cons_of_mem _ (List.mem_cons_of_mem _ (List.mem_cons_of_mem _ (List.mem_cons_of_mem _ (List.mem_cons_of_mem _ (List.mem_cons_of_mem _ (List.mem_cons_of_mem _ (List.mem_cons_of_mem _ (List.mem_cons_of_mem _ (List.mem_cons_of_mem _ (hp)))))))))))) | exact fun _ hp => List.mem_cons_of_mem _ (List.mem_cons_of_mem _ (List.mem_cons_of_mem _ (List.mem_cons_of_mem _ (List.mem_cons_of_mem _ (List.mem_cons_of_mem _ (List.mem_cons_of_mem _ (List.mem_cons_of_mem _ (List.mem_cons_of_mem _ (List.mem_cons_of_mem _ (List.mem_cons_of_mem _ (List.mem_cons_of_mem _ (List.mem_cons_of_mem _ (hp))))))))))))) | exact fun _ hp => List.mem_cons_of_mem _ (List.mem_cons_of_mem _ (List.mem_cons_of_mem _ (List.mem_cons_of_mem _ (List.mem_cons_of_mem _ (List.mem_cons_of_mem _ (List.mem_cons_of_mem _ (List.mem_cons_of_mem _ (List.mem_cons_of_mem _ (List.mem_cons_of_mem _ (List.mem_cons_of_mem _ (List.mem_cons_of_mem _ (List.mem_cons_of_mem _ (List.mem_cons_of_mem _ (hp)))))))))))))) | exact fun _ hp => List.mem_cons_of_mem _ (List.mem_cons_of_mem _ (List.mem_cons_of_mem _ (List.mem_cons_of_mem _ (List.mem_cons_of_mem _ (List.mem_cons_of_mem _ (List.mem_cons_of_mem _ (List.mem_cons_of_mem _ (List.mem_cons_of_mem _ (List.mem_cons_of_mem _ (List.mem_cons_of_mem _ (List.mem_cons_of_mem _ (List.mem_cons_of_mem _ (List.mem_cons_of_mem _ (List.mem_cons_of_mem _ (hp))))))))))))))) | exact fun _ hp => List.mem_cons_of_mem _ (List.mem_cons_of_mem _ (List.mem_cons_of_mem _ (List.mem_cons_of_mem _ (List.mem_cons_of_mem _ (List.mem_cons_of_mem _ (List.mem_cons_of_mem _ (List.mem_cons_of_mem _ (List.mem_cons_of_mem _ (List.mem_cons_of_mem _ (List.mem_cons_of_mem _ (List.mem_cons_of_mem _ (List.mem_cons_of_mem _ (List.mem_cons_of_mem _ (List.mem_cons_of_mem _ (List.mem_cons_of_mem _ (hp)))))))))))))))) | exact fun _ hp => List.mem_cons_of_mem _ (List.mem_cons_of_mem _ (List.mem_cons_of_mem _ (List.mem_cons_of_mem _ (List.mem_cons_of_mem _ (List.mem_cons_of_mem _ (List.mem_cons_of_mem _ (List.mem_cons_of_mem _ (List.mem_cons_of_mem _ (List.mem_cons_of_mem _ (List.mem_cons_of_mem _ (List.mem_cons_of_mem _ (List.mem_cons_of_mem _ (List.mem_cons_of_mem _ (List.mem_cons_of_mem _ (List.mem_cons_of_mem _ (List.mem_cons_of_mem _ (hp))))))))))))))))) | exact fun _ hp => List.mem_cons_of_mem _ (List.mem_cons_of_mem _ (List.mem_cons_of_mem _ (List.mem_cons_of_mem _ (List.mem_cons_of_mem _ (List.mem_cons_of_mem _ (List.mem_cons_of_mem _ (List.mem_cons_of_mem _ (List.mem_cons_of_mem _ (List.mem_cons_of_mem _ (List.mem_cons_of_mem _ (List.mem_cons_of_mem _ (List.mem_cons_of_mem _ (List.mem_cons_of_mem _ (List.mem_cons_of_mem _ (List.mem_cons_of_mem _ (List.mem_cons_of_mem _ (List.mem_cons_of_mem _ (hp)))))))))))))))))) | exact fun _ hp => List.mem_cons_of_mem _ (List.mem_cons_of_mem _ (List.mem_cons_of_mem _ (List.mem_cons_of_mem _ (List.mem_cons_of_mem _ (List.mem_cons_of_mem _ (List.mem_cons_of_mem _ (List.mem_cons_of_mem _ (List.mem_cons_of_mem _ (List.mem_cons_of_mem _ (List.mem_cons_of_mem _ (List.mem_cons_of_mem _ (List.mem_cons_of_mem _ (List.mem_cons_of_mem _ (List.mem_cons_of_mem _ (List.mem_cons_of_mem _ (List.mem_cons_of_mem _ (List.mem_cons_of_mem _ (List.mem_cons_of_mem _ (hp))))))))))))))))))) | exact fun _ hp => List.mem_cons_of_mem _ (List.mem_cons_of_mem _ (List.mem_cons_of_mem _ (List.mem_cons_of_mem _ (List.mem_cons_of_mem _ (List.mem_cons_of_mem _ (List.mem_cons_of_mem _ (List.mem_cons_of_mem _ (List.mem_cons_of_mem _ (List.mem_cons_of_mem _ (List.mem_cons_of_mem _ (List.mem_cons_of_mem _ (List.mem_cons_of_mem _ (List.mem_cons_of_mem _ (List.mem_cons_of_mem _ (List.mem_cons_of_mem _ (List.mem_cons_of_mem _ (List.mem_cons_of_mem _ (List.mem_cons_of_mem _ (List.mem_cons_of_mem _ (hp)))))))))))))))))))) | exact fun _ hp => List.mem_cons_of_mem _ (List.mem_cons_of_mem _ (List.mem_cons_of_mem _ (List.mem_cons_of_mem _ (List.mem_cons_of_mem _ (List.mem_cons_of_mem _ (List.mem_cons_of_mem _ (List.mem_cons_of_mem _ (List.mem_cons_of_mem _ (List.mem_cons_of_mem _ (List.mem_cons_of_mem _ (List.mem_cons_of_mem _ (List.mem_cons_of_mem _ (List.mem_cons_of_mem _ (List.mem_cons_of_mem _ (List.mem_cons_of_mem _ (List.mem_cons_of_mem _ (List.mem_cons_of_mem _ (List.mem_cons_of_mem _ (List.mem_cons_of_mem _ (List.mem_cons_of_mem _ (hp))))))))))))))))))))) | exact fun _ hp => List.mem_cons_of_mem _ (List.mem_cons_of_mem _ (List.mem_cons_of_mem _ (List.mem_cons_of_mem _ (List.mem_cons_of_mem _ (List.mem_cons_of_mem _ (List.mem_cons_of_mem _ (List.mem_cons_of_mem _ (List.mem_cons_of_mem _ (List.mem_cons_of_mem _ (List.mem_cons_of_mem _ (List.mem_cons_of_mem _ (List.mem_cons_of_mem _ (List.mem_cons_of_mem _ (List.mem_cons_of_mem _ (List.mem_cons_of_mem _ (List.mem_cons_of_mem _ (List.mem_cons_of_mem _ (List.mem_cons_of_mem _ (List.mem_cons_of_mem _ (List.mem_cons_of_mem _ (List.mem_cons_of_mem _ (hp)))))))))))))))))))))) | exact fun _ hp => List.mem_cons_of_mem _ (List.mem_cons_of_mem _ (List.mem_cons_of_mem _ (List.mem_cons_of_mem _ (List.mem_cons_of_mem _ (List.mem_cons_of_mem _ (List.mem_cons_of_mem _ (List.mem_cons_of_mem _ (List.mem_cons_of_mem _ (List.mem_cons_of_mem _ (List.mem_cons_of_mem _ (List.mem_cons_of_mem _ (List.mem_cons_of_mem _ (List.mem_cons_of_mem _ (List.mem_cons_of_mem _ (List.mem_cons_of_mem _ (List.mem_cons_of_mem _ (List.mem_cons_of_mem _ (List.mem_cons_of_mem _ (List.mem_cons_of_mem _ (List.mem_cons_of_mem _ (List.mem_cons_of_mem _ (List.mem_cons_of_mem _ (hp))))))))))))))))))))))) | kcj_all); (case m105I => assumption); (case m105l => first | assumption | exact List.length_set .. | omega); (case m105c => first | assumption | exact set_r (by assumption) (fmod4_r _)); (case m105J => assumption); (case m105n => first | assumption | omega); (case m105d => first | assumption | k_ne)))
  exact trivial
local macro_rules | `(tactic| walk_at "execs cons") => `(tactic| k_extra "m106")
theorem word106 : True := by
  k_with "m106" => ((k_here; (with_reducible show wpAny _ _ (execs (Stmt.If (PySem.Expr.Compare (PySem.Expr.BinOp _ _ _ _) _ _ _) _ _ _ :: _) _) _ _ _); k_dflt (refine' cut_two ?m106F ?m106N ?m106I ?_ (fun D2' vs2' bs2' c2' vsR' nsR' cR' h' tk' hI2' hl2' hc2' hJ2' hn2' hd2' F' N' => ?_); (case m106F => k_asm); (case m106N => k_asm); (case m106I => assumption))))
  exact trivial
local macro_rules | `(tactic| walk_at "CutEnd") => `(tactic| k_extra "m107")
theorem word107 : True := by
  k_with "m107" => ((refine' cut_end ?m107F ?m107N ?m107s; (case m107F => k_asm); (case m107N => k_asm); (case m107s => first | exact fun _ hp => hp | exact fun _ hp => List.mem_cons_of_mem _ (hp) | exact fun _ hp => List.mem_cons_of_mem _ (List.mem_cons_of_mem _ (hp)) | exact fun _ hp => List.mem_cons_of_mem _ (List.mem_cons_of_mem _ (List.mem_cons_of_mem _ (hp))) | exact fun _ hp => List.mem_cons_of_mem _ (List.mem_cons_of_mem _ (List.mem_cons_of_mem _ (List.mem_cons_of_mem _ (hp)))) | exact fun _ hp => List.mem_cons_of_mem _ (List.mem_cons_of_mem _ (List.mem_cons_of_mem _ (List.mem_cons_of_mem _ (List.mem_cons_of_mem _ (hp))))) | exact fun _ hp => List.mem_cons_of_mem _ (List.mem_cons_of_mem _ (List.mem_cons_of_mem _ (List.mem_cons_of_mem _ (List.mem_cons_of_mem _ (List.mem_cons_of_mem _ (hp)))))) | exact fun _ hp => List.mem_cons_of_mem _ (List.mem_cons_of_mem _ (List.mem_cons_of_mem _ (List.mem_cons_of_mem _ (List.mem_cons_of_mem _ (List.mem_cons_of_mem _ (List.mem_cons_of_mem _ (hp))))))) | exact fun _ hp => List.mem_cons_of_mem _ (List.mem_cons_of_mem _ (List.mem_cons_of_mem _ (List.mem_cons_of_mem _ (List.mem_cons_of_mem _ (List.mem_cons_of_mem _ (List.mem_cons_of_mem _ (List.mem_cons_of_mem _ (hp)))))))) | exact fun _ hp => List.mem_cons_of_mem _ (List.mem_cons_of_mem _ (List.mem_cons_of_mem _ (List.mem_cons_of_mem _ (List.mem_cons_of_mem _ (List.mem_cons_of_mem _ (List.mem_cons_of_mem _ (List.mem_cons_of_mem _ (List.mem_cons_of_mem _ (hp))))))))) | exact fun _ hp => List.mem_cons_of_mem _ (List.mem_cons_of_mem _ (List.mem_cons_of_mem _ (List.mem_cons_of_mem _ (List.mem_cons_of_mem _ (List.mem_cons_of_mem _ (List.mem_cons_of_mem _ (List.mem_cons_of_mem _ (List.mem_cons_of_mem _ (List.mem_cons_of_mem _ (hp)))))))))) | exact fun _ hp => List.mem_cons_of_mem _ (List.mem_cons_of_mem _ (List.mem_cons_of_mem _ (List.mem_cons_of_mem _ (List.mem_cons_of_mem _ (List.mem_cons_of_mem _ (List.mem_cons_of_mem _ (List.mem_cons_of_mem _ (List.mem_cons_of_mem _ (List.mem_cons_of_mem _ (List.mem_cons_of_mem _ (hp))))))))))) | exact fun _ hp => List.mem_cons_of_mem _ (List.mem_cons_of_mem _ (List.mem_cons_of_mem _ (List.mem_cons_of_mem _ (List.mem_cons_of_mem _ (List.mem_cons_of_mem _ (List.mem_cons_of_mem _ (List.mem_cons_of_mem _ (List.mem_cons_of_mem _ (List.mem_cons_of_mem _ (List.mem_cons_of_mem _ (List.mem_cons_of_mem _ (hp)))))))))))) | exact fun _ hp => List.mem_cons_of_mem _ (List.mem_cons_of_mem _ (List.mem_cons_of_mem _ (List.mem_cons_of_mem _ (List.mem_cons_of_mem _ (List.mem_cons_of_mem _ (List.mem_cons_of_mem _ (List.mem_cons_of_mem _ (List.mem_cons_of_mem _ (List.mem_cons_of_mem _ (List.mem_cons_of_mem _ (List.mem_cons_of_mem _ (List.mem_cons_of_mem _ (hp))))))))))))) | exact fun _ hp => List.mem_cons_of_mem _ (List.mem_cons_of_mem _ (List.mem_cons_of_mem _ (List.mem_cons_of_mem _ (List.mem_cons_of_mem _ (List.mem_cons_of_mem _ (List.mem_cons_of_mem _ (List.mem_cons_of_mem _ (List.mem_cons_of_mem _ (List.mem_cons_of_mem _ (List.mem_cons_of_mem _ (List.mem_cons_of_mem _ (List.mem_cons_of_mem _ (List.mem_cons_of_mem _ (hp)))))))))))))) | exact fun _ hp => List.mem_cons_of_mem _ (List.mem_cons_of_mem _ (List.mem_cons_of_mem _ (List.mem_cons_of_mem _ (List.mem_cons_of_mem _ (List.mem_cons_of_mem _ (List.mem_cons_of_mem _ (List.mem_cons_of_mem _ (List.mem_cons_of_mem _ (List.mem_cons_of_mem _ (List.mem_cons_of_mem _ (List.mem_cons_of_mem _ (List.mem_cons_of_mem _ (List.mem_cons_of_mem _ (List.mem_cons_of_mem _ (hp))))))))))))))) | exact fun _ hp => List.mem_cons_of_mem _ (List.mem_cons_of_mem _ (List.mem_cons_of_mem _ (List.mem_cons_of_mem _ (List.mem_cons_of_mem _ (List.mem_cons_of_mem _ (List.mem_cons_of_mem _ (List.mem_cons_of_mem _ (List.mem_cons_of_mem _ (List.mem_cons_of_mem _ (List.mem_cons_of_mem _ (List.mem_cons_of_mem _ (List.mem_cons_of_mem _ (List.mem_cons_of_mem _ (List.mem_cons_of_mem _ (List.mem_cons_of_mem _ (hp)))))))))))))))) | exact fun _ hp => List.mem_cons_of_mem _ (List.mem_cons_of_mem _ (List.mem_cons_of_mem _ (List.mem_cons_of_mem _ (List.mem_cons_of_mem _ (List.mem_cons_of_mem _ (List.mem_cons_of_mem _ (List.mem_cons_of_mem _ (List.mem_cons_of_mem _ (List.mem_cons_of_mem _ (List.mem_cons_of_mem _ (List.mem_cons_of_mem _ (List.mem_cons_of_mem _ (List.mem_cons_of_mem _ (List.mem_cons_of_mem _ (List.mem_cons_of_mem _ (List.mem_cons_of_mem _ (hp))))))))))))))))) | exact fun _ hp => List.mem_cons_of_mem _ (List.mem_cons_of_mem _ (List.mem_cons_of_mem _ (List.mem_cons_of_mem _ (List.mem_cons_of_mem _ (List.mem_cons_of_mem _ (List.mem_cons_of_mem _ (List.mem_cons_of_mem _ (List.mem_cons_of_mem _ (List.mem_cons_of_mem _ (List.mem_cons_of_mem _ (List.mem_cons_of_mem _ (List.mem_cons_of_mem _ (List.mem_cons_of_mem _ (List.mem_cons_of_mem _ (List.mem_cons_of_mem _ (List.mem_cons_of_mem _ (List.mem_cons_of_mem _ (hp)))))))))))))))))) | exact fun _ hp => List.mem_cons_of_mem _ (List.mem_cons_of_mem _ (List.mem_cons_of_mem _ (List.mem_cons_of_mem _ (List.mem_cons_of_mem _ (List.mem_cons_of_mem _ (List.mem_cons_of_mem _ (List.mem_cons_of_mem _ (List.mem_cons_of_mem _ (List.mem_cons_of_mem _ (List.mem_cons_of_mem _ (List.mem_cons_of_mem _ (List.mem_cons_of_mem _ (List.mem_cons_of_mem _ (List.mem_cons_of_mem _ (List.mem_cons_of_mem _ (List.mem_cons_of_mem _ (List.mem_cons_of_mem _ (List.mem_cons_of_mem _ (hp))))))))))))))))))) | exact fun _ hp => List.mem_cons_of_mem _ (List.mem_cons_of_mem _ (List.mem_cons_of_mem _ (List.mem_cons_of_mem _ (List.mem_cons_of_mem _ (List.mem_cons_of_mem _ (List.mem_cons_of_mem _ (List.mem_cons_of_mem _ (List.mem_cons_of_mem _ (List.mem_cons_of_mem _ (List.mem_cons_of_mem _ (List.mem_cons_of_mem _ (List.mem_cons_of_mem _ (List.mem_cons_of_mem _ (List.mem_cons_of_mem _ (List.mem_cons_of_mem _ (List.mem_cons_of_mem _ (List.mem_cons_of_mem _ (List.mem_cons_of_mem _ (List.mem_cons_of_mem _ (hp)))))))))))))))))))) | exact fun _ hp => List.mem_cons_of_mem _ (List.mem_cons_of_mem _ (List.mem_cons_of_mem _ (List.mem_cons_of_mem _ (List.mem_cons_of_mem _ (List.mem_cons_of_mem _ (List.mem_cons_of_mem _ (List.mem_cons_of_mem _ (List.mem_cons_of_mem _ (List.mem_cons_of_mem _ (List.mem_cons_of_mem _ (List.mem_cons_of_mem _ (List.mem_cons_of_mem _ (List.mem_cons_of_mem _ (List.mem_cons_of_mem _ (List.mem_cons_of_mem _ (List.mem_cons_of_mem _ (List.mem_cons_of_mem _ (List.mem_cons_of_mem _ (List.mem_cons_of_mem _ (List.mem_cons_of_mem _ (hp))))))))))))))))))))) | exact fun _ hp => List.mem_cons_of_mem _ (List.mem_cons_of_mem _ (List.mem_cons_of_mem _ (List.mem_cons_of_mem _ (List.mem_cons_of_mem _ (List.mem_cons_of_mem _ (List.mem_cons_of_mem _ (List.mem_cons_of_mem _ (List.mem_cons_of_mem _ (List.mem_cons_of_mem _ (List.mem_cons_of_mem _ (List.mem_cons_of_mem _ (List.mem_cons_of_mem _ (List.mem_cons_of_mem _ (List.mem_cons_of_mem _ (List.mem_cons_of_mem _ (List.mem_cons_of_mem _ (List.mem_cons_of_mem _ (List.mem_cons_of_mem _ (List.mem_cons_of_mem _ (List.mem_cons_of_mem _ (List.mem_cons_of_mem _ (hp)))))))))))))))))))))) | exact fun _ hp => List.mem_cons_of_mem _ (List.mem_cons_of_mem _ (List.mem_cons_of_mem _ (List.mem_cons_of_mem _ (List.mem_cons_of_mem _ (List.mem_cons_of_mem _ (List.mem_cons_of_mem _ (List.mem_cons_of_mem _ (List.mem_cons_of_mem _ (List.mem_cons_of_mem _ (List.mem_cons_of_mem _ (List.mem_cons_of_mem _ (List.mem_cons_of_mem _ (List.mem_cons_of_mem _ (List.mem_cons_of_mem _ (List.mem_cons_of_mem _ (List.mem_cons_of_mem _ (List.mem_cons_of_mem _ (List.mem_cons_of_mem _ (List.mem_cons_of_mem _ (List.mem_cons_of_mem _ (List.mem_cons_of_mem _ (List.mem_cons_of_mem _ (hp))))))))))))))))))))))) | kcj_all)))
  exact trivial
local macro_rules | `(tactic| walk_at "execs cons") => `(tactic| k_extra "m108")
theorem word108 : True := by
  k_with "m108" => ((k_here; (with_reducible show wpAny _ _ (execs (Stmt.If _ _ _ _ :: _) _) _ _ _); k_dflt (refine' cut_if ?m108k ?m108F ?m108N ?m108s ?_ (fun h' tk' F' N' => ?_); (case m108k => assumption); (case m108F => k_asm); (case m108N => k_asm); (case m108s => first | exact fun _ hp => hp | exact fun _ hp => List.mem_cons_of_mem _ (hp) | exact fun _ hp => List.mem_cons_of_mem _ (List.mem_cons_of_mem _ (hp)) | exact fun _ hp => List.mem_cons_of_mem _ (List.mem_cons_of_mem _ (List.mem_cons_of_mem _ (hp))) | exact fun _ hp => List.mem_cons_of_mem _ (List.mem_cons_of_mem _ (List.mem_cons_of_mem _ (List.mem_cons_of_mem _ (hp)))) | exact fun _ hp => List.mem_cons_of_mem _ (List.mem_cons_of_mem _ (List.mem_cons_of_mem _ (List.mem_cons_of_mem _ (List.mem_cons_of_mem _ (hp))))) | exact fun _ hp => List.mem_cons_of_mem _ (List.mem_cons_of_mem _ (List.mem_cons_of_mem _ (List.mem_cons_of_mem _ (List.mem_cons_of_mem _ (List.mem_cons_of_mem _ (hp)))))) | exact fun _ hp => List.mem_cons_of_mem _ (List.mem_cons_of_mem _ (List.mem_cons_of_mem _ (List.mem_cons_of_mem _ (List.mem_cons_of_mem _ (List.mem_cons_of_mem _ (List.mem_cons_of_mem _ (hp))))))) | exact fun _ hp => List.mem_cons_of_mem _ (List.mem_cons_of_mem _ (List.mem_cons_of_mem _ (List.mem_cons_of_mem _ (List.mem_cons_of_mem _ (List.mem_cons_of_mem _ (List.mem_cons_of_mem _ (List.mem_cons_of_mem _ (hp)))))))) | exact fun _ hp => List.mem_cons_of_mem _ (List.mem_cons_of_mem _ (List.mem_cons_of_mem _ (List.mem_cons_of_mem _ (List.mem_cons_of_mem _ (List.mem_cons_of_mem _ (List.mem_cons_of_mem _ (List.mem_cons_of_mem _ (List.mem_cons_of_mem _ (hp))))))))) | exact fun _ hp => List.mem_cons_of_mem _ (List.mem_cons_of_mem _ (List.mem_cons_of_mem _ (List.mem_cons_of_mem _ (List.mem_cons_of_mem _ (List.mem_cons_of_mem _ (List.mem_cons_of_mem _ (List.mem_cons_of_mem _ (List.mem_cons_of_mem _ (List.mem_cons_of_mem _ (hp)))))))))) | exact fun _ hp => List.mem_cons_of_mem _ (List.mem_cons_of_mem _ (List.mem_cons_of_mem _ (List.mem_cons_of_mem _ (List.mem_cons_of_mem _ (List.mem_cons_of_mem _ (List.mem_cons_of_mem _ (List.mem_cons_of_mem _ (List.mem_cons_of_mem _ (List.mem_cons_of_mem _ (List.mem_cons_of_mem _ (hp))))))))))) | exact fun _ hp => List.mem_cons_of_mem _ (List.mem_cons_of_mem _ (List.mem_cons_of_mem _ (List.mem_cons_of_mem _ (List.mem_cons_of_mem _ (List.mem_cons_of_mem _ (List.mem_cons_of_mem _ (List.mem_cons_of_mem _ (List.mem_cons_of_mem _ (List.mem_cons_of_mem _ (List.mem_cons_of_mem _ (List.mem_cons_of_mem _ (hp)))))))))))) | exact fun _ hp => List.mem_cons_of_mem _ (List.mem_cons_of_mem _ (List.mem_cons_of_mem _ (List.mem_cons_of_mem _ (List.mem_cons_of_mem _ (List.mem_cons_of_mem _ (List.mem_cons_of_mem _ (List.mem_cons_of_mem _ (List.mem_cons_of_mem _ (List.mem_cons_of_mem _ (List.mem_cons_of_mem _ (List.mem_cons_of_mem _ (List.mem_cons_of_mem _ (hp))))))))))))) | exact fun _ hp => List.mem_cons_of_mem _ (List.mem_cons_of_mem _ (List.mem_cons_of_mem _ (List.mem_cons_of_mem _ (List.mem_cons_of_mem _ (List.mem_cons_of_mem _ (List.mem_cons_of_mem _ (List.mem_cons_of_mem _ (List.mem_cons_of_mem _ (List.mem_cons_of_mem _ (List.mem_cons_of_mem _ (List.mem_cons_of_mem _ (List.mem_cons_of_mem _ (List.mem_cons_of_mem _ (hp)))))))))))))) | exact fun _ hp => List.mem_cons_of_mem _ (List.mem_cons_of_mem _ (List.mem_cons_of_mem _ (List.mem_cons_of_mem _ (List.mem_cons_of_mem _ (List.mem_cons_of_mem _ (List.mem_cons_of_mem _ (List.mem_cons_of_mem _ (List.mem_cons_of_mem _ (List.mem_cons_of_mem _ (List.mem_cons_of_mem _ (List.mem_cons_of_mem _ (List.mem_cons_of_mem _ (List.mem_cons_of_mem _ (List.mem_cons_of_mem _ (hp))))))))))))))) | exact fun _ hp => List.mem_cons_of_mem _ (List.mem_cons_of_mem _ (List.mem_cons_of_mem _ (List.mem_cons_of_mem _ (List.mem_cons_of_mem _ (List.mem_cons_of_mem _ (List.mem_cons_of_mem _ (List.mem_cons_of_mem _ (List.mem_cons_of_mem _ (List.mem_cons_of_mem _ (List.mem_cons_of_mem _ (List.mem_cons_of_mem _ (List.mem_cons_of_mem _ (List.mem_cons_of_mem _ (List.mem_cons_of_mem _ (List.mem_cons_of_mem _ (hp)))))))))))))))) | exact fun _ hp => List.mem_cons_of_mem _ (List.mem_cons_of_mem _ (List.mem_cons_of_mem _ (List.mem_cons_of_mem _ (List.mem_cons_of_mem _ (List.mem_cons_of_mem _ (List.mem_cons_of_mem _ (List.mem_cons_of_mem _ (List.mem_cons_of_mem _ (List.mem_cons_of_mem _ (List.mem_cons_of_mem _ (List.mem_cons_of_mem _ (List.mem_cons_of_mem _ (List.mem_cons_of_mem _ (List.mem_cons_of_mem _ (List.mem_cons_of_mem _ (List.mem_cons_of_mem _ (hp))))))))))))))))) | exact fun _ hp => List.mem_cons_of_mem _ (List.mem_cons_of_mem _ (List.mem_cons_of_mem _ (List.mem_cons_of_mem _ (List.mem_cons_of_mem _ (List.mem_cons_of_mem _ (List.mem_cons_of_mem _ (List.mem_cons_of_mem _ (List.mem_cons_of_mem _ (List.mem_cons_of_mem _ (List.mem_cons_of_mem _ (List.mem_cons_of_mem _ (List.mem_cons_of_mem _ (List.mem_cons_of_mem _ (List.mem_cons_of_mem _ (List.mem_cons_of_mem _ (List.mem_cons_of_mem _ (List.mem_cons_of_mem _ (hp)))))))))))))))))) | exact fun _ hp => List.mem_cons_of_mem _ (List.mem_cons_of_mem _ (List.mem_cons_of_mem _ (List.mem_cons_of_mem _ (List.mem_cons_of_mem _ (List.mem_cons_of_mem _ (List.mem_cons_of_mem _ (List.mem_cons_of_mem _ (List.mem_cons_of_mem _ (List.mem_cons_of_mem _ (List.mem_cons_of_mem _ (List.mem_cons_of_mem _ (List.mem_cons_of_mem _ (List.mem_cons_of_mem _ (List.mem_cons_of_mem _ (List.mem_cons_of_mem _ (List.mem_cons_of_mem _ (List.mem_cons_of_mem _ (List.mem_cons_of_mem _ (hp))))))))))))))))))) | exact fun _ hp => List.mem_cons_of_mem _ (List.mem_cons_of_mem _ (List.mem_cons_of_mem _ (List.mem_cons_of_mem _ (List.mem_cons_of_mem _ (List.mem_cons_of_mem _ (List.mem_cons_of_mem _ (List.mem_cons_of_mem _ (List.mem_cons_of_mem _ (List.mem_cons_of_mem _ (List.mem_cons_of_mem _ (List.mem_cons_of_mem _ (List.mem_cons_of_mem _ (List.mem_cons_of_mem _ (List.mem_cons_of_mem _ (List.mem_cons_of_mem _ (List.mem_cons_of_mem _ (List.mem_cons_of_mem _ (List.mem_cons_of_mem _ (List.mem_cons_of_mem _ (hp)))))))))))))))))))) | exact fun _ hp => List.mem_cons_of_mem _ (List.mem_cons_of_mem _ (List.mem_cons_of_mem _ (List.mem_cons_of_mem _ (List.mem_cons_of_mem _ (List.mem_cons_of_mem _ (List.mem_cons_of_mem _ (List.mem_cons_of_mem _ (List.mem_cons_of_mem _ (List.mem_cons_of_mem _ (List.mem_cons_of_mem _ (List.mem_cons_of_mem _ (List.mem_cons_of_mem _ (List.mem_cons_of_mem _ (List.mem_cons_of_mem _ (List.mem_cons_of_mem _ (List.mem_cons_of_mem _ (List.mem_cons_of_mem _ (List.mem_cons_of_mem _ (List.mem_cons_of_mem _ (List.mem_cons_of_mem _ (hp))))))))))))))))))))) | exact fun _ hp => List.mem_cons_of_mem _ (List.mem_cons_of_mem _ (List.mem_cons_of_mem _ (List.mem_cons_of_mem _ (List.mem_cons_of_mem _ (List.mem_cons_of_mem _ (List.mem_cons_of_mem _ (List.mem_cons_of_mem _ (List.mem_cons_of_mem _ (List.mem_cons_of_mem _ (List.mem_cons_of_mem _ (List.mem_cons_of_mem _ (List.mem_cons_of_mem _ (List.mem_cons_of_mem _ (List.mem_cons_of_mem _ (List.mem_cons_of_mem _ (List.mem_cons_of_mem _ (List.mem_cons_of_mem _ (List.mem_cons_of_mem _ (List.mem_cons_of_mem _ (List.mem_cons_of_mem _ (List.mem_cons_of_mem _ (hp)))))))))))))))))))))) | exact fun _ hp => List.mem_cons_of_mem _ (List.mem_cons_of_mem _ (List.mem_cons_of_mem _ (List.mem_cons_of_mem _ (List.mem_cons_of_mem _ (List.mem_cons_of_mem _ (List.mem_cons_of_mem _ (List.mem_cons_of_mem _ (List.mem_cons_of_mem _ (List.mem_cons_of_mem _ (List.mem_cons_of_mem _ (List.mem_cons_of_mem _ (List.mem_cons_of_mem _ (List.mem_cons_of_mem _ (List.mem_cons_of_mem _ (List.mem_cons_of_mem _ (List.mem_cons_of_mem _ (List.mem_cons_of_mem _ (List.mem_cons_of_mem _ (List.mem_cons_of_mem _ (List.mem_cons_of_mem _ (List.mem_cons_of_mem _ (List.mem_cons_of_mem _ (hp))))))))))))))))))))))) | kcj_all))))
  exact trivial
local macro_rules | `(tactic| walk_at "execs cons") => `(tactic| k_extra "m109")
theorem word109 : True := by
  k_with "m109" => ((k_here; (with_reducible show wpAny _ _ (execs (Stmt.If _ _ _ _ :: _) _) _ _ _); (with_reducible rename PairsOf _ _ _ _ => hP0); (fail_if_success (have hk0 := (by assumption : KeepLed _))); k_dflt (refine' cut_gen ?m109N ?_; (case m109N => k_asm)); (intro news' hK' hS' N'; obtain ⟨e1', hS1'⟩ := List.forall_mem_cons.mp hS'; obtain ⟨hT', hR0'⟩ := List.forall_mem_append.mp hS1'; obtain ⟨e2', hR1'⟩ := List.forall_mem_cons.mp hR0'; obtain ⟨e3', hR2'⟩ := List.forall_mem_cons.mp hR1'; obtain ⟨e4', hR3'⟩ := List.forall_mem_cons.mp hR2'; obtain ⟨e5', hR4'⟩ := List.forall_mem_cons.mp hR3'; obtain ⟨e6', hR5'⟩ := List.forall_mem_cons.mp hR4'; obtain ⟨e7', hR6'⟩ := List.forall_mem_cons.mp hR5'; have hP1' := PairsOf.mono hP0 hT'; clear hP0 hS' hS1' hT' hR0' hR1' hR2' hR3' hR4' hR5' hR6')))
  exact trivial
theorem un_end {h₀ : Heap} {L : Addr} {s₁ : Shared} {I : Addr} {o : Obj} {keep news' : Led} {rest : (Str → Option Value) → Led → Prop} {h' : Heap} {tk : Nat} {m' : Str → Option Value}
    (F : Fr h₀ L h' m') (N : News h₀ L h' ((I, o) :: news')) (l : ∀ p ∈ news', p.1 < I) (hk : SubL keep news') (r : rest m' news') : UnrEndW h₀ L s₁ [(I, o)] (fun m' n' => SubL keep n' ∧ rest m' n') { s₁ with heap := h', toks := tk } :=
  ⟨h', tk, m', news', rfl, F, N, fun p hp q hq => by rw [List.mem_singleton.mp hq]; exact Nat.ne_of_lt (l p hp), hk, r⟩
local macro_rules | `(tactic| walk_at "exec For Name List cons nil") => `(tactic| (k_here; (rename Fr _ _ _ _ => lF'); (with_unfolding_all refine' For_turns lF' ?_; k_whole)))
local macro_rules | `(tactic| walk_at "pyIter ref") => `(tactic| k_extra "m110")
theorem word110 : True := by
  k_with "m110" => ((k_here; (with_reducible show wpAny _ _ (pyIter (Value.ref _)) (fun it s₂ => TurnsAt _ _ _ _ _ _ _ _ _ it s₂) _ _); (rename Fr _ _ _ _ => lF'); (rename News _ _ _ _ => lN'); (with_unfolding_all refine' iter_listTurns (lo := listOf _ _) ?m110hh lF' lN' ?m110m ?m110c ?m110d (fun i' l1' => ?_); (case m110hh => with_unfolding_all rfl); (case m110m => exact List.mem_cons_self); (case m110c => with_unfolding_all rfl); (case m110d => with_unfolding_all rfl))))
  exact trivial
local macro_rules | `(tactic| walk_at "UnrEndW") => `(tactic| k_extra "m111")
theorem word111 : True := by
  k_with "m111" => ((k_here; k_dflt (refine' un_end ?m111F ?m111N ?m111l ?m111k ?_; (case m111F => k_asm); (case m111N => k_asm); (case m111l => assumption); (case m111k => exact ⟨List.mem_cons_self, True.intro⟩))))
  exact trivial
local macro_rules | `(tactic| walk_at "execs cons") => `(tactic| k_extra "m112")
theorem word112 : True := by
  k_with "m112" => ((k_here; (with_reducible show wpAny _ _ (execs (Stmt.If (PySem.Expr.Compare (PySem.Expr.Call (PySem.Expr.Name (PySem.Str.ofString "matches") _) _ _ _) _ _ _) _ _ _ :: _) _) _ _ _); (with_reducible refine wpAny_execs_cons ?_); (try dsimp only)))
  exact trivial
theorem ne_bool_same {prog : Program} {w : World} {A : Around} {E : Value → Shared → Prop} {s : Shared} {b : Bool} {Q : Value → Shared → Prop} (h : Q (.bool false) s) : wpAny (model prog w) A (compareOp .NotEq (.bool b) (.bool b)) Q E s := ne_bool (by simpa using h)
local macro_rules | `(tactic| walk_at "eval Call") => `(tactic| (k_here; (with_reducible show wpAny _ _ (eval (PySem.Expr.Call (PySem.Expr.Name _ _) _ [] _) _) _ _ _); k_dflt (refine Call_ ?_)))
local macro_rules | `(tactic| walk_at "compareOp NotEq bool bool") => `(tactic| (k_here; k_dflt (refine ne_bool_same ?_)))
theorem lit_room {vs : List Value} (h : Nat.ble vs.length 1000 = true) : vs.length ≤ sizeLine := by
  have h1 := Nat.le_of_ble_eq_true h
  rw [PySem.sizeLine_eq]
  omega
local macro_rules | `(tactic| walk_at "newList") => `(tactic| (k_here; k_dflt (refine newList_K (by k_asm) (by k_asm) (fun l' h' F' N' l1' => ?_) (lit_room rfl)); (try k_lt l1'); (try k_sweep)))
theorem fresh29 : True := by
  w_top off
  (try walk1)
  exact trivial
theorem walked : PySem.Challenge.rw_nn0298_01.Holds := by
  o_law
  rename_i said
  refine holds_open (q := hd.view_1) (loose := []) (Xt := fun s => xlAt hd.view_1 [] s && recOk PySem.Challenge.rw_nn0298_01.row.records s) (XP := XL hd.view_1 []) (Yf := (kHook hd.heap_1 asK asK_eq).obs) (Ya := (kHook hd.heap_1 asK asK_eq).val) (YP := (kHook hd.heap_1 asK asK_eq).says) (N := 2394) hl_ok (kHook hd.heap_1 asK asK_eq).of (kHook hd.heap_1 asK asK_eq).keeps (fun s e => xl_of s (Bool.and_eq_true_iff.mp e).1) XL.keeps (by rfl) (by rfl) (by rfl) (fun s e => recFacts_of (Bool.and_eq_true_iff.mp e).2) (by rfl) (by first | assumption | decide +kernel) (by decide +kernel) ⟨rfl, rfl, rfl, rfl, rfl, by decide +kernel⟩ ?hw ?hc
  case hw => w_witness2
  case hc =>
    clear said
    k_go0
    rename_i w0 s0 s1 mg mb G Y fa o pm doc kV ho hg KX X V GL T B TE TW b1 b2 M c1 c2 hcd ns hs hlay0 hLl hr hl2 l1 l2 SA vs l4 hL ra w1 r0 hI hr2 hcnd htr K0 hD h1 F N0
    have hide := PySem.Flt.Hid.mk (And.intro G (And.intro Y (And.intro ho (And.intro hg (And.intro X (And.intro V (And.intro GL (And.intro B (And.intro TE (And.intro TW (And.intro M (And.intro hcd (And.intro hs (And.intro hlay0 (And.intro hLl (And.intro hr (And.intro hl2 (And.intro ra (And.intro w1 (And.intro r0 (And.intro hr2 (And.intro htr hD))))))))))))))))))))))
    clear hD htr hr2 r0 w1 ra hl2 hr hLl hlay0 hs hcd M TW TE B GL V X hg ho Y G
    all_goals try k_fold
    k_steps
    all_goals (obtain ⟨G, Y, ho, hg, X, V, GL, B, TE, TW, M, hcd, hs, hlay0, hLl, hr, hl2, ra, w1, r0, hr2, htr, hD⟩ := hide.out)
    k_steps
end Mine
theorem PySem.Challenge.cw_nn0298_01_holds : PySem.Challenge.rw_nn0298_01.Holds :=
  Mine.walked
