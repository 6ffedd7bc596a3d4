import PyProof.Rows.All
import Wide.All
import OpenK.AllK
import Wide.FinOn
import HandS.ForMost
import HandS.Conv
import HandS.IsInst
import HandS.CallLocal
import HandS.DictComp
import HandS.SetKeys
import HandS.TupAny
import HandS.Sort
import HandS.Strs
import HandS.Zip
import HandS.Style
import HandS.SetFor
import HandS.EndTab
import HandS.Exc
import HandS.Wide
import HandS.SortKw
import HandS.Defaults
import KE.SortKeyHeap
import KE.DatumOrd
import KE.KDictKeyed
import KE.KeyNested
import KE.KDictDisplayH
import KE.KIndexOf
import KE.GoesEnum
import PySem.Challenge.RW_gridknot_k41_whole_families
import HandS.Lambda
section
set_option autoImplicit false
namespace Gk
abbrev G := List Int × List Int

def turnRow (n : Nat) (row : List Int) (c d : Int) : List Int :=
  (List.range n).map fun (i : Nat) => (row.getD (((i : Int) + c) % n).toNat 0 - d) % n
def turned (g : G) (c d : Int) : G := (turnRow g.1.length g.1 c d, turnRow g.1.length g.2 c d)

def ltL : List Int → List Int → Bool
  | [], [] => false
  | [], _ :: _ => true
  | _ :: _, [] => false
  | x :: xs, y :: ys => if x = y then ltL xs ys else decide (x < y)
def ltG (a b : G) : Bool := if a.1 = b.1 then ltL a.2 b.2 else ltL a.1 b.1

def tops (g : G) : List G := (List.range g.1.length).map fun (i : Nat) => turned g (i : Int) (g.1.getD i 0)
def least : List G → G
  | [] => ([], [])
  | x :: xs => xs.foldl (fun a y => if ltG y a = true then y else a) x
def first (g : G) : G := least (tops g)

def transRow (l : List Int) : List Int := (List.range l.length).map fun (r : Nat) => ((l.idxOf (r : Int) : Nat) : Int)
def trans (g : G) : G := (transRow g.1, transRow g.2)

def mn (a b : Int) : Int := if b < a then b else a
def mx (a b : Int) : Int := if b > a then b else a
def swapRow (l : List Int) (i : Nat) : List Int := l.take i ++ ([l.getD (i + 1) 0, l.getD i 0] ++ l.drop (i + 2))
def swapped (g : G) (i : Nat) : Option G :=
  let lo := mn (g.1.getD i 0) (g.2.getD i 0)
  let hi := mx (g.1.getD i 0) (g.2.getD i 0)
  let o := [g.1.getD (i + 1) 0, g.2.getD (i + 1) 0]
  if lo ∈ o ∨ hi ∈ o ∨ (o.filter fun r => decide (lo < r) && decide (r < hi)).length = 1 then none
  else some (swapRow g.1 i, swapRow g.2 i)
def idx (l : List Int) (v : Int) : Int := ((l.idxOf v : Nat) : Int)
def lowRow (g : G) (i : Nat) : Option Int :=
  let x := g.1.getD i 0
  let o := g.2.getD i 0
  let lo := mn x o
  if mx x o ≠ lo + 1 then none
  else if x = lo then (if idx g.2 lo ≠ idx g.1 (lo + 1) then some lo else none)
  else (if idx g.1 lo ≠ idx g.2 (lo + 1) then some lo else none)
def shrinkRow (l : List Int) (i : Nat) (lo : Int) : List Int := (l.take i ++ l.drop (i + 1)).map fun r => if lo < r then r - 1 else r
def shrunk (g : G) (i : Nat) : Option G := match lowRow g i with
  | none => none
  | some lo => some (shrinkRow g.1 i lo, shrinkRow g.2 i lo)
def changesBy (g : G) : List G := ((List.range (g.1.length - 1)).filterMap (swapped g)) ++ ((List.range g.1.length).filterMap (shrunk g))
def changes (g : G) : List G := changesBy g ++ (changesBy (trans g)).map trans
def steps (p : G) : List G := changes (turned p 0 0) ++ (changes (turned p 1 0) ++ changes (turned p 0 1))
def nexts (p : G) : List G := (steps p).map first

/-! the law's own -/
def lawSteps (g : G) : List Int := let n := g.1.length; (List.range n).map fun (j : Nat) => (g.1.getD (((j : Int) + 1) % n).toNat 0 - g.1.getD j 0) % n
def leastI : List Int → Int
  | [] => 0
  | x :: xs => xs.foldl mn x
def lawFirst (g : G) : Option G :=
  let st := lawSteps g
  let lo := leastI st
  (List.range g.1.length).foldl (fun best (j : Nat) => if st.getD j 0 = lo then
      let t := turned g j (g.1.getD j 0)
      match best with
      | none => some t
      | some b => if ltG t b = true then some t else best
    else best) none
def lawSwapped (g : G) (i j : Nat) : Option G :=
  let r0 := g.1.getD i 0
  let r1 := g.2.getD i 0
  let r2 := g.1.getD j 0
  let r3 := g.2.getD j 0
  let lo := mn r0 r1
  let hi := mx r0 r1
  if r2 ∈ [r0, r1] ∨ r3 ∈ [r0, r1] then none
  else if (decide (lo < r2 ∧ r2 < hi)) ≠ (decide (lo < r3 ∧ r3 < hi)) then none
  else some ((g.1.set i r2).set j r0, (g.2.set i r3).set j r1)
def lawShrinkRow (n : Nat) (l : List Int) (i : Nat) (lo : Int) : List Int := (l.take i ++ l.drop (i + 1)).map fun r => mx ((r - lo) % n - 1) 0
def lawLow (g : G) (i : Nat) : Option Int :=
  let n := g.1.length
  let x := g.1.getD i 0
  let o := g.2.getD i 0
  if (o + 1) % n = x then some o
  else if (x + 1) % n ≠ o then none
  else some x
def lawShrunk (g : G) (i : Nat) : Option G := match lawLow g i with
  | none => none
  | some lo => if idx g.2 (g.1.getD i 0) = idx g.1 (g.2.getD i 0) then none
    else some (lawShrinkRow g.1.length g.1 i lo, lawShrinkRow g.1.length g.2 i lo)
def lawFound (g : G) (seam : Bool) : List G :=
  let n := g.1.length
  (List.range n).flatMap fun i =>
    (if seam = true ∨ i + 1 < n then (lawSwapped g i ((i + 1) % n)).toList else []) ++
    (if seam = true ∨ (g.1.getD i 0 - g.2.getD i 0).natAbs = 1 then (lawShrunk g i).toList else [])
def acrossRow (l : List Int) : List Int := (List.range l.length).foldl (fun m (i : Nat) => m.set (l.getD i 0).toNat (i : Int)) (List.replicate l.length 0)
def across (g : G) : G := (acrossRow g.1, acrossRow g.2)
def lawNext (p : G) (seam : Bool) : List G := (lawFound p seam).map first ++ (lawFound (across p) seam).map fun t => first (across t)

/-! the grids -/
def isPerm (n : Nat) (l : List Int) : Bool := l.length == n && (l.all fun x => decide (0 ≤ x) && decide (x < (n : Int))) && (List.range n).all fun k => l.contains (k : Int)
def apart : List Int → List Int → Bool
  | x :: xs, y :: ys => !(decide (x = y)) && apart xs ys
  | _, _ => true
def valid (g : G) : Bool := decide (2 ≤ g.1.length) && decide (g.1.length ≤ 5) && isPerm g.1.length g.1 && isPerm g.1.length g.2 && apart g.1 g.2
def lists (n : Nat) : Nat → List (List Int)
  | 0 => [[]]
  | k + 1 => (List.range n).flatMap fun (x : Nat) => (lists n k).map fun l => (x : Int) :: l
def perms (n : Nat) : List (List Int) := (lists n n).filter (isPerm n)
def grids (n : Nat) : List G := (perms n).flatMap fun x => ((perms n).filter (apart x)).map fun o => (x, o)
def isPlace (g : G) : Bool := valid g && decide (first g = g)
def places (n : Nat) : List G := ((perms n).filter fun l => decide (l.getD 0 0 = 0)).flatMap fun x => (((perms n).filter (apart x)).map fun o => (x, o)).filter isPlace
end Gk
end

section
set_option Elab.async false
set_option linter.all false
set_option maxRecDepth 100000
set_option maxHeartbeats 4000000
/-! Gk: the base of the walk: the text by places, data on the heap, defs by promise, comprehensions. -/
namespace Gk
open PySem L2
def top (i : Nat) : Stmt := PySem.Challenge.pw_gridknot_k41_whole_families.main.body.getD i (.Pass ⟨0, 0, 0, 0⟩)

/-! ### what stays: all tuples -/
def KT (H H' : Hp) : Prop := (∀ b xs, H b = some (.tup xs) → H' b = some (.tup xs)) ∧ ∀ b o u, H b = some (.frz o u) → H' b = some (.frz o u)
theorem KT.refl (H : Hp) : KT H H := ⟨fun _ _ h => h, fun _ _ _ h => h⟩
theorem KT.trans {H H1 H2 : Hp} (a : KT H H1) (b : KT H1 H2) : KT H H2 := ⟨fun c o h => b.1 c o (a.1 c o h), fun c o u h => b.2 c o u (a.2 c o u h)⟩
theorem kt_same {H H' : Hp} (e : Same H H') : KT H H' := ⟨fun b xs h => e _ _ h, fun b o u h => e _ _ h⟩
theorem kt_upd {H : Hp} {D : Addr} {l : List V} {o : HO} (h : H D = some (.lst l)) : KT H (upd H D o) :=
  ⟨fun b xs e => (upd_ne (ne_of e h (by intro z; cases z))).trans e, fun b ob u e => by
    by_cases nb : b = D
    · subst nb
      rw [h] at e
      cases e
    · exact (upd_ne nb).trans e⟩
theorem same_new {H : Hp} {p : Addr} {o : HO} (h : H p = none) : Same H (upd H p o) := fun b u e => (upd_ne (ne_of_none e h)).trans e
theorem same_own {H H' : Hp} {p : Addr} {o : HO} (e : Same H H') (h : H p = none) : Same H (upd H' p o) := fun b u hb => (upd_ne (ne_of_none hb h)).trans (e _ _ hb)
theorem KT.t {K : PySem.W.Frag} {H H' : Hp} (e : KT H H') {a : Addr} {xs : List V} (h : SqT K H a xs) : SqT K H' a xs := by
  rcases h with (h | ⟨o, h⟩) | h
  · exact .inl (.inl (e.1 _ _ h))
  · exact .inl (.inr ⟨o, e.2 _ _ _ h⟩)
  · exact .inr h

/-! ### data -/
def nums (l : List Int) : List V := l.map V.int
theorem nums_len (l : List Int) : (nums l).length = l.length := List.length_map ..
theorem nums_at {l : List Int} {i : Nat} (h : i < l.length) : (nums l)[i]? = some (.int (l.getD i 0)) := by
  unfold nums
  rw [List.getElem?_map, List.getElem?_eq_getElem h, List.getD_eq_getElem?_getD, List.getElem?_eq_getElem h]
  rfl
theorem nums_atI {l : List Int} {z : Int} {i : Nat} (e : z = (i : Int)) (h : i < l.length) : atI (nums l) z = some (.int (l.getD i 0)) := by
  rw [e]
  exact atI_nat (nums_at h)
/-- a tuple of ints, its object known to have no dict -/
def Row (K : PySem.W.Frag) (l : List Int) (v : V) (H : Hp) : Prop := ∃ a ob, v = .ref a ∧ H a = some (.frz ob (.tup (nums l))) ∧ ob.dict = none
theorem sqF {K : PySem.W.Frag} {H : Hp} {a : Addr} {ob : Obj} {xs : List V} (h : H a = some (.frz ob (.tup xs))) : SqT K H a xs := .inl (.inr ⟨ob, h⟩)
theorem Row.seq {K : PySem.W.Frag} {H : Hp} {l : List Int} {v : V} (h : Row K l v H) : ∃ a, v = .ref a ∧ SqT K H a (nums l) := by
  obtain ⟨a, ob, e, h, _⟩ := h
  exact ⟨a, e, sqF h⟩
/-- a pair of rows -/
def IsG (K : PySem.W.Frag) (g : G) (v : V) (H : Hp) : Prop := ∃ a x o, v = .ref a ∧ SqT K H a [x, o] ∧ Row K g.1 x H ∧ Row K g.2 o H
def IsO (K : PySem.W.Frag) (g : Option G) (v : V) (H : Hp) : Prop := match g with
  | none => v = .non
  | some g => IsG K g v H
theorem Row.kt {K : PySem.W.Frag} {H H' : Hp} {l : List Int} {v : V} (h : Row K l v H) (e : KT H H') : Row K l v H' := by
  obtain ⟨a, ob, q, h, d⟩ := h
  exact ⟨a, ob, q, e.2 _ _ _ h, d⟩
theorem IsG.kt {K : PySem.W.Frag} {H H' : Hp} {g : G} {v : V} (h : IsG K g v H) (e : KT H H') : IsG K g v H' := by
  obtain ⟨a, x, o, q, h, h1, h2⟩ := h
  exact ⟨a, x, o, q, e.t h, h1.kt e, h2.kt e⟩
theorem IsO.kt {K : PySem.W.Frag} {H H' : Hp} {g : Option G} {v : V} (h : IsO K g v H) (e : KT H H') : IsO K g v H' := by
  cases g with
  | none => exact h
  | some g => exact IsG.kt h e

/-! ### defs by their promises -/
structure DefOk (P : Program) (w : World) (K : PySem.W.Frag) (mg : Str → Option Value) (base : Heap) (x : Str) (k : Nat) (ps : List Str) (sp : Sp) : Prop where
  ex : ∃ (f : Addr) (fd : FuncData), FnOk P w K mg base CX0 k f fd ps sp ∧ mg x = some (.ref f) ∧ PySem.W.keepIn K (.ref f) = true ∧ Binds K fd ps []
section
variable {X : Cx} {x : Str} {k : Nat} {ps : List Str} {sp : Sp} {e : Expr} {es : List Expr} {t : TA} {p pos : Pos}
theorem pe_cd (D : DefOk X.prog X.w X.K X.mg X.base x k ps sp) (hr : Room k X.A) (hg : Gl X x) (ha : PA X (e :: es) t)
    (hdb : (x == ("__debug__" : Str)) = false := by decide) (he : starEach (e :: es) X.env = (false, eval e X.env) :: starEach es X.env := by rfl) (hpl : (backTo pos (starEach es X.env)).any (·.1) = false := by rfl) :
    PE X (.Call (.Name x p) (e :: es) [] pos) (tCall sp [] E0 t) := by
  obtain ⟨f, fd, F, hm, kp, hb⟩ := D.ex
  exact pe_call F hr hg hm kp hb .nil pass0 ha hdb he hpl
end
/-- the built-ins that the text calls stand as they were -/
structure Bl (mg : Str → Option Value) : Prop where
  len : mg "len" = none
  tuple : mg "tuple" = none
  list : mg "list" = none
  range : mg "range" = none
  min : mg "min" = none
  max : mg "max" = none
  abs : mg "abs" = none
  int : mg "int" = none
  bool : mg "bool" = none
  all : mg "all" = none
  sum : mg "sum" = none
  sorted : mg "sorted" = none
  isi : mg "isinstance" = none
  enum : mg "enumerate" = none
  zip : mg "zip" = none

/-! ### comprehensions that keep all that was there -/
theorem lc_rel {J : It} {g : TG} {tt : TT} {te : TE} {vs : List Nat} {σ : St} {H1 : Hp} {D : Addr} {Qd : Hp → Prop} (n : Nat) (R : Nat → List V → Hp → Prop)
    (mono : ∀ i l H H', KT H H' → R i l H → R i l H') (hD : H1 D = none) (hn : n < sizeLine) (h0 : R 0 [] H1) (hlen : ∀ i l H, R i l H → l.length ≤ i)
    (hgo : ∀ i H, i < n → Same H1 H → J.go i H) (hst : ∀ H, Same H1 H → J.stop n H)
    (hs : ∀ i H x H' acc, i < n → Same H1 H → R i acc H → J.yld i H x H' → ∀ (K1 : V → Hp → Prop) (K2 : Hp → Prop), (∀ y H4, Same H H4 → R (i + 1) (acc ++ [y]) H4 → K1 y H4) → (∀ H3, Same H H3 → R (i + 1) acc H3 → K2 H3) →
      g x (wipe σ vs) H' fun σ2 H2 => wipe σ2 vs = wipe σ vs ∧ tt σ2 H2 fun b H3 => if b = true then te σ2 H3 K1 else K2 H3)
    (hd : ∀ H l, Same H1 H → H D = some (.lst l) → R n l H → Qd H) :
    ∃ W : Nat → Nat → Hp → Prop, (∃ m, W 0 m (upd H1 D (.lst []))) ∧ ∀ i m H, W i m H →
      (J.stop i H ∧ Qd H) ∨ (J.go i H ∧ ∃ Nx : Hp → Prop, (∀ H', Nx H' → ∃ m', m' < m ∧ W (i + 1) m' H') ∧ ∀ x H', J.yld i H x H' → g x (wipe σ vs) H' fun σ2 H2 => wipe σ2 vs = wipe σ vs ∧ tt σ2 H2 fun b H3 =>
        if b = true then te σ2 H3 fun y H4 => ∃ acc, H4 D = some (.lst acc) ∧ acc.length < sizeLine ∧ Nx (upd H4 D (.lst (acc ++ [y]))) else Nx H3) := by
  refine ⟨fun i m H => m = n - i ∧ i ≤ n ∧ Same H1 H ∧ ∃ l, H D = some (.lst l) ∧ R i l H, ⟨n, by simp, Nat.zero_le _, same_new hD, [], upd_same, mono _ _ _ _ (kt_same (same_new hD)) h0⟩, ?_⟩
  rintro i m H ⟨rfl, hi, sm, l, hl, r⟩
  by_cases hlt : i < n
  · refine .inr ⟨hgo i H hlt sm, fun H' => Same H1 H' ∧ ∃ l, H' D = some (.lst l) ∧ R (i + 1) l H', fun H' ⟨a, b⟩ => ⟨n - (i + 1), by omega, rfl, hlt, a, b⟩, fun x H' hy => ?_⟩
    refine hs i H x H' l hlt sm r hy _ _ (fun y H4 s4 r4 => ?_) (fun H3 s3 r3 => ⟨sm.trans s3, l, s3 _ _ hl, r3⟩)
    have h4 : H4 D = some (.lst l) := s4 _ _ hl
    exact ⟨l, h4, Nat.lt_of_le_of_lt (hlen _ _ _ r) (by omega), same_own (sm.trans s4) hD, l ++ [y], upd_same, mono _ _ _ _ (kt_upd h4) r4⟩
  · have e : i = n := by omega
    subst e
    exact .inl ⟨hst H sm, hd H l sm hl r⟩
end Gk
end

section
set_option Elab.async false
set_option linter.all false
set_option maxRecDepth 100000
set_option maxHeartbeats 4000000
/-! Gk: further rules: the written part said by its letter, tuples whose own object is known, t.index, range as a value, enumerate over a tuple, the order of pairs of rows, min. -/
namespace Gk
open PySem PySem.Spec PyProof.Rows L2
section
variable {X : Cx}
theorem ixT (K : PySem.W.Frag) (hK : X.K = K := by rfl) : IxR X (rIxT K) := hK ▸ ix_tup
theorem ixL (K : PySem.W.Frag) (hK : X.K = K := by rfl) : IxR X (rIxL K) := hK ▸ ix_list
theorem lenS (K : PySem.W.Frag) (hK : X.K = K := by rfl) : CallR X (.builtin "len") (fun xs H Q => ∃ p ys, xs = [.ref p] ∧ (SqL K H p ys ∨ SqT K H p ys) ∧ Q (.int ys.length) H) := hK ▸ call_len_seq
theorem inS (K : PySem.W.Frag) (hK : X.K = K := by rfl) : OpR X (compareOp .In) (rIn K false) := hK ▸ op_in_seq
theorem ninS (K : PySem.W.Frag) (hK : X.K = K := by rfl) : OpR X (compareOp .NotIn) (rIn K true) := hK ▸ op_notIn_seq
theorem slL (K : PySem.W.Frag) (hK : X.K = K := by rfl) : SlR X (rSlL K) := hK ▸ sl_list
theorem slT (K : PySem.W.Frag) (hK : X.K = K := by rfl) : SlR X (rSlA K) := hK ▸ sl_tupA
theorem listS (K : PySem.W.Frag) (hK : X.K = K := by rfl) : CallR X (.type "list") (fun xs H Q => ∃ p ys, xs = [.ref p] ∧ (SqL K H p ys ∨ SqT K H p ys) ∧ ∀ l, H l = none → Q (.ref l) (upd H l (.lst ys))) := hK ▸ call_list_of
theorem minI (K : PySem.W.Frag) (hc : X.calm = true) (hK : X.K = K := by rfl) : CallR X (.builtin "min") (rMin K) := hK ▸ cr_min hc
theorem sumI (K : PySem.W.Frag) (hc : X.calm = true) (hK : X.K = K := by rfl) : CallR X (.builtin "sum") (rSum K) := hK ▸ cr_sum hc
theorem allB (K : PySem.W.Frag) (hc : X.calm = true) (hK : X.K = K := by rfl) : CallR X (.builtin "all") (rAll K) := hK ▸ cr_all hc
theorem isiO (K : PySem.W.Frag) (hK : X.K = K := by rfl) : CallR X (.builtin "isinstance") (rIsi K) := hK ▸ call_isi
theorem isiT (K : PySem.W.Frag) (hK : X.K = K := by rfl) : CallR X (.builtin "isinstance") (rIsiT K) := hK ▸ call_isiT
variable {tg l e : Expr} {tl te : TE} {es : List Expr} {ta : TA}
theorem piT (K : PySem.W.Frag) (hl : PE X l tl) (hK : X.K = K := by rfl) : PI X tg l (iTup K tl) := hK ▸ pi_tup hl
theorem piL (K : PySem.W.Frag) (hl : PE X l tl) (hK : X.K = K := by rfl) : PI X tg l (iList K tl) := hK ▸ pi_list hl
def tTruth (K : PySem.W.Frag) (te : TE) : TT := fun σ H Q => te σ H fun x H' => ∃ k, TruV K x H' k ∧ Q k H'
theorem truth (K : PySem.W.Frag) (ha : PE X e te) (he : ∀ whole, isTrue e X.env whole = (do let v ← whole; standAt e.pos; holding [v] (truthy v)) := by intro _; rfl) (hK : X.K = K := by rfl) : PT X e (tTruth K te) := hK ▸ pt_truth ha he
theorem pgT (K : PySem.W.Frag) {k : Nat} {t : TGs} {n : Nat} {pos : Pos} (hc : X.calm = true) (h : PGs X es t) (hn : (assignEach es X.env).length = n := by rfl) (hst : (assignEach es X.env).findIdx? (·.1) = none := by rfl) (hK : X.K = K := by rfl) :
    PG X (.Tuple es k pos) (gTup K n t) := hK ▸ pg_tup hc h hn hst
theorem revL (K : PySem.W.Frag) {k : Nat} {p1 p2 p3 pos : Pos} (he : PE X e te) (hK : X.K = K := by rfl) : PE X (.Subscript e (.Slice none none (some (.UnaryOp .USub (.Constant (.int 1) k p1) p2)) p3) pos) (tRevL K te) := hK ▸ pe_revL he
end
section
variable {X : Cx} {pins : List (Addr × Obj)} {σ : L2.St} {H : Hp} {s : Shared}
/-! ### tuples whose own object has no dict -/
/-- a new tuple, its object known -/
def tnew (H : Hp) (xs : List V) (Q : VK) : Prop := ∀ q o, H q = none → o.dict = none → Q (.ref q) (upd H q (.frz o (.tup xs)))
theorem laidT {xs : List V} {its : List Value} {h' : Heap} {t' : Nat} {Q : VK} (I : Inv X pins σ H { s with heap := h', toks := t' }) (r : Vals xs its) (hz : xs.length ≤ sizeLine) (q : tnew H xs Q) :
    EP X pins σ Q (.ref h'.objs.size) { s with heap := h'.push { cls := .type "tuple", data := .seq its.toArray }, toks := t' } :=
  ⟨.ref h'.objs.size, upd H h'.objs.size (.frz { cls := .type "tuple", data := .seq its.toArray } (.tup xs)),
    I.laid (s := { s with heap := h', toks := t' }) (t' := t') (fun b o e => Heap.get?_push_of_some _ e) (Nat.le_refl _) ⟨Heap.get?_push_size _ rfl, hz, its, r, IsTup.new _ _⟩, rfl, q _ _ (I.hok.fresh (Nat.le_refl _)) rfl⟩
/-- (a, b, ..) -/
def tTupN (t : TA) : TE := fun σ H Q => t σ H fun xs H1 => xs.length ≤ sizeLine ∧ tnew H1 xs Q
theorem peTup {x1 : Nat} {es : List Expr} {t : TA} {pos : Pos} (h : PA X es t) : PE X (.Tuple es x1 pos) (tTupN t) := by
  refine ⟨fun pins s σ H Q I hq => ?_⟩
  refine wpAny_Tuple_spliced (thn (h.run pos pins s σ H _ I hq) fun us s1 ⟨xs, H1, I1, r, z, q⟩ => ⟨by rw [← r.length]; exact z, ?_⟩)
  exact laidT (s := s1) (t' := s1.toks) I1 r z q
/-- tuple(x) of a list -/
def tTupOf (K : PySem.W.Frag) (ta : TE) : TE := fun σ H Q => ta σ H fun x H1 => ∃ p xs, x = .ref p ∧ SqL K H1 p xs ∧ tnew H1 xs Q
theorem tupOf (K : PySem.W.Frag) {p pos : Pos} {a : Expr} {ta : TE} (hg : Gl X "tuple") (hm : X.mg "tuple" = none) (ha : PE X a ta) (hK : X.K = K := by rfl) (na : starEach [a] X.env = (false, eval a X.env) :: starEach [] X.env := by rfl) :
    PE X (.Call (.Name "tuple" p) [a] [] pos) (tTupOf K ta) := by
  subst hK
  refine ⟨fun pins s σ H Q I h => ?_⟩
  refine Call_ (ld_blt I hg hm PyProof.Rows.boot_tuple (PyProof.Rows.callWith_type1 (one_arg ha I h (fun v s2 x H2 I2 r hx => ?_) na) na))
  obtain ⟨p, xs, rfl, hs, q⟩ := hx
  obtain rfl : v = .ref p := r
  obtain ⟨its, rv, pl, hz⟩ := I2.list hs
  refine call_tuple_list pl.isList (fun h' hk => ?_) (by rw [List.size_toArray, ← rv.length]; exact hz)
  have I3 : Inv X pins σ H2 { s2 with heap := h' } := I2.kept (t' := s2.toks) hk
  exact laidT (s := s2) (t' := s2.toks) I3 rv hz q
/-- t + u -/
def rCatF (K : PySem.W.Frag) : R2 := fun x y H Q => ∃ a b xs ys, x = .ref a ∧ y = .ref b ∧ SqT K H a xs ∧ SqT K H b ys ∧ xs.length + ys.length ≤ sizeLine ∧
  (xs = [] → Q (.ref b) H) ∧ (xs ≠ [] → ys = [] → Q (.ref a) H) ∧ (xs ≠ [] → ys ≠ [] → tnew H (xs ++ ys) Q)
theorem catF (K : PySem.W.Frag) (hK : X.K = K := by rfl) : OpR X (binaryOp .Add) (rCatF K) := by
  subst hK
  intro pins s σ H x y v u Q I rx ry h
  obtain ⟨a, b, xs, ys, rfl, rfl, ha, hb, hz, q0, q1, q2⟩ := h
  cases rx
  cases ry
  obtain ⟨its, r1, p1, _⟩ := I.tuple ha
  obtain ⟨its2, r2, p2, _⟩ := I.tuple hb
  by_cases hx : xs = []
  · subst hx
    cases r1
    exact cat_tup0 p1 p2 ⟨.ref b, H, I, rfl, q0 rfl⟩
  · refine HT.cat_tup p1 p2 (fun z => hx (r1.nil_iff.mp z)) (fun z => ⟨.ref a, H, I, rfl, q1 hx (r2.nil_iff.mp z)⟩) (fun z => ?_) (by rw [← r1.length, ← r2.length]; exact hz)
    exact laidT (s := s) (t' := s.toks) I (r1.append r2) (by rw [List.length_append]; exact hz) (q2 hx fun w => z (r2.nil_iff.mpr w))
/-- t.index(v), t such a tuple of ints -/
def tTidx (to te : TE) : TE := fun σ H Q => to σ H fun x H1 => ∃ a ob l, x = .ref a ∧ H1 a = some (.frz ob (.tup (nums l))) ∧ ob.dict = none ∧ te σ H1 fun y H2 => ∃ v, y = .int v ∧ H2 a = some (.frz ob (.tup (nums l))) ∧ v ∈ l ∧ Q (.int ((l.idxOf v : Nat) : Int)) H2
theorem tidx {o e : Expr} {to te : TE} {apos cpos : Pos} (ho : PE X o to) (he : PE X e te)
    (hbase : attributeBase o "index" X.env (eval o X.env) = eval o X.env := by rfl) (hline : (apos.endLine == cpos.line) = true := by rfl) (hs : starEach [e] X.env = (false, eval e X.env) :: starEach [] X.env := by rfl) (htr : backTo cpos (starEach [e] X.env) = [(false, eval e X.env)] := by rfl) :
    PE X (.Call (.Attribute o "index" apos) [e] [] cpos) (tTidx to te) := by
  refine ⟨fun pins s σ H Q I h => ?_⟩
  refine wpAny_Call_method1_late hbase hline htr (thn (ho.run pins s σ H _ I h) fun u s1 ⟨x, H1, I1, r1, a, ob, l, ex, ha, hd, q1⟩ => ?_)
  subst ex
  cases r1
  obtain ⟨e1, e2⟩ := (show ObjOk X.prog X.w H1 s1.heap a (.frz ob (.tup (nums l))) from I1.hok _ _ ha)
  obtain ⟨_, its, rv, o2, h2, hc, n, hd2⟩ := e2
  rw [e1] at h2
  cases h2
  refine ⟨"tuple", "tuple.index", PySem.F.plainAttrs_tuple, PySem.F.slot_tuple_index, PySem.F.type_tuple_index, ⟨_, e1, hc⟩, fun b eb => ?_, ?_⟩
  · cases eb
    exact ⟨ob, e1, hd⟩
  · have hA := (pa_cons he pa_nil (hs := hs)).run cpos pins s1 σ H1 (fun vs H2 => match vs with | [y] => ∃ v, y = .int v ∧ H2 a = some (.frz ob (.tup (nums l))) ∧ v ∈ l ∧ Q (.int ((l.idxOf v : Nat) : Int)) H2 | _ => False) I1 q1
    rw [htr] at hA
    refine Calls.callWith_builtin rfl (Calls.evalArgs_plain ?_)
    refine thn hA fun us s2 ⟨vs, H2, I2, r2, hm⟩ => ?_
    obtain ⟨y, rfl⟩ : ∃ y, vs = [y] := by
      match vs, hm with
      | [y], _ => exact ⟨y, rfl⟩
    obtain ⟨v, ey, h3, hv, q⟩ := hm
    subst ey
    obtain ⟨w1, rfl, t, rfl⟩ := vals1 r2
    obtain ⟨e3, _, its3, rv3, p3⟩ := (show ObjOk X.prog X.w H2 s2.heap a (.frz ob (.tup (nums l))) from I2.hok _ _ h3)
    exact PySem.SeqAt.tuple_index_ints (show s2.heap.IsTuple a its3.toArray from p3) rv3.ints hv ⟨.int _, H2, I2.tok _, ⟨_, rfl⟩, q⟩
/-! ### range(n) as a value, walked later -/
theorem range1 : CallR X (.type "range") (fun vs H Q => ∃ j, vs = [V.int j] ∧ ∀ p, H p = none → Q (.ref p) (upd H p (.rng 0 j))) := by
  intro pins s σ H vs us Q I r h
  obtain ⟨j, rfl, q⟩ := h
  obtain ⟨u1, rfl, t, rfl⟩ := vals1 r
  refine call_range_1 ⟨.ref s.heap.objs.size, upd H s.heap.objs.size (.rng 0 j), I.laid (t' := s.toks + 1 + 1) (fun b o e => Heap.get?_push_of_some _ e) (Nat.le_refl _) ?_, rfl, q _ (I.hok.fresh (Nat.le_refl _))⟩
  exact ⟨s.toks, t, s.toks + 1, Heap.get?_push_size _ rfl⟩
def iRng (te : TE) : TI := fun σ H R => te σ H fun x H1 => ∃ a j, x = .ref a ∧ H1 a = some (.rng 0 j) ∧ 0 ≤ j ∧ j < 2 ^ 62 ∧ R (Itr 0 j.toNat) H1
theorem piR {tg e : Expr} {te : TE} (he : PE X e te) : PI X tg e (iRng te) := by
  refine ⟨fun pins s σ H R I h => ?_⟩
  refine thn (he.run pins s σ H _ I h) fun v s1 ⟨x, H1, I1, r1, a, j, ex, ha, h0, h1, q⟩ => ?_
  subst ex
  cases r1
  obtain ⟨t, u, w1, ho⟩ := I1.hok a _ ha
  refine wpAny_pyIter_range (a := 0) (b := j) (c := 1) (t := t) (u := u) (v := w1) ho (small_one (by decide) (by decide) (by omega) h1) ?_
  refine ⟨s1.heap.objs.size, [s1.heap.objs.size], _, _, H1, rfl, I1.kept (t' := s1.toks) fun b o e => Heap.get?_push_of_some _ e, turn_range _ 0 j.toNat, ?_, fun b hb => ?_, q⟩
  · have e1 : (0 : Int) + ((0 : Nat) : Int) * 1 = 0 := by simp
    have e2 : ((j.toNat : Nat) : Int) - ((0 : Nat) : Int) = Builtin.Range.rangeSize 0 j 1 := by rw [rangeSize_one]; split <;> omega
    show IsRangeIter _ _ ((0 : Int) + ((0 : Nat) : Int) * 1) (((j.toNat : Nat) : Int) - ((0 : Nat) : Int)) 1
    rw [e1, e2]
    exact Heap.get?_push_size _ rfl
  · have e : b = s1.heap.objs.size := by simpa using hb
    subst e
    exact I1.fpOk (Nat.le_refl _) (I1.hok.fresh (Nat.le_refl _))
end
end Gk
end

section
set_option Elab.async false
set_option linter.all false
set_option maxRecDepth 100000
set_option maxHeartbeats 4000000
namespace Gk
open PySem L2
section
variable {P : Program} {w : World} {K : PySem.W.Frag} {mg : Str → Option Value} {base : Heap}
/-! ### comprehensions read -/
section
variable {J : It} {te : TE} {tt : TT} {σ : L2.St} {H1 : Hp} {D : Addr} {Qd : Hp → Prop} {j : Nat} {vs : List Nat}
/-- what the loop of a comprehension wants -/
abbrev LcW (J : It) (g : TG) (tt : TT) (te : TE) (vs : List Nat) (σ : L2.St) (H1 : Hp) (D : Addr) (Qd : Hp → Prop) : Prop :=
    ∃ W : Nat → Nat → Hp → Prop, (∃ m, W 0 m (upd H1 D (.lst []))) ∧ ∀ i m H, W i m H →
      (J.stop i H ∧ Qd H) ∨ (J.go i H ∧ ∃ Nx : Hp → Prop, (∀ H', Nx H' → ∃ m', m' < m ∧ W (i + 1) m' H') ∧ ∀ x H', J.yld i H x H' → g x (wipe σ vs) H' fun σ2 H2 => wipe σ2 vs = wipe σ vs ∧ tt σ2 H2 fun b H3 =>
        if b = true then te σ2 H3 fun y H4 => ∃ acc, H4 D = some (.lst acc) ∧ acc.length < sizeLine ∧ Nx (upd H4 D (.lst (acc ++ [y]))) else Nx H3)
theorem wipe1 (σ : L2.St) (j : Nat) (v : Option V) : wipe ((wipe σ [j]).set j v) [j] = wipe σ [j] := by
  show ((σ.set j none).set j v).set j none = σ.set j none
  rw [List.set_set, List.set_set]
/-- [e for x in ..]: one name, no test; Pi: what is known of the i-th item -/
theorem lc_map (n : Nat) (Pi : Nat → V → Hp → Prop) (hD : H1 D = none) (hn : n < sizeLine) (mono : ∀ i v H H', KT H H' → Pi i v H → Pi i v H')
    (hgo : ∀ i H, i < n → Same H1 H → J.go i H) (hst : ∀ H, Same H1 H → J.stop n H)
    (hs : ∀ i H x H', i < n → Same H1 H → J.yld i H x H' → ∀ K1 : V → Hp → Prop, (∀ y H4, Same H H4 → Pi i y H4 → K1 y H4) → te ((wipe σ vs).set j (some x)) H' K1)
    (hd : ∀ H l, Same H1 H → H D = some (.lst l) → l.length = n → (∀ (i : Nat) (y : V), l[i]? = some y → Pi i y H) → Qd H) (hv : vs = [j] := by rfl) : LcW J (gName j) tYes te vs σ H1 D Qd := by
  subst hv
  refine lc_rel n (fun i l H => l.length = i ∧ ∀ k y, l[k]? = some y → Pi k y H) (fun i l H H' e ⟨a, b⟩ => ⟨a, fun k y hk => mono _ _ _ _ e (b k y hk)⟩) hD hn ⟨rfl, fun k y hk => by simp at hk⟩ (fun i l H h => Nat.le_of_eq h.1) hgo hst ?_ (fun H l sm hl ⟨a, b⟩ => hd H l sm hl a b)
  intro i H x H' acc hi sm ⟨ra, rb⟩ hy K1 K2 q1 q2
  refine ⟨wipe1 σ j _, ?_⟩
  show te _ H' K1
  refine hs i H x H' hi sm hy K1 fun y H4 s4 p4 => q1 y H4 s4 ⟨by rw [List.length_append, ra]; rfl, fun k z hk => ?_⟩
  by_cases hlt : k < acc.length
  · rw [List.getElem?_append_left hlt] at hk
    exact mono _ _ _ _ (kt_same s4) (rb k z hk)
  · rw [List.getElem?_append_right (by omega)] at hk
    have e : k - acc.length = 0 := by
      have := (List.getElem?_eq_some_iff.mp hk).1
      simp at this
      omega
    rw [e] at hk
    cases hk
    have e2 : k = i := by omega
    subst e2
    exact p4
/-- .. whatever the target is -/
theorem lc_mapG {g : TG} (n : Nat) (Pi : Nat → V → Hp → Prop) (hD : H1 D = none) (hn : n < sizeLine) (mono : ∀ i v H H', KT H H' → Pi i v H → Pi i v H')
    (hgo : ∀ i H, i < n → Same H1 H → J.go i H) (hst : ∀ H, Same H1 H → J.stop n H)
    (hs : ∀ i H x H', i < n → Same H1 H → J.yld i H x H' → ∀ K1 : V → Hp → Prop, (∀ y H4, Same H H4 → Pi i y H4 → K1 y H4) → g x (wipe σ vs) H' fun σ2 H2 => wipe σ2 vs = wipe σ vs ∧ te σ2 H2 K1)
    (hd : ∀ H l, Same H1 H → H D = some (.lst l) → l.length = n → (∀ (i : Nat) (y : V), l[i]? = some y → Pi i y H) → Qd H) : LcW J g tYes te vs σ H1 D Qd := by
  refine lc_rel n (fun i l H => l.length = i ∧ ∀ (k : Nat) (y : V), l[k]? = some y → Pi k y H) (fun i l H H' e ⟨a, b⟩ => ⟨a, fun k y hk => mono _ _ _ _ e (b k y hk)⟩) hD hn ⟨rfl, fun k y hk => by simp at hk⟩ (fun i l H h => Nat.le_of_eq h.1) hgo hst ?_ (fun H l sm hl ⟨a, b⟩ => hd H l sm hl a b)
  intro i H x H' acc hi sm ⟨ra, rb⟩ hy K1 K2 q1 q2
  refine hs i H x H' hi sm hy K1 fun y H4 s4 p4 => q1 y H4 s4 ⟨by rw [List.length_append, ra]; rfl, fun k z hk => ?_⟩
  by_cases hlt : k < acc.length
  · rw [List.getElem?_append_left hlt] at hk
    exact mono _ _ _ _ (kt_same s4) (rb k z hk)
  · rw [List.getElem?_append_right (by omega)] at hk
    have e : k - acc.length = 0 := by
      have := (List.getElem?_eq_some_iff.mp hk).1
      simp at this
      omega
    rw [e] at hk
    cases hk
    have e2 : k = i := by omega
    subst e2
    exact p4
theorem nums_of {n : Nat} {f : Nat → Int} {l : List V} (hl : l.length = n) (h : ∀ (i : Nat) (y : V), l[i]? = some y → y = .int (f i)) : l = nums ((List.range n).map f) := by
  apply List.ext_getElem?
  intro i
  unfold nums
  rw [List.getElem?_map, List.getElem?_map]
  by_cases hi : i < n
  · rw [List.getElem?_range hi]
    have e := List.getElem?_eq_getElem (l := l) (i := i) (by omega)
    rw [e, h i _ e]
    rfl
  · rw [List.getElem?_eq_none (by omega), List.getElem?_eq_none (by simpa using hi)]
    rfl
/-- [f for i in range(n)], ints -/
theorem lcR_ints {lo : Int} {n : Nat} (f : Nat → Int) (hD : H1 D = none) (hn : n < sizeLine)
    (hs : ∀ i H, i < n → Same H1 H → ∀ K1 : V → Hp → Prop, (∀ H4, Same H H4 → K1 (.int (f i)) H4) → te ((wipe σ vs).set j (some (.int (lo + (i : Nat))))) H K1)
    (hd : ∀ H, Same H1 H → H D = some (.lst (nums ((List.range n).map f))) → Qd H) (hv : vs = [j] := by rfl) : LcW (Itr lo n) (gName j) tYes te vs σ H1 D Qd :=
  lc_map n (fun i y _ => y = .int (f i)) hD hn (fun _ _ _ _ _ h => h) (fun i H hi _ => hi) (fun H _ => Nat.le_refl n)
    (fun i H x H' hi sm ⟨e1, e2⟩ K1 q => by
      subst e1 e2
      exact hs i _ hi sm K1 fun H4 s4 => q _ H4 s4 rfl)
    (fun H l sm hl e h => hd H sm (by rw [hl, nums_of e h])) hv
/-- .. over a tuple -/
theorem lcT_map {K : PySem.W.Frag} {a : Addr} {xs : List V} (Pi : Nat → V → Hp → Prop) (hD : H1 D = none) (hx : SqT K H1 a xs) (hn : xs.length < sizeLine) (mono : ∀ i v H H', KT H H' → Pi i v H → Pi i v H')
    (hs : ∀ (i : Nat) (x : V) (H : Hp), xs[i]? = some x → Same H1 H → ∀ K1 : V → Hp → Prop, (∀ y H4, Same H H4 → Pi i y H4 → K1 y H4) → te ((wipe σ vs).set j (some x)) H K1)
    (hd : ∀ H l, Same H1 H → H D = some (.lst l) → l.length = xs.length → (∀ (i : Nat) (y : V), l[i]? = some y → Pi i y H) → Qd H) (hv : vs = [j] := by rfl) : LcW (Itt K a) (gName j) tYes te vs σ H1 D Qd :=
  lc_map xs.length Pi hD hn mono (fun i H hi sm => ⟨xs, xs[i], (kt_same sm).t hx, List.getElem?_eq_getElem hi⟩) (fun H sm => ⟨xs, (kt_same sm).t hx, Nat.le_refl _⟩)
    (fun i H x H' hi sm ⟨e1, e2⟩ K1 q => by
      subst e1
      exact hs i x _ (e2 xs ((kt_same sm).t hx)) sm K1 q) hd hv
/-- .. over a list -/
theorem lcL_map {K : PySem.W.Frag} {a : Addr} {xs : List V} (Pi : Nat → V → Hp → Prop) (hD : H1 D = none) (hx : SqL K H1 a xs) (hn : xs.length < sizeLine) (mono : ∀ i v H H', KT H H' → Pi i v H → Pi i v H')
    (hs : ∀ (i : Nat) (x : V) (H : Hp), xs[i]? = some x → Same H1 H → ∀ K1 : V → Hp → Prop, (∀ y H4, Same H H4 → Pi i y H4 → K1 y H4) → te ((wipe σ vs).set j (some x)) H K1)
    (hd : ∀ H l, Same H1 H → H D = some (.lst l) → l.length = xs.length → (∀ (i : Nat) (y : V), l[i]? = some y → Pi i y H) → Qd H) (hv : vs = [j] := by rfl) : LcW (Itl K a) (gName j) tYes te vs σ H1 D Qd :=
  lc_map xs.length Pi hD hn mono (fun i H hi sm => ⟨xs, xs[i], sm.seq hx, List.getElem?_eq_getElem hi⟩) (fun H sm => ⟨xs, sm.seq hx, Nat.le_refl _⟩)
    (fun i H x H' hi sm ⟨e1, e2⟩ K1 q => by
      subst e1
      exact hs i x _ (e2 xs (sm.seq hx)) sm K1 q) hd hv
/-- [x for x in .. if test]: the items that pass -/
theorem lc_filt {xs : List V} (p : V → Bool) (hD : H1 D = none) (hn : xs.length < sizeLine) (hgo : ∀ (i : Nat) (H : Hp), i < xs.length → Same H1 H → J.go i H) (hst : ∀ H, Same H1 H → J.stop xs.length H)
    (hy : ∀ (i : Nat) (H : Hp) (x : V) (H' : Hp), Same H1 H → J.yld i H x H' → H' = H ∧ xs[i]? = some x)
    (hs : ∀ (x : V) (H : Hp), x ∈ xs → Same H1 H → ∀ Qb : Bool → Hp → Prop, (∀ H3, Same H H3 → Qb (p x) H3) → tt ((wipe σ vs).set j (some x)) H Qb)
    (he : ∀ (x : V) (H : Hp) (K1 : V → Hp → Prop), x ∈ xs → K1 x H → te ((wipe σ vs).set j (some x)) H K1)
    (hd : ∀ H, Same H1 H → H D = some (.lst (xs.filter p)) → Qd H) (hv : vs = [j] := by rfl) : LcW J (gName j) tt te vs σ H1 D Qd := by
  subst hv
  refine lc_rel xs.length (fun i l H => l = (xs.take i).filter p) (fun i l H H' e h => h) hD hn rfl (fun i l H h => ?_) hgo hst ?_ (fun H l sm hl e => hd H sm (by rw [hl, e, List.take_length]))
  · rw [h]
    exact Nat.le_trans (List.length_filter_le ..) (by rw [List.length_take]; exact Nat.min_le_left ..)
  · intro i H x H' acc hi sm ra hyy K1 K2 q1 q2
    obtain ⟨e1, ex⟩ := hy i H x H' sm hyy
    subst e1
    refine ⟨wipe1 σ j _, ?_⟩
    have et : xs.take (i + 1) = xs.take i ++ [x] := by rw [List.take_add_one, ex]; rfl
    have hm : x ∈ xs := List.mem_of_getElem? ex
    refine hs x _ hm sm _ fun H3 s3 => ?_
    cases hp : p x with
    | true => exact he x H3 K1 hm (q1 x H3 s3 (by rw [ra, et, List.filter_append]; simp [hp]))
    | false => exact q2 H3 s3 (by rw [ra, et, List.filter_append]; simp [hp])
theorem lcL_filter {K : PySem.W.Frag} {a : Addr} {xs : List V} (p : V → Bool) (hD : H1 D = none) (hx : SqL K H1 a xs) (hn : xs.length < sizeLine)
    (hs : ∀ (x : V) (H : Hp), x ∈ xs → Same H1 H → ∀ Qb : Bool → Hp → Prop, (∀ H3, Same H H3 → Qb (p x) H3) → tt ((wipe σ vs).set j (some x)) H Qb)
    (he : ∀ (x : V) (H : Hp) (K1 : V → Hp → Prop), x ∈ xs → K1 x H → te ((wipe σ vs).set j (some x)) H K1)
    (hd : ∀ H, Same H1 H → H D = some (.lst (xs.filter p)) → Qd H) (hv : vs = [j] := by rfl) : LcW (Itl K a) (gName j) tt te vs σ H1 D Qd :=
  lc_filt p hD hn (fun i H hi sm => ⟨xs, xs[i], sm.seq hx, List.getElem?_eq_getElem hi⟩) (fun H sm => ⟨xs, sm.seq hx, Nat.le_refl _⟩) (fun i H x H' sm ⟨e1, e2⟩ => ⟨e1, e2 xs (sm.seq hx)⟩) hs he hd hv
theorem lcT_filter {K : PySem.W.Frag} {a : Addr} {xs : List V} (p : V → Bool) (hD : H1 D = none) (hx : SqT K H1 a xs) (hn : xs.length < sizeLine)
    (hs : ∀ (x : V) (H : Hp), x ∈ xs → Same H1 H → ∀ Qb : Bool → Hp → Prop, (∀ H3, Same H H3 → Qb (p x) H3) → tt ((wipe σ vs).set j (some x)) H Qb)
    (he : ∀ (x : V) (H : Hp) (K1 : V → Hp → Prop), x ∈ xs → K1 x H → te ((wipe σ vs).set j (some x)) H K1)
    (hd : ∀ H, Same H1 H → H D = some (.lst (xs.filter p)) → Qd H) (hv : vs = [j] := by rfl) : LcW (Itt K a) (gName j) tt te vs σ H1 D Qd :=
  lc_filt p hD hn (fun i H hi sm => ⟨xs, xs[i], (kt_same sm).t hx, List.getElem?_eq_getElem hi⟩) (fun H sm => ⟨xs, (kt_same sm).t hx, Nat.le_refl _⟩) (fun i H x H' sm ⟨e1, e2⟩ => ⟨e1, e2 xs ((kt_same sm).t hx)⟩) hs he hd hv
end
theorem two_rows {l : List V} (h : l.length = 2) : ∃ x y, l = [x, y] := by
  match l, h with
  | [x, y], _ => exact ⟨x, y, rfl⟩
theorem small_len {n : Nat} (h : n ≤ 1000) : n < sizeLine := small1000 h
theorem eqV_int (a b : Int) : eqV (.int a) (.int b) = decide (a = b) := by
  first
    | rfl
    | simp [eqV]
theorem inV_nums (v : Int) (l : List Int) : inV (.int v) (nums l) = decide (v ∈ l) := by
  induction l with
  | nil => simp [inV, nums]
  | cons x r ih =>
    have e : inV (.int v) (nums (x :: r)) = (eqV (.int x) (.int v) || inV (.int v) (nums r)) := rfl
    rw [e, ih, eqV_int]
    by_cases h : x = v
    · simp [h]
    · have h2 : ¬ v = x := fun q => h q.symm
      simp [h, h2]
theorem flat_nums (l : List Int) : (nums l).all flatV = true := by
  unfold nums
  rw [List.all_map]
  exact List.all_eq_true.mpr fun _ _ => rfl
theorem nums_filter (p : Int → Bool) (q : V → Bool) (h : ∀ x, q (.int x) = p x) (l : List Int) : (nums l).filter q = nums (l.filter p) := by
  unfold nums
  rw [List.filter_map]
  congr 1
  apply List.filter_congr
  intro x _
  exact h x
/-- the ints of ints -/
def unI : V → Int
  | .int i => i
  | _ => 0
theorem turnRow_len (n : Nat) (row : List Int) (c d : Int) : (turnRow n row c d).length = n := by simp [turnRow]
theorem getD_lt {l : List Int} {i : Nat} (h : i < l.length) : l[i]? = some (l.getD i 0) := by
  rw [List.getD_eq_getElem?_getD, List.getElem?_eq_getElem h]
  rfl
theorem mod_nat {z : Int} {n : Nat} (h : 0 < n) : ∃ k : Nat, z % (n : Int) = (k : Int) ∧ k < n ∧ k = (z % (n : Int)).toNat := by
  have h1 := Int.emod_nonneg z (show (n : Int) ≠ 0 by omega)
  have h2 := Int.emod_lt_of_pos z (show (0 : Int) < n by omega)
  exact ⟨(z % (n : Int)).toNat, by omega, by omega, rfl⟩
end
end Gk
end

section
set_option Elab.async false
set_option linter.all false
set_option maxRecDepth 100000
set_option maxHeartbeats 4000000
namespace Gk
open PySem L2
section
variable {P : Program} {w : World} {K : PySem.W.Frag} {mg : Str → Option Value} {base : Heap}
/-! ### slices, sums of tuples, tests read -/
theorem nat_at {l : List Int} {i : Nat} (h : i < l.length) : atI (nums l) (i : Int) = some (.int (l.getD i 0)) := nums_atI rfl h
theorem nat_at1 {l : List Int} {i : Nat} (h : i + 1 < l.length) : atI (nums l) ((i : Int) + 1) = some (.int (l.getD (i + 1) 0)) := nums_atI (by omega) h
theorem iteD {p A B : Prop} [Decidable p] (h1 : p → A) (h2 : ¬ p → B) : if decide p = true then A else B := by
  by_cases h : p
  · rw [if_pos (decide_eq_true h)]
    exact h1 h
  · rw [if_neg (by simpa using h)]
    exact h2 h
theorem iteDn {p A B : Prop} [Decidable p] (h1 : ¬ p → A) (h2 : p → B) : if (!decide p) = true then A else B := by
  by_cases h : p
  · rw [if_neg (by simp [h])]
    exact h2 h
  · rw [if_pos (by simp [h])]
    exact h1 h
theorem slT_read {H : Hp} {a : Addr} {xs : List V} {lo hi : Option Int} {Q : VK} (h : SqT K H a xs) (q : ∀ p H', Same H H' → SqT K H' p (cutV xs lo hi) → Q (.ref p) H') : rSlA K (.ref a) lo hi H Q := by
  refine ⟨a, xs, rfl, h, fun hw => q a H (Same.refl _) ?_, fun _ p np => q p _ (same_new np) (.inl (.inl upd_same))⟩
  unfold cutV
  rw [hw.1, hw.2, List.drop_zero, Nat.sub_zero, List.take_length]
  exact h
theorem noPart {σ : L2.St} {H : Hp} {R : Option Int → Hp → Prop} (h : R none H) : tNoPart σ H R := h
theorem slL_read {H : Hp} {a : Addr} {xs : List V} {lo hi : Option Int} {Q : VK} (h : SqL K H a xs) (q : ∀ p H', Same H H' → H' p = some (.lst (cutV xs lo hi)) → Q (.ref p) H') : rSlL K (.ref a) lo hi H Q :=
  ⟨a, xs, rfl, h, fun p np => q p _ (same_new np) upd_same⟩
theorem cut_take (l : List Int) (i : Nat) : cutV (nums l) none (some (i : Int)) = nums (l.take i) := by
  unfold cutV
  rw [HT.sIx_nat, HT.sIx_none, List.drop_zero, Nat.sub_zero]
  unfold nums
  rw [List.map_take, List.length_map]
  by_cases h : i ≤ l.length
  · rw [Nat.min_eq_left h]
  · rw [Nat.min_eq_right (by omega), List.take_of_length_le (by simp), List.take_of_length_le (by simp; omega)]
theorem cut_drop (l : List Int) (i : Nat) {z : Int} (e : z = (i : Int)) : cutV (nums l) (some z) none = nums (l.drop i) := by
  subst e
  unfold cutV
  rw [HT.sIx_nat, HT.sIx_none]
  unfold nums
  rw [List.map_drop, List.length_map]
  by_cases h : i ≤ l.length
  · rw [Nat.min_eq_left h, List.take_of_length_le (by simp)]
  · rw [Nat.min_eq_right (by omega), List.drop_of_length_le (by simp), List.drop_of_length_le (by simp; omega)]
    simp
theorem nums_append (l m : List Int) : nums (l ++ m) = nums l ++ nums m := List.map_append ..
theorem nums_nil {l : List Int} (h : nums l = []) : l = [] := by
  cases l with
  | nil => rfl
  | cons _ _ => cases h
/-- l + m, the sum a row again -/
theorem cat_row {H : Hp} {a b : Addr} {l m : List Int} {Q : VK} (hl : SqT K H a (nums l)) (hm : SqT K H b (nums m)) (hz : l.length + m.length ≤ 1000) (rl : m = [] → l ≠ [] → Row K l (.ref a) H) (rm : l = [] → Row K m (.ref b) H)
    (q : ∀ v H', Same H H' → Row K (l ++ m) v H' → Q v H') : rCatF K (.ref a) (.ref b) H Q := by
  refine ⟨a, b, _, _, rfl, rfl, hl, hm, by rw [nums_len, nums_len]; exact Nat.le_of_lt (small_len hz), fun e => ?_, fun e1 e2 => ?_, fun _ _ p o np dn => ?_⟩
  · have e := nums_nil e
    exact q _ H (Same.refl _) (by rw [e]; exact rm e)
  · have e2 := nums_nil e2
    exact q _ H (Same.refl _) (by rw [e2, List.append_nil]; exact rl e2 (fun z => e1 (by rw [z]; rfl)))
  · exact q _ _ (same_new np) ⟨p, o, rfl, by rw [upd_same, nums_append], dn⟩
/-- two lists summed -/
theorem cat_list {H : Hp} {a b : Addr} {l m : List Int} {Q : VK} (hl : H a = some (.lst (nums l))) (hm : H b = some (.lst (nums m))) (hz : l.length + m.length ≤ 1000)
    (q : ∀ p H', Same H H' → H p = none → H' p = some (.lst (nums (l ++ m))) → Q (.ref p) H') : rCat (.ref a) (.ref b) H Q :=
  ⟨a, b, _, _, rfl, rfl, hl, hm, by rw [nums_len, nums_len]; exact Nat.le_of_lt (small_len hz), fun p np => q p _ (same_new np) np (by rw [upd_same, nums_append])⟩
theorem mem_nums {l : List Int} {x : V} (h : x ∈ nums l) : ∃ v, v ∈ l ∧ x = .int v := by
  obtain ⟨v, hv, e⟩ := List.mem_map.mp h
  exact ⟨v, hv, e.symm⟩
theorem cat_seq {H : Hp} {a b : Addr} {l m : List Int} {Q : VK} (hl : SqT K H a (nums l)) (hm : SqT K H b (nums m)) (hz : l.length + m.length ≤ 1000)
    (q : ∀ p H', Same H H' → SqT K H' p (nums (l ++ m)) → Q (.ref p) H') : rCatF K (.ref a) (.ref b) H Q := by
  refine ⟨a, b, _, _, rfl, rfl, hl, hm, by rw [nums_len, nums_len]; exact Nat.le_of_lt (small_len hz), fun e => ?_, fun e1 e2 => ?_, fun _ _ p o np dn => ?_⟩
  · exact q _ H (Same.refl _) (by rw [nums_nil e]; exact hm)
  · exact q _ H (Same.refl _) (by rw [nums_nil e2, List.append_nil]; exact hl)
  · exact q _ _ (same_new np) (by rw [nums_append]; exact sqF upd_same)
theorem nums_get {l : List Int} {i : Nat} {x : V} (h : (nums l)[i]? = some x) : ∃ r, l[i]? = some r ∧ x = .int r := by
  unfold nums at h
  rw [List.getElem?_map] at h
  cases e : l[i]? with
  | none => rw [e] at h; cases h
  | some r => rw [e] at h; exact ⟨r, rfl, (Option.some.inj h).symm⟩
theorem nums_by {l : List Int} {f : Int → Int} {m : List V} (hl : m.length = (nums l).length) (h : ∀ (i : Nat) (y : V), m[i]? = some y → ∃ r, l[i]? = some r ∧ y = .int (f r)) : m = nums (l.map f) := by
  apply List.ext_getElem?
  intro j
  unfold nums
  rw [List.getElem?_map, List.getElem?_map]
  cases e : m[j]? with
  | none =>
    have : l.length ≤ j := by
      rw [← nums_len, ← hl]
      exact List.getElem?_eq_none_iff.mp e
    rw [List.getElem?_eq_none this]
    rfl
  | some y =>
    obtain ⟨r, h1, h2⟩ := h j y e
    rw [h1, h2]
    rfl
section
variable {te : TE} {σ : L2.St} {H1 : Hp} {D : Addr} {Qd : Hp → Prop} {j : Nat} {vs : List Nat} {a : Addr} {l : List Int}
/-- [f r for r in t], t a tuple of ints -/
theorem lcT_ints (f : Int → Int) (hD : H1 D = none) (hx : SqT K H1 a (nums l)) (hn : l.length ≤ 1000)
    (hs : ∀ (r : Int) (H : Hp), r ∈ l → Same H1 H → ∀ K1 : V → Hp → Prop, (∀ H4, Same H H4 → K1 (.int (f r)) H4) → te ((wipe σ vs).set j (some (.int r))) H K1)
    (hd : ∀ H, Same H1 H → H D = some (.lst (nums (l.map f))) → Qd H) (hv : vs = [j] := by rfl) : LcW (Itt K a) (gName j) tYes te vs σ H1 D Qd :=
  lcT_map (fun i y _ => ∃ r, l[i]? = some r ∧ y = .int (f r)) hD hx (small_len (by rw [nums_len]; exact hn)) (fun _ _ _ _ _ h => h)
    (fun i x H hi sm K1 q => by
      obtain ⟨r, h1, rfl⟩ := nums_get hi
      exact hs r H (List.mem_of_getElem? h1) sm K1 fun H4 s4 => q _ H4 s4 ⟨r, h1, rfl⟩)
    (fun H m sm hm hl hP => hd H sm (by rw [hm, nums_by hl hP])) hv
/-- .. a list of ints -/
theorem lcL_ints (f : Int → Int) (hD : H1 D = none) (hx : SqL K H1 a (nums l)) (hn : l.length ≤ 1000)
    (hs : ∀ (r : Int) (H : Hp), r ∈ l → Same H1 H → ∀ K1 : V → Hp → Prop, (∀ H4, Same H H4 → K1 (.int (f r)) H4) → te ((wipe σ vs).set j (some (.int r))) H K1)
    (hd : ∀ H, Same H1 H → H D = some (.lst (nums (l.map f))) → Qd H) (hv : vs = [j] := by rfl) : LcW (Itl K a) (gName j) tYes te vs σ H1 D Qd :=
  lcL_map (fun i y _ => ∃ r, l[i]? = some r ∧ y = .int (f r)) hD hx (small_len (by rw [nums_len]; exact hn)) (fun _ _ _ _ _ h => h)
    (fun i x H hi sm K1 q => by
      obtain ⟨r, h1, rfl⟩ := nums_get hi
      exact hs r H (List.mem_of_getElem? h1) sm K1 fun H4 s4 => q _ H4 s4 ⟨r, h1, rfl⟩)
    (fun H m sm hm hl hP => hd H sm (by rw [hm, nums_by hl hP])) hv
end
end
end Gk
end

section
set_option Elab.async false
set_option linter.all false
set_option maxRecDepth 100000
set_option maxHeartbeats 4000000
/-! Gk: enumerate over a tuple; the order of pairs of rows; min of triples. -/
namespace Gk
open PySem PySem.Spec PyProof.Rows L2
/-! ### enumerate(t) -/
set_option maxHeartbeats 8000000 in
theorem meets_enumT (t : Addr) (items : Array Value) :
    Meets (Builtin.«enumerate.__new__» ⟨[.type "enumerate", .ref t], []⟩) (fun _ R s => s.heap.IsTuple t items ∧
      R (.ok (.ret (.ref (s.heap.push { cls := .type "tuple_iterator", data := .fields #[.ref t, .int 0 0] }).objs.size))) { s with heap := (s.heap.push { cls := .type "tuple_iterator", data := .fields #[.ref t, .int 0 0] }).push { cls := .type "enumerate", data := .fields #[.none, .bool false, .ref s.heap.objs.size, rawInt 0, .none, .none] } }) :=
  .of_wp fun prog w A R s h => by
    obtain ⟨hp, g, d, tk, os⟩ := s
    obtain ⟨h1, h⟩ := h
    have hsub := sub_enumerate
    have q1 : ∀ {A' : Around} {E : Value → Shared → Prop} {Q : Value → Shared → Prop}, Q (.ref hp.objs.size) ⟨hp.push { cls := .type "tuple_iterator", data := .fields #[.ref t, .int 0 0] }, g, d, tk, os⟩ → wpAny (model prog w) A' (pyIter (.ref t)) Q E ⟨hp, g, d, tk, os⟩ :=
      fun q => wpAny_pyIter_tuple (s := ⟨hp, g, d, tk, os⟩) h1 q
    wp_walk using q1
    refine wpAny_stack_any fun st => wpAny_pure ?_
    split
    · rename_i c _ _ _ _ _
      cases (c == Value.type "enumerate")
      · wp_walk using q1
        exact ⟨_, rfl, h⟩
      · wp_walk using q1
        exact ⟨_, rfl, h⟩
    · wp_walk using q1
      exact ⟨_, rfl, h⟩
/-- the tuple at a, each item in a new pair with its place -/
def IteT (K : PySem.W.Frag) (a : Addr) : It :=
  ⟨fun i H => ∃ (xs : List L2.V) (x : L2.V), SqT K H a xs ∧ xs[i]? = some x, fun i H v H' => ∃ T x, v = .ref T ∧ H T = none ∧ H' = upd H T (.tup [.int (i : Nat), x]) ∧ ∀ xs, SqT K H a xs → xs[i]? = some x, fun i H => ∃ xs : List L2.V, SqT K H a xs ∧ xs.length = i⟩
theorem turn_enumT {P : Program} {w : World} {K : PySem.W.Frag} {elts : List Expr} {kk : Nat} {tpos : Pos} (a e it : Addr) (hae : a ≠ it) :
    L2.Turn P w K (.Tuple elts kk tpos) (IteT K a) [e, it] e (fun i h => (∃ old, IsEnum h e it ((i : Nat) : Int) old) ∧ h.IsTupleIter it a i ∧ e ≠ it ∧ e ≠ a) where
  mem := by simp
  obj := fun i h st b hb => by
    obtain ⟨⟨old, he⟩, ⟨o, ho, hc, hd⟩, _⟩ := st
    have e' : b = e ∨ b = it := by simpa using hb
    rcases e' with z | z
    · rw [z]; exact ⟨_, he, fun v q => nomatch q⟩
    · rw [z]; exact ⟨o, ho, fun v q => by rw [hd] at q; cases q⟩
  keep := fun i h h' st k => let ⟨⟨old, he⟩, hi, hne⟩ := st; ⟨⟨old, k e (by simp) _ he⟩, hi.at fun o q => k it (by simp) o q, hne⟩
  item := by
    intro X hP hw hK hc i pins s σ H E I hf st hg
    subst hP hw hK
    obtain ⟨⟨old, he⟩, hit, hne, hea⟩ := st
    obtain ⟨xs, x, hq, hx⟩ := hg
    obtain ⟨its, rv, p, hz⟩ := I.tuple hq
    obtain ⟨u, hu, ru⟩ := rv.get hx
    have hel : e < s.heap.objs.size := Heap.lt_size he
    have hil : it < s.heap.objs.size := by obtain ⟨_, q, _⟩ := hit; exact Heap.lt_size q
    have D := Draws.tuple (prog := X.prog) (w := X.w) (A := X.A.in1) (I.ok.hd hc) it a hae its.toArray
    have hlt : i < its.toArray.size := by
      rw [List.size_toArray]
      exact (List.getElem?_eq_some_iff.mp hu).1
    refine wpAny_pyNext_enum_itemD D he ⟨hit, show s.heap.IsTuple a its.toArray from p⟩ hlt hne (by simp [hne, hea]) fun x2 h' tk hx2 ho hst' hT hsz hk => ?_
    have ex2 : x2 = u := by
      have h2 : its.toArray[i]? = some x2 := hx2
      rw [List.getElem?_toArray, hu] at h2
      exact (Option.some.inj h2).symm
    subst ex2
    refine ⟨_, rfl, wpAny_letOwnedTupleGo_enum (s := { s with heap := h', toks := tk + 1 }) ho fun h'' he' sb => ?_⟩
    have hT2 : h''.get? s.heap.objs.size = some { cls := .type "tuple", data := .seq #[.int i tk, x2] } := (sb.2 _ (Nat.ne_of_gt hel)).trans hT
    have new : L2.ObjOk X.prog X.w (upd H s.heap.objs.size (.tup [.int (i : Nat), x])) h'' s.heap.objs.size (.tup [.int (i : Nat), x]) :=
      ⟨by show 2 ≤ sizeLine; decide, [.int i tk, x2], .cons ⟨_, rfl⟩ (.cons ru .nil), ⟨_, hT2, rfl, _, rfl⟩⟩
    have I1 : L2.Inv X pins σ (upd H s.heap.objs.size (.tup [.int (i : Nat), x])) { s with heap := h'', toks := tk + 1 } :=
      I.turnedNew (ch := [e, it]) (fun b ob hb q => (sb.2 b (fun z => hb (by simp [z]))).trans (hk b ob (fun z => hb (by simp [z])) (fun z => hb (by simp [z])) q)) hf (Nat.le_refl _) new
    refine ⟨.ref s.heap.objs.size, _, I1, rfl, ⟨_, x, rfl, I.hok.fresh (Nat.le_refl _), rfl, fun ys hy => by rw [I.tuple_inj hy hq]; exact hx⟩, ⟨⟨x2, ?_⟩, hst'.1.at fun o q => (sb.2 it (Ne.symm hne)).trans q, hne, hea⟩, fun b hb => ?_⟩
    · have e1 : ((i + 1 : Nat) : Int) = (i : Int) + 1 := by omega
      rw [e1]; exact he'
    · have hb' : b < s.heap.objs.size := by
        have e' : b = e ∨ b = it := by simpa using hb
        rcases e' with z | z
        · rw [z]; exact hel
        · rw [z]; exact hil
      rw [upd_ne (Nat.ne_of_lt hb')]
      exact (hf b hb).1
  done := by
    intro X hP hw hK hc i pins s σ H E I hf st hg
    subst hP hw hK
    obtain ⟨⟨old, he⟩, hit, hne, hea⟩ := st
    obtain ⟨xs, hq, hx⟩ := hg
    obtain ⟨its, rv, p, hz⟩ := I.tuple hq
    obtain ⟨f0, f1, f2, f3, f4, f5⟩ := hf it (by simp)
    have hl := rv.length
    have D := Draws.tuple (prog := X.prog) (w := X.w) (A := X.A.in1) (I.ok.hd hc) it a hae its.toArray
    have ei : its.toArray.size = i := by
      rw [List.size_toArray]
      omega
    exact wpAny_pyNext_enum_endD D he ⟨by rw [ei]; exact hit, show s.heap.IsTuple a its.toArray from p⟩ fun h' eb => ⟨rfl, I.turned (t' := s.toks) (fun b o hb q => eb b o hb q) f0 f1 f3 f4 f5⟩
  self := fun A i s Q E st h => let ⟨⟨_, he⟩, _⟩ := st; wpAny_pyIter_enum he h
def iEnumT (K : PySem.W.Frag) (ta : TA) : TI := fun σ H R => ta σ H fun vs H1 => ∃ a xs, vs = [.ref a] ∧ SqT K H1 a xs ∧ R (IteT K a) H1
theorem enumT (K : PySem.W.Frag) {X : Cx} {e : Expr} {ta : TA} {p pos tpos : Pos} {elts : List Expr} {kk : Nat} (hg : Gl X "enumerate") (hm : X.mg "enumerate" = none) (ha : PA X [e] ta) (hK : X.K = K := by rfl) (hs : starEach [e] X.env = [(false, eval e X.env)] := by rfl) :
    PI X (.Tuple elts kk tpos) (.Call (.Name "enumerate" p) [e] [] pos) (iEnumT K ta) := by
  subst hK
  refine ⟨fun pins s σ H R I h => ?_⟩
  refine Call_ (ld_blt I hg hm boot_enumerate (PyProof.Rows.callWith_type1 (thn (ha.run pos pins s σ H _ I h) fun us s1 ⟨vs, H1, I1, r1, q1⟩ => ?_) hs rfl))
  obtain ⟨a, xs, ex, hq, q⟩ := q1
  subst ex
  cases r1 with
  | cons r rr =>
    cases rr
    cases r
    obtain ⟨its, rv, p', hz⟩ := I1.tuple hq
    have hat : s1.heap.IsTuple a its.toArray := p'
    have hal : a < s1.heap.objs.size := by obtain ⟨_, q, _⟩ := hat; exact Heap.lt_size q
    refine callType_new F.called_enumerate (by decide) (F.typeCall_enumerate_1 _) (F.newCall_enumerate_1 _) (fun obj => F.args_object_init_2 obj _) F.entry_enumerate_new
      (meets_enumT a its.toArray) ⟨hat, ?_⟩
    have hz2 : (s1.heap.push { cls := .type "tuple_iterator", data := .fields #[.ref a, .int 0 0] }).objs.size = s1.heap.objs.size + 1 := Heap.size_push ..
    show _ ∧ _
    rw [hz2]
    have he : IsEnum ((s1.heap.push { cls := .type "tuple_iterator", data := .fields #[.ref a, .int 0 0] }).push
        { cls := .type "enumerate", data := .fields #[.none, .bool false, .ref s1.heap.objs.size, rawInt 0, .none, .none] }) (s1.heap.objs.size + 1) s1.heap.objs.size 0 .none := by
      have := Heap.get?_push_size (s1.heap.push { cls := .type "tuple_iterator", data := .fields #[.ref a, .int 0 0] })
        (o := { cls := .type "enumerate", data := .fields #[.none, .bool false, .ref s1.heap.objs.size, rawInt 0, .none, .none] }) rfl
      rw [hz2] at this
      exact this
    refine ⟨⟨_, he, rfl⟩, ?_⟩
    generalize hh : ((s1.heap.push { cls := .type "tuple_iterator", data := .fields #[.ref a, .int 0 0] }).push { cls := .type "enumerate", data := .fields #[.none, .bool false, .ref s1.heap.objs.size, rawInt 0, .none, .none] }) = h' at he ⊢
    have hit : h'.IsTupleIter s1.heap.objs.size a 0 := by rw [← hh]; exact ⟨_, Heap.get?_push_of_some _ (Heap.get?_push_size _ rfl), rfl, rfl⟩
    have hk : ∀ b o, s1.heap.get? b = some o → h'.get? b = some o := fun b o x => by rw [← hh]; exact Heap.get?_push_of_some _ (Heap.get?_push_of_some _ x)
    refine wpAny_pyIter_enum (s := { s1 with heap := h' }) he ?_
    have I2 : L2.Inv X pins σ H1 { s1 with heap := h' } := I1.kept (t' := s1.toks) hk
    refine ⟨s1.heap.objs.size + 1, [s1.heap.objs.size + 1, s1.heap.objs.size], _, _, H1, rfl, I2, turn_enumT a (s1.heap.objs.size + 1) s1.heap.objs.size (Nat.ne_of_lt hal), ⟨⟨.none, he⟩, hit, Nat.succ_ne_self _, Nat.ne_of_gt (Nat.lt_succ_of_lt hal)⟩, fun b hb => ?_, q⟩
    have e' : b = s1.heap.objs.size + 1 ∨ b = s1.heap.objs.size := by simpa using hb
    have hle : s1.heap.objs.size ≤ b := by
      rcases e' with z | z
      · rw [z]; exact Nat.le_add_right _ _
      · rw [z]; exact Nat.le_refl _
    exact I1.fpOk hle (I1.hok.fresh hle)
end Gk
end

section
set_option Elab.async false
set_option linter.all false
set_option maxRecDepth 100000
set_option maxHeartbeats 4000000
/-! Gk: data on the heap as typed data: the order of pairs of rows, min of triples. -/
namespace Gk
open PySem PySem.W PyProof.Rows L2
abbrev DP := Tup Int × Tup Int
def dg (g : G) : DP := (⟨g.1⟩, ⟨g.2⟩)
theorem dg_inj {g h : G} (e : dg g = dg h) : g = h := by
  obtain ⟨a, b⟩ := g
  obtain ⟨c, d⟩ := h
  have e1 := congrArg (fun x : DP => x.1.items) e
  have e2 := congrArg (fun x : DP => x.2.items) e
  exact Prod.ext e1 e2
theorem listLt_eq : ∀ a b : List Int, listLt a b = ltL a b
  | [], [] => rfl
  | [], _ :: _ => rfl
  | _ :: _, [] => rfl
  | x :: xs, y :: ys => by
    show (if x = y then listLt xs ys else DatumOrd.lt x y) = (if x = y then ltL xs ys else decide (x < y))
    rw [listLt_eq xs ys]
    rfl
theorem lt_dg (g h : G) : DatumOrd.lt (dg g) (dg h) = ltG g h := by
  show (if (dg g).1 = (dg h).1 then listLt g.2 h.2 else listLt g.1 h.1) = (if g.1 = h.1 then ltL g.2 h.2 else ltL g.1 h.1)
  rw [listLt_eq, listLt_eq]
  by_cases e : g.1 = h.1
  · rw [if_pos e, if_pos (show (dg g).1 = (dg h).1 from congrArg Tup.mk e)]
  · rw [if_neg e, if_neg (show ¬ (dg g).1 = (dg h).1 from fun z => e (congrArg Tup.items z))]
/-! ### triples -/
structure Tri where
  p : DP
  c : Int
  d : Int
  deriving DecidableEq
instance : Datum Tri where
  toD t := .tuple [Datum.toD t.p, .int t.c, .int t.d]
  plain t := by simp only [PyData.plain, PyData.plainAll, Datum.plain, Bool.and_self, Bool.and_true]
  eqv t u := by
    obtain ⟨p, c, d⟩ := t
    obtain ⟨p', c', d'⟩ := u
    simp only [PyData.eqv, PyData.eqvAll]
    rw [Datum.eqv, Bool.and_true, beq_decide, beq_decide, ← Bool.decide_and, ← Bool.decide_and]
    exact decide_eq_decide.mpr ⟨fun ⟨h1, h2, h3⟩ => by rw [h1, h2, h3], fun e => by cases e; exact ⟨rfl, rfl, rfl⟩⟩
  depth := Datum.depth DP + 1
  depth_le t := by
    simp only [PyData.depth, PyData.depthAll]
    have := Datum.depth_le t.p
    omega
instance : DatumOrd Tri where
  lt t u := if t.p = u.p then (if t.c = u.c then decide (t.d < u.d) else decide (t.c < u.c)) else DatumOrd.lt t.p u.p
  alike t u := by
    show PySem.W.alike (.tuple [_, _, _]) (.tuple [_, _, _]) = true
    simp only [PySem.W.alike, alikeAll, DatumOrd.alike, Bool.and_self, Bool.true_and]
  notNone a := fun e => by cases e
  lt_eq t u := by
    refine (dataLt_tuple _ _).trans ?_
    by_cases h : t.p = u.p
    · rw [if_pos h, dataLt_all_yes (DatumOrd.alike t.p u.p) (by rw [Datum.eqv, decide_eq_true_eq]; exact h)]
      by_cases h2 : t.c = u.c
      · rw [if_pos h2, dataLt_all_yes (show PySem.W.alike (.int t.c) (.int u.c) = true from DatumOrd.alike t.c u.c) (by show PyData.eqv (Datum.toD t.c) (Datum.toD u.c) = true; rw [Datum.eqv, decide_eq_true_eq]; exact h2)]
        by_cases h3 : t.d = u.d
        · rw [dataLt_all_yes (show PySem.W.alike (.int t.d) (.int u.d) = true from DatumOrd.alike t.d u.d) (by show PyData.eqv (Datum.toD t.d) (Datum.toD u.d) = true; rw [Datum.eqv, decide_eq_true_eq]; exact h3), lex_irrefl, h3]
          simp
        · rw [dataLt_all_no (show PySem.W.alike (.int t.d) (.int u.d) = true from DatumOrd.alike t.d u.d) (by show PyData.eqv (Datum.toD t.d) (Datum.toD u.d) = false; rw [Datum.eqv, decide_eq_false_iff_not]; exact h3)]
          exact DatumOrd.lt_eq t.d u.d
      · rw [if_neg h2, dataLt_all_no (show PySem.W.alike (.int t.c) (.int u.c) = true from DatumOrd.alike t.c u.c) (by show PyData.eqv (Datum.toD t.c) (Datum.toD u.c) = false; rw [Datum.eqv, decide_eq_false_iff_not]; exact h2)]
        exact DatumOrd.lt_eq t.c u.c
    · rw [if_neg h, dataLt_all_no (DatumOrd.alike t.p u.p) (by rw [Datum.eqv, decide_eq_false_iff_not]; exact h)]
      exact DatumOrd.lt_eq t.p u.p
theorem minTri (gs : List Tri) (f : Tri → G) (hf : ∀ t, t.p = dg (f t)) : ∀ (x : Tri), f (gs.foldl (fun a y => if DatumOrd.lt y a = true then y else a) x) = (gs.map f).foldl (fun a y => if ltG y a = true then y else a) (f x) := by
  induction gs with
  | nil => intro x; rfl
  | cons y ys ih =>
    intro x
    rw [List.foldl_cons, List.map_cons, List.foldl_cons, ih]
    congr 1
    have e : DatumOrd.lt y x = if y.p = x.p then (if y.c = x.c then decide (y.d < x.d) else decide (y.c < x.c)) else DatumOrd.lt y.p x.p := rfl
    by_cases h : y.p = x.p
    · have h2 : f y = f x := dg_inj (by rw [← hf, ← hf, h])
      by_cases h3 : DatumOrd.lt y x = true
      · rw [if_pos h3, h2]
        split <;> rfl
      · rw [if_neg h3, h2]
        split <;> rfl
    · rw [e, if_neg h, hf y, hf x, lt_dg]
      by_cases h3 : ltG (f y) (f x) = true
      · rw [if_pos h3, if_pos h3]
      · rw [if_neg h3, if_neg h3]
/-! ### what the abstract heap tells of the heap -/
section
variable {X : Cx} {pins : List (Addr × Obj)} {σ : L2.St} {H : Hp} {s : Shared} {v : L2.V} {u : Value}
theorem holdsRow {K : Frag} {l : List Int} (I : L2.Inv X pins σ H s) (h : Row K l v H) (r : RelV v u) : Holds s.heap u (Tup.mk l) := by
  obtain ⟨a, ob, rfl, ha, _⟩ := h
  cases r
  obtain ⟨e1, _, its, rv, p⟩ := (show L2.ObjOk X.prog X.w H s.heap a (.frz ob (.tup (nums l))) from I.hok _ _ ha)
  exact holds_tup (show s.heap.IsTuple a its.toArray from p) (HoldAll.of_ints rv.ints)
theorem holdsG {g : G} (I : L2.Inv X pins σ H s) (h : IsG X.K g v H) (r : RelV v u) : Holds s.heap u (dg g) := by
  obtain ⟨a, x, o, rfl, ha, hx, ho⟩ := h
  cases r
  obtain ⟨its, rv, p, _⟩ := I.tuple ha
  obtain ⟨u1, u2, rfl, r1, r2⟩ := vals2 rv
  exact holds_pair (show s.heap.IsTuple a #[u1, u2] from p) (holdsRow I hx r1) (holdsRow I ho r2)
theorem holds_inj {α : Type} [DecidableEq α] [DatumOrd α] {x y : α} {h : Heap} (a : Holds h u x) (b : Holds h u y) : x = y := by
  obtain ⟨as, r1⟩ := a
  obtain ⟨bs, r2⟩ := b
  have e := alike_unique _ _ _ _ _ (DatumOrd.alike x y) r1 r2
  have e2 : PyData.eqv (Datum.toD x) (Datum.toD y) = true := by
    rw [e, Datum.eqv]
    exact decide_eq_true rfl
  rw [Datum.eqv] at e2
  exact of_decide_eq_true e2
/-- a < b, pairs of rows -/
def rLtP (K : Frag) : R2 := fun x y H Q => ∃ g h, IsG K g x H ∧ IsG K h y H ∧ Q (.bl (ltG g h)) H
theorem ltP (K : Frag) (hu : X.A.units + 64 < cLine) (hK : X.K = K := by rfl) : OpR X (compareOp .Lt) (rLtP K) := by
  subst hK
  intro pins s σ H x y v u Q I rx ry h
  obtain ⟨g, h, hg, hh, q⟩ := h
  refine lt_datum (holdsG I hg rx) (holdsG I hh ry) (Nat.lt_of_le_of_lt (Nat.add_le_add_left (by decide : Datum.depth DP ≤ 64) _) hu) ?_
  exact ⟨.bl _, H, I, by rw [lt_dg]; rfl, q⟩
/-- a triple: a pair of rows and two ints -/
def IsTri (K : Frag) (t : G × Int × Int) (v : L2.V) (H : Hp) : Prop := ∃ a p, v = .ref a ∧ SqT K H a [p, .int t.2.1, .int t.2.2] ∧ IsG K t.1 p H
theorem IsTri.kt {K : Frag} {H H' : Hp} {t : G × Int × Int} {v : L2.V} (h : IsTri K t v H) (e : KT H H') : IsTri K t v H' := by
  obtain ⟨a, p, q, h, h1⟩ := h
  exact ⟨a, p, q, e.t h, h1.kt e⟩
def dt (t : G × Int × Int) : Tri := ⟨dg t.1, t.2.1, t.2.2⟩
theorem holdsTri {t : G × Int × Int} (I : L2.Inv X pins σ H s) (h : IsTri X.K t v H) (r : RelV v u) : Holds s.heap u (dt t) := by
  obtain ⟨a, p, rfl, ha, hp⟩ := h
  cases r
  obtain ⟨its, rv, pl, _⟩ := I.tuple ha
  obtain ⟨u1, u2, u3, rfl, r1, r2, r3⟩ : ∃ u1 u2 u3, its = [u1, u2, u3] ∧ RelV p u1 ∧ RelV (.int t.2.1) u2 ∧ RelV (.int t.2.2) u3 := by
    cases rv with
    | cons a1 r1 =>
      cases r1 with
      | cons a2 r2 =>
        cases r2 with
        | cons a3 r3 =>
          cases r3
          exact ⟨_, _, _, rfl, a1, a2, a3⟩
  obtain ⟨t2, rfl⟩ := r2
  obtain ⟨t3, rfl⟩ := r3
  obtain ⟨as, hr⟩ := holdsG I hp r1
  obtain ⟨ob, h1, h2, n, h3⟩ := (show s.heap.IsTuple a #[u1, .int t.2.1 t2, .int t.2.2 t3] from pl)
  exact ⟨_, .tuple h1 h2 h3 (.cons hr (.cons (.int _ _) (.cons (.int _ _) .nil)))⟩
theorem holdAll_by {α : Type} [DecidableEq α] [Datum α] {h : Heap} : ∀ {us : List Value} {xs : List α}, us.length = xs.length → (∀ (i : Nat) (u : Value) (x : α), us[i]? = some u → xs[i]? = some x → Holds h u x) → HoldAll h us xs
  | [], [], _, _ => HoldAll.nil
  | [], _ :: _, e, _ => nomatch e
  | _ :: _, [], e, _ => nomatch e
  | u :: us, x :: xs, e, f => HoldAll.cons (f 0 u x rfl rfl) (holdAll_by (by simpa using e) fun i u' x' h1 h2 => f (i + 1) u' x' (by simpa using h1) (by simpa using h2))
/-- min of a list of triples: one of them, its pair of rows the least -/
def rMinT (K : Frag) : List L2.V → Hp → VK → Prop := fun xs H Q => ∃ l vs ts, xs = [.ref l] ∧ SqL K H l vs ∧ vs.length = ts.length ∧ ts ≠ [] ∧ (∀ (i : Nat) v t, vs[i]? = some v → ts[i]? = some t → IsTri K t v H) ∧
  ∀ v t, t.1 = least (ts.map (·.1)) → t ∈ ts → IsTri K t v H → Q v H
theorem minT (K : Frag) (hc : X.calm = true) (hu : X.A.units + 64 < cLine) (hK : X.K = K := by rfl) : CallR X (.builtin "min") (rMinT K) := by
  subst hK
  intro pins s σ H xs us Q I r h
  obtain ⟨l, vs, ts, rfl, hl, hlen, hne, hi, q⟩ := h
  obtain ⟨u, rfl, ru⟩ := vals1 r
  cases ru
  obtain ⟨its, rv, pl, hz⟩ := I.list hl
  match ts, hne with
  | t :: ts, _ =>
    have hold : ∀ (i : Nat) (u : Value) (t' : G × Int × Int), its[i]? = some u → (t :: ts)[i]? = some t' → Holds s.heap u (dt t') := fun i u t' h1 h2 => by
      have hv : i < vs.length := by
        rw [hlen]
        exact (List.getElem?_eq_some_iff.mp h2).1
      obtain ⟨u', e1, e2⟩ := rv.get (List.getElem?_eq_getElem hv)
      rw [h1] at e1
      cases e1
      exact holdsTri I (hi i _ t' (List.getElem?_eq_getElem hv) h2) e2
    have hall : HoldAll s.heap its.toArray.toList (dt t :: ts.map dt) := by
      show HoldAll s.heap its ((t :: ts).map dt)
      refine holdAll_by (by rw [← rv.length, hlen, List.length_map]) fun i u x h1 h2 => ?_
      rw [List.getElem?_map] at h2
      cases e : (t :: ts)[i]? with
      | none => rw [e] at h2; cases h2
      | some t' =>
        rw [e] at h2
        cases h2
        exact hold i u t' h1 e
    refine min_list_datum (x := dt t) (xs := ts.map dt) (I.ok.hd hc) pl.isList hall (Nat.lt_of_le_of_lt (by have : Datum.depth Tri ≤ 63 := by decide
                                                                                                            omega) hu) fun i v h' tk hv hm hk => ?_
    have hv' : its[i]? = some v := by rw [List.getElem?_toArray] at hv; exact hv
    have hit : i < (t :: ts).length := by
      rw [← hlen, rv.length]
      exact (List.getElem?_eq_some_iff.mp hv').1
    have et := List.getElem?_eq_getElem hit
    have hvs := List.getElem?_eq_getElem (l := vs) (i := i) (by rw [hlen]; exact hit)
    obtain ⟨u', e1, e2⟩ := rv.get hvs
    rw [hv'] at e1
    cases e1
    have e3 : dt (t :: ts)[i] = minOf (dt t) (ts.map dt) := holds_inj (Holds.keeps hk (hold i v _ hv' et)) hm
    have e4 : (t :: ts)[i].1 = least ((t :: ts).map (·.1)) := by
      have e5 := minTri (ts.map dt) (fun x => (x.p.1.items, x.p.2.items)) (fun x => rfl) (dt t)
      have e6 : (fun x : Tri => ((x.p.1.items, x.p.2.items) : G)) (minOf (dt t) (ts.map dt)) = (t :: ts)[i].1 := by
        rw [← e3]
        rfl
      rw [← e6]
      refine e5.trans ?_
      rw [List.map_map]
      rfl
    exact ⟨_, H, I.kept hk, e2, q _ _ e4 (List.getElem_mem hit) (hi i _ _ hvs et)⟩
end
theorem hu64 {k : Nat} {A : Around} (hr : Room k A) : A.units + 64 < cLine := hr.units
end Gk
end

section
set_option Elab.async false
set_option linter.all false
set_option maxRecDepth 100000
set_option maxHeartbeats 4000000
namespace Gk
open PySem L2
section
variable {P : Program} {w : World} {K : PySem.W.Frag} {mg : Str → Option Value} {base : Heap}
/-! ### lists of things, thing by thing -/
def EachR {α : Type} (R : α → V → Hp → Prop) (xs : List α) (l : List V) (H : Hp) : Prop := l.length = xs.length ∧ ∀ (i : Nat) (v : V) (x : α), l[i]? = some v → xs[i]? = some x → R x v H
section
variable {α : Type} {R : α → V → Hp → Prop} {xs ys : List α} {l m : List V} {H H' : Hp}
theorem EachR.nil : EachR R [] [] H := ⟨rfl, fun i v x h => by simp at h⟩
theorem EachR.kt (h : EachR R xs l H) (mono : ∀ x v, R x v H → R x v H') : EachR R xs l H' := ⟨h.1, fun i v x a b => mono x v (h.2 i v x a b)⟩
theorem EachR.append (h : EachR R xs l H) (h2 : EachR R ys m H) : EachR R (xs ++ ys) (l ++ m) H := by
  refine ⟨by rw [List.length_append, List.length_append, h.1, h2.1], fun i v x a b => ?_⟩
  by_cases hlt : i < l.length
  · rw [List.getElem?_append_left hlt] at a
    rw [List.getElem?_append_left (by rw [← h.1]; exact hlt)] at b
    exact h.2 i v x a b
  · rw [List.getElem?_append_right (by omega)] at a
    rw [List.getElem?_append_right (by rw [← h.1]; omega), ← h.1] at b
    exact h2.2 _ v x a b
theorem EachR.one {x : α} {v : V} (h : R x v H) : EachR R [x] [v] H := ⟨rfl, fun i v' x' a b => by
  match i, a, b with
  | 0, a, b =>
    cases a
    cases b
    exact h⟩
theorem EachR.snoc {x : α} {v : V} (h : EachR R xs l H) (hv : R x v H) : EachR R (xs ++ [x]) (l ++ [v]) H := h.append (.one hv)
theorem EachR.at (h : EachR R xs l H) {i : Nat} {v : V} (a : l[i]? = some v) : ∃ x, xs[i]? = some x ∧ R x v H := by
  have hi : i < xs.length := by
    rw [← h.1]
    exact (List.getElem?_eq_some_iff.mp a).1
  exact ⟨_, List.getElem?_eq_getElem hi, h.2 i v _ a (List.getElem?_eq_getElem hi)⟩
theorem EachR.at' (h : EachR R xs l H) {i : Nat} {x : α} (a : xs[i]? = some x) : ∃ v, l[i]? = some v ∧ R x v H := by
  have hi : i < l.length := by
    rw [h.1]
    exact (List.getElem?_eq_some_iff.mp a).1
  exact ⟨_, List.getElem?_eq_getElem hi, h.2 i _ x (List.getElem?_eq_getElem hi) a⟩
theorem EachR.by_range {n : Nat} {f : Nat → α} (hl : l.length = n) (h : ∀ (i : Nat) (v : V), l[i]? = some v → R (f i) v H) : EachR R ((List.range n).map f) l H := by
  refine ⟨by simp [hl], fun i v x a b => ?_⟩
  have hi : i < n := by
    rw [← hl]
    exact (List.getElem?_eq_some_iff.mp a).1
  rw [List.getElem?_map, List.getElem?_range hi] at b
  cases b
  exact h i v a
theorem EachR.by_map {β : Type} {zs : List β} {f : β → α} (hl : l.length = zs.length) (h : ∀ (i : Nat) (v : V) (z : β), l[i]? = some v → zs[i]? = some z → R (f z) v H) : EachR R (zs.map f) l H := by
  refine ⟨by simp [hl], fun i v x a b => ?_⟩
  rw [List.getElem?_map] at b
  cases e : zs[i]? with
  | none => rw [e] at b; cases b
  | some z =>
    rw [e] at b
    cases b
    exact h i v z a e
end
/-- (move, pair of rows or None) -/
def IsChO (K : PySem.W.Frag) (o : Option G) (v : V) (H : Hp) : Prop := ∃ a ob m p, v = .ref a ∧ H a = some (.frz ob (.tup [m, p])) ∧ IsO K o p H
/-- (move, pair of rows) -/
def IsCh (K : PySem.W.Frag) (g : G) (v : V) (H : Hp) : Prop := ∃ a ob m p, v = .ref a ∧ H a = some (.frz ob (.tup [m, p])) ∧ IsG K g p H
theorem IsChO.kt {K : PySem.W.Frag} {o : Option G} {v : V} {H H' : Hp} (h : IsChO K o v H) (e : KT H H') : IsChO K o v H' := by
  obtain ⟨a, ob, m, p, q, h, h1⟩ := h
  exact ⟨a, ob, m, p, q, e.2 _ _ _ h, h1.kt e⟩
theorem IsCh.kt {K : PySem.W.Frag} {g : G} {v : V} {H H' : Hp} (h : IsCh K g v H) (e : KT H H') : IsCh K g v H' := by
  obtain ⟨a, ob, m, p, q, h, h1⟩ := h
  exact ⟨a, ob, m, p, q, e.2 _ _ _ h, h1.kt e⟩
/-- what a call's list ends as -/
def ToList {α : Type} (R : α → V → Hp → Prop) (xs : List α) (H : Hp) (Q : VK) : Prop := ∀ (p : Addr) (H' : Hp) (l : List V), Same H H' → H p = none → H' p = some (.lst l) → EachR R xs l H' → Q (.ref p) H'
/-- all but what stands at D stays -/
def SameBut (D : Addr) (H H' : Hp) : Prop := ∀ b o, b ≠ D → H b = some o → H' b = some o
theorem SameBut.refl (D : Addr) (H : Hp) : SameBut D H H := fun _ _ _ h => h
theorem SameBut.trans {D : Addr} {H H1 H2 : Hp} (a : SameBut D H H1) (b : SameBut D H1 H2) : SameBut D H H2 := fun c o n h => b c o n (a c o n h)
theorem same_but {H H' : Hp} (e : Same H H') (D : Addr) : SameBut D H H' := fun b o _ h => e b o h
theorem SameBut.upd {D : Addr} {H H' : Hp} {o : HO} (e : SameBut D H H') : SameBut D H (upd H' D o) := fun b u n h => (upd_ne n).trans (e b u n h)
theorem SameBut.kt {D : Addr} {H H' : Hp} {l : List V} (e : SameBut D H H') (h : H D = some (.lst l)) : KT H H' :=
  ⟨fun b xs hb => e b _ (ne_of hb h (by intro z; cases z)) hb, fun b o u hb => e b _ (fun z => by rw [z, h] at hb; cases hb) hb⟩
theorem SameBut.same {D : Addr} {H0 H H' : Hp} (e : SameBut D H H') (s : Same H0 H) (h : H0 D = none) : Same H0 H' := fun b o hb => e b o (ne_of_none hb h) (s b o hb)
theorem SameBut.seqL {K : PySem.W.Frag} {D a : Addr} {H H' : Hp} {xs : List V} (e : SameBut D H H') (h : H a = some (.lst xs)) (n : a ≠ D) : SqL K H' a xs := SqL.of (e a _ n h)
end
end Gk
end

section
set_option Elab.async false
set_option linter.all false
set_option maxRecDepth 100000
set_option maxHeartbeats 4000000
/-! Gk: dicts whose keys are pairs of rows. -/
namespace Gk
open PySem PySem.Spec PyProof.Rows L2
def rowKey (l : List Int) : NestedKey := .tup (l.map .num)
def keyOf (g : G) : NestedKey := .tup [rowKey g.1, rowKey g.2]
theorem map_num_inj : ∀ {a b : List Int}, a.map NestedKey.num = b.map NestedKey.num → a = b
  | [], [], _ => rfl
  | [], _ :: _, h => by simp at h
  | _ :: _, [], h => by simp at h
  | x :: xs, y :: ys, h => by
    rw [List.map_cons, List.map_cons] at h
    injection h with h1 h2
    injection h1 with h1
    rw [h1, map_num_inj h2]
theorem keyOf_inj {g h : G} (e : keyOf g = keyOf h) : g = h := by
  unfold keyOf rowKey at e
  injection e with e
  injection e with e1 e2
  injection e1 with e1
  injection e2 with e2 _
  injection e2 with e2
  exact Prod.ext (map_num_inj e1) (map_num_inj e2)
theorem rowDepth (l : List Int) : NestedKey.depthAll (l.map .num) = 0 := by
  induction l with
  | nil => rw [List.map_nil, NestedKey.depthAll]
  | cons x r ih =>
    rw [List.map_cons, NestedKey.depthAll, ih, NestedKey.depth]
    rfl
theorem keyDepth (g : G) : (keyOf g).depth ≤ 8 := by
  unfold keyOf rowKey
  simp only [NestedKey.depth, NestedKey.depthAll, rowDepth]
  decide
section
variable {X : Cx} {pins : List (Addr × Obj)} {σ : L2.St} {H : Hp} {s : Shared} {v : L2.V} {u : Value}
theorem nested_nums {h : Heap} : ∀ {l : List Int} {its : List Value}, Vals (nums l) its → NestedAll h (l.map .num) its
  | [], _, r => by
    cases r
    exact .nil
  | x :: xs, _, r => by
    cases r with
    | cons r1 r2 =>
      obtain ⟨t, rfl⟩ := r1
      exact .cons (.int x t) (nested_nums r2)
theorem nestedRow {K : PySem.W.Frag} {l : List Int} (I : L2.Inv X pins σ H s) (h : Row K l v H) (r : RelV v u) : NestedIs s.heap (rowKey l) u := by
  obtain ⟨a, ob, rfl, ha, _⟩ := h
  cases r
  obtain ⟨e1, _, its, rv, o, h1, h2, n, h3⟩ := (show L2.ObjOk X.prog X.w H s.heap a (.frz ob (.tup (nums l))) from I.hok _ _ ha)
  exact .tup h1 h2 h3 (nested_nums rv)
theorem nestedG {g : G} {b : Addr} (I : L2.Inv X pins σ H s) (h : IsG X.K g (.ref b) H) : (nestedKind X.prog X.w).is s.heap (keyOf g) b := by
  obtain ⟨a, x, o, e, ha, hx, ho⟩ := h
  cases e
  obtain ⟨its, rv, ⟨ob, h1, h2, n, h3⟩, _⟩ := I.tuple ha
  obtain ⟨u1, u2, rfl, r1, r2⟩ := vals2 rv
  exact ⟨.tup h1 h2 h3 (.cons (nestedRow I hx r1) (.cons (nestedRow I ho r2) .nil)), keyDepth g⟩
end
/-- the dict at a, its entries: key, the key's address, value -/
abbrev Ents := List (G × Addr × L2.V)
def EntR (p : G × Addr × L2.V) (q : NestedKey × Addr × Value) : Prop := q.1 = keyOf p.1 ∧ q.2.1 = p.2.1 ∧ RelV p.2.2 q.2.2
def dnPhi (P : Program) (w : World) (a : Addr) (xs : Ents) (h : Heap) : Prop := xs.length ≤ sizeLine ∧ (a == sysModules) = false ∧ ∃ vs : List (NestedKey × Addr × Value), Paired EntR xs vs ∧
  ∃ o es ep, h.get? a = some o ∧ o.ExactDict ∧ o.data = .dict es ep ∧ es.toList = vs.map (entryOfKey (nestedKind P w)) ∧ (vs.map (·.1)).Nodup
def DNo (P : Program) (w : World) (a : Addr) (xs : Ents) : HO := .ext (dnPhi P w a xs)
/-- .. and each key stands at its address -/
def IsDN (P : Program) (w : World) (K : PySem.W.Frag) (H : Hp) (a : Addr) (xs : Ents) : Prop := H a = some (DNo P w a xs) ∧ ∀ e ∈ xs, IsG K e.1 (.ref e.2.1) H
theorem dn_ok {P : Program} {w : World} {H : Hp} {h : Heap} {a : Addr} {xs : Ents} (p : dnPhi P w a xs h) : L2.ObjOk P w H h a (DNo P w a xs) := by
  obtain ⟨z, hd, vs, r, o, es, ep, ho, rest⟩ := id p
  refine ⟨p, ⟨o, ho⟩, fun h1 h2 q st => ?_⟩
  obtain ⟨z, hd, vs, r, o, es, ep, ho, rest⟩ := q
  exact ⟨z, hd, vs, r, o, es, ep, st _ ho, rest⟩
theorem ents_find {xs : Ents} {vs : List (NestedKey × Addr × Value)} (r : Paired EntR xs vs) (g : G) : (atKey vs (keyOf g)).isSome = decide (g ∈ xs.map (·.1)) := by
  induction r with
  | nil => simp [atKey]
  | @cons p q ps qs h t ih =>
    obtain ⟨e1, e2, e3⟩ := h
    by_cases e : p.1 = g
    · have : q.1 = keyOf g := by rw [e1, e]
      simp [atKey, this, e]
    · have n1 : ¬ q.1 = keyOf g := fun z => e (keyOf_inj (e1.symm.trans z))
      have n2 : ¬ g = p.1 := fun z => e z.symm
      have e4 : atKey (q :: qs) (keyOf g) = atKey qs (keyOf g) := by simp [atKey, n1]
      rw [e4, ih]
      simp [n2]
theorem ents_keys {xs : Ents} {vs : List (NestedKey × Addr × Value)} (r : Paired EntR xs vs) : vs.map (·.1) = (xs.map (·.1)).map keyOf := by
  induction r with
  | nil => rfl
  | @cons p q ps qs h t ih =>
    rw [List.map_cons, List.map_cons, List.map_cons, h.1, ih]
theorem ents_addrs {xs : Ents} {vs : List (NestedKey × Addr × Value)} (r : Paired EntR xs vs) : vs.map (fun x => x.2.1) = xs.map (fun x => x.2.1) := by
  induction r with
  | nil => rfl
  | @cons p q ps qs h t ih =>
    rw [List.map_cons, List.map_cons, h.2.1, ih]
theorem ents_snoc {xs : Ents} {vs : List (NestedKey × Addr × Value)} {p : G × Addr × L2.V} {q : NestedKey × Addr × Value} (r : Paired EntR xs vs) (h : EntR p q) : Paired EntR (xs ++ [p]) (vs ++ [q]) := by
  induction r with
  | nil => exact .cons h .nil
  | cons h' t ih => exact .cons h' ih
section
variable {X : Cx} {pins : List (Addr × Obj)} {σ : L2.St} {H : Hp} {s : Shared} {a : Addr} {xs : Ents}
theorem dn_get (I : L2.Inv X pins σ H s) (h : IsDN X.prog X.w X.K H a xs) : xs.length ≤ sizeLine ∧ (a == sysModules) = false ∧ ∃ vs, Paired EntR xs vs ∧ s.heap.DictOfH (nestedKind X.prog X.w) a vs := by
  obtain ⟨⟨z, hd, vs, r, o, es, ep, h1, h2, h3, h4, h5⟩, _⟩ := (show L2.ObjOk X.prog X.w H s.heap a (DNo X.prog X.w a xs) from I.hok _ _ h.1)
  refine ⟨z, hd, vs, r, o, es, ep, h1, h2, h3, h4, fun x hx => ?_, h5⟩
  have all : ∀ {l : Ents} {m : List (NestedKey × Addr × Value)}, Paired EntR l m → (∀ e ∈ l, IsG X.K e.1 (.ref e.2.1) H) → ∀ x ∈ m, (nestedKind X.prog X.w).is s.heap x.1 x.2.1 := by
    intro l m q
    induction q with
    | nil => intro _ x hx; exact nomatch hx
    | @cons p q ps qs hq t ih =>
      intro hk x hx
      rcases List.mem_cons.mp hx with e | hx
      · subst e
        rw [hq.1, hq.2.1]
        exact nestedG I (hk p List.mem_cons_self)
      · exact ih (fun e he => hk e (List.mem_cons_of_mem _ he)) x hx
  exact all r h.2 x hx
theorem dn_put {P : Program} {w : World} {h' : Heap} {vs : List (NestedKey × Addr × Value)} {g : G} {b : Addr} {v : L2.V} {u : Value} (z : xs.length < sizeLine) (hd : (a == sysModules) = false) (r : Paired EntR xs vs) (rv : RelV v u)
    (dd : h'.DictOfH (nestedKind P w) a (vs ++ [(keyOf g, b, u)])) : dnPhi P w a (xs ++ [(g, b, v)]) h' := by
  obtain ⟨o, es, ep, h1, h2, h3, h4, _, h5⟩ := dd
  exact ⟨by rw [List.length_append]; exact z, hd, _, ents_snoc r ⟨rfl, rfl, rv⟩, o, es, ep, h1, h2, h3, h4, h5⟩
/-- k not in d -/
def rNinDN (P : Program) (w : World) (K : PySem.W.Frag) : R2 := fun x y H Q => ∃ d xs g b, x = .ref b ∧ y = .ref d ∧ IsDN P w K H d xs ∧ IsG K g (.ref b) H ∧ Q (.bl (!decide (g ∈ xs.map (·.1)))) H
theorem ninDN (hu : X.A.units + 64 < cLine) : OpR X (compareOp .NotIn) (rNinDN X.prog X.w X.K) := by
  intro pins s σ H x y v u Q I rx ry h
  obtain ⟨d, xs, g, b, rfl, rfl, hd, hg, q⟩ := h
  cases rx
  cases ry
  obtain ⟨z, hs, vs, r, dd⟩ := dn_get I hd
  have hroom : (nestedKind X.prog X.w).room X.A.in1 := by
    show X.A.units + 1 + 8 < cLine
    omega
  show wpAny _ _ (do return Value.bool (!(← contains (Value.ref d) (Value.ref b)))) _ _ s
  refine wpAny_bind (wpAny_contains_heap hroom (nestedG I hg) hs dd (wpAny_pure ?_))
  rw [ents_find r]
  exact ⟨.bl _, H, I.tok _, rfl, q⟩
/-- d[k] = v, a new key -/
def rPutDN (P : Program) (w : World) (K : PySem.W.Frag) : TSet := fun o i v H Q => ∃ d xs g b, i = .ref b ∧ o = .ref d ∧ IsDN P w K H d xs ∧ IsG K g (.ref b) H ∧ g ∉ xs.map (·.1) ∧ xs.length < sizeLine ∧ Q (upd H d (DNo P w d (xs ++ [(g, b, v)])))
theorem putDN (hu : X.A.units + 64 < cLine) : PSet X (rPutDN X.prog X.w X.K) := by
  intro pins s σ H o i v ov iv u Q I ro ri rv h
  obtain ⟨d, xs, g, b, rfl, rfl, hd, hg, hn, hz, q⟩ := h
  cases ro
  cases ri
  obtain ⟨z, hs, vs, r, dd⟩ := dn_get I hd
  have hroom : (nestedKind X.prog X.w).room X.A.in1 := by
    show X.A.units + 1 + 8 < cLine
    omega
  have e0 : atKey vs (keyOf g) = none := by
    have := ents_find r g
    rw [decide_eq_false hn] at this
    cases e : atKey vs (keyOf g) with
    | none => rfl
    | some _ => rw [e] at this; cases this
  refine wpAny_setItem_heap (hsz := by rw [← Paired.length r]; exact z) hroom (nestedG I hg) dd fun h' dd' hsb => ?_
  rw [storedH_new e0] at dd'
  have he : ∃ q, h'.get? d = some q := let ⟨q, _, _, hq, _⟩ := dd'; ⟨q, hq⟩
  exact ⟨_, d_write I (by rw [hd.1]; exact True.intro) hsb he (dn_ok (dn_put hz hs r rv dd')), q⟩
/-- list(d): the keys in their order -/
def rListDN (P : Program) (w : World) (K : PySem.W.Frag) : List L2.V → Hp → VK → Prop := fun vs H Q => ∃ d xs, vs = [.ref d] ∧ IsDN P w K H d xs ∧ ∀ p, H p = none → Q (.ref p) (upd H p (.lst (xs.map fun e => .ref e.2.1)))
theorem listDN (hc : X.calm = true) : CallR X (.type "list") (rListDN X.prog X.w X.K) := by
  intro pins s σ H vs us Q I r h
  obtain ⟨d, xs, rfl, hd, q⟩ := h
  obtain ⟨u, rfl, rx⟩ := r.one
  cases rx
  obtain ⟨z, hs, ks, pr, o, es, ep, ho, hx, hdt, he, _, hn⟩ := dn_get I hd
  have l1 : es.size = ks.length := by
    have := congrArg List.length he
    rwa [Array.length_toList, List.length_map] at this
  have l2 : xs.length = ks.length := Paired.length pr
  refine PySem.W.kdl_call (kdl_raw hs hx hdt) (I.ok.hd hc) ho (by omega) fun h' tk acc' c' kp e it => ?_
  have ea : acc'.toList = ks.map fun x => Value.ref x.2.1 := by
    have hl : acc'.toList.length = ks.length := by rw [Array.length_toList, it.1]; exact l1
    apply List.ext_getElem?
    intro j
    rw [List.getElem?_map]
    cases hj : acc'.toList[j]? with
    | none =>
      have h1 := List.getElem?_eq_none_iff.mp hj
      rw [List.getElem?_eq_none (by omega)]
      rfl
    | some v =>
      obtain ⟨en, hen, hv⟩ := it.2 j v (by rw [← Array.getElem?_toList]; exact hj)
      have qe : es.toList[j]? = (ks.map (entryOfKey (nestedKind X.prog X.w)))[j]? := by rw [he]
      rw [Array.getElem?_toList, hen, List.getElem?_map] at qe
      cases hb : ks[j]? with
      | none =>
        rw [hb] at qe
        cases qe
      | some b =>
        rw [hb] at qe
        have e2 : en = entryOfKey (nestedKind X.prog X.w) b := Option.some.inj qe
        rw [hv, e2]
        rfl
  have eb : acc'.toList = (xs.map fun x => x.2.1).map Value.ref := by
    rw [ea, ← ents_addrs pr, List.map_map]
    rfl
  have ev : (xs.map fun e => L2.V.ref e.2.1) = (xs.map fun x => x.2.1).map L2.V.ref := by
    rw [List.map_map]
    rfl
  have rv : Vals (xs.map fun e => L2.V.ref e.2.1) acc'.toList := by
    rw [eb, ev]
    exact vals_refs _
  have hz : (xs.map fun e => L2.V.ref e.2.1).length ≤ sizeLine := by
    rw [List.length_map]
    exact z
  refine ⟨.ref s.heap.objs.size, _, I.laid (t' := tk) (o := .lst (xs.map fun e => L2.V.ref e.2.1)) kp (Nat.le_refl _) ?_, rfl, q _ (I.hok.fresh (Nat.le_refl _))⟩
  exact ⟨hz, acc'.toList, c', rv, by rw [Array.toArray_toList]; exact e⟩
/-- {k: v} -/
def tDispN (P : Program) (w : World) (K : PySem.W.Frag) (tk tv : TE) : TE := fun σ H Q => ∀ p, H p = none → tk σ (upd H p (DNo P w p [])) fun x H1 => tv σ H1 fun y H2 =>
  ∃ g b, x = .ref b ∧ H2 p = some (DNo P w p []) ∧ IsG K g (.ref b) H2 ∧ Q (.ref p) (upd H2 p (DNo P w p [(g, b, y)]))
theorem dispN {k e : Expr} {tk tv : TE} {pos : Pos} (hu : X.A.units + 64 < cLine) (hk : PE X k tk) (hv : PE X e tv) : PE X (.Dict [some k] [e] pos) (tDispN X.prog X.w X.K tk tv) := by
  refine ⟨fun pins s σ H Q I q => ?_⟩
  have hn := I.hok.fresh (Nat.le_refl s.heap.objs.size)
  have hsys : (s.heap.objs.size == sysModules) = false := by
    have := I.big
    exact beq_eq_false_iff_ne.mpr (Nat.ne_of_gt this)
  have I1 := I.laid (a := s.heap.objs.size) (o := DNo X.prog X.w s.heap.objs.size []) (h' := s.heap.push { cls := .type "dict", data := .dict #[] }) (t' := s.toks) (fun _ _ q => Heap.get?_push_of_some _ q) (Nat.le_refl _)
    (dn_ok ⟨Nat.zero_le _, hsys, [], .nil, (Heap.DictOfH.new (knd := nestedKind X.prog X.w) s.heap) |> fun ⟨o, es, ep, h1, h2, h3, h4, _, h5⟩ => ⟨o, es, ep, h1, h2, h3, h4, h5⟩⟩)
  rw [arm_eval_Dict, zip_pairTrees [some k] [e] X.env pos rfl rfl, dictDisplay_pairs (pairTrees [some k] [e] X.env pos) (by simp [pairTrees]) (by simp [pairTrees])]
  have hroom : (nestedKind X.prog X.w).room X.A := by
    show X.A.units + 8 < cLine
    omega
  refine wpAny_bind (wpAny_standAt (wpAny_bind (wpAny_subDictH (knd := nestedKind X.prog X.w) (Q := fun d s' => wpAny (model X.prog X.w) X.A (pure (Value.ref d)) (EP X pins σ Q) X.xe s') hroom (by simp [pairTrees]) ?_)))
  refine pairTrees_cons_walk (thn (hk.run pins _ σ _ _ I1 (q _ hn)) fun u s1 ⟨x, H1, I2, rx, q1⟩ => thn (hv.run pins s1 σ H1 _ I2 q1) fun w2 s2 ⟨y, H2, I3, ry, g, b, ex, h2, hg, q2⟩ => pairTrees_nil_walk ?_)
  subst ex
  cases rx
  obtain ⟨z, hd, vs, r, dd⟩ := dn_get I3 (xs := []) ⟨h2, fun e he => nomatch he⟩
  cases r
  refine ⟨[(keyOf g, b, w2)], ⟨rfl, rfl, nestedG I3 hg, trivial⟩, dd, fun h' tk dd' hs => wpAny_pure ?_⟩
  have he : ∃ q, h'.get? s.heap.objs.size = some q := let ⟨q, _, _, hq, _⟩ := dd'; ⟨q, hq⟩
  exact ⟨.ref s.heap.objs.size, _, (d_write (t' := tk) I3 (by rw [h2]; exact True.intro) hs he (dn_ok (dn_put (xs := []) (by decide) hsys .nil ry dd'))), rfl, q2⟩
end
end Gk
end

section
set_option Elab.async false
set_option linter.all false
set_option maxRecDepth 100000
set_option maxHeartbeats 4000000
namespace Gk
open PySem L2
section
variable {P : Program} {w : World} {K : PySem.W.Frag} {mg : Str → Option Value} {base : Heap}
/-! ### the family's object -/
/-- an entry of «waiting»: the size, its list, its items, the places -/
structure WE where
  n : Int
  l : Addr
  vs : List V
  gs : List G
structure WaitOk (K : PySem.W.Frag) (H : Hp) (kvs : List (Key × V)) (W : List WE) : Prop where
  kv : kvs = W.map fun e => (Sum.inl e.n, V.ref e.l)
  keys : (W.map (·.n)).Nodup
  adr : (W.map (·.l)).Nodup
  has : ∀ e ∈ W, H e.l = some (.lst e.vs) ∧ EachR (IsG K) e.gs e.vs H ∧ e.gs ≠ []
def ff (od wd : Addr) : List (Str × V) := [("origin", .ref od), ("goal", .non), ("waiting", .ref wd)]
theorem ff_origin (od wd : Addr) : (ff od wd).lookup ("origin" : Str) = some (.ref od) := by kernel_rfl
theorem ff_goal (od wd : Addr) : (ff od wd).lookup ("goal" : Str) = some .non := by kernel_rfl
theorem ff_waiting (od wd : Addr) : (ff od wd).lookup ("waiting" : Str) = some (.ref wd) := by kernel_rfl
/-- behind the heap H0 a family stands at p: its places with their entries, the places that wait -/
def FamAt (P : Program) (w : World) (K : PySem.W.Frag) (C : Addr) (H0 H : Hp) (p : Addr) (es : Ents) (ws : List G) : Prop :=
  Same H0 H ∧ H0 p = none ∧ ∃ (dx od wd : Addr) (kvs : List (Key × V)) (W : List WE), H0 od = none ∧ H0 wd = none ∧ H p = some (.ins C dx (ff od wd)) ∧ IsDN P w K H od es ∧ H wd = some (.dK kvs) ∧ WaitOk K H kvs W ∧ (∀ e ∈ W, H0 e.l = none) ∧ ws = W.flatMap (·.gs)
theorem val_at {W : List WE} (nd : (W.map (·.n)).Nodup) {e : WE} (he : e ∈ W) : valV (W.map fun e => ((Sum.inl e.n : Key), V.ref e.l)) (Sum.inl e.n) = some (.ref e.l) := by
  unfold valV
  induction W with
  | nil => exact nomatch he
  | cons x r ih =>
    rw [List.map_cons, List.nodup_cons] at nd
    rw [List.map_cons, List.find?_cons]
    by_cases h : x.n = e.n
    · have ex : x = e := by
        rcases List.mem_cons.mp he with z | z
        · exact z.symm
        · exact absurd (List.mem_map.mpr ⟨e, z, h.symm⟩) nd.1
      rw [ex]
      simp
    · rcases List.mem_cons.mp he with z | z
      · exact absurd (congrArg WE.n z).symm h
      · have : decide ((Sum.inl x.n : Key) = Sum.inl e.n) = false := decide_eq_false fun q => h (Sum.inl.inj q)
        rw [this]
        exact ih nd.2 z
theorem val_no {W : List WE} {n : Int} (h : ∀ e ∈ W, e.n ≠ n) : valV (W.map fun e => ((Sum.inl e.n : Key), V.ref e.l)) (Sum.inl n) = none := by
  unfold valV
  induction W with
  | nil => rfl
  | cons x r ih =>
    rw [List.map_cons, List.find?_cons]
    have : decide ((Sum.inl x.n : Key) = Sum.inl n) = false := decide_eq_false fun q => h x List.mem_cons_self (Sum.inl.inj q)
    rw [this]
    exact ih fun e he => h e (List.mem_cons_of_mem _ he)
theorem kt_at {H : Hp} {D : Addr} {o0 o : HO} (h : H D = some o0) (n1 : ∀ xs, o0 ≠ .tup xs) (n2 : ∀ ob u, o0 ≠ .frz ob u) : KT H (upd H D o) :=
  ⟨fun b xs e => (upd_ne (fun z => by rw [z, h] at e; exact n1 xs (Option.some.inj e))).trans e, fun b ob u e => (upd_ne (fun z => by rw [z, h] at e; exact n2 ob u (Option.some.inj e))).trans e⟩
theorem drop_mid {A B : List WE} {e : WE} (ha : ∀ x ∈ A, x.n ≠ e.n) (hb : ∀ x ∈ B, x.n ≠ e.n) : dropK ((A ++ e :: B).map fun e => ((Sum.inl e.n : Key), V.ref e.l)) (Sum.inl e.n) = (A ++ B).map fun e => ((Sum.inl e.n : Key), V.ref e.l) := by
  unfold dropK
  have f : ∀ l : List WE, (∀ x ∈ l, x.n ≠ e.n) → ((l.map fun e => ((Sum.inl e.n : Key), V.ref e.l)).filter fun kv => decide (kv.1 ≠ Sum.inl e.n)) = l.map fun e => ((Sum.inl e.n : Key), V.ref e.l) := fun l hl => by
    rw [List.filter_eq_self]
    intro kv hkv
    obtain ⟨x, hx, rfl⟩ := List.mem_map.mp hkv
    exact decide_eq_true fun q => hl x hx (Sum.inl.inj q)
  rw [List.map_append, List.map_cons, List.filter_append, List.filter_cons, f A ha, f B hb, List.map_append]
  simp
theorem seq_at {i n : Nat} (h : i < n) : seqIndex? (i : Int) n = some i := by
  have e : ixN n (i : Int) = some i := by
    unfold ixN
    rw [if_pos (by omega), if_pos (by omega)]
    simp
  exact (ixN_seq e).1
/-- what a round adds: places and those that wait -/
def Grown (os ws ns os' ws' : List G) : Prop := ∃ add, os' = os ++ add ∧ add.Nodup ∧ (∀ x ∈ add, x ∈ ns ∧ x ∉ os) ∧ (∀ x ∈ ns, x ∈ os') ∧ (∀ x, x ∈ ws' ↔ x ∈ ws ∨ x ∈ add) ∧ ws'.length = ws.length + add.length ∧ add.length ≤ ns.length
theorem Grown.nil (os ws : List G) : Grown os ws [] os ws := by
  refine ⟨[], (List.append_nil _).symm, List.nodup_nil, ?_, ?_, ?_, rfl, ?_⟩
  · intro x h
    cases h
  · intro x h
    cases h
  · intro x
    simp
  · exact Nat.le_refl _
theorem Grown.old {os ws ns os' ws' : List G} {n : G} (h : Grown os ws ns os' ws') (hn : n ∈ os') : Grown os ws (ns ++ [n]) os' ws' := by
  obtain ⟨add, h1, h2, h3, h4, h5, h6, h7⟩ := h
  refine ⟨add, h1, h2, fun x hx => ⟨List.mem_append_left _ (h3 x hx).1, (h3 x hx).2⟩, fun x hx => ?_, h5, h6, by rw [List.length_append]; omega⟩
  rcases List.mem_append.mp hx with hx | hx
  · exact h4 x hx
  · rw [List.mem_singleton.mp hx]
    exact hn
theorem Grown.new {os ws ns os' ws' ws2 : List G} {n : G} (h : Grown os ws ns os' ws') (hn : n ∉ os') (hm : ∀ x, x ∈ ws2 ↔ x ∈ ws' ∨ x = n) (hl : ws2.length = ws'.length + 1) : Grown os ws (ns ++ [n]) (os' ++ [n]) ws2 := by
  obtain ⟨add, h1, h2, h3, h4, h5, h6, h7⟩ := h
  have nos : n ∉ os := fun z => hn (by rw [h1]; exact List.mem_append_left _ z)
  have nadd : n ∉ add := fun z => hn (by rw [h1]; exact List.mem_append_right _ z)
  refine ⟨add ++ [n], by rw [h1, List.append_assoc], ?_, fun x hx => ?_, fun x hx => ?_, fun x => ?_, by rw [hl, h6, List.length_append]; rfl, by rw [List.length_append, List.length_append]; exact Nat.add_le_add_right h7 1⟩
  · rw [List.nodup_append]
    exact ⟨h2, by simp, fun a ha b hb z => nadd (by rw [List.mem_singleton.mp hb] at z; rw [← z]; exact ha)⟩
  · rcases List.mem_append.mp hx with hx | hx
    · exact ⟨List.mem_append_left _ (h3 x hx).1, (h3 x hx).2⟩
    · rw [List.mem_singleton.mp hx]
      exact ⟨by simp, nos⟩
  · rcases List.mem_append.mp hx with hx | hx
    · exact List.mem_append_left _ (h4 x hx)
    · exact List.mem_append_right _ hx
  · rw [hm, h5, List.mem_append, List.mem_singleton, or_assoc]
theorem flat_len {W : List WE} (h : ∀ e ∈ W, e.gs ≠ []) : W.length ≤ (W.flatMap (·.gs)).length := by
  induction W with
  | nil => exact Nat.le_refl _
  | cons e r ih =>
    rw [List.flatMap_cons, List.length_append, List.length_cons]
    have h1 := ih fun x hx => h x (List.mem_cons_of_mem _ hx)
    have h2 : 0 < e.gs.length := List.length_pos_iff.mpr (h e List.mem_cons_self)
    omega
theorem flat_mem {W : List WE} {e : WE} (h : e ∈ W) : e.gs.length ≤ (W.flatMap (·.gs)).length := by
  obtain ⟨A, B, rfl⟩ := List.append_of_mem h
  rw [List.flatMap_append, List.flatMap_cons, List.length_append, List.length_append]
  omega
theorem Grown.len {os ws ns os' ws' : List G} (h : Grown os ws ns os' ws') : os'.length ≤ os.length + ns.length ∧ ws'.length ≤ ws.length + ns.length := by
  obtain ⟨add, h1, h2, h3, h4, h5, h6, h7⟩ := h
  rw [h1, List.length_append]
  omega
theorem WaitOk.old {K : PySem.W.Frag} {H H' : Hp} {kvs : List (Key × V)} {A B : List WE} {e : WE} {v : V} {g : G} (h : WaitOk K H kvs (A ++ e :: B)) (kt : KT H H') (sm : ∀ x ∈ A ++ e :: B, x.l ≠ e.l → H' x.l = H x.l) (he : H' e.l = some (.lst (e.vs ++ [v]))) (hg : IsG K g v H') :
    WaitOk K H' kvs (A ++ ⟨e.n, e.l, e.vs ++ [v], e.gs ++ [g]⟩ :: B) := by
  have na := h.adr
  rw [List.map_append, List.map_cons, List.nodup_append, List.nodup_cons] at na
  have ne : ∀ x, x ∈ A ∨ x ∈ B → x.l ≠ e.l := fun x hx z => by
    rcases hx with hx | hx
    · exact na.2.2 _ (List.mem_map.mpr ⟨x, hx, rfl⟩) _ List.mem_cons_self z
    · exact na.2.1.1 (List.mem_map.mpr ⟨x, hx, z⟩)
  have hold : ∀ x, x ∈ A ∨ x ∈ B → H' x.l = some (.lst x.vs) ∧ EachR (IsG K) x.gs x.vs H' ∧ x.gs ≠ [] := fun x hx => by
    have hm : x ∈ A ++ e :: B := by
      rcases hx with hx | hx
      · exact List.mem_append_left _ hx
      · exact List.mem_append_right _ (List.mem_cons_of_mem _ hx)
    obtain ⟨a1, a2, a3⟩ := h.has x hm
    exact ⟨(sm x hm (ne x hx)).trans a1, a2.kt fun y v h => h.kt kt, a3⟩
  refine ⟨by rw [h.kv, List.map_append, List.map_append]; rfl, ?_, ?_, fun x hx => ?_⟩
  · have := h.keys
    rw [List.map_append] at this ⊢
    exact this
  · have := h.adr
    rw [List.map_append] at this ⊢
    exact this
  · rcases List.mem_append.mp hx with hx | hx
    · exact hold x (.inl hx)
    · rcases List.mem_cons.mp hx with hx | hx
      · rw [hx]
        obtain ⟨a1, a2, a3⟩ := h.has e (List.mem_append_right _ List.mem_cons_self)
        exact ⟨he, (a2.kt fun y v h => h.kt kt).snoc hg, by simp⟩
      · exact hold x (.inr hx)
theorem WaitOk.new {K : PySem.W.Frag} {H H' : Hp} {kvs : List (Key × V)} {W : List WE} {n : Int} {z : Addr} {v : V} {g : G} (h : WaitOk K H kvs W) (hn : ∀ e ∈ W, e.n ≠ n) (kt : KT H H') (sm : ∀ e ∈ W, H' e.l = H e.l) (hz : ∀ e ∈ W, e.l ≠ z) (he : H' z = some (.lst [v])) (hg : IsG K g v H') :
    WaitOk K H' (kvs ++ [(Sum.inl n, .ref z)]) (W ++ [⟨n, z, [v], [g]⟩]) := by
  refine ⟨by rw [h.kv, List.map_append]; rfl, ?_, ?_, fun x hx => ?_⟩
  · rw [List.map_append, List.nodup_append]
    refine ⟨h.keys, by simp, fun a ha b hb q => ?_⟩
    obtain ⟨e, he, rfl⟩ := List.mem_map.mp ha
    exact hn e he (q.trans (List.mem_singleton.mp hb))
  · rw [List.map_append, List.nodup_append]
    refine ⟨h.adr, by simp, fun a ha b hb q => ?_⟩
    obtain ⟨e, he, rfl⟩ := List.mem_map.mp ha
    exact hz e he (q.trans (List.mem_singleton.mp hb))
  · rcases List.mem_append.mp hx with hx | hx
    · obtain ⟨a1, a2, a3⟩ := h.has x hx
      exact ⟨(sm x hx).trans a1, a2.kt fun y v h => h.kt kt, a3⟩
    · rw [List.mem_singleton.mp hx]
      exact ⟨he, EachR.nil.snoc hg, by simp⟩
theorem wait_find {K : PySem.W.Frag} {H : Hp} {kvs : List (Key × V)} {W : List WE} (h : WaitOk K H kvs W) {n : Int} {v : V} (hv : valV kvs (Sum.inl n) = some v) : ∃ e ∈ W, e.n = n ∧ v = .ref e.l := by
  rcases Classical.em (∃ e ∈ W, e.n = n) with ⟨e, he, rfl⟩ | q
  · refine ⟨e, he, rfl, ?_⟩
    rw [h.kv, val_at h.keys he] at hv
    exact (Option.some.inj hv).symm
  · rw [h.kv, val_no fun e he z => q ⟨e, he, z⟩] at hv
    cases hv
theorem wait_none {K : PySem.W.Frag} {H : Hp} {kvs : List (Key × V)} {W : List WE} (h : WaitOk K H kvs W) {n : Int} (hv : valV kvs (Sum.inl n) = none) : ∀ e ∈ W, e.n ≠ n := fun e he z => by
  rw [← z, h.kv, val_at h.keys he] at hv
  cases hv
/-- a new place is kept, and waits -/
theorem FamAt.put {P : Program} {w : World} {K : PySem.W.Frag} {C : Addr} {H0 H H' : Hp} {p : Addr} {es : Ents} {dx od wd : Addr} {kvs' : List (Key × V)} {W' : List WE} {g : G} {b : Addr} {y : V} (s0 : Same H0 H) (p0 : H0 p = none)
    (hp : H p = some (.ins C dx (ff od wd))) (hod : IsDN P w K H od es) (hg : IsG K g (.ref b) H) (od0 : H0 od = none) (wd0 : H0 wd = none)
    (kt : KT H H') (s1 : Same H0 H') (hp' : H' p = H p) (hod' : H' od = some (DNo P w od (es ++ [(g, b, y)]))) (hwd' : H' wd = some (.dK kvs')) (hW : WaitOk K H' kvs' W') (hl : ∀ e ∈ W', H0 e.l = none) : FamAt P w K C H0 H' p (es ++ [(g, b, y)]) (W'.flatMap (·.gs)) := by
  refine ⟨s1, p0, dx, od, wd, kvs', W', od0, wd0, by rw [hp', hp], ⟨hod', fun e he => ?_⟩, hwd', hW, hl, rfl⟩
  rcases List.mem_append.mp he with h | h
  · exact (hod.2 e h).kt kt
  · rw [List.mem_singleton.mp h]
    exact hg.kt kt
theorem FamAt.more {P : Program} {w : World} {K : PySem.W.Frag} {C : Addr} {H0 H H' : Hp} {p : Addr} {es : Ents} {ws : List G} {D : Addr} {o : HO} (h : FamAt P w K C H0 H p es ws) (nD : H D = none) (s : Same H H') (hD : H' D = some o) : FamAt P w K C (upd H0 D o) H' p es ws := by
  obtain ⟨s0, p0, dx, od, wd, kvs, W, od0, wd0, hp, hod, hwd, hW, hl0, ews⟩ := h
  refine ⟨fun b u hb => ?_, ?_, dx, od, wd, kvs, W, ?_, ?_, s _ _ hp, ⟨s _ _ hod.1, fun e he => (hod.2 e he).kt (kt_same s)⟩, s _ _ hwd, ⟨hW.kv, hW.keys, hW.adr, fun e he => ?_⟩, fun e he => ?_, ews⟩
  · by_cases hb2 : b = D
    · subst hb2
      rw [upd_same] at hb
      rw [← hb]
      exact hD
    · rw [upd_ne hb2] at hb
      exact s _ _ (s0 _ _ hb)
  · rw [upd_ne (ne_of_none hp nD)]
    exact p0
  · rw [upd_ne (ne_of_none hod.1 nD)]
    exact od0
  · rw [upd_ne (ne_of_none hwd nD)]
    exact wd0
  · obtain ⟨a1, a2, a3⟩ := hW.has e he
    exact ⟨s _ _ a1, a2.kt fun y v h => h.kt (kt_same s), a3⟩
  · rw [upd_ne (ne_of_none (hW.has e he).1 nD)]
    exact hl0 e he
theorem FamAt.less {P : Program} {w : World} {K : PySem.W.Frag} {C : Addr} {H0 H1 H : Hp} {p : Addr} {es : Ents} {ws : List G} (h : FamAt P w K C H1 H p es ws) (s : Same H0 H1) : FamAt P w K C H0 H p es ws := by
  obtain ⟨s0, p0, dx, od, wd, kvs, W, od0, wd0, hp, hod, hwd, hW, hl0, ews⟩ := h
  exact ⟨s.trans s0, s.free p0, dx, od, wd, kvs, W, s.free od0, s.free wd0, hp, hod, hwd, hW, fun e he => s.free (hl0 e he), ews⟩
theorem FamAt.same {P : Program} {w : World} {K : PySem.W.Frag} {C : Addr} {H0 H H' : Hp} {p : Addr} {es : Ents} {ws : List G} (h : FamAt P w K C H0 H p es ws) (s : Same H H') : FamAt P w K C H0 H' p es ws := by
  obtain ⟨s0, p0, dx, od, wd, kvs, W, od0, wd0, hp, hod, hwd, hW, hl0, ews⟩ := h
  refine ⟨s0.trans s, p0, dx, od, wd, kvs, W, od0, wd0, s _ _ hp, ⟨s _ _ hod.1, fun e he => (hod.2 e he).kt (kt_same s)⟩, s _ _ hwd, ⟨hW.kv, hW.keys, hW.adr, fun e he => ?_⟩, hl0, ews⟩
  obtain ⟨a1, a2, a3⟩ := hW.has e he
  exact ⟨s _ _ a1, a2.kt fun y v h => h.kt (kt_same s), a3⟩
end
end Gk
end

section
set_option Elab.async false
set_option linter.all false
set_option maxRecDepth 100000
set_option maxHeartbeats 4000000
namespace Gk
open PySem L2
section
variable {P : Program} {w : World} {K : PySem.W.Frag} {mg : Str → Option Value} {base : Heap}
abbrev sTurned : Stmt := top 15
-- slots: pair 0 columns 1 down 2 n 3 row 4 i 5
theorem scTurned : FnScope ["pair", "columns", "down", "n", "row", "i"] ["pair", "columns", "down"] (defScope sTurned) := ⟨rfl, rfl, rfl, by decide +kernel, rfl, by decide +kernel, by decide +kernel⟩
def spTurned (K : PySem.W.Frag) : Sp := fun vs H Q _ => ∃ v c d g, vs = [v, .int c, .int d] ∧ IsG K g v H ∧ 0 < g.1.length ∧ g.1.length ≤ 100 ∧ g.2.length = g.1.length ∧ ∀ v' H', Same H H' → IsG K (turned g c d) v' H' → Q v' H'
theorem ok_turned {f : Addr} {fd : FuncData} (F : Fun K "turned" "turned" sTurned f fd) (B : Bl mg) : FnOk P w K mg base CX0 1 f fd ["pair", "columns", "down"] (spTurned K) := by
  refine F.ok scTurned (fun vs H Q E h => ?_) (fun cdv A outer s H vs Q E hr h => ?_)
  · obtain ⟨v, c, d, g, rfl, _⟩ := h
    rfl
  · obtain ⟨v, c, d, g, rfl, ⟨a, x, o, rfl, hp, hx, ho⟩, h0, h1, h2, k⟩ := h
    refine ⟨_, (pss_cons (ps_set (i := 3) scTurned.nd rfl (Or.inr rfl) (pe_callB (lenS K) (by rfl) B.len PySem.boot_len (pa_cons (pe_ix (ixT K) (pv 0) pe_int (fun _ _ => rfl)) pa_nil)))
      (pss_one (ps_ret (tupOf K (by rfl) B.tuple (pe_lc (own := [("row", 4)]) (by rfl) scTurned.nd (piT K (pv 0)) (blkOk_by (by kernel_rfl)) (fun _ _ _ _ _ => (pg_name (i := 4) scTurned.nd rfl (by first | exact Or.inl rfl | exact Or.inr rfl))) (fun _ _ _ _ _ => pts_nil) (fun _ _ _ _ _ => (tupOf K (by rfl) B.tuple (pe_lc (own := [("i", 5)]) (by rfl) scTurned.nd (pi_range1 (by rfl) B.range (pa_cons (pv 3) pa_nil)) (blkOk_by (by kernel_rfl)) (fun _ _ _ _ _ => (pg_name (i := 5) scTurned.nd rfl (by first | exact Or.inl rfl | exact Or.inr rfl))) (fun _ _ _ _ _ => pts_nil) (fun _ _ _ _ _ => (pe_op op_mod (pe_op op_sub (pe_ix (ixT K) (pv 4) (pe_op op_mod (pe_op op_add (pv 5) (pv 1)) (pv 3)) (fun _ _ => rfl)) (pv 2)) (pv 3))))))))))), ?_⟩
    have hn : (nums g.1).length = g.1.length := nums_len _
    obtain ⟨ax, ex, hxa⟩ := id hx.seq
    subst ex
    refine ⟨_, rfl, a, _, 0, _, rfl, rfl, hp, rfl, ax, _, rfl, .inr hxa, ?_⟩
    refine ⟨_, rfl, a, rfl, ⟨_, hp⟩, fun D nD => ?_⟩
    refine lcT_map (fun i v H => ∃ l, ([g.1, g.2] : List (List Int))[i]? = some l ∧ Row K (turnRow g.1.length l c d) v H) nD hp (by show 2 < sizeLine; decide) (fun i v H H' e ⟨l, e1, r⟩ => ⟨l, e1, r.kt e⟩) ?_ ?_
    · intro i x' H1 hi s1 K1 q1
      have row : ∃ l, ([g.1, g.2] : List (List Int))[i]? = some l ∧ Row K l x' H ∧ l.length = g.1.length := by
        match i, hi with
        | 0, hi => exact ⟨g.1, rfl, by cases hi; exact hx, rfl⟩
        | 1, hi => exact ⟨g.2, rfl, by cases hi; exact ho, h2⟩
      obtain ⟨l, el, rl, ll⟩ := row
      obtain ⟨al, exl, hl⟩ := (rl.kt (kt_same s1)).seq
      subst exl
      refine ⟨_, rfl, _, rfl, by omega, by omega, fun D2 nD2 => ?_⟩
      refine lcR_ints (fun i => (l.getD (((i : Int) + c) % (g.1.length : Int)).toNat 0 - d) % (g.1.length : Int)) nD2 (small_len (by simp; omega)) (fun i2 H2 hi2 s2 K2 q2 => ?_) (fun H2 s2 e2 => ?_)
      · have hp0 : (0 : Int) < ((nums g.1).length : Int) := by omega
        obtain ⟨k2, e2, e3, e4⟩ := mod_nat (z := (0 + (i2 : Int)) + c) (n := g.1.length) h0
        refine ⟨_, rfl, _, rfl, _, rfl, _, _, rfl, rfl, _, rfl, _, _, rfl, rfl, hp0, al, _, _, _, rfl, rfl, (kt_same s2).t hl, nums_atI (i := k2) ?_ (by omega), ?_⟩
        · rw [hn]; exact e2
        · refine ⟨_, rfl, _, _, rfl, rfl, _, rfl, _, _, rfl, rfl, hp0, ?_⟩
          rw [hn, e4, Int.zero_add]
          exact q2 H2 (Same.refl _)
      · refine ⟨_, _, rfl, SqL.of e2, fun q oq nq dq => q1 _ _ (s2.trans (same_new nq)) ⟨l, el, q, oq, rfl, ?_, dq⟩⟩
        rw [upd_same]
        show some (HO.frz oq (.tup (nums ((List.range (((nums g.1).length : Int)).toNat).map _)))) = _
        rw [hn]
        rfl
    · intro H1 l s1 e1 hlen hP
      obtain ⟨y0, y1, rfl⟩ := two_rows hlen
      obtain ⟨_, e0, r0⟩ := hP 0 y0 rfl
      obtain ⟨_, e1', r1⟩ := hP 1 y1 rfl
      cases e0
      cases e1'
      refine ⟨_, _, rfl, SqL.of e1, fun q oq nq dq => k _ _ (s1.trans (same_new nq)) ⟨q, y0, y1, rfl, sqF upd_same, ?_, ?_⟩⟩
      · exact r0.kt (kt_same (same_new nq))
      · exact r1.kt (kt_same (same_new nq))
end
end Gk
end

section
set_option Elab.async false
set_option linter.all false
set_option maxRecDepth 100000
set_option maxHeartbeats 4000000
namespace Gk
open PySem L2
section
variable {P : Program} {w : World} {K : PySem.W.Frag} {mg : Str → Option Value} {base : Heap}
/-- each place's number stands in the row -/
def Full (n : Nat) (l : List Int) : Prop := l.length = n ∧ ∀ r : Nat, r < n → (r : Int) ∈ l
abbrev sTrans : Stmt := top 9
-- slots: pair 0 xs 1 ohs 2 places 3 r 4
theorem scTrans : FnScope ["pair", "xs", "ohs", "places", "r"] ["pair"] (defScope sTrans) := ⟨rfl, rfl, rfl, by decide +kernel, rfl, by decide +kernel, by decide +kernel⟩
def spTrans (K : PySem.W.Frag) : Sp := fun vs H Q _ => ∃ v g n, vs = [v] ∧ IsG K g v H ∧ n ≤ 100 ∧ Full n g.1 ∧ Full n g.2 ∧ ∀ v' H', Same H H' → IsG K (trans g) v' H' → Q v' H'
theorem ok_trans {f : Addr} {fd : FuncData} (F : Fun K "transposed" "transposed" sTrans f fd) (B : Bl mg) : FnOk P w K mg base CX0 1 f fd ["pair"] (spTrans K) := by
  refine F.ok scTrans (fun vs H Q E h => ?_) (fun cdv A outer s H vs Q E hr h => ?_)
  · obtain ⟨v, g, n, rfl, _⟩ := h
    rfl
  · obtain ⟨v, g, n, rfl, ⟨a, x, o, rfl, hp, hx, ho⟩, hn, ⟨f1, f2⟩, ⟨f3, f4⟩, k⟩ := h
    refine ⟨_, (pss_cons (ps_asg (pv 0) (pgT K (by rfl) (pgs_cons (pg_name (i := 1) scTrans.nd rfl (by first | exact Or.inl rfl | exact Or.inr rfl)) (pgs_cons (pg_name (i := 2) scTrans.nd rfl (by first | exact Or.inl rfl | exact Or.inr rfl)) pgs_nil))))
      (pss_cons (ps_set (i := 3) scTrans.nd rfl (Or.inl rfl) (pe_callTy range1 (by rfl) B.range (by decide +kernel) (pa_cons (pe_callB (lenS K) (by rfl) B.len PySem.boot_len (pa_cons (pv 1) pa_nil)) pa_nil)))
      (pss_one (ps_ret (peTup (pa_cons (tupOf K (by rfl) B.tuple (pe_lc (own := [("r", 4)]) (by rfl) scTrans.nd (piR (pv 3)) (blkOk_by (by kernel_rfl)) (fun _ _ _ _ _ => (pg_name (i := 4) scTrans.nd rfl (by first | exact Or.inl rfl | exact Or.inr rfl))) (fun _ _ _ _ _ => pts_nil) (fun _ _ _ _ _ => (tidx (pv 1) (pv 4))))) (pa_cons (tupOf K (by rfl) B.tuple (pe_lc (own := [("r", 4)]) (by rfl) scTrans.nd (piR (pv 3)) (blkOk_by (by kernel_rfl)) (fun _ _ _ _ _ => (pg_name (i := 4) scTrans.nd rfl (by first | exact Or.inl rfl | exact Or.inr rfl))) (fun _ _ _ _ _ => pts_nil) (fun _ _ _ _ _ => (tidx (pv 2) (pv 4))))) pa_nil))))))), ?_⟩
    obtain ⟨ax, obx, ex, hxa, dx⟩ := id hx
    obtain ⟨ao, obo, eo, hoa, d0⟩ := id ho
    subst ex eo
    -- xs, ohs = pair; places = range(len(xs))
    refine ⟨_, rfl, a, _, rfl, hp, rfl, _, _, rfl, _, _, rfl, rfl, ?_⟩
    refine ⟨_, rfl, ax, _, rfl, .inr (sqF hxa), _, rfl, fun pr nr => ?_⟩
    have sr : Same H (upd H pr (.rng 0 ((nums g.1).length : Nat))) := same_new nr
    have hl : (nums g.1).length = n := by rw [nums_len, f1]
    rw [hl] at sr ⊢
    refine ⟨_, rfl, pr, _, rfl, upd_same, by omega, by omega, fun D nD => ?_⟩
    have e0 : ∀ i : Nat, i < n → (0 : Int) + (i : Int) = (i : Int) := fun i _ => by omega
    refine lcR_ints (fun i => ((g.1.idxOf (i : Int) : Nat) : Int)) nD (small_len (by simp; omega)) (fun i H2 hi s2 K2 q2 => ?_) (fun H2 s2 e2 => ?_)
    · have hi' : i < n := by simpa using hi
      refine ⟨_, rfl, ax, obx, g.1, rfl, s2 _ _ (sr _ _ hxa), dx, _, rfl, (i : Int), by rw [e0 i hi'], s2 _ _ (sr _ _ hxa), f2 i hi', q2 H2 (Same.refl _)⟩
    refine ⟨_, _, rfl, SqL.of e2, fun q oq nq dq => ?_⟩
    have s3 : Same H (upd H2 q (.frz oq (.tup (nums ((List.range ((n : Int)).toNat).map fun (i : Nat) => ((g.1.idxOf (i : Int) : Nat) : Int)))))) := (sr.trans s2).trans (same_new nq)
    refine ⟨_, rfl, pr, _, rfl, (s2.trans (same_new nq)) _ _ upd_same, by omega, by omega, fun D2 nD2 => ?_⟩
    refine lcR_ints (fun i => ((g.2.idxOf (i : Int) : Nat) : Int)) nD2 (small_len (by simp; omega)) (fun i H4 hi s4 K2 q2 => ?_) (fun H4 s4 e4 => ?_)
    · have hi' : i < n := by simpa using hi
      refine ⟨_, rfl, ao, obo, g.2, rfl, s4 _ _ (s3 _ _ hoa), d0, _, rfl, (i : Int), by rw [e0 i hi'], s4 _ _ (s3 _ _ hoa), f4 i hi', q2 H4 (Same.refl _)⟩
    refine ⟨_, _, rfl, SqL.of e4, fun q2 o2 nq2 dq2 => ⟨by show 2 ≤ sizeLine; decide, fun q3 o3 nq3 dq3 => ?_⟩⟩
    have s5 : Same (upd H2 q (.frz oq (.tup (nums ((List.range ((n : Int)).toNat).map fun (i : Nat) => ((g.1.idxOf (i : Int) : Nat) : Int)))))) (upd (upd H4 q2 (.frz o2 (.tup (nums ((List.range ((n : Int)).toNat).map fun (i : Nat) => ((g.2.idxOf (i : Int) : Nat) : Int)))))) q3 (.frz o3 (.tup [.ref q, .ref q2]))) := s4.trans ((same_new nq2).trans (same_new nq3))
    refine k _ _ (s3.trans s5) ⟨q3, .ref q, .ref q2, rfl, sqF upd_same, ⟨q, oq, rfl, ?_, dq⟩, ⟨q2, o2, rfl, ?_, dq2⟩⟩
    · rw [s5 _ _ upd_same]
      show some (HO.frz oq (.tup (nums ((List.range n).map _)))) = some (HO.frz oq (.tup (nums ((List.range g.1.length).map _))))
      rw [f1]
    · rw [same_new nq3 _ _ upd_same]
      show some (HO.frz o2 (.tup (nums ((List.range n).map _)))) = some (HO.frz o2 (.tup (nums ((List.range g.2.length).map _))))
      rw [f3]
end
end Gk
end

section
set_option Elab.async false
set_option linter.all false
set_option maxRecDepth 100000
set_option maxHeartbeats 4000000
namespace Gk
open PySem L2
section
variable {P : Program} {w : World} {K : PySem.W.Frag} {mg : Str → Option Value} {base : Heap}
theorem swapRow_eq (l : List Int) (i : Nat) : l.take i ++ [l.getD (i + 1) 0, l.getD i 0] ++ l.drop (i + 2) = swapRow l i := List.append_assoc ..
abbrev sSwapped : Stmt := top 10
-- slots: pair 0 i 1 xs 2 ohs 3 low 4 high 5 others 6 row 7
theorem scSwapped : FnScope ["pair", "i", "xs", "ohs", "low", "high", "others", "row"] ["pair", "i"] (defScope sSwapped) := ⟨rfl, rfl, rfl, by decide +kernel, rfl, by decide +kernel, by decide +kernel⟩
def spSwapped (K : PySem.W.Frag) : Sp := fun vs H Q _ => ∃ v g i n, vs = [v, .int (i : Nat)] ∧ IsG K g v H ∧ i + 1 < n ∧ n ≤ 100 ∧ g.1.length = n ∧ g.2.length = n ∧ ∀ v' H', Same H H' → IsO K (swapped g i) v' H' → Q v' H'
theorem ok_swapped {f : Addr} {fd : FuncData} (F : Fun K "swapped" "swapped" sSwapped f fd) (B : Bl mg) : FnOk P w K mg base CX0 1 f fd ["pair", "i"] (spSwapped K) := by
  refine F.ok scSwapped (fun vs H Q E h => ?_) (fun cdv A outer s H vs Q E hr h => ?_)
  · obtain ⟨v, g, i, n, rfl, _⟩ := h
    rfl
  · obtain ⟨v, g, i, n, rfl, ⟨a, x, o, rfl, hp, hx, ho⟩, hi, hn, f1, f2, k⟩ := h
    refine ⟨_, (pss_cons (ps_asg (pv 0) (pgT K (by rfl) (pgs_cons (pg_name (i := 2) scSwapped.nd rfl (by first | exact Or.inl rfl | exact Or.inr rfl)) (pgs_cons (pg_name (i := 3) scSwapped.nd rfl (by first | exact Or.inl rfl | exact Or.inr rfl)) pgs_nil))))
      (pss_cons (ps_set (i := 4) scSwapped.nd rfl (Or.inr rfl) (pe_callB (call_min2 rfl) (by rfl) B.min (by decide +kernel) (pa_cons (pe_ix (ixT K) (pv 2) (pv 1) (fun _ _ => rfl)) (pa_cons (pe_ix (ixT K) (pv 3) (pv 1) (fun _ _ => rfl)) pa_nil))))
      (pss_cons (ps_set (i := 5) scSwapped.nd rfl (Or.inr rfl) (pe_callB (call_max2 rfl) (by rfl) B.max (by decide +kernel) (pa_cons (pe_ix (ixT K) (pv 2) (pv 1) (fun _ _ => rfl)) (pa_cons (pe_ix (ixT K) (pv 3) (pv 1) (fun _ _ => rfl)) pa_nil))))
      (pss_cons (ps_set (i := 6) scSwapped.nd rfl (Or.inl rfl) (peTup (pa_cons (pe_ix (ixT K) (pv 2) (pe_op op_add (pv 1) pe_int) (fun _ _ => rfl)) (pa_cons (pe_ix (ixT K) (pv 3) (pe_op op_add (pv 1) pe_int) (fun _ _ => rfl)) pa_nil))))
      (pss_cons (ps_if (PW.pt (pw_or (pt_cmpR (inS K) (pv 4) (pv 6) rfl) (pw_or (pt_cmpR (inS K) (pv 5) (pv 6) rfl) (pw_or1 (pt_cmpR op_eq (pe_callB (lenS K) (by rfl) B.len PySem.boot_len (pa_cons (pe_lc (own := [("row", 7)]) (by rfl) scSwapped.nd (piT K (pv 6)) (blkOk_by (by kernel_rfl)) (fun _ _ _ _ _ => (pg_name (i := 7) scSwapped.nd rfl (by first | exact Or.inl rfl | exact Or.inr rfl))) (fun _ _ _ _ _ => pts_one (pt_chain op_lt op_lt (pv 4) (pv 7) (pv 5))) (fun _ _ _ _ _ => (pv 7))) pa_nil)) pe_int (nomark _)))))) (pss_one (ps_ret pe_non)) pss_nil)
      (pss_one (ps_ret (tupOf K (by rfl) B.tuple (pe_lc (own := [("row", 7)]) (by rfl) scSwapped.nd (piT K (pv 0)) (blkOk_by (by kernel_rfl)) (fun _ _ _ _ _ => (pg_name (i := 7) scSwapped.nd rfl (by first | exact Or.inl rfl | exact Or.inr rfl))) (fun _ _ _ _ _ => pts_nil) (fun _ _ _ _ _ => (pe_op (catF K) (pe_op (catF K) (pe_slice (slT K) (pv 7) po_none (po_some (pv 1))) (peTup (pa_cons (pe_ix (ixT K) (pv 7) (pe_op op_add (pv 1) pe_int) (fun _ _ => rfl)) (pa_cons (pe_ix (ixT K) (pv 7) (pv 1) (fun _ _ => rfl)) pa_nil)))) (pe_slice (slT K) (pv 7) (po_some (pe_op op_add (pv 1) pe_int)) po_none)))))))))))), ?_⟩
    obtain ⟨ax, obx, ex, hxa, dx⟩ := id hx
    obtain ⟨ao, obo, eo, hoa, d0⟩ := id ho
    subst ex eo
    -- xs, ohs = pair
    refine ⟨_, rfl, a, _, rfl, hp, rfl, _, _, rfl, _, _, rfl, rfl, ?_⟩
    -- low, high
    refine ⟨_, rfl, _, rfl, ax, _, _, _, rfl, rfl, sqF hxa, nat_at (by omega), _, rfl, _, rfl, ao, _, _, _, rfl, rfl, sqF hoa, nat_at (by omega), _, _, rfl, ?_⟩
    refine ⟨_, rfl, _, rfl, ax, _, _, _, rfl, rfl, sqF hxa, nat_at (by omega), _, rfl, _, rfl, ao, _, _, _, rfl, rfl, sqF hoa, nat_at (by omega), _, _, rfl, ?_⟩
    -- others
    refine ⟨_, rfl, _, rfl, _, _, rfl, rfl, ax, _, _, _, rfl, rfl, sqF hxa, nat_at1 (by omega), _, rfl, _, rfl, _, _, rfl, rfl, ao, _, _, _, rfl, rfl, sqF hoa, nat_at1 (by omega), by show 2 ≤ sizeLine; decide, fun q oq nq dq => ?_⟩
    have s1 : Same H (upd H q (.frz oq (.tup (nums [g.1.getD (i + 1) 0, g.2.getD (i + 1) 0])))) := same_new nq
    generalize hO : [g.1.getD (i + 1) 0, g.2.getD (i + 1) 0] = O at s1
    have hO' : [V.int (g.1.getD (i + 1) 0), V.int (g.2.getD (i + 1) 0)] = nums O := by rw [← hO]; rfl
    rw [hO']
    have sw0 : ∀ lo hi : Int, lo = mn (g.1.getD i 0) (g.2.getD i 0) → hi = mx (g.1.getD i 0) (g.2.getD i 0) → lo ∈ O ∨ hi ∈ O ∨ (O.filter fun r => decide (lo < r) && decide (r < hi)).length = 1 → swapped g i = none := by
      rintro lo hi rfl rfl h
      subst hO
      exact if_pos h
    have sw1 : ∀ lo hi : Int, lo = mn (g.1.getD i 0) (g.2.getD i 0) → hi = mx (g.1.getD i 0) (g.2.getD i 0) → ¬ (lo ∈ O ∨ hi ∈ O ∨ (O.filter fun r => decide (lo < r) && decide (r < hi)).length = 1) → swapped g i = some (swapRow g.1 i, swapRow g.2 i) := by
      rintro lo hi rfl rfl h
      subst hO
      exact if_neg h
    generalize hlo : (if g.2.getD i 0 < g.1.getD i 0 then g.2.getD i 0 else g.1.getD i 0) = lo
    generalize hhi : (if g.2.getD i 0 > g.1.getD i 0 then g.2.getD i 0 else g.1.getD i 0) = hi'
    replace sw0 := sw0 lo hi' hlo.symm hhi.symm
    replace sw1 := sw1 lo hi' hlo.symm hhi.symm
    have O2 : O.length = 2 := by rw [← hO]; rfl
    have none_ : ∀ H', Same H H' → swapped g i = none → Q .non H' := fun H' s h => k _ _ s (by rw [h]; rfl)
    -- low in others or high in others or len([..]) == 1
    refine ⟨_, rfl, _, rfl, q, nums O, rfl, .inr (sqF upd_same), rfl, flat_nums _, _, congrArg V.bl (inV_nums _ _), iteD (fun c1 => none_ _ s1 (sw0 (.inl c1))) (fun c1 => ?_)⟩
    refine ⟨_, rfl, _, rfl, q, nums O, rfl, .inr (sqF upd_same), rfl, flat_nums _, _, congrArg V.bl (inV_nums _ _), iteD (fun c2 => none_ _ s1 (sw0 (.inr (.inl c2)))) (fun c2 => ?_)⟩
    refine ⟨_, rfl, q, rfl, ⟨_, sqF upd_same⟩, fun D nD => ?_⟩
    refine lcT_filter (fun v => decide (lo < unI v) && decide (unI v < hi')) nD (sqF upd_same) (small_len (by rw [nums_len, O2]; decide)) (fun x H2 hx s2 Qb qb => ?_) (fun x H2 K1 hx q1 => ⟨_, rfl, q1⟩) (fun H2 s2 e2 => ?_)
    · obtain ⟨v, hv, rfl⟩ := mem_nums hx
      refine ⟨_, rfl, _, rfl, _, _, rfl, rfl, _, rfl, iteD (fun c3 => ⟨_, rfl, _, _, rfl, rfl, _, rfl, ?_⟩) (fun c3 => ⟨_, rfl, ?_⟩)⟩
      · have q := qb H2 (Same.refl _)
        have e : (decide (lo < v) && decide (v < hi')) = decide (v < hi') := by rw [decide_eq_true c3, Bool.true_and]
        exact e ▸ q
      · have q := qb H2 (Same.refl _)
        have e : (decide (lo < v) && decide (v < hi')) = false := by rw [decide_eq_false c3, Bool.false_and]
        exact e ▸ q
    rw [nums_filter (fun r => decide (lo < r) && decide (r < hi')) _ (fun _ => rfl)] at e2
    have s3 : Same H H2 := s1.trans s2
    refine ⟨D, _, rfl, .inl (SqL.of e2), rfl, _, rfl, iteD (fun c3 => none_ _ s3 (sw0 (.inr (.inr ?_)))) (fun c3 => ?_)⟩
    · rw [nums_len] at c3
      have := V.int.inj c3
      omega
    replace sw1 := sw1 (by
      rintro (h | h | h)
      · exact c1 h
      · exact c2 h
      · refine c3 ?_
        rw [nums_len, h]
        rfl)
    -- the rows exchanged
    refine ⟨_, rfl, a, rfl, ⟨_, (kt_same s3).t hp⟩, fun D2 nD2 => ?_⟩
    refine lcT_map (fun j v H => ∃ l, ([g.1, g.2] : List (List Int))[j]? = some l ∧ Row K (swapRow l i) v H) nD2 ((kt_same s3).t hp) (by show 2 < sizeLine; decide) (fun j v H H' e ⟨l, e1, r⟩ => ⟨l, e1, r.kt e⟩) ?_ ?_
    · intro j x' H4 hj s4 K1 q1
      have row : ∃ l, ([g.1, g.2] : List (List Int))[j]? = some l ∧ Row K l x' H ∧ l.length = n := by
        match j, hj with
        | 0, hj => exact ⟨g.1, rfl, by cases hj; exact hx, f1⟩
        | 1, hj => exact ⟨g.2, rfl, by cases hj; exact ho, f2⟩
      obtain ⟨l, el, rl, ll⟩ := row
      obtain ⟨al, exl, hl⟩ := rl.seq
      subst exl
      have s04 : Same H H4 := s3.trans s4
      refine ⟨_, rfl, ⟨_, rfl, _, rfl, slT_read ((kt_same s04).t hl) fun p5 H5 s5 h5 => ?_⟩⟩
      have s05 : Same H H5 := s04.trans s5
      have hl5 : SqT K H5 al (nums l) := (kt_same s05).t hl
      rw [cut_take] at h5
      refine ⟨_, rfl, _, rfl, _, _, rfl, rfl, al, _, _, _, rfl, rfl, hl5, nat_at1 (by omega), _, rfl, _, rfl, al, _, _, _, rfl, rfl, hl5, nat_at (by omega), by show 2 ≤ sizeLine; decide, fun p6 o6 n6 d6 => ?_⟩
      have s6 : Same H5 (upd H5 p6 (.frz o6 (.tup (nums [l.getD (i + 1) 0, l.getD i 0])))) := same_new n6
      have r6 : Row K [l.getD (i + 1) 0, l.getD i 0] (.ref p6) (upd H5 p6 (.frz o6 (.tup (nums [l.getD (i + 1) 0, l.getD i 0])))) := ⟨p6, o6, rfl, upd_same, d6⟩
      refine cat_row (m := [l.getD (i + 1) 0, l.getD i 0]) ((kt_same s6).t h5) (sqF upd_same) (by rw [List.length_take]; simp; omega) (fun e => nomatch e) (fun e => r6) fun v7 H7 s7 r7 => ?_
      obtain ⟨p7, ev, h7⟩ := r7.seq
      subst ev
      have s07 : Same H5 H7 := s6.trans s7
      refine ⟨_, rfl, _, rfl, _, _, rfl, rfl, _, rfl, ?_⟩
      show rSlA K (.ref al) (some ((i : Int) + 2)) none H7 (fun y H2 => rCatF K (.ref p7) y H2 K1)
      refine slT_read ((kt_same s07).t hl5) fun p8 H8 s8 h8 => ?_
      rw [cut_drop l (i + 2) (by omega)] at h8
      have r8 := r7.kt (kt_same s8)
      obtain ⟨p7', ev7, h7'⟩ := r8.seq
      cases ev7
      refine cat_row h7' h8 (by rw [List.length_append, List.length_take, List.length_drop]; simp; omega) (fun _ _ => r8) (fun e => by simp at e) fun v9 H9 s9 r9 => ?_
      exact q1 v9 H9 (((s5.trans s07).trans s8).trans s9) ⟨l, el, by rw [← swapRow_eq]; exact r9⟩
    · intro H4 l s4 e4 hlen hP
      obtain ⟨y0, y1, rfl⟩ := two_rows hlen
      obtain ⟨_, e0, r0⟩ := hP 0 y0 rfl
      obtain ⟨_, e1', r1⟩ := hP 1 y1 rfl
      cases e0
      cases e1'
      refine ⟨_, _, rfl, SqL.of e4, fun q oq nq dq => k _ _ ((s3.trans s4).trans (same_new nq)) ?_⟩
      rw [sw1]
      exact ⟨q, y0, y1, rfl, sqF upd_same, r0.kt (kt_same (same_new nq)), r1.kt (kt_same (same_new nq))⟩
end
end Gk
end

section
set_option Elab.async false
set_option linter.all false
set_option maxRecDepth 100000
set_option maxHeartbeats 4000000
namespace Gk
open PySem L2
section
variable {P : Program} {w : World} {K : PySem.W.Frag} {mg : Str → Option Value} {base : Heap}
/-- a row of a grid of the size n -/
structure PermR (n : Nat) (l : List Int) : Prop where
  len : l.length = n
  rng : ∀ x ∈ l, 0 ≤ x ∧ x < (n : Int)
  all : ∀ r : Nat, r < n → (r : Int) ∈ l
theorem PermR.full {n : Nat} {l : List Int} (h : PermR n l) : Full n l := ⟨h.len, h.all⟩
theorem PermR.mem {n : Nat} {l : List Int} (h : PermR n l) {x : Int} (h0 : 0 ≤ x) (h1 : x < n) : x ∈ l := by
  have := h.all x.toNat (by omega)
  rwa [Int.toNat_of_nonneg h0] at this
theorem getD_mem {l : List Int} {i : Nat} (h : i < l.length) : l.getD i 0 ∈ l := List.mem_of_getElem? (getD_lt h)
def optI : Option Int → V
  | none => .non
  | some i => .int i
theorem ne_iff {a b : Int} : V.int a = V.int b ↔ a = b := ⟨V.int.inj, fun e => by rw [e]⟩
abbrev sLowRow : Stmt := top 11
-- slots: pair 0 i 1 xs 2 ohs 3 low 4
theorem scLowRow : FnScope ["pair", "i", "xs", "ohs", "low"] ["pair", "i"] (defScope sLowRow) := ⟨rfl, rfl, rfl, by decide +kernel, rfl, by decide +kernel, by decide +kernel⟩
def spLowRow (K : PySem.W.Frag) : Sp := fun vs H Q _ => ∃ v g i n, vs = [v, .int (i : Nat)] ∧ IsG K g v H ∧ i < n ∧ n ≤ 100 ∧ PermR n g.1 ∧ PermR n g.2 ∧ Q (optI (lowRow g i)) H
theorem ok_lowrow {f : Addr} {fd : FuncData} (F : Fun K "low_row" "low_row" sLowRow f fd) (B : Bl mg) : FnOk P w K mg base CX0 1 f fd ["pair", "i"] (spLowRow K) := by
  refine F.ok scLowRow (fun vs H Q E h => ?_) (fun cdv A outer s H vs Q E hr h => ?_)
  · obtain ⟨v, g, i, n, rfl, _⟩ := h
    rfl
  · obtain ⟨v, g, i, n, rfl, ⟨a, x, o, rfl, hp, hx, ho⟩, hi, hn, f1, f2, k⟩ := h
    refine ⟨_, (pss_cons (ps_asg (pv 0) (pgT K (by rfl) (pgs_cons (pg_name (i := 2) scLowRow.nd rfl (by first | exact Or.inl rfl | exact Or.inr rfl)) (pgs_cons (pg_name (i := 3) scLowRow.nd rfl (by first | exact Or.inl rfl | exact Or.inr rfl)) pgs_nil))))
      (pss_cons (ps_set (i := 4) scLowRow.nd rfl (Or.inl rfl) (pe_callB (call_min2 rfl) (by rfl) B.min (by decide +kernel) (pa_cons (pe_ix (ixT K) (pv 2) (pv 1) (fun _ _ => rfl)) (pa_cons (pe_ix (ixT K) (pv 3) (pv 1) (fun _ _ => rfl)) pa_nil))))
      (pss_cons (ps_if (pt_cmpR op_ne (pe_callB (call_max2 rfl) (by rfl) B.max (by decide +kernel) (pa_cons (pe_ix (ixT K) (pv 2) (pv 1) (fun _ _ => rfl)) (pa_cons (pe_ix (ixT K) (pv 3) (pv 1) (fun _ _ => rfl)) pa_nil))) (pe_op op_add (pv 4) pe_int) (nomark _)) (pss_one (ps_ret pe_non)) pss_nil)
      (pss_cons (ps_if (pt_cmpR op_eq (pe_ix (ixT K) (pv 2) (pv 1) (fun _ _ => rfl)) (pv 4) (nomark _)) (pss_one (ps_ret (pe_ifExp (pt_cmpR op_ne (tidx (pv 3) (pv 4)) (tidx (pv 2) (pe_op op_add (pv 4) pe_int)) (nomark _)) (pv 4) pe_non))) pss_nil)
      (pss_one (ps_ret (pe_ifExp (pt_cmpR op_ne (tidx (pv 2) (pv 4)) (tidx (pv 3) (pe_op op_add (pv 4) pe_int)) (nomark _)) (pv 4) pe_non))))))), ?_⟩
    obtain ⟨ax, obx, ex, hxa, dx⟩ := id hx
    obtain ⟨ao, obo, eo, hoa, d0⟩ := id ho
    subst ex eo
    have l1 := f1.len
    have l2 := f2.len
    have m1 := f1.rng _ (getD_mem (l := g.1) (i := i) (by omega))
    have m2 := f2.rng _ (getD_mem (l := g.2) (i := i) (by omega))
    have a1 : ∀ v : Int, 0 ≤ v → v < n → v ∈ g.1 := fun v => f1.mem
    have a2 : ∀ v : Int, 0 ≤ v → v < n → v ∈ g.2 := fun v => f2.mem
    have kk : ∀ r, lowRow g i = r → Q (optI r) H := fun r e => e ▸ k
    have hl : lowRow g i = if mx (g.1.getD i 0) (g.2.getD i 0) ≠ mn (g.1.getD i 0) (g.2.getD i 0) + 1 then none
      else if g.1.getD i 0 = mn (g.1.getD i 0) (g.2.getD i 0) then (if idx g.2 (mn (g.1.getD i 0) (g.2.getD i 0)) ≠ idx g.1 (mn (g.1.getD i 0) (g.2.getD i 0) + 1) then some (mn (g.1.getD i 0) (g.2.getD i 0)) else none)
      else (if idx g.1 (mn (g.1.getD i 0) (g.2.getD i 0)) ≠ idx g.2 (mn (g.1.getD i 0) (g.2.getD i 0) + 1) then some (mn (g.1.getD i 0) (g.2.getD i 0)) else none) := rfl
    -- xs, ohs = pair
    refine ⟨_, rfl, a, _, rfl, hp, rfl, _, _, rfl, _, _, rfl, rfl, ?_⟩
    -- low
    refine ⟨_, rfl, _, rfl, ax, _, _, _, rfl, rfl, sqF hxa, nat_at (by omega), _, rfl, _, rfl, ao, _, _, _, rfl, rfl, sqF hoa, nat_at (by omega), _, _, rfl, ?_⟩
    refine ⟨_, rfl, _, rfl, ax, _, _, _, rfl, rfl, sqF hxa, nat_at (by omega), _, rfl, _, rfl, ao, _, _, _, rfl, rfl, sqF hoa, nat_at (by omega), _, _, rfl, _, rfl, _, _, rfl, rfl, rfl, _, rfl, iteDn (fun c1 => kk none ?_) (fun c1 => ?_)⟩
    · rw [hl]
      exact if_pos fun e => c1 (ne_iff.mpr e)
    have c1' : mx (g.1.getD i 0) (g.2.getD i 0) = mn (g.1.getD i 0) (g.2.getD i 0) + 1 := ne_iff.mp c1
    rw [if_neg (fun z => z c1')] at hl
    have lo0 : 0 ≤ mn (g.1.getD i 0) (g.2.getD i 0) ∧ mn (g.1.getD i 0) (g.2.getD i 0) + 1 < n := by
      rw [← c1']
      unfold mn mx
      constructor
      · split <;> omega
      · split <;> omega
    have elo : (if g.2.getD i 0 < g.1.getD i 0 then g.2.getD i 0 else g.1.getD i 0) = mn (g.1.getD i 0) (g.2.getD i 0) := rfl
    rw [elo]
    generalize mn (g.1.getD i 0) (g.2.getD i 0) = lo at hl lo0 ⊢
    -- if xs[i] == low
    refine ⟨_, rfl, _, rfl, ax, _, _, _, rfl, rfl, sqF hxa, nat_at (by omega), _, rfl, rfl, _, rfl, iteD (fun c2 => ?_) (fun c2 => ?_)⟩
    · rw [if_pos (ne_iff.mp c2)] at hl
      refine ⟨_, rfl, ao, obo, g.2, rfl, hoa, d0, _, rfl, lo, rfl, hoa, a2 _ (by omega) (by omega), _, rfl, ax, obx, g.1, rfl, hxa, dx, _, rfl, _, _, rfl, rfl, lo + 1, rfl, hxa, a1 _ (by omega) (by omega), rfl, _, rfl, iteDn (fun c3 => ⟨_, rfl, kk (some lo) ?_⟩) (fun c3 => kk none ?_)⟩
      · rw [hl]
        exact if_pos fun e => c3 (ne_iff.mpr e)
      · rw [hl]
        exact if_neg fun e => e (ne_iff.mp c3)
    · rw [if_neg (fun e => c2 (ne_iff.mpr e))] at hl
      refine ⟨_, rfl, ax, obx, g.1, rfl, hxa, dx, _, rfl, lo, rfl, hxa, a1 _ (by omega) (by omega), _, rfl, ao, obo, g.2, rfl, hoa, d0, _, rfl, _, _, rfl, rfl, lo + 1, rfl, hoa, a2 _ (by omega) (by omega), rfl, _, rfl, iteDn (fun c3 => ⟨_, rfl, kk (some lo) ?_⟩) (fun c3 => kk none ?_)⟩
      · rw [hl]
        exact if_pos fun e => c3 (ne_iff.mpr e)
      · rw [hl]
        exact if_neg fun e => e (ne_iff.mp c3)
abbrev sShrunk : Stmt := top 12
-- slots: pair 0 i 1 low 2 row 3 r 4
theorem scShrunk : FnScope ["pair", "i", "low", "row", "r"] ["pair", "i"] (defScope sShrunk) := ⟨rfl, rfl, rfl, by decide +kernel, rfl, by decide +kernel, by decide +kernel⟩
def spShrunk (K : PySem.W.Frag) : Sp := fun vs H Q _ => ∃ v g i n, vs = [v, .int (i : Nat)] ∧ IsG K g v H ∧ i < n ∧ n ≤ 100 ∧ PermR n g.1 ∧ PermR n g.2 ∧ ∀ v' H', Same H H' → IsO K (shrunk g i) v' H' → Q v' H'
theorem ok_shrunk {f : Addr} {fd : FuncData} (F : Fun K "shrunk" "shrunk" sShrunk f fd) (B : Bl mg) (D_low_row : DefOk P w K mg base "low_row" 1 ["pair", "i"] (spLowRow K)) : FnOk P w K mg base CX0 2 f fd ["pair", "i"] (spShrunk K) := by
  refine F.ok scShrunk (fun vs H Q E h => ?_) (fun cdv A outer s H vs Q E hr h => ?_)
  · obtain ⟨v, g, i, n, rfl, _⟩ := h
    rfl
  · obtain ⟨v, g, i, n, rfl, ⟨a, x, o, rfl, hp, hx, ho⟩, hi, hn, f1, f2, k⟩ := h
    refine ⟨_, (pss_cons (ps_set (i := 2) scShrunk.nd rfl (Or.inr rfl) (pe_cd D_low_row (hr.mono (by decide)) rfl (pa_cons (pv 0) (pa_cons (pv 1) pa_nil))))
      (pss_cons (ps_if (pt_cmpR op_isN (pv 2) pe_non (nomark _)) (pss_one (ps_ret pe_non)) pss_nil)
      (pss_one (ps_ret (tupOf K (by rfl) B.tuple (pe_lc (own := [("row", 3)]) (by rfl) scShrunk.nd (piT K (pv 0)) (blkOk_by (by kernel_rfl)) (fun _ _ _ _ _ => (pg_name (i := 3) scShrunk.nd rfl (by first | exact Or.inl rfl | exact Or.inr rfl))) (fun _ _ _ _ _ => pts_nil) (fun _ _ _ _ _ => (tupOf K (by rfl) B.tuple (pe_lc (own := [("r", 4)]) (by rfl) scShrunk.nd (piT K (pe_op (catF K) (pe_slice (slT K) (pv 3) po_none (po_some (pv 1))) (pe_slice (slT K) (pv 3) (po_some (pe_op op_add (pv 1) pe_int)) po_none))) (blkOk_by (by kernel_rfl)) (fun _ _ _ _ _ => (pg_name (i := 4) scShrunk.nd rfl (by first | exact Or.inl rfl | exact Or.inr rfl))) (fun _ _ _ _ _ => pts_nil) (fun _ _ _ _ _ => (pe_ifExp (pt_cmpR op_gt (pv 4) (pv 2) (nomark _)) (pe_op op_sub (pv 4) pe_int) (pv 4)))))))))))), ?_⟩
    have l1 := f1.len
    have l2 := f2.len
    refine ⟨_, rfl, _, rfl, _, g, i, n, rfl, ⟨a, x, o, rfl, hp, hx, ho⟩, hi, hn, f1, f2, ?_⟩
    cases hlo : lowRow g i with
    | none =>
      refine ⟨_, rfl, rfl, _, rfl, iteD (fun _ => k _ _ (Same.refl _) ?_) (fun c => absurd rfl c)⟩
      show IsO K (match lowRow g i with | none => none | some lo => some (shrinkRow g.1 i lo, shrinkRow g.2 i lo)) _ _
      rw [hlo]
      rfl
    | some lo =>
      refine ⟨_, rfl, rfl, _, rfl, iteD (fun c => nomatch c) (fun _ => ?_)⟩
      have esh : shrunk g i = some (shrinkRow g.1 i lo, shrinkRow g.2 i lo) := by
        show (match lowRow g i with | none => none | some lo => some (shrinkRow g.1 i lo, shrinkRow g.2 i lo)) = _
        rw [hlo]
      refine ⟨_, rfl, a, rfl, ⟨_, hp⟩, fun D nD => ?_⟩
      refine lcT_map (fun j v H => ∃ l, ([g.1, g.2] : List (List Int))[j]? = some l ∧ Row K (shrinkRow l i lo) v H) nD hp (by show 2 < sizeLine; decide) (fun j v H H' e ⟨l, e1, r⟩ => ⟨l, e1, r.kt e⟩) ?_ ?_
      · intro j x' H1 hj s1 K1 q1
        have row : ∃ l, ([g.1, g.2] : List (List Int))[j]? = some l ∧ Row K l x' H ∧ l.length = n := by
          match j, hj with
          | 0, hj => exact ⟨g.1, rfl, by cases hj; exact hx, l1⟩
          | 1, hj => exact ⟨g.2, rfl, by cases hj; exact ho, l2⟩
        obtain ⟨l, el, rl, ll⟩ := row
        obtain ⟨al, exl, hl⟩ := rl.seq
        subst exl
        refine ⟨_, rfl, ⟨_, rfl, _, rfl, slT_read ((kt_same s1).t hl) fun p2 H2 s2 h2 => ?_⟩⟩
        rw [cut_take] at h2
        refine ⟨_, rfl, _, rfl, _, _, rfl, rfl, _, rfl, ?_⟩
        show tNoPart _ _ _
        refine noPart ?_
        show rSlA K _ _ _ _ _
        have s02 : Same H H2 := s1.trans s2
        refine slT_read ((kt_same s02).t hl) fun p3 H3 s3 h3 => ?_
        rw [cut_drop l (i + 1) (by omega)] at h3
        refine cat_seq ((kt_same s3).t h2) h3 (by rw [List.length_take, List.length_drop]; omega) fun p5 H5 s5 h5 => ⟨p5, rfl, ⟨_, h5⟩, fun D5 nD5 => ?_⟩
        refine lcT_ints (fun r => if lo < r then r - 1 else r) nD5 h5 (by rw [List.length_append, List.length_take, List.length_drop]; omega) (fun r H6 hr6 s6 K6 q6 => ?_) (fun H6 s6 e6 => ?_)
        · exact ⟨_, rfl, _, rfl, _, _, rfl, rfl, _, rfl, iteD (fun c => ⟨_, rfl, _, _, rfl, rfl, by have q := q6 _ (Same.refl _); rw [if_pos c] at q; exact q⟩) (fun c => ⟨_, rfl, by have q := q6 _ (Same.refl _); rw [if_neg c] at q; exact q⟩)⟩
        · exact ⟨_, _, rfl, SqL.of e6, fun q oq nq dq => q1 _ _ ((((s2.trans s3).trans s5).trans s6).trans (same_new nq)) ⟨l, el, q, oq, rfl, upd_same, dq⟩⟩
      · intro H4 l s4 e4 hlen hP
        obtain ⟨y0, y1, rfl⟩ := two_rows hlen
        obtain ⟨_, e0, r0⟩ := hP 0 y0 rfl
        obtain ⟨_, e1', r1⟩ := hP 1 y1 rfl
        cases e0
        cases e1'
        refine ⟨_, _, rfl, SqL.of e4, fun q oq nq dq => k _ _ (s4.trans (same_new nq)) ?_⟩
        rw [esh]
        exact ⟨q, y0, y1, rfl, sqF upd_same, r0.kt (kt_same (same_new nq)), r1.kt (kt_same (same_new nq))⟩
end
end Gk
end

section
set_option Elab.async false
set_option linter.all false
set_option maxRecDepth 100000
set_option maxHeartbeats 4000000
namespace Gk
open PySem L2
section
variable {P : Program} {w : World} {K : PySem.W.Frag} {mg : Str → Option Value} {base : Heap}
abbrev sFirstOf : Stmt := top 16
-- slots: pair 0 found 1 i 2 r 3
theorem scFirstOf : FnScope ["pair", "found", "i", "r"] ["pair"] (defScope sFirstOf) := ⟨rfl, rfl, rfl, by decide +kernel, rfl, by decide +kernel, by decide +kernel⟩
def spFirst (K : PySem.W.Frag) : Sp := fun vs H Q _ => ∃ v g, vs = [v] ∧ IsG K g v H ∧ 0 < g.1.length ∧ g.1.length ≤ 100 ∧ g.2.length = g.1.length ∧ ∀ v' H' (c d : Int), Same H H' → IsTri K (first g, c, d) v' H' → Q v' H'
theorem ok_first {f : Addr} {fd : FuncData} (F : Fun K "first_of" "first_of" sFirstOf f fd) (B : Bl mg) (D_turned : DefOk P w K mg base "turned" 1 ["pair", "columns", "down"] (spTurned K)) : FnOk P w K mg base CX0 2 f fd ["pair"] (spFirst K) := by
  refine F.ok scFirstOf (fun vs H Q E h => ?_) (fun cdv A outer s H vs Q E hr h => ?_)
  · obtain ⟨v, g, rfl, _⟩ := h
    rfl
  · obtain ⟨v, g, rfl, hg, h0, h1, h2, k⟩ := h
    obtain ⟨a, x, o, rfl, hp, hx, ho⟩ := id hg
    refine ⟨_, (pss_cons (ps_setLc (i := 1) (own := [("i", 2), ("r", 3)]) rfl scFirstOf.nd rfl rfl (sw_true rfl rfl rfl (by decide +kernel)) (enumT K (by rfl) B.enum (pa_cons (pe_ix (ixT K) (pv 0) pe_int (fun _ _ => rfl)) pa_nil)) (blkOk_by (by kernel_rfl)) (fun _ _ _ _ _ => (pgT K (n := 2) (by rfl) (pgs_cons (pg_name (i := 2) scFirstOf.nd rfl (by first | exact Or.inl rfl | exact Or.inr rfl)) (pgs_cons (pg_name (i := 3) scFirstOf.nd rfl (by first | exact Or.inl rfl | exact Or.inr rfl)) pgs_nil)))) (fun _ _ _ _ _ => pts_nil) (fun _ _ _ _ _ => (peTup (pa_cons (pe_cd D_turned (hr.mono (by decide)) rfl (pa_cons (pv 0) (pa_cons (pv 2) (pa_cons (pv 3) pa_nil)))) (pa_cons (pv 2) (pa_cons (pv 3) pa_nil))))))
      (pss_one (ps_ret (pe_callB (minT K rfl (hu64 hr)) (by rfl) B.min (by decide +kernel) (pa_cons (pv 1) pa_nil))))), ?_⟩
    obtain ⟨ax, ex, hxa⟩ := id hx.seq
    subst ex
    refine ⟨_, rfl, a, _, 0, _, rfl, rfl, hp, rfl, ax, _, rfl, hxa, fun D nD => ?_⟩
    refine lc_mapG g.1.length (fun i v H => IsTri K (turned g (i : Nat) (g.1.getD i 0), (i : Nat), g.1.getD i 0) v H) nD (small_len (by omega)) (fun i v H H' e h => h.kt e)
      (fun i H1 hi s1 => ⟨_, _, (kt_same s1).t hxa, nums_at hi⟩) (fun H1 s1 => ⟨_, (kt_same s1).t hxa, nums_len _⟩) ?_ ?_
    · intro i H1 y H2 hi s1 hy K1 q1
      obtain ⟨T, x', rfl, nT, rfl, hx'⟩ := hy
      have e1 := hx' _ ((kt_same s1).t hxa)
      rw [nums_at hi] at e1
      cases e1
      have sT : Same H1 (upd H1 T (.tup [.int (i : Nat), .int (g.1.getD i 0)])) := same_new nT
      refine ⟨T, _, rfl, .inl (.inl upd_same), rfl, _, _, rfl, _, _, rfl, rfl, rfl, ?_⟩
      have s2 : Same H _ := s1.trans sT
      refine ⟨_, rfl, _, rfl, _, rfl, _, _, _, g, rfl, hg.kt (kt_same s2), h0, h1, h2, fun v' H3 s3 hv' => ?_⟩
      refine ⟨_, rfl, _, rfl, by show 3 ≤ sizeLine; decide, fun q oq nq dq => ?_⟩
      exact q1 _ _ ((sT.trans s3).trans (same_new nq)) ⟨q, v', rfl, sqF upd_same, hv'.kt (kt_same (same_new nq))⟩
    · intro H1 l s1 e1 hlen hP
      refine ⟨_, rfl, D, l, (List.range g.1.length).map fun (i : Nat) => (turned g (i : Int) (g.1.getD i 0), (i : Int), g.1.getD i 0), rfl, SqL.of e1, by rw [hlen]; simp, ?_, fun i v t hv ht => ?_, fun v t e2 _ e3 => ?_⟩
      · intro z
        have e := congrArg List.length z
        rw [List.length_map, List.length_range] at e
        have e2 : g.1.length = 0 := e
        omega
      · rw [List.getElem?_map] at ht
        have hi : i < g.1.length := by
          rw [← hlen]
          exact (List.getElem?_eq_some_iff.mp hv).1
        rw [List.getElem?_range hi] at ht
        cases ht
        exact hP i v hv
      · obtain ⟨t1, t2, t3⟩ := t
        have e4 : t1 = first g := by
          refine e2.trans ?_
          rw [List.map_map]
          rfl
        subst e4
        exact k v H1 t2 t3 s1 e3
end
end Gk
end

section
set_option Elab.async false
set_option linter.all false
set_option maxRecDepth 100000
set_option maxHeartbeats 4000000
namespace Gk
open PySem L2
section
variable {P : Program} {w : World} {K : PySem.W.Frag} {mg : Str → Option Value} {base : Heap}
abbrev sChBy : Stmt := top 17
-- slots: pair 0 swap 1 shrink 2 n 3 found 4 i 5 one 6
theorem scChBy : FnScope ["pair", "swap", "shrink", "n", "found", "i", "one"] ["pair", "swap", "shrink"] (defScope sChBy) := ⟨rfl, rfl, rfl, by decide +kernel, rfl, by decide +kernel, by decide +kernel⟩
def spChBy (K : PySem.W.Frag) : Sp := fun vs H Q _ => ∃ v x y g n, vs = [v, .str x, .str y] ∧ IsG K g v H ∧ 0 < n ∧ n ≤ 100 ∧ PermR n g.1 ∧ PermR n g.2 ∧ ToList (IsCh K) (changesBy g) H Q
theorem ok_chby {f : Addr} {fd : FuncData} (F : Fun K "changes_by_columns" "changes_by_columns" sChBy f fd) (B : Bl mg) (D_swapped : DefOk P w K mg base "swapped" 1 ["pair", "i"] (spSwapped K)) (D_shrunk : DefOk P w K mg base "shrunk" 2 ["pair", "i"] (spShrunk K)) : FnOk P w K mg base CX0 3 f fd ["pair", "swap", "shrink"] (spChBy K) := by
  refine F.ok scChBy (fun vs H Q E h => ?_) (fun cdv A outer s H vs Q E hr h => ?_)
  · obtain ⟨v, x, y, g, n, rfl, _⟩ := h
    rfl
  · obtain ⟨v, x, y, g, n, rfl, hg, h0, h1, f1, f2, k⟩ := h
    obtain ⟨a, ix, io, rfl, hp, hx, ho⟩ := id hg
    refine ⟨_, (pss_cons (ps_set (i := 3) scChBy.nd rfl (Or.inl rfl) (pe_callB (lenS K) (by rfl) B.len PySem.boot_len (pa_cons (pe_ix (ixT K) (pv 0) pe_int (fun _ _ => rfl)) pa_nil)))
      (pss_cons (ps_setLc (i := 4) (own := [("i", 5)]) rfl scChBy.nd rfl rfl (sw_true rfl rfl rfl (by decide +kernel)) (pi_range1 (by rfl) B.range (pa_cons (pe_op op_sub (pv 3) pe_int) pa_nil)) (blkOk_by (by kernel_rfl)) (fun _ _ _ _ _ => (pg_name (i := 5) scChBy.nd rfl (by first | exact Or.inl rfl | exact Or.inr rfl))) (fun _ _ _ _ _ => pts_nil) (fun _ _ _ _ _ => (peTup (pa_cons (peTup (pa_cons (pv 1) (pa_cons (pv 5) pa_nil))) (pa_cons (pe_cd D_swapped (hr.mono (by decide)) rfl (pa_cons (pv 0) (pa_cons (pv 5) pa_nil))) pa_nil)))))
      (pss_cons (ps_expr (pe_bm PySem.F.plainAttrs_list PySem.F.slot_list_extend PySem.F.type_list_extend mt_extend (pv 4) (pa_cons (pe_lc (own := [("i", 5)]) (by rfl) scChBy.nd (pi_range1 (by rfl) B.range (pa_cons (pv 3) pa_nil)) (blkOk_by (by kernel_rfl)) (fun _ _ _ _ _ => (pg_name (i := 5) scChBy.nd rfl (by first | exact Or.inl rfl | exact Or.inr rfl))) (fun _ _ _ _ _ => pts_nil) (fun _ _ _ _ _ => (peTup (pa_cons (peTup (pa_cons (pv 2) (pa_cons (pv 5) pa_nil))) (pa_cons (pe_cd D_shrunk (hr.mono (by decide)) rfl (pa_cons (pv 0) (pa_cons (pv 5) pa_nil))) pa_nil))))) pa_nil)))
      (pss_one (ps_ret (pe_lc (own := [("one", 6)]) (by rfl) scChBy.nd (piL K (pv 4)) (blkOk_by (by kernel_rfl)) (fun _ _ _ _ _ => (pg_name (i := 6) scChBy.nd rfl (by first | exact Or.inl rfl | exact Or.inr rfl))) (fun _ _ _ _ _ => pts_one (pt_cmpR op_notN (pe_ix (ixT K) (pv 6) pe_int (fun _ _ => rfl)) pe_non (nomark _))) (fun _ _ _ _ _ => (pv 6)))))))), ?_⟩
    obtain ⟨ax, ex, hxa⟩ := id hx.seq
    subst ex
    have l1 := f1.len
    have l2 := f2.len
    have hl : (nums g.1).length = n := by rw [nums_len, l1]
    -- n = len(pair[0])
    refine ⟨_, rfl, a, _, 0, _, rfl, rfl, hp, rfl, ax, _, rfl, .inr hxa, ?_⟩
    rw [hl]
    -- found = [..]
    refine ⟨_, rfl, _, _, rfl, rfl, _, rfl, by omega, by omega, fun D nD => ?_⟩
    refine lc_map ((n : Int) - 1).toNat (fun i v H => IsChO K (swapped g i) v H) nD (small_len (by omega)) (fun i v H H' e h => h.kt e) (fun i H hi _ => hi) (fun H _ => Nat.le_refl _) ?_ ?_
    · rintro i H1 y1 H1' hi s1 ⟨rfl, rfl⟩ K1 q1
      refine ⟨_, rfl, _, rfl, by show 2 ≤ sizeLine; decide, fun q oq nq dq => ?_⟩
      have s2 := s1.trans (same_new (o := .frz oq (.tup [.str x, .int (0 + (i : Nat))])) nq)
      refine ⟨_, rfl, _, rfl, _, g, i, n, by rw [Int.zero_add]; rfl, hg.kt (kt_same s2), by omega, h1, l1, l2, fun v' H3 s3 hv' => ?_⟩
      refine ⟨by show 2 ≤ sizeLine; decide, fun q2 o2 nq2 dq2 => ?_⟩
      exact q1 _ _ (((same_new nq).trans s3).trans (same_new nq2)) ⟨q2, o2, _, _, rfl, upd_same, hv'.kt (kt_same (same_new nq2))⟩
    · intro H1 l s1 e1 hlen hP
      have b1 : EachR (IsChO K) ((List.range ((n : Int) - 1).toNat).map (swapped g)) l H1 := .by_range hlen hP
      -- found.extend([..])
      refine ⟨_, rfl, .inl ⟨rfl, _, SqL.of e1⟩, ?_⟩
      refine ⟨_, rfl, _, rfl, by omega, by omega, fun D2 nD2 => ?_⟩
      refine lc_map ((n : Int)).toNat (fun i v H => IsChO K (shrunk g i) v H) nD2 (small_len (by omega)) (fun i v H H' e h => h.kt e) (fun i H hi _ => hi) (fun H _ => Nat.le_refl _) ?_ ?_
      · rintro i H2 y1 H2' hi s2 ⟨rfl, rfl⟩ K1 q1
        refine ⟨_, rfl, _, rfl, by show 2 ≤ sizeLine; decide, fun q oq nq dq => ?_⟩
        have s3 := (s1.trans s2).trans (same_new (o := .frz oq (.tup [.str y, .int (0 + (i : Nat))])) nq)
        refine ⟨_, rfl, _, rfl, _, g, i, n, by rw [Int.zero_add]; rfl, hg.kt (kt_same s3), by omega, h1, f1, f2, fun v' H3 s3 hv' => ?_⟩
        refine ⟨by show 2 ≤ sizeLine; decide, fun q2 o2 nq2 dq2 => ?_⟩
        exact q1 _ _ (((same_new nq).trans s3).trans (same_new nq2)) ⟨q2, o2, _, _, rfl, upd_same, hv'.kt (kt_same (same_new nq2))⟩
      · intro H2 m s2 e2 hlen2 hP2
        have b2 : EachR (IsChO K) ((List.range ((n : Int)).toNat).map (shrunk g)) m H2 := .by_range hlen2 hP2
        have hD2 : H2 D = some (.lst l) := s2 _ _ e1
        have lenl : l.length + m.length ≤ 200 := by omega
        refine ⟨D, D2, l, m, rfl, rfl, hD2, e2, Nat.le_of_lt (small_len (by omega)), ?_⟩
        have k3 : KT H2 (upd H2 D (.lst (l ++ m))) := kt_upd hD2
        have s3 : Same H (upd H2 D (.lst (l ++ m))) := same_own (s1.trans s2) nD
        have b3 : EachR (IsChO K) (((List.range ((n : Int) - 1).toNat).map (swapped g)) ++ ((List.range ((n : Int)).toNat).map (shrunk g))) (l ++ m) (upd H2 D (.lst (l ++ m))) :=
          (EachR.kt b1 fun x v h => h.kt ((kt_same s2).trans k3)).append (b2.kt fun x v h => h.kt k3)
        have eos : changesBy g = (((List.range ((n : Int) - 1).toNat).map (swapped g)) ++ ((List.range ((n : Int)).toNat).map (shrunk g))).filterMap id := by
          unfold changesBy
          rw [List.filterMap_append, List.filterMap_map, List.filterMap_map, l1, show ((n : Int) - 1).toNat = n - 1 by omega, show ((n : Int)).toNat = n by omega]
          rfl
        rw [eos] at k
        generalize (((List.range ((n : Int) - 1).toNat).map (swapped g)) ++ ((List.range ((n : Int)).toNat).map (shrunk g))) = os at b3 k
        generalize hH3 : upd H2 D (.lst (l ++ m)) = H3 at s3 b3 ⊢
        have e3 : H3 D = some (.lst (l ++ m)) := by rw [← hH3]; exact upd_same
        have elm : (l ++ m).length = l.length + m.length := List.length_append ..
        generalize l ++ m = lm at e3 b3 elm
        have llm : os.length < sizeLine := by
          rw [← b3.1, elm]
          exact small_len (by omega)
        -- the end
        refine ⟨_, rfl, D, rfl, ⟨_, SqL.of e3⟩, fun D4 nD4 => ?_⟩
        refine lc_rel os.length (fun i r H => EachR (IsCh K) ((os.take i).filterMap id) r H) (fun i r H H' e h => h.kt fun x v z => z.kt e) nD4 llm EachR.nil (fun i r H h => ?_) (fun i H hi sm => ?_) (fun H sm => ?_) ?_ (fun H r sm hr h => ?_)
        · rw [h.1]
          exact Nat.le_trans (List.length_filterMap_le ..) (by rw [List.length_take]; exact Nat.min_le_left ..)
        · obtain ⟨v, hv, _⟩ := b3.at' (List.getElem?_eq_getElem hi)
          exact ⟨_, v, SqL.of (sm _ _ e3), hv⟩
        · exact ⟨_, SqL.of (sm _ _ e3), by rw [b3.1]; exact Nat.le_refl _⟩
        · rintro i H4 x4 H4' acc hi s4 hR ⟨rfl, hx4⟩ K1 K2 q1 q2
          have hx5 := hx4 _ (SqL.of (s4 _ _ e3))
          obtain ⟨o4, ho4, a4, ob4, m4, p4, rfl, ha4, hp4⟩ := b3.at hx5
          refine ⟨wipe1 _ _ _, ?_⟩
          have et : (os.take (i + 1)).filterMap id = (os.take i).filterMap id ++ o4.toList := by
            rw [List.take_add_one, List.filterMap_append, ho4]
            cases o4 <;> rfl
          refine ⟨_, rfl, a4, _, 1, _, rfl, rfl, sqF (s4 _ _ ha4), rfl, rfl, _, rfl, ?_⟩
          cases o4 with
          | none =>
            obtain rfl : p4 = .non := hp4
            exact q2 _ (Same.refl _) (by rw [et]; simpa using hR)
          | some g4 =>
            obtain ⟨a5, x5, o5, rfl, rest⟩ := id hp4
            exact ⟨_, rfl, q1 _ _ (Same.refl _) (by
              rw [et]
              exact hR.snoc ⟨a4, ob4, m4, _, rfl, s4 _ _ ha4, IsG.kt hp4 (kt_same s4)⟩)⟩
        · rw [List.take_length] at h
          exact k D4 H r (s3.trans sm) (s3.free nD4) hr h
end
end Gk
end

section
set_option Elab.async false
set_option linter.all false
set_option maxRecDepth 100000
set_option maxHeartbeats 4000000
namespace Gk
open PySem L2
section
variable {P : Program} {w : World} {K : PySem.W.Frag} {mg : Str → Option Value} {base : Heap}
theorem changesBy_len (g : G) : (changesBy g).length ≤ 2 * g.1.length := by
  unfold changesBy
  rw [List.length_append]
  have h1 := List.length_filterMap_le (swapped g) (List.range (g.1.length - 1))
  have h2 := List.length_filterMap_le (shrunk g) (List.range g.1.length)
  rw [List.length_range] at h1 h2
  omega
abbrev sChOf : Stmt := top 18
-- slots: pair 0 found 1 move 2 other 3
theorem scChOf : FnScope ["pair", "found", "move", "other"] ["pair"] (defScope sChOf) := ⟨rfl, rfl, rfl, by decide +kernel, rfl, by decide +kernel, by decide +kernel⟩
/-- what changes_of asks of its pair -/
structure ChOk (n : Nat) (g : G) : Prop where
  p0 : 0 < n
  p1 : n ≤ 100
  a1 : PermR n g.1
  a2 : PermR n g.2
  b1 : PermR n (trans g).1
  b2 : PermR n (trans g).2
  c : ∀ o ∈ changesBy (trans g), ∃ m, m ≤ 100 ∧ Full m o.1 ∧ Full m o.2
def spChOf (K : PySem.W.Frag) : Sp := fun vs H Q _ => ∃ v g n, vs = [v] ∧ IsG K g v H ∧ ChOk n g ∧ ToList (IsCh K) (changes g) H Q
theorem ok_chof {f : Addr} {fd : FuncData} (F : Fun K "changes_of" "changes_of" sChOf f fd) (B : Bl mg) {t1 t2 t3 t4 : Tok} (g_SWAP_COLUMNS : mg "SWAP_COLUMNS" = some (.str "swap columns" t1)) (g_SWAP_ROWS : mg "SWAP_ROWS" = some (.str "swap rows" t2)) (g_SHRINK_COLUMN : mg "SHRINK_COLUMN" = some (.str "shrink column" t3)) (g_SHRINK_ROW : mg "SHRINK_ROW" = some (.str "shrink row" t4))
    (D_transposed : DefOk P w K mg base "transposed" 1 ["pair"] (spTrans K)) (D_changes_by_columns : DefOk P w K mg base "changes_by_columns" 3 ["pair", "swap", "shrink"] (spChBy K)) : FnOk P w K mg base CX0 4 f fd ["pair"] (spChOf K) := by
  refine F.ok scChOf (fun vs H Q E h => ?_) (fun cdv A outer s H vs Q E hr h => ?_)
  · obtain ⟨v, g, n, rfl, _⟩ := h
    rfl
  · obtain ⟨v, g, n, rfl, hg, ⟨p0, p1, a1, a2, b1, b2, c⟩, k⟩ := h
    refine ⟨_, (pss_cons (ps_set (i := 1) scChOf.nd rfl (Or.inl rfl) (pe_cd D_changes_by_columns (hr.mono (by decide)) rfl (pa_cons (pv 0) (pa_cons (pe_glob (v := .str "swap columns") rfl g_SWAP_COLUMNS ⟨_, rfl⟩) (pa_cons (pe_glob (v := .str "shrink column") rfl g_SHRINK_COLUMN ⟨_, rfl⟩) pa_nil)))))
      (pss_cons (ps_for PassesOwn.never rfl (piL K (pe_cd D_changes_by_columns (hr.mono (by decide)) rfl (pa_cons (pe_cd D_transposed (hr.mono (by decide)) rfl (pa_cons (pv 0) pa_nil)) (pa_cons (pe_glob (v := .str "swap rows") rfl g_SWAP_ROWS ⟨_, rfl⟩) (pa_cons (pe_glob (v := .str "shrink row") rfl g_SHRINK_ROW ⟨_, rfl⟩) pa_nil))))) (pgT K (n := 2) (by rfl) (pgs_cons (pg_name (i := 2) scChOf.nd rfl (by first | exact Or.inl rfl | exact Or.inr rfl)) (pgs_cons (pg_name (i := 3) scChOf.nd rfl (by first | exact Or.inl rfl | exact Or.inr rfl)) pgs_nil))) (pss_one (ps_expr (pe_bm PySem.F.plainAttrs_list PySem.F.slot_list_append PySem.F.type_list_append mt_append (pv 1) (pa_cons (peTup (pa_cons (pv 2) (pa_cons (pe_cd D_transposed (hr.mono (by decide)) rfl (pa_cons (pv 3) pa_nil)) pa_nil))) pa_nil)))))
      (pss_one (ps_ret (pv 1))))), ?_⟩
    -- found = changes_by_columns(pair, ..)
    refine ⟨_, rfl, v, _, _, g, n, rfl, hg, p0, p1, a1, a2, fun D H1 l s1 nD e1 r1 => ?_⟩
    -- the others
    refine ⟨_, rfl, v, g, n, rfl, hg.kt (kt_same s1), p1, a1.full, a2.full, fun v2 H2 s2 g2 => ?_⟩
    refine ⟨v2, _, _, trans g, n, rfl, g2, p0, p1, b1, b2, fun D3 H3 l3 s3 nD3 e3 r3 => ?_⟩
    have e3D : H3 D = some (.lst l) := s3 _ _ (s2 _ _ e1)
    have nDD : D3 ≠ D := fun z => by
      rw [z, s2 _ _ e1] at nD3
      cases nD3
    have s03 : Same H H3 := s1.trans (s2.trans s3)
    have r1' := r1.kt (H' := H3) fun x v h => h.kt (kt_same (s2.trans s3))
    refine ⟨D3, rfl, ⟨_, SqL.of e3⟩, for_list (K := K) (a := D3) (xs := l3) (fun i σ H => ∃ v3 v4, σ = [some v, some (.ref D), v3, v4] ∧ SameBut D H3 H ∧ ∃ r, H D = some (.lst r) ∧ EachR (IsCh K) (changesBy g ++ (((changesBy (trans g)).take i).map trans)) r H)
      ⟨none, none, rfl, SameBut.refl _ _, l, e3D, by simpa using r1'⟩ (fun i σ H hi ⟨_, _, _, sb, _⟩ => sb.seqL e3 nDD) ?_ ?_⟩
    · rintro i x σ H4 hx ⟨v3, v4, rfl, sb, r, hr4, er4⟩
      obtain ⟨o, ho, a, ob, m, p, rfl, ha, hp⟩ := r3.at hx
      have kt4 : KT H3 H4 := sb.kt e3D
      have ho' := List.mem_of_getElem? ho
      obtain ⟨m2, hm2, f1, f2⟩ := c o ho'
      refine ⟨a, _, rfl, sqF (kt4.2 _ _ _ ha), rfl, _, _, rfl, _, _, rfl, rfl, ?_⟩
      refine ⟨_, rfl, .inl ⟨rfl, _, SqL.of hr4⟩, _, rfl, _, rfl, p, o, m2, rfl, hp.kt kt4, hm2, f1, f2, fun v5 H5 s5 g5 => ?_⟩
      refine ⟨by show 2 ≤ sizeLine; decide, fun q oq nq dq => ?_⟩
      have s6 : Same H4 (upd H5 q (.frz oq (.tup [m, v5]))) := s5.trans (same_new nq)
      have hr6 := s6 _ _ hr4
      have ho4 : H4 D ≠ none := by rw [hr4]; exact fun z => nomatch z
      have lr : r.length ≤ 400 := by
        have h1 := er4.1
        rw [List.length_append, List.length_map, List.length_take] at h1
        have h2 := changesBy_len g
        have h3 := changesBy_len (trans g)
        have h4 := a1.len
        have h5 := b1.len
        omega
      refine ⟨D, r, _, rfl, rfl, hr6, small_len (by omega), ?_⟩
      have sb6 : SameBut D H3 (upd (upd H5 q (.frz oq (.tup [m, v5]))) D (.lst (r ++ [.ref q]))) := (sb.trans (same_but s6 D)).upd
      refine ⟨_, _, rfl, sb6, _, upd_same, ?_⟩
      have k6 : KT H4 (upd (upd H5 q (.frz oq (.tup [m, v5]))) D (.lst (r ++ [.ref q]))) := (kt_same s6).trans (kt_upd hr6)
      have et : ((changesBy (trans g)).take (i + 1)).map trans = ((changesBy (trans g)).take i).map trans ++ [trans o] := by
        rw [List.take_add_one, ho, List.map_append]
        rfl
      rw [et, ← List.append_assoc]
      refine (er4.kt fun x v h => h.kt k6).snoc ⟨q, oq, m, v5, rfl, (kt_upd hr6).2 _ _ _ upd_same, g5.kt ((kt_same (same_new nq)).trans (kt_upd hr6))⟩
    · rintro σ H4 ⟨v3, v4, rfl, sb, r, hr4, er4⟩
      rw [List.take_of_length_le (by rw [r3.1]; exact Nat.le_refl _)] at er4
      exact ⟨_, rfl, k D H4 r (sb.same s03 nD) nD hr4 er4⟩
end
end Gk
end

section
set_option Elab.async false
set_option linter.all false
set_option maxRecDepth 100000
set_option maxHeartbeats 4000000
namespace Gk
open PySem L2
section
variable {P : Program} {w : World} {K : PySem.W.Frag} {mg : Str → Option Value} {base : Heap}
/-- a triple (turns, move, pair of rows) -/
def IsSt (K : PySem.W.Frag) (g : G) (v : V) (H : Hp) : Prop := ∃ a ob m1 m2 p, v = .ref a ∧ H a = some (.frz ob (.tup [m1, m2, p])) ∧ IsG K g p H
theorem IsSt.kt {K : PySem.W.Frag} {g : G} {v : V} {H H' : Hp} (h : IsSt K g v H) (e : KT H H') : IsSt K g v H' := by
  obtain ⟨a, ob, m, n, p, q, h, h1⟩ := h
  exact ⟨a, ob, m, n, p, q, e.2 _ _ _ h, h1.kt e⟩
def seams : List (Int × Int) := [(0, 0), (1, 0), (0, 1)]
def stepsOf (p : G) (l : List (Int × Int)) : List G := l.flatMap fun s => changes (turned p s.1 s.2)
theorem stepsOf_seams (p : G) : stepsOf p seams = steps p := by
  unfold stepsOf seams steps
  simp
abbrev sStepsFrom : Stmt := top 19
-- slots: place 0 found 1 columns 2 down 3 move 4 pair 5
theorem scStepsFrom : FnScope ["place", "found", "columns", "down", "move", "pair"] ["place"] (defScope sStepsFrom) := ⟨rfl, rfl, rfl, by decide +kernel, rfl, by decide +kernel, by decide +kernel⟩
structure StOk (g : G) : Prop where
  p0 : 0 < g.1.length
  p1 : g.1.length ≤ 100
  l : g.2.length = g.1.length
  c : ∀ s ∈ seams, ChOk g.1.length (turned g s.1 s.2)
def spSteps (K : PySem.W.Frag) : Sp := fun vs H Q _ => ∃ v g, vs = [v] ∧ IsG K g v H ∧ StOk g ∧ ToList (IsSt K) (steps g) H Q
theorem changes_len (g : G) {n : Nat} (h : ChOk n g) : (changes g).length ≤ 4 * n := by
  unfold changes
  rw [List.length_append, List.length_map]
  have h1 := changesBy_len g
  have h2 := changesBy_len (trans g)
  have h3 := h.a1.len
  have h4 := h.b1.len
  omega
theorem ok_steps {f : Addr} {fd : FuncData} (F : Fun K "steps_from" "steps_from" sStepsFrom f fd) (B : Bl mg) {aS b0 b1 b2 : Addr} (g_SEAMS : mg "SEAMS" = some (.ref aS)) (hS : ∀ H, SqT K H aS [.ref b0, .ref b1, .ref b2]) (h0 : ∀ H, SqT K H b0 [.int 0, .int 0]) (h1 : ∀ H, SqT K H b1 [.int 1, .int 0]) (h2 : ∀ H, SqT K H b2 [.int 0, .int 1])
    (D_turned : DefOk P w K mg base "turned" 1 ["pair", "columns", "down"] (spTurned K)) (D_changes_of : DefOk P w K mg base "changes_of" 4 ["pair"] (spChOf K)) : FnOk P w K mg base CX0 5 f fd ["place"] (spSteps K) := by
  refine F.ok scStepsFrom (fun vs H Q E h => ?_) (fun cdv A outer s H vs Q E hr h => ?_)
  · obtain ⟨v, g, rfl, _⟩ := h
    rfl
  · obtain ⟨v, g, rfl, hg, ⟨p0, p1, pl, c⟩, k⟩ := h
    refine ⟨_, (pss_cons (ps_set (i := 1) scStepsFrom.nd rfl (Or.inl rfl) (pe_lst pa_nil))
      (pss_cons (ps_for PassesOwn.never rfl (piT K (pe_glob (v := .ref aS) rfl g_SEAMS rfl)) (pgT K (n := 2) (by rfl) (pgs_cons (pg_name (i := 2) scStepsFrom.nd rfl (by first | exact Or.inl rfl | exact Or.inr rfl)) (pgs_cons (pg_name (i := 3) scStepsFrom.nd rfl (by first | exact Or.inl rfl | exact Or.inr rfl)) pgs_nil))) (pss_one (ps_for PassesOwn.never rfl (piL K (pe_cd D_changes_of (hr.mono (by decide)) rfl (pa_cons (pe_cd D_turned (hr.mono (by decide)) rfl (pa_cons (pv 0) (pa_cons (pv 2) (pa_cons (pv 3) pa_nil)))) pa_nil))) (pgT K (n := 2) (by rfl) (pgs_cons (pg_name (i := 4) scStepsFrom.nd rfl (by first | exact Or.inl rfl | exact Or.inr rfl)) (pgs_cons (pg_name (i := 5) scStepsFrom.nd rfl (by first | exact Or.inl rfl | exact Or.inr rfl)) pgs_nil))) (pss_one (ps_expr (pe_bm PySem.F.plainAttrs_list PySem.F.slot_list_append PySem.F.type_list_append mt_append (pv 1) (pa_cons (peTup (pa_cons (peTup (pa_cons (pv 2) (pa_cons (pv 3) pa_nil))) (pa_cons (pv 4) (pa_cons (pv 5) pa_nil)))) pa_nil)))))))
      (pss_one (ps_ret (pv 1))))), ?_⟩
    -- found = []
    refine ⟨Nat.zero_le _, fun D nD => ?_⟩
    have s0 : Same H (upd H D (.lst [])) := same_new nD
    refine ⟨aS, rfl, ⟨_, hS _⟩, for_tup (K := K) (a := aS) (xs := [.ref b0, .ref b1, .ref b2]) (fun i σ H1 => ∃ v2 v3 v4 v5, σ = [some v, some (.ref D), v2, v3, v4, v5] ∧ SameBut D (upd H D (.lst [])) H1 ∧ ∃ r, H1 D = some (.lst r) ∧ EachR (IsSt K) (stepsOf g (seams.take i)) r H1)
      ⟨none, none, none, none, rfl, SameBut.refl _ _, [], upd_same, EachR.nil⟩ (fun i σ H1 hi _ => hS _) ?_ ?_⟩
    · rintro i x σ H1 hx ⟨v2, v3, v4, v5, rfl, sb, r, hr1, er1⟩
      obtain ⟨b, s, hs, hb, rfl⟩ : ∃ (b : Addr) (s : Int × Int), seams[i]? = some s ∧ SqT K H1 b [.int s.1, .int s.2] ∧ x = .ref b := by
        match i, hx with
        | 0, hx => exact ⟨b0, (0, 0), rfl, h0 _, by cases hx; rfl⟩
        | 1, hx => exact ⟨b1, (1, 0), rfl, h1 _, by cases hx; rfl⟩
        | 2, hx => exact ⟨b2, (0, 1), rfl, h2 _, by cases hx; rfl⟩
      have cs := c s (List.mem_of_getElem? hs)
      have hi3 : i < 3 := (List.getElem?_eq_some_iff.mp hs).1
      have kt1 : KT H H1 := (kt_same s0).trans (sb.kt upd_same)
      -- columns, down = ..; changes_of(turned(..))
      refine ⟨b, _, rfl, hb, rfl, _, _, rfl, _, _, rfl, rfl, ?_⟩
      refine ⟨_, rfl, _, rfl, _, rfl, v, s.1, s.2, g, rfl, hg.kt kt1, p0, p1, pl, fun v6 H2 s2 g2 => ?_⟩
      refine ⟨v6, turned g s.1 s.2, _, rfl, g2, cs, fun D3 H3 l3 s3 nD3 e3 r3 => ?_⟩
      have e3D : H3 D = some (.lst r) := s3 _ _ (s2 _ _ hr1)
      have nDD : D3 ≠ D := fun z => by
        rw [z, s2 _ _ hr1] at nD3
        cases nD3
      have s13 : Same H1 H3 := s2.trans s3
      have lr : r.length ≤ 4 * 100 * 3 := by
        have e := er1.1
        have : (stepsOf g (seams.take i)).length ≤ 400 * (seams.take i).length := by
          have cc : ∀ s ∈ seams.take i, ChOk g.1.length (turned g s.1 s.2) := fun s hs => c s (List.mem_of_mem_take hs)
          generalize seams.take i = l at cc
          clear e er1
          induction l with
          | nil => exact Nat.zero_le _
          | cons a l ih =>
            have e1 : (stepsOf g (a :: l)).length = (changes (turned g a.1 a.2)).length + (stepsOf g l).length := by
              unfold stepsOf
              rw [List.flatMap_cons, List.length_append]
            have e2 := changes_len _ (cc a List.mem_cons_self)
            have e3 := ih fun s hs => cc s (List.mem_cons_of_mem _ hs)
            rw [e1, List.length_cons]
            omega
        have h3 : (seams.take i).length ≤ 3 := by rw [List.length_take]; exact Nat.min_le_right ..
        omega
      refine ⟨D3, rfl, ⟨_, SqL.of e3⟩, for_list (K := K) (a := D3) (xs := l3) (fun j σ H4 => ∃ v4 v5, σ = [some v, some (.ref D), some (.int s.1), some (.int s.2), v4, v5] ∧ SameBut D H3 H4 ∧ ∃ r', H4 D = some (.lst r') ∧ EachR (IsSt K) (stepsOf g (seams.take i) ++ (changes (turned g s.1 s.2)).take j) r' H4)
        ⟨v4, v5, rfl, SameBut.refl _ _, r, e3D, by simpa using er1.kt fun x v h => h.kt (kt_same s13)⟩ (fun i σ H hi ⟨_, _, _, sb, _⟩ => sb.seqL e3 nDD) ?_ ?_⟩
      · rintro j x σ H4 hx4 ⟨v4, v5, rfl, sb4, r', hr4, er4⟩
        obtain ⟨o, ho, a, ob, m, p, rfl, ha, hp⟩ := r3.at hx4
        have kt4 : KT H3 H4 := sb4.kt e3D
        refine ⟨a, _, rfl, sqF (kt4.2 _ _ _ ha), rfl, _, _, rfl, _, _, rfl, rfl, ?_⟩
        refine ⟨_, rfl, .inl ⟨rfl, _, SqL.of hr4⟩, _, rfl, _, rfl, by show 2 ≤ sizeLine; decide, fun q oq nq dq => ?_⟩
        refine ⟨_, rfl, _, rfl, by show 3 ≤ sizeLine; decide, fun q2 o2 nq2 dq2 => ?_⟩
        have s6 : Same H4 (upd (upd H4 q (.frz oq (.tup [.int s.1, .int s.2]))) q2 (.frz o2 (.tup [.ref q, m, p]))) := (same_new nq).trans (same_new nq2)
        have hr6 := s6 _ _ hr4
        have lr' : r'.length ≤ 1700 := by
          have h1 := er4.1
          rw [List.length_append, List.length_take, ← er1.1] at h1
          have h2 := changes_len _ cs
          omega
        refine ⟨D, r', _, rfl, rfl, hr6, Nat.lt_of_le_of_lt lr' (by decide), ?_⟩
        have k6 : KT H4 (upd (upd (upd H4 q (.frz oq (.tup [.int s.1, .int s.2]))) q2 (.frz o2 (.tup [.ref q, m, p]))) D (.lst (r' ++ [.ref q2]))) := (kt_same s6).trans (kt_upd hr6)
        refine ⟨_, _, rfl, (sb4.trans (same_but s6 D)).upd, _, upd_same, ?_⟩
        have et : (changes (turned g s.1 s.2)).take (j + 1) = (changes (turned g s.1 s.2)).take j ++ [o] := by
          rw [List.take_add_one, ho]
          rfl
        rw [et, ← List.append_assoc]
        exact (er4.kt fun x v h => h.kt k6).snoc ⟨q2, o2, .ref q, m, p, rfl, (kt_upd hr6).2 _ _ _ upd_same, hp.kt (kt4.trans k6)⟩
      · rintro σ H4 ⟨v4, v5, rfl, sb4, r', hr4, er4⟩
        have e9 : (changes (turned g s.1 s.2)).take l3.length = changes (turned g s.1 s.2) := List.take_of_length_le (by rw [r3.1]; exact Nat.le_refl _)
        rw [e9] at er4
        refine ⟨_, _, _, _, rfl, (sb.trans (same_but s13 D)).trans sb4, r', hr4, ?_⟩
        have et : stepsOf g (seams.take (i + 1)) = stepsOf g (seams.take i) ++ changes (turned g s.1 s.2) := by
          unfold stepsOf
          rw [List.take_add_one, hs, List.flatMap_append]
          simp
        rw [et]
        exact er4
    · rintro σ H1 ⟨v2, v3, v4, v5, rfl, sb, r, hr1, er1⟩
      have et : stepsOf g (seams.take 3) = steps g := stepsOf_seams g
      exact ⟨_, rfl, k D H1 r (sb.same s0 nD) nD hr1 (by rw [← et]; exact er1)⟩
end
end Gk
end

section
set_option Elab.async false
set_option linter.all false
set_option maxRecDepth 100000
set_option maxHeartbeats 4000000
namespace Gk
open PySem L2
section
variable {P : Program} {w : World} {K : PySem.W.Frag} {mg : Str → Option Value} {base : Heap}
structure FamTxt (K : PySem.W.Frag) (C : Addr) : Prop where
  cl : Cls K C
  nO : NoAttr K C "origin"
  nG : NoAttr K C "goal"
  nW : NoAttr K C "waiting"
abbrev sNextPlace : Stmt := inClass (top 21) 1
-- slots: self 0 size 1 place 2
theorem scNextPlace : FnScope ["self", "size", "place"] ["self"] (defScope sNextPlace) := ⟨rfl, rfl, rfl, by decide +kernel, rfl, by decide +kernel, by decide +kernel⟩
def spNext (P : Program) (w : World) (K : PySem.W.Frag) (C : Addr) : Sp := fun vs H Q _ => ∃ (p : Addr) (H0 : Hp) (es : Ents) (ws : List G), vs = [.ref p] ∧ FamAt P w K C H0 H p es ws ∧ ws ≠ [] ∧
  ∀ (v : V) (g : G) (H' : Hp) (ws' : List G), KT H H' → IsG K g v H' → FamAt P w K C H0 H' p es ws' → (∀ x, x ∈ ws ↔ x = g ∨ x ∈ ws') → ws.length = ws'.length + 1 → Q v H'
theorem ok_next {f : Addr} {fd : FuncData} (F : Fun K "next_place" "Family.next_place" sNextPlace f fd) {C : Addr} (B : Bl mg) (T : FamTxt K C) : FnOk P w K mg base CX0 1 f fd ["self"] (spNext P w K C) := by
  refine F.ok scNextPlace (fun vs H Q E h => ?_) (fun cdv A outer s H vs Q E hr h => ?_)
  · obtain ⟨p, H0, es, ws, rfl, _⟩ := h
    rfl
  · obtain ⟨p, H0, es, ws, rfl, hf, hne, k⟩ := h
    obtain ⟨s0, p0, dx, od, wd, kvs, W, od0, wd0, hp, hod, hwd, hW, hl0, ews⟩ := id hf
    refine ⟨_, (pss_cons (ps_set (i := 1) scNextPlace.nd rfl (Or.inl rfl) (pe_callB (minI K rfl) (by rfl) B.min (by decide +kernel) (pa_cons (pe_callTy (call_list_dK rfl) (by rfl) B.list (by decide +kernel) (pa_cons (pe_fld (pv 0) rfl) pa_nil)) pa_nil)))
      (pss_cons (ps_set (i := 2) scNextPlace.nd rfl (Or.inl rfl) (pe_bm PySem.F.plainAttrs_list PySem.F.slot_list_pop PySem.F.type_list_pop mt_popAt (pe_dget (hu_of hr) (pe_fld (pv 0) rfl) (pv 1) (fun _ _ => rfl)) (pa_cons pe_int pa_nil)))
      (pss_cons (ps_if (pt_not (truth K (pe_dget (hu_of hr) (pe_fld (pv 0) rfl) (pv 1) (fun _ _ => rfl)))) (pss_one (ps_ddel (pe_fld (pv 0) rfl) (pv 1))) pss_nil)
      (pss_one (ps_ret (pv 2)))))), ?_⟩
    -- size = min(list(self.waiting))
    refine ⟨_, rfl, p, C, dx, _, _, rfl, hp, T.cl, T.nW, ff_waiting _ _, wd, kvs, rfl, hwd, fun q nq => ?_⟩
    have ek : (kvs.map fun kv => kV kv.1) = (W.map (·.n)).map V.int := by
      rw [hW.kv, List.map_map, List.map_map]
      rfl
    have s1 : Same H (upd H q (.lst (kvs.map fun kv => kV kv.1))) := same_new nq
    have W0 : 0 < (W.map (·.n)).length := by
      rw [List.length_map]
      cases W with
      | nil => exact absurd ews hne
      | cons _ _ => exact Nat.succ_pos _
    refine ⟨q, W.map (·.n), rfl, by rw [ek]; exact SqL.of upd_same, W0, fun m hm hle => ?_⟩
    obtain ⟨e, he, rfl⟩ := List.mem_map.mp hm
    obtain ⟨A, Bk, eW⟩ := List.append_of_mem he
    have nk := hW.keys
    have na := hW.adr
    rw [eW, List.map_append, List.map_cons, List.nodup_append] at nk na
    obtain ⟨nkA, nkB, nkd⟩ := nk
    obtain ⟨naA, naB, nad⟩ := na
    rw [List.nodup_cons] at nkB naB
    have kA : ∀ x ∈ A, x.n ≠ e.n := fun x hx z => nkd _ (List.mem_map.mpr ⟨x, hx, rfl⟩) _ List.mem_cons_self z
    have kB : ∀ x ∈ Bk, x.n ≠ e.n := fun x hx z => nkB.1 (List.mem_map.mpr ⟨x, hx, z⟩)
    have lA : ∀ x ∈ A, x.l ≠ e.l := fun x hx z => nad _ (List.mem_map.mpr ⟨x, hx, rfl⟩) _ List.mem_cons_self z
    have lB : ∀ x ∈ Bk, x.l ≠ e.l := fun x hx z => naB.1 (List.mem_map.mpr ⟨x, hx, z⟩)
    obtain ⟨hel, her, hen⟩ := hW.has e he
    obtain ⟨g, gr, eg⟩ : ∃ g gr, e.gs = g :: gr := by
      cases h : e.gs with
      | nil => exact absurd h hen
      | cons g gr => exact ⟨g, gr, rfl⟩
    obtain ⟨v, vr, ev⟩ : ∃ v vr, e.vs = v :: vr := by
      cases h : e.vs with
      | nil =>
        have := her.1
        rw [h, eg] at this
        cases this
      | cons v vr => exact ⟨v, vr, rfl⟩
    rw [eg, ev] at her
    rw [ev] at hel
    have hv : IsG K g v H := her.2 0 v g rfl rfl
    have hr' : EachR (IsG K) gr vr H := ⟨by simpa using her.1, fun i v x a b => her.2 (i + 1) v x (by simpa using a) (by simpa using b)⟩
    generalize hH1 : upd H q (.lst (kvs.map fun kv => kV kv.1)) = H1 at s1 ⊢
    have vat : valV kvs (Sum.inl e.n) = some (.ref e.l) := by
      rw [hW.kv]
      exact val_at hW.keys he
    -- place = self.waiting[size].pop(0)
    refine ⟨_, rfl, p, C, dx, _, _, rfl, s1 _ _ hp, T.cl, T.nW, ff_waiting _ _, _, rfl, wd, .ref e.l, rfl, by rw [← vat]; exact DGet.k (k := Sum.inl e.n) (s1 _ _ hwd), .inl ⟨rfl, _, SqL.of (s1 _ _ hel)⟩, e.l, v :: vr, 0, 0, v, rfl, rfl, s1 _ _ hel, by decide, by decide, seq_at (i := 0) (Nat.succ_pos _), rfl, ?_⟩
    have e0 : (v :: vr).eraseIdx 0 = vr := rfl
    rw [e0]
    have k1 : KT H H1 := kt_same s1
    have k2 : KT H1 (upd H1 e.l (.lst vr)) := kt_upd (s1 _ _ hel)
    have pl : p ≠ e.l := ne_of hp hel (by intro z; cases z)
    have wl : wd ≠ e.l := ne_of hwd hel (by intro z; cases z)
    have ol : od ≠ e.l := ne_of hod.1 hel (by intro z; cases z)
    have hp2 : upd H1 e.l (.lst vr) p = some (.ins C dx (ff od wd)) := (upd_ne pl).trans (s1 _ _ hp)
    have hwd2 : upd H1 e.l (.lst vr) wd = some (.dK kvs) := (upd_ne wl).trans (s1 _ _ hwd)
    have hod2 : upd H1 e.l (.lst vr) od = some (DNo P w od es) := (upd_ne ol).trans (s1 _ _ hod.1)
    have hA2 : ∀ x, x ∈ A ∨ x ∈ Bk → upd H1 e.l (.lst vr) x.l = some (.lst x.vs) ∧ EachR (IsG K) x.gs x.vs (upd H1 e.l (.lst vr)) ∧ x.gs ≠ [] := fun x hx => by
      have hxW : x ∈ W := by
        rw [eW]
        rcases hx with hx | hx
        · exact List.mem_append_left _ hx
        · exact List.mem_append_right _ (List.mem_cons_of_mem _ hx)
      have nx : x.l ≠ e.l := by
        rcases hx with hx | hx
        · exact lA x hx
        · exact lB x hx
      obtain ⟨a1, a2, a3⟩ := hW.has x hxW
      exact ⟨(upd_ne nx).trans (s1 _ _ a1), a2.kt fun y v h => h.kt (k1.trans k2), a3⟩
    have s02 : Same H0 (upd H1 e.l (.lst vr)) := same_own (s0.trans s1) (hl0 e he)
    have dn2 : IsDN P w K (upd H1 e.l (.lst vr)) od es := ⟨hod2, fun x hx => (hod.2 x hx).kt (k1.trans k2)⟩
    have eqws : ws = A.flatMap (·.gs) ++ (g :: gr ++ Bk.flatMap (·.gs)) := by
      rw [ews, eW, List.flatMap_append, List.flatMap_cons, eg]
    have mem : ∀ x, x ∈ ws ↔ x = g ∨ x ∈ A.flatMap (·.gs) ++ (gr ++ Bk.flatMap (·.gs)) := fun x => by
      rw [eqws]
      simp only [List.mem_append, List.mem_cons]
      constructor
      · rintro (h | (h | h) | h)
        · exact .inr (.inl h)
        · exact .inl h
        · exact .inr (.inr (.inl h))
        · exact .inr (.inr (.inr h))
      · rintro (h | h | h | h)
        · exact .inr (.inl (.inl h))
        · exact .inl h
        · exact .inr (.inl (.inr h))
        · exact .inr (.inr h)
    have len : ws.length = (A.flatMap (·.gs) ++ (gr ++ Bk.flatMap (·.gs))).length + 1 := by
      rw [eqws]
      simp only [List.length_append, List.length_cons]
      omega
    generalize hH2 : upd H1 e.l (.lst vr) = H2 at k2 hp2 hwd2 hod2 hA2 s02 dn2 ⊢
    have hel2 : H2 e.l = some (.lst vr) := by rw [← hH2]; exact upd_same
    -- if not self.waiting[size]
    refine ⟨_, rfl, p, C, dx, _, _, rfl, hp2, T.cl, T.nW, ff_waiting _ _, _, rfl, wd, .ref e.l, rfl, by rw [← vat]; exact DGet.k (k := Sum.inl e.n) hwd2, _, .inl ⟨_, SqL.of hel2, rfl⟩, ?_⟩
    cases vr with
    | nil =>
      refine iteT ?_
      obtain rfl : gr = [] := List.length_eq_zero_iff.mp hr'.1.symm
      -- del self.waiting[size]
      refine ⟨_, rfl, p, C, dx, _, _, rfl, hp2, T.cl, T.nW, ff_waiting _ _, _, rfl, wd, kvs, Sum.inl e.n, rfl, hwd2, rfl, by rw [vat]; rfl, ?_⟩
      have ed : dropK kvs (Sum.inl e.n) = (A ++ Bk).map fun e => ((Sum.inl e.n : Key), V.ref e.l) := by
        rw [hW.kv, eW]
        exact drop_mid kA kB
      rw [ed]
      have k3 : KT H2 (upd H2 wd (.dK ((A ++ Bk).map fun e => ((Sum.inl e.n : Key), V.ref e.l)))) := kt_at hwd2 (fun xs z => by cases z) (fun ob u z => by cases z)
      refine ⟨_, rfl, k v g _ _ ((k1.trans k2).trans k3) (hv.kt ((k1.trans k2).trans k3)) ⟨same_own s02 wd0, p0, dx, od, wd, _, A ++ Bk, od0, wd0, ?_, ⟨?_, fun x hx => (dn2.2 x hx).kt k3⟩, upd_same, ⟨rfl, ?_, ?_, fun x hx => ?_⟩, fun x hx => hl0 x ?_, rfl⟩ ?_ ?_⟩
      · exact (upd_ne (ne_of hp2 hwd2 (by intro z; cases z))).trans hp2
      · exact (upd_ne (ne_of hod2 hwd2 (by intro z; cases z))).trans hod2
      · rw [List.map_append, List.nodup_append]
        exact ⟨nkA, nkB.2, fun a ha b hb => nkd a ha b (List.mem_cons_of_mem _ hb)⟩
      · rw [List.map_append, List.nodup_append]
        exact ⟨naA, naB.2, fun a ha b hb => nad a ha b (List.mem_cons_of_mem _ hb)⟩
      · obtain ⟨a1, a2, a3⟩ := hA2 x (List.mem_append.mp hx)
        exact ⟨(upd_ne (ne_of a1 hwd2 (by intro z; cases z))).trans a1, a2.kt fun y v h => h.kt k3, a3⟩
      · rw [eW]
        rcases List.mem_append.mp hx with h | h
        · exact List.mem_append_left _ h
        · exact List.mem_append_right _ (List.mem_cons_of_mem _ h)
      · rw [List.flatMap_append]
        exact mem
      · rw [List.flatMap_append]
        exact len
    | cons v2 vr2 =>
      refine iteF ?_
      refine ⟨_, rfl, k v g _ _ (k1.trans k2) (hv.kt (k1.trans k2)) ⟨s02, p0, dx, od, wd, kvs, A ++ ⟨e.n, e.l, v2 :: vr2, gr⟩ :: Bk, od0, wd0, hp2, dn2, hwd2, ⟨?_, ?_, ?_, fun x hx => ?_⟩, fun x hx => ?_, rfl⟩ ?_ ?_⟩
      · rw [hW.kv, eW, List.map_append, List.map_append]
        rfl
      · rw [List.map_append, List.map_cons, List.nodup_append, List.nodup_cons]
        exact ⟨nkA, nkB, nkd⟩
      · rw [List.map_append, List.map_cons, List.nodup_append, List.nodup_cons]
        exact ⟨naA, naB, nad⟩
      · rcases List.mem_append.mp hx with h | h
        · exact hA2 x (.inl h)
        · rcases List.mem_cons.mp h with h | h
          · rw [h]
            refine ⟨hel2, hr'.kt fun y v h => h.kt (k1.trans k2), fun z => ?_⟩
            have := hr'.1
            have z : gr = [] := z
            rw [z] at this
            cases this
          · exact hA2 x (.inr h)
      · rcases List.mem_append.mp hx with h | h
        · exact hl0 x (by rw [eW]; exact List.mem_append_left _ h)
        · rcases List.mem_cons.mp h with h | h
          · rw [h]
            exact hl0 e he
          · exact hl0 x (by rw [eW]; exact List.mem_append_right _ (List.mem_cons_of_mem _ h))
      · rw [List.flatMap_append, List.flatMap_cons]
        exact mem
      · rw [List.flatMap_append, List.flatMap_cons]
        exact len
end
end Gk
end

section
set_option Elab.async false
set_option linter.all false
set_option maxRecDepth 100000
set_option maxHeartbeats 4000000
namespace Gk
open PySem L2
section
variable {P : Program} {w : World} {K : PySem.W.Frag} {mg : Str → Option Value} {base : Heap}
abbrev sNoGoal : Stmt := top 22
-- slots: place 0
theorem scNoGoal : FnScope ["place"] ["place"] (defScope sNoGoal) := ⟨rfl, rfl, rfl, by decide +kernel, rfl, by decide +kernel, by decide +kernel⟩
def spNoGoal : Sp := fun vs H Q _ => ∃ v, vs = [v] ∧ Q (.bl false) H
theorem ok_nogoal {f : Addr} {fd : FuncData} (F : Fun K "no_goal" "no_goal" sNoGoal f fd) : FnOk P w K mg base CX0 1 f fd ["place"] spNoGoal := by
  refine F.ok scNoGoal (fun vs H Q E h => ?_) (fun cdv A outer s H vs Q E hr h => ?_)
  · obtain ⟨v, rfl, _⟩ := h
    rfl
  · obtain ⟨v, rfl, k⟩ := h
    exact ⟨_, (pss_one (ps_ret pe_bl)), k⟩
abbrev sLookAt : Stmt := inClass (top 21) 2
-- slots: self 0 place 1 is_goal 2 turns 3 move 4 pair 5 new 6 columns 7 down 8
theorem scLookAt : FnScope ["self", "place", "is_goal", "turns", "move", "pair", "new", "columns", "down"] ["self", "place", "is_goal"] (defScope sLookAt) := ⟨rfl, rfl, rfl, by decide +kernel, rfl, by decide +kernel, by decide +kernel⟩
structure GOk (g : G) : Prop where
  p0 : 0 < g.1.length
  p1 : g.1.length ≤ 100
  l : g.2.length = g.1.length
def spLook (P : Program) (w : World) (K : PySem.W.Frag) (C fN : Addr) : Sp := fun vs H Q _ => ∃ (p : Addr) (v : V) (g : G) (H0 : Hp) (es : Ents) (ws : List G), vs = [.ref p, v, .ref fN] ∧ FamAt P w K C H0 H p es ws ∧ IsG K g v H ∧ StOk g ∧ (∀ o ∈ steps g, GOk o) ∧ es.length ≤ 1000 ∧ ws.length ≤ 1000 ∧ (steps g).length ≤ 1500 ∧
  ∀ (H' : Hp) (es' : Ents) (ws' : List G), KT H H' → FamAt P w K C H0 H' p es' ws' → Grown (es.map (·.1)) ws (nexts g) (es'.map (·.1)) ws' → Q .non H'
theorem ok_look {f : Addr} {fd : FuncData} (F : Fun K "look_at" "Family.look_at" sLookAt f fd) {C fN : Addr} {fdN : FuncData} (B : Bl mg) (T : FamTxt K C) (FN : FnOk P w K mg base CX0 1 fN fdN ["place"] spNoGoal) (kN : PySem.W.keepIn K (.ref fN) = true) (bN : Binds K fdN ["place"] [])
    (D_first_of : DefOk P w K mg base "first_of" 2 ["pair"] (spFirst K)) (D_steps_from : DefOk P w K mg base "steps_from" 5 ["place"] (spSteps K)) : FnOk P w K mg base CX0 6 f fd ["self", "place", "is_goal"] (spLook P w K C fN) := by
  refine F.ok scLookAt (fun vs H Q E h => ?_) (fun cdv A outer s H vs Q E hr h => ?_)
  · obtain ⟨p, v, g, H0, es, ws, rfl, _⟩ := h
    rfl
  · obtain ⟨p, v, g, H0, es, ws, rfl, hf, hg, hst, hok, les, lws, lst, k⟩ := h
    refine ⟨_, (pss_cons (ps_if (pt_val (pe_callL (i := 2) FN (hr.mono (by decide)) rfl (Or.inl rfl) kN bN .nil pass0 (pa_cons (pv 1) pa_nil))) (pss_cons (ps_fld (pv 0) (pv 1) rfl)
      (pss_one ps_retN)) pss_nil)
      (pss_one (ps_for PassesOwn.never rfl (piL K (pe_cd D_steps_from (hr.mono (by decide)) rfl (pa_cons (pv 1) pa_nil))) (pgT K (n := 3) (by rfl) (pgs_cons (pg_name (i := 3) scLookAt.nd rfl (by first | exact Or.inl rfl | exact Or.inr rfl)) (pgs_cons (pg_name (i := 4) scLookAt.nd rfl (by first | exact Or.inl rfl | exact Or.inr rfl)) (pgs_cons (pg_name (i := 5) scLookAt.nd rfl (by first | exact Or.inl rfl | exact Or.inr rfl)) pgs_nil)))) (pss_cons (ps_asg (pe_cd D_first_of (hr.mono (by decide)) rfl (pa_cons (pv 5) pa_nil)) (pgT K (n := 3) (by rfl) (pgs_cons (pg_name (i := 6) scLookAt.nd rfl (by first | exact Or.inl rfl | exact Or.inr rfl)) (pgs_cons (pg_name (i := 7) scLookAt.nd rfl (by first | exact Or.inl rfl | exact Or.inr rfl)) (pgs_cons (pg_name (i := 8) scLookAt.nd rfl (by first | exact Or.inl rfl | exact Or.inr rfl)) pgs_nil)))))
      (pss_one (ps_if (pt_cmpR (ninDN (hu64 hr)) (pv 6) (pe_fld (pv 0) rfl) rfl) (pss_cons (ps_asg (peTup (pa_cons (pv 3) (pa_cons (pv 4) (pa_cons (peTup (pa_cons (pv 7) (pa_cons (pv 8) pa_nil))) (pa_cons (pv 1) pa_nil))))) (pg_sub (pe_fld (pv 0) rfl) (pv 6) (putDN (hu64 hr))))
      (pss_one (ps_expr (pe_bm PySem.F.plainAttrs_list PySem.F.slot_list_append PySem.F.type_list_append mt_append (pe_dsetd (pe_fld (pv 0) rfl) (pe_callB (lenS K) (by rfl) B.len PySem.boot_len (pa_cons (pe_ix (ixT K) (pv 6) pe_int (fun _ _ => rfl)) pa_nil)) (pe_lst pa_nil) ⟨rfl, rfl, rfl, rfl⟩) (pa_cons (pv 6) pa_nil))))) pss_nil)))))), ?_⟩
    -- if is_goal(place)
    refine ⟨rfl, _, rfl, v, rfl, _, rfl, iteF ?_⟩
    -- for turns, move, pair in steps_from(place)
    refine ⟨_, rfl, v, g, rfl, hg, hst, fun D3 H3 l3 s3 nD3 e3 r3 => ?_⟩
    have hf3 : FamAt P w K C (upd H0 D3 (.lst l3)) H3 p es ws := hf.more nD3 s3 e3
    have n03 : H0 D3 = none := by
      obtain ⟨s0, _⟩ := hf
      exact s0.free nD3
    refine ⟨D3, rfl, ⟨_, SqL.of e3⟩, for_list (K := K) (a := D3) (xs := l3) (fun i σ H4 => ∃ v3 v4 v5 v6 v7 v8, σ = [some (.ref p), some v, some (.ref fN), v3, v4, v5, v6, v7, v8] ∧ KT H3 H4 ∧ ∃ es' ws', FamAt P w K C (upd H0 D3 (.lst l3)) H4 p es' ws' ∧ Grown (es.map (·.1)) ws (((steps g).take i).map first) (es'.map (·.1)) ws')
      ⟨none, none, none, none, none, none, rfl, KT.refl _, es, ws, hf3, Grown.nil _ _⟩ (fun i σ H4 hi ⟨_, _, _, _, _, _, _, _, _, _, hf4, _⟩ => SqL.of (hf4.1 _ _ upd_same)) ?_ ?_⟩
    · rintro i x σ H4 hx ⟨v3, v4, v5, v6, v7, v8, rfl, kt4, es4, ws4, hf4, gr4⟩
      obtain ⟨o, ho, a, ob, m1, m2, po, rfl, ha, hpo⟩ := r3.at hx
      have hmo := List.mem_of_getElem? ho
      have gok := hok o hmo
      refine ⟨a, _, rfl, sqF (kt4.2 _ _ _ ha), rfl, _, _, rfl, _, _, rfl, _, _, rfl, rfl, ?_⟩
      -- new, columns, down = first_of(pair)
      refine ⟨_, rfl, po, o, rfl, hpo.kt kt4, gok.p0, gok.p1, gok.l, fun v' H5 c d s5 tri => ?_⟩
      obtain ⟨a5, q5, rfl, ha5, hq5⟩ := tri
      refine ⟨a5, _, rfl, ha5, rfl, _, _, rfl, _, _, rfl, _, _, rfl, rfl, ?_⟩
      have hf5 := hf4.same s5
      obtain ⟨b5, x5, y5, rfl, rest5⟩ := id hq5
      obtain ⟨s0, p0, dx, od, wd, kvs, W, od0, wd0, hp, hod, hwd, hW, hl0, ews⟩ := id hf5
      have et : ((steps g).take (i + 1)).map first = ((steps g).take i).map first ++ [first o] := by
        rw [List.take_add_one, ho, List.map_append]
        rfl
      -- if new not in self.origin
      refine ⟨_, rfl, _, rfl, p, C, dx, _, _, rfl, hp, T.cl, T.nO, ff_origin _ _, od, es4, first o, b5, rfl, rfl, hod, hq5, _, rfl, iteDn (fun hnew => ?_) (fun hold => ?_)⟩
      · have ll := gr4.len
        rw [List.length_map, List.length_map, List.length_map, List.length_take] at ll
        have les4 : es4.length ≤ 2500 := by omega
        have lws4 : ws4.length ≤ 2500 := by omega
        have lW : W.length ≤ 2500 := Nat.le_trans (flat_len fun e he => (hW.has e he).2.2) (by rw [← ews]; exact lws4)
        have h25 : 2500 < sizeLine := by decide
        -- self.origin[new] = (turns, move, (columns, down), place)
        refine ⟨_, rfl, _, rfl, _, rfl, _, rfl, of_decide_eq_true rfl, fun q6 o6 n6 d6 => ?_⟩
        refine ⟨_, rfl, of_decide_eq_true rfl, fun q7 o7 n7 d7 => ?_⟩
        have s7 : Same H5 (upd (upd H5 q6 (.frz o6 (.tup [.int c, .int d]))) q7 (.frz o7 (.tup [m1, m2, .ref q6, v]))) := (same_new n6).trans (same_new n7)
        refine ⟨_, rfl, p, C, dx, _, _, rfl, s7 _ _ hp, T.cl, T.nO, ff_origin _ _, _, rfl, od, es4, first o, b5, rfl, rfl, ⟨s7 _ _ hod.1, fun e he => (hod.2 e he).kt (kt_same s7)⟩, hq5.kt (kt_same s7), hnew, by omega, ?_⟩
        dsimp only
        show tDrop _ _ _ (upd (upd (upd H5 q6 (.frz o6 (.tup [.int c, .int d]))) q7 (.frz o7 (.tup [m1, m2, .ref q6, v]))) od (DNo P w od (es4 ++ [(first o, b5, V.ref q7)])))
        have hod7 := s7 _ _ hod.1
        have k8 := (kt_same s7).trans (kt_at (o := DNo P w od (es4 ++ [(first o, b5, V.ref q7)])) hod7 (fun xs z => by cases z) (fun ob u z => by cases z))
        have sb8 := (same_but s7 od).upd (o := DNo P w od (es4 ++ [(first o, b5, V.ref q7)]))
        have s8 := same_own (o := DNo P w od (es4 ++ [(first o, b5, V.ref q7)])) (s0.trans s7) od0
        have o8 := upd_same (H := upd (upd H5 q6 (.frz o6 (.tup [.int c, .int d]))) q7 (.frz o7 (.tup [m1, m2, .ref q6, v]))) (a := od) (o := DNo P w od (es4 ++ [(first o, b5, V.ref q7)]))
        generalize upd (upd (upd H5 q6 (.frz o6 (.tup [.int c, .int d]))) q7 (.frz o7 (.tup [m1, m2, .ref q6, v]))) od (DNo P w od (es4 ++ [(first o, b5, V.ref q7)])) = H8 at k8 sb8 s8 o8 ⊢
        have p8 := sb8 _ _ (ne_of hp hod.1 (by intro z; cases z)) hp
        have w8 := sb8 _ _ (ne_of hwd hod.1 (by intro z; cases z)) hwd
        have e8 := fun e he => sb8 _ _ (ne_of (hW.has e he).1 hod.1 (by intro z; cases z)) (hW.has e he).1
        obtain ⟨hq8, hx8, hy8⟩ := rest5
        obtain ⟨ax, ex, hax⟩ := (hx8.kt k8).seq
        have hax : SqT K H8 ax (nums (first o).1) := hax
        subst ex
        have ln : ((nums (first o).1).length : Int) = ((first o).1.length : Int) := by rw [nums_len]
        -- self.waiting.setdefault(len(new[0]), []).append(new)
        refine ⟨_, rfl, p, C, dx, _, _, rfl, p8, T.cl, T.nW, ff_waiting _ _, wd, rfl, .inl ⟨_, Rd.of w8⟩, _, rfl, b5, _, 0, _, rfl, rfl, k8.t hq8, rfl, ax, _, rfl, .inr hax, of_decide_eq_true rfl, fun z nz => ⟨kvs, Sum.inl ((nums (first o).1).length : Int), ?_, rfl, ?_, ?_, ?_⟩⟩
        · exact (upd_ne (ne_of_none w8 nz)).trans w8
        · rw [hW.kv, List.length_map]
          omega
        · intro vv hvv
          obtain ⟨e, he, en, rfl⟩ := wait_find hW hvv
          have nel := ne_of_none (e8 e he) nz
          have hel := (upd_ne (o := .lst []) nel).trans (e8 e he)
          have lvs : e.vs.length ≤ 2500 := by
            have h1 := flat_mem he
            rw [← ews] at h1
            have h2 := (hW.has e he).2.1.1
            omega
          obtain ⟨Aw, Bw, eW⟩ := List.append_of_mem he
          refine ⟨.inl ⟨rfl, _, SqL.of hel⟩, _, rfl, e.l, e.vs, _, rfl, rfl, hel, by omega, ?_⟩
          have k9 := (kt_same (same_new (o := .lst []) nz)).trans (kt_upd (o := .lst (e.vs ++ [V.ref b5])) hel)
          have s9 := same_own (o := .lst (e.vs ++ [V.ref b5])) (same_own (o := .lst []) s8 (s8.free nz)) (hl0 e he)
          have pne := ne_of p8 (e8 e he) (by intro z; cases z)
          have wne := ne_of w8 (e8 e he) (by intro z; cases z)
          have one := ne_of o8 (e8 e he) (by intro z; cases z)
          have wok := WaitOk.old (H' := upd (upd H8 z (.lst [])) e.l (.lst (e.vs ++ [V.ref b5]))) (eW ▸ hW) (k8.trans k9) (fun x hx nx => (upd_ne nx).trans ((upd_ne (ne_of_none (e8 x (eW ▸ hx)) nz)).trans ((e8 x (eW ▸ hx)).trans (hW.has x (eW ▸ hx)).1.symm))) upd_same ((hq5.kt k8).kt k9)
          refine ⟨_, _, _, _, _, _, rfl, kt4.trans ((kt_same s5).trans (k8.trans k9)), _, _, FamAt.put (y := V.ref q7) s0 p0 hp hod hq5 od0 wd0 (k8.trans k9) s9 ?_ ?_ ?_ wok ?_, ?_⟩
          · exact (upd_ne pne).trans ((upd_ne (ne_of_none p8 nz)).trans (p8.trans hp.symm))
          · exact (upd_ne one).trans ((upd_ne (ne_of_none o8 nz)).trans o8)
          · exact (upd_ne wne).trans ((upd_ne (ne_of_none w8 nz)).trans w8)
          · intro x hx
            rcases List.mem_append.mp hx with hx | hx
            · exact hl0 x (by rw [eW]; exact List.mem_append_left _ hx)
            · rcases List.mem_cons.mp hx with hx | hx
              · rw [hx]
                exact hl0 e he
              · exact hl0 x (by rw [eW]; exact List.mem_append_right _ (List.mem_cons_of_mem _ hx))
          · rw [et, List.map_append]
            refine gr4.new hnew (fun x => ?_) ?_
            · rw [ews, eW]
              simp only [List.flatMap_append, List.flatMap_cons, List.mem_append, List.mem_singleton]
              constructor
              · rintro (h | (h | h) | h)
                · exact .inl (.inl h)
                · exact .inl (.inr (.inl h))
                · exact .inr h
                · exact .inl (.inr (.inr h))
              · rintro ((h | h | h) | h)
                · exact .inl h
                · exact .inr (.inl (.inl h))
                · exact .inr (.inr h)
                · exact .inr (.inl (.inr h))
            · rw [ews, eW]
              simp only [List.flatMap_append, List.flatMap_cons, List.length_append, List.length_singleton]
              omega
        · intro hvn
          have hn := wait_none hW hvn
          rw [putK_new _ hvn]
          have zw := (upd_ne (o := .lst []) (ne_of_none w8 nz)).trans w8
          have nzw := ne_of_none w8 nz
          have hz9 : upd (upd H8 z (.lst [])) wd (.dK (kvs ++ [(Sum.inl ((nums (first o).1).length : Int), V.ref z)])) z = some (.lst []) := (upd_ne nzw.symm).trans upd_same
          refine ⟨.inl ⟨rfl, _, SqL.of hz9⟩, _, rfl, z, [], _, rfl, rfl, hz9, of_decide_eq_true rfl, ?_⟩
          have k9 := ((kt_same (same_new (o := .lst []) nz)).trans (kt_at (o := .dK (kvs ++ [(Sum.inl ((nums (first o).1).length : Int), V.ref z)])) zw (fun xs z => by cases z) (fun ob u z => by cases z))).trans (kt_upd (o := .lst ([] ++ [V.ref b5])) hz9)
          have s9 := same_own (o := .lst ([] ++ [V.ref b5])) (same_own (o := .dK (kvs ++ [(Sum.inl ((nums (first o).1).length : Int), V.ref z)])) (same_own (o := .lst []) s8 (s8.free nz)) wd0) (s8.free nz)
          have wok := WaitOk.new (H' := upd (upd (upd H8 z (.lst [])) wd (.dK (kvs ++ [(Sum.inl ((nums (first o).1).length : Int), V.ref z)]))) z (.lst ([] ++ [V.ref b5]))) hW hn (k8.trans k9) (fun x hx => (upd_ne (ne_of_none (e8 x hx) nz)).trans ((upd_ne (ne_of (e8 x hx) w8 (by intro z; cases z))).trans ((upd_ne (ne_of_none (e8 x hx) nz)).trans ((e8 x hx).trans (hW.has x hx).1.symm)))) (fun x hx => ne_of_none (e8 x hx) nz) upd_same ((hq5.kt k8).kt k9)
          refine ⟨_, _, _, _, _, _, rfl, kt4.trans ((kt_same s5).trans (k8.trans k9)), _, _, FamAt.put (y := V.ref q7) s0 p0 hp hod hq5 od0 wd0 (k8.trans k9) s9 ?_ ?_ ?_ wok ?_, ?_⟩
          · exact (upd_ne (ne_of_none p8 nz)).trans ((upd_ne (ne_of p8 w8 (by intro z; cases z))).trans ((upd_ne (ne_of_none p8 nz)).trans (p8.trans hp.symm)))
          · exact (upd_ne (ne_of_none o8 nz)).trans ((upd_ne (ne_of o8 w8 (by intro z; cases z))).trans ((upd_ne (ne_of_none o8 nz)).trans o8))
          · exact (upd_ne nzw).trans upd_same
          · intro x hx
            rcases List.mem_append.mp hx with hx | hx
            · exact hl0 x hx
            · rw [List.mem_singleton.mp hx]
              exact s8.free nz
          · rw [et, List.map_append]
            refine gr4.new hnew (fun x => ?_) ?_
            · rw [ews, List.flatMap_append, List.mem_append]
              simp
            · rw [ews, List.flatMap_append, List.length_append]
              simp
      · refine ⟨_, _, _, _, _, _, rfl, kt4.trans (kt_same s5), es4, ws4, hf5, ?_⟩
        rw [et]
        exact gr4.old hold
    · rintro σ H4 ⟨v3, v4, v5, v6, v7, v8, rfl, kt4, es4, ws4, hf4, gr4⟩
      have e9 : (steps g).take l3.length = steps g := List.take_of_length_le (by rw [r3.1]; exact Nat.le_refl _)
      rw [e9] at gr4
      exact k H4 es4 ws4 ((kt_same s3).trans kt4) (hf4.less (same_new n03)) gr4
end
end Gk
end

section
set_option Elab.async false
set_option linter.all false
set_option maxRecDepth 100000
set_option maxHeartbeats 4000000
namespace Gk
open PySem L2
section
variable {P : Program} {w : World} {K : PySem.W.Frag} {mg : Str → Option Value} {base : Heap}
/-! ### methods, by promise -/
structure MDef (P : Program) (w : World) (K : PySem.W.Frag) (mg : Str → Option Value) (base : Heap) (C : Addr) (m : Str) (k : Nat) (ps : List Str) (sp : Sp) : Prop where
  ex : ∃ (f : Addr) (fd : FuncData), FnOk P w K mg base CX0 k f fd ps sp ∧ Meth K C m f ∧ Binds K fd ps []
section
variable {X : Cx} {C : Addr} {m : Str} {k : Nat} {ps : List Str} {sp : Sp} {e o : Expr} {es : List Expr} {t : TA} {ta : TE} {apos pos : Pos}
theorem pe_md {pl : Sem Bool} (c : Cls X.K C) (M : MDef X.prog X.w X.K X.mg X.base C m k ps sp) (hr : Room k X.A) (he : PE X o ta) (ha : PA X (e :: es) t)
    (hst : starEach (e :: es) X.env = (false, eval e X.env) :: starEach es X.env := by rfl) (hpl : (backTo pos (starEach es X.env)).any (·.1) = false := by rfl)
    (ht : eval (.Call (.Attribute o m apos) (e :: es) [] pos) X.env = (do
      let ov ← eval o X.env
      standAt apos.atName
      let (f, first) ← holding [ov] (getMethod ov m pl)
      callWith pos f first (backTo pos (starEach (e :: es) X.env)) (backToKw pos (keywordEach [] X.env))) := by rfl) :
    PE X (.Call (.Attribute o m apos) (e :: es) [] pos) (tMeth C m sp [] E0 ta t) := by
  obtain ⟨f, fd, F, hm, hb⟩ := M.ex
  exact pe_meth he c hm F hr hb .nil pass0 ha hst hpl ht
theorem pe_md0 {pl : Sem Bool} (c : Cls X.K C) (M : MDef X.prog X.w X.K X.mg X.base C m k ps sp) (hr : Room k X.A) (he : PE X o ta)
    (ht : eval (.Call (.Attribute o m apos) [] [] pos) X.env = (do
      let ov ← eval o X.env
      standAt apos.atName
      let (f, first) ← holding [ov] (getMethod ov m pl)
      callWith pos f first (backTo pos (starEach [] X.env)) (backToKw pos (keywordEach [] X.env))) := by rfl) :
    PE X (.Call (.Attribute o m apos) [] [] pos) (tMeth C m sp [] E0 ta tNil) := by
  obtain ⟨f, fd, F, hm, hb⟩ := M.ex
  exact pe_meth0 he c hm F hr hb .nil pass0 ht
end
/-! ### the least closed set -/
inductive Reach (nx : G → List G) (a : G) : G → Prop
  | base : Reach nx a a
  | step {x y : G} : Reach nx a x → y ∈ nx x → Reach nx a y
theorem nd_len {l S : List G} (h : l.Nodup) (s : ∀ x ∈ l, x ∈ S) : l.length ≤ S.length := by
  induction l generalizing S with
  | nil => exact Nat.zero_le _
  | cons a r ih =>
    rw [List.nodup_cons] at h
    have ha := s a List.mem_cons_self
    have h1 := ih (S := S.erase a) h.2 fun x hx => (List.mem_erase_of_ne fun z => h.1 (by rw [← z]; exact hx)).mpr (s x (List.mem_cons_of_mem _ hx))
    rw [List.length_erase_of_mem ha] at h1
    have h2 := List.length_pos_of_mem ha
    rw [List.length_cons]
    omega
structure LoopI (S : List G) (nx : G → List G) (a : G) (os ws : List G) : Prop where
  nd : os.Nodup
  inS : ∀ x ∈ os, x ∈ S
  base : a ∈ os
  reach : ∀ x ∈ os, Reach nx a x
  wos : ∀ x ∈ ws, x ∈ os
  done : ∀ x ∈ os, x ∉ ws → ∀ y ∈ nx x, y ∈ os
  len : ws.length ≤ os.length
theorem LoopI.step {S : List G} {nx : G → List G} {a : G} {os ws ws' os2 ws2 : List G} {g : G} (h : LoopI S nx a os ws) (hS : ∀ x ∈ S, ∀ y ∈ nx x, y ∈ S) (hg : ∀ x, x ∈ ws ↔ x = g ∨ x ∈ ws') (hl : ws.length = ws'.length + 1) (gr : Grown os ws' (nx g) os2 ws2) :
    LoopI S nx a os2 ws2 ∧ 2 * (S.length - os2.length) + ws2.length < 2 * (S.length - os.length) + ws.length := by
  obtain ⟨add, h1, h2, h3, h4, h5, h6, h7⟩ := gr
  have gw : g ∈ ws := (hg g).mpr (.inl rfl)
  have go := h.wos g gw
  have nd2 : os2.Nodup := by
    rw [h1, List.nodup_append]
    exact ⟨h.nd, h2, fun x hx y hy z => (h3 y hy).2 (by rw [← z]; exact hx)⟩
  have in2 : ∀ x ∈ os2, x ∈ S := fun x hx => by
    rw [h1] at hx
    rcases List.mem_append.mp hx with hx | hx
    · exact h.inS x hx
    · exact hS g (h.inS g go) x (h3 x hx).1
  refine ⟨⟨nd2, in2, ?_, fun x hx => ?_, fun x hx => ?_, fun x hx nw y hy => ?_, ?_⟩, ?_⟩
  · rw [h1]
    exact List.mem_append_left _ h.base
  · rw [h1] at hx
    rcases List.mem_append.mp hx with hx | hx
    · exact h.reach x hx
    · exact .step (h.reach g go) (h3 x hx).1
  · rw [h1]
    rcases (h5 x).mp hx with hx | hx
    · exact List.mem_append_left _ (h.wos x ((hg x).mpr (.inr hx)))
    · exact List.mem_append_right _ hx
  · have nw' : x ∉ ws' := fun z => nw ((h5 x).mpr (.inl z))
    have na : x ∉ add := fun z => nw ((h5 x).mpr (.inr z))
    rw [h1] at hx
    rcases List.mem_append.mp hx with hx | hx
    · by_cases hxw : x ∈ ws
      · rcases (hg x).mp hxw with rfl | q
        · exact h4 y hy
        · exact absurd q nw'
      · rw [h1]
        exact List.mem_append_left _ (h.done x hx hxw y hy)
    · exact absurd hx na
  · rw [h1, List.length_append, h6]
    have := h.len
    omega
  · have l2 := nd_len nd2 in2
    rw [h1, List.length_append] at l2
    rw [h1, List.length_append, h6]
    omega
theorem LoopI.all {S : List G} {nx : G → List G} {a : G} {os : List G} (h : LoopI S nx a os []) (x : G) : x ∈ os ↔ Reach nx a x := by
  refine ⟨h.reach x, fun r => ?_⟩
  induction r with
  | base => exact h.base
  | step _ hy ih => exact h.done _ ih (by simp) _ hy
/-- the places, and what the walk needs of them -/
structure Dom (S : List G) : Prop where
  st : ∀ x ∈ S, StOk x
  go : ∀ x ∈ S, ∀ o ∈ steps x, GOk o
  many : ∀ x ∈ S, (steps x).length ≤ 1500
  nx : ∀ x ∈ S, ∀ y ∈ nexts x, y ∈ S
  len : S.length ≤ 1000
theorem own2 {H H' : Hp} {p : Addr} {o : HO} (e : Same H H') (h : H p = none) : Same H (upd H' p o) ∧ upd H' p o p = some o := ⟨same_own e h, upd_same⟩
theorem new2 {H : Hp} {p : Addr} {o : HO} (h : H p = none) : Same H (upd H p o) ∧ upd H p o p = some o := ⟨same_new h, upd_same⟩
theorem at2 {H : Hp} {D : Addr} {o0 o : HO} (h : H D = some o0) (n1 : ∀ xs, o0 ≠ .tup xs) (n2 : ∀ ob u, o0 ≠ .frz ob u) : KT H (upd H D o) ∧ upd H D o D = some o ∧ SameBut D H (upd H D o) := ⟨kt_at h n1 n2, upd_same, fun b u n hb => (upd_ne n).trans hb⟩
theorem ff_look (od wd : Addr) : (ff od wd).lookup ("look_at" : Str) = none := by kernel_rfl
theorem ff_next (od wd : Addr) : (ff od wd).lookup ("next_place" : Str) = none := by kernel_rfl
theorem ff_places (od wd : Addr) : (ff od wd).lookup ("places" : Str) = none := by kernel_rfl
abbrev sFamInit : Stmt := inClass (top 21) 0
-- slots: self 0 pair 1 is_goal 2 place 3 columns 4 down 5
theorem scFamInit : FnScope ["self", "pair", "is_goal", "place", "columns", "down"] ["self", "pair", "is_goal"] (defScope sFamInit) := ⟨rfl, rfl, rfl, by decide +kernel, rfl, by decide +kernel, by decide +kernel⟩
def spFamInit (P : Program) (w : World) (K : PySem.W.Frag) (C fN : Addr) (S : List G) : Sp := fun vs H Q _ => ∃ (p dx : Addr) (v : V) (g : G) (H0 : Hp), vs = [.ref p, v, .ref fN] ∧ H p = some (.ins C dx []) ∧ H0 p = none ∧ Same H0 H ∧ IsG K g v H ∧ GOk g ∧ first g ∈ S ∧
  ∀ (H' : Hp) (es : Ents), KT H H' → FamAt P w K C H0 H' p es [] → LoopI S nexts (first g) (es.map (·.1)) [] → Q .non H'
theorem ok_faminit {f : Addr} {fd : FuncData} (F : Fun K "__init__" "Family.__init__" sFamInit f fd) {C fN : Addr} {S : List G} (hS : Dom S) (B : Bl mg) (T : FamTxt K C) (D_first_of : DefOk P w K mg base "first_of" 2 ["pair"] (spFirst K))
    (M_next_place : MDef P w K mg base C "next_place" 1 ["self"] (spNext P w K C)) (M_look_at : MDef P w K mg base C "look_at" 6 ["self", "place", "is_goal"] (spLook P w K C fN)) : FnOk P w K mg base CX0 7 f fd ["self", "pair", "is_goal"] (spFamInit P w K C fN S) := by
  refine F.ok scFamInit (fun vs H Q E h => ?_) (fun cdv A outer s H vs Q E hr h => ?_)
  · obtain ⟨p, dx, v, g, H0, rfl, _⟩ := h
    rfl
  · obtain ⟨p, dx, v, g, H0, rfl, hp, p0, s0, hg, gok, gS, k⟩ := h
    refine ⟨_, (pss_cons (ps_asg (pe_cd D_first_of (hr.mono (by decide)) rfl (pa_cons (pv 1) pa_nil)) (pgT K (n := 3) (by rfl) (pgs_cons (pg_name (i := 3) scFamInit.nd rfl (by first | exact Or.inl rfl | exact Or.inr rfl)) (pgs_cons (pg_name (i := 4) scFamInit.nd rfl (by first | exact Or.inl rfl | exact Or.inr rfl)) (pgs_cons (pg_name (i := 5) scFamInit.nd rfl (by first | exact Or.inl rfl | exact Or.inr rfl)) pgs_nil)))))
      (pss_cons (ps_fld (pv 0) (dispN (hu64 hr) (pv 3) (peTup (pa_cons (peTup (pa_cons pe_int (pa_cons pe_int pa_nil))) (pa_cons pe_non (pa_cons (peTup (pa_cons (pv 4) (pa_cons (pv 5) pa_nil))) (pa_cons pe_non pa_nil)))))) rfl)
      (pss_cons (ps_fld (pv 0) pe_non rfl)
      (pss_cons (ps_fld (pv 0) (pe_disp (pps_cons (pe_callB (lenS K) (by rfl) B.len PySem.boot_len (pa_cons (pe_ix (ixT K) (pv 3) pe_int (fun _ _ => rfl)) pa_nil)) (pe_lst (pa_cons (pv 3) pa_nil)) pps_nil) rfl rfl (by simp) (by decide)) rfl)
      (pss_one (ps_while PassesOwn.never (PW.pt (pw_and (truth K (pe_fld (pv 0) rfl)) (pw_and1 (pt_cmpR op_isN (pe_fld (pv 0) rfl) pe_non (nomark _))))) (pss_one (ps_expr (pe_md T.cl M_look_at (hr.mono (by decide)) (pv 0) (pa_cons (pe_md0 T.cl M_next_place (hr.mono (by decide)) (pv 0)) (pa_cons (pv 2) pa_nil))))))))))), ?_⟩
    -- place, columns, down = first_of(pair)
    refine ⟨_, rfl, v, g, rfl, hg, gok.p0, gok.p1, gok.l, fun v' H1 c d s1 tri => ?_⟩
    obtain ⟨a1, q1, rfl, ha1, hq1⟩ := tri
    refine ⟨a1, _, rfl, ha1, rfl, _, _, rfl, _, _, rfl, _, _, rfl, rfl, ?_⟩
    obtain ⟨b1, x1, y1, rfl, rest1⟩ := id hq1
    -- self.origin = {place: ..}
    refine fun od nod => ⟨_, rfl, of_decide_eq_true rfl, fun q2 o2 n2 d2 => ⟨_, rfl, _, rfl, of_decide_eq_true rfl, fun q3 o3 n3 d3 => ⟨of_decide_eq_true rfl, fun q4 o4 n4 d4 => ?_⟩⟩⟩
    have sa : Same H1 (upd H1 od (DNo P w od [])) := same_new nod
    have sb := (same_new (o := .frz o2 (.tup [.int 0, .int 0])) n2)
    have sc := sb.trans (same_new (o := .frz o3 (.tup [.int c, .int d])) n3)
    have sd := sc.trans (same_new (o := .frz o4 (.tup [.ref q2, .non, .ref q3, .non])) n4)
    have od4 := sd od _ upd_same
    have s4 := sa.trans sd
    refine ⟨first g, b1, rfl, od4, hq1.kt (kt_same s4), ?_⟩
    obtain ⟨s5, od5⟩ := own2 (o := DNo P w od ([] ++ [(first g, b1, V.ref q4)])) s4 nod
    have hp5 := s5 p _ (s1 p _ hp)
    refine ⟨_, rfl, p, C, dx, [], rfl, hp5, T.cl, T.nO, of_decide_eq_true rfl, ?_⟩
    obtain ⟨k6, hp6, sb6⟩ := at2 (o := .ins C dx (putF "origin" (.ref od) [])) hp5 (fun xs z => by cases z) (fun ob u z => by cases z)
    have od6 := sb6 _ _ (ne_of od5 hp5 (by intro z; cases z)) od5
    have s6 := s0.trans (s1.trans s5)
    have n6 : H0 od = none := (s0.trans s1).free nod
    -- self.goal = None
    refine ⟨_, rfl, p, C, dx, _, rfl, hp6, T.cl, T.nG, of_decide_eq_true rfl, ?_⟩
    obtain ⟨k7, hp7, sb7⟩ := at2 (o := .ins C dx (putF "goal" .non (putF "origin" (.ref od) []))) hp6 (fun xs z => by cases z) (fun ob u z => by cases z)
    have od7 := sb7 _ _ (ne_of od6 hp6 (by intro z; cases z)) od6
    obtain ⟨hq1', hx1, hy1⟩ := rest1
    have k17 := (kt_same s5).trans (k6.trans k7)
    -- self.waiting = {len(place[0]): [place]}
    refine fun wd nwd => ?_
    obtain ⟨s8, wd8⟩ := new2 (o := .dK []) nwd
    have k18 := k17.trans (kt_same s8)
    obtain ⟨ax, ex, hax⟩ := (hx1.kt k18).seq
    subst ex
    have hax : SqT K _ ax (nums (first g).1) := hax
    refine ⟨_, rfl, b1, _, 0, _, rfl, rfl, k18.t hq1', rfl, ax, _, rfl, .inr hax, _, rfl, of_decide_eq_true rfl, fun z nz => ?_⟩
    have wz := ne_of_none wd8 nz
    obtain ⟨s9, z9⟩ := new2 (o := .lst [.ref b1]) nz
    refine ⟨s9 _ _ wd8, [(Sum.inl ((nums (first g).1).length : Int), .ref z)], rfl, of_decide_eq_true rfl, ?_⟩
    obtain ⟨k10, wd10, sb10⟩ := at2 (o := .dK (mergeK [] [(Sum.inl ((nums (first g).1).length : Int), .ref z)])) (s9 _ _ wd8) (fun xs z => by cases z) (fun ob u z => by cases z)
    have z10 := sb10 _ _ wz.symm z9
    have hp10 := sb10 _ _ (ne_of_none hp7 nwd) ((s8.trans s9) _ _ hp7)
    have od10 := sb10 _ _ (ne_of_none od7 nwd) (s9 _ _ (s8 _ _ od7))
    refine ⟨_, rfl, p, C, dx, _, rfl, hp10, T.cl, T.nW, of_decide_eq_true rfl, ?_⟩
    obtain ⟨k11, hp11, sb11⟩ := at2 (o := .ins C dx (putF "waiting" (.ref wd) (putF "goal" .non (putF "origin" (.ref od) [])))) hp10 (fun xs z => by cases z) (fun ob u z => by cases z)
    have od11 := sb11 _ _ (ne_of od10 hp10 (by intro z; cases z)) od10
    have wd11 := sb11 _ _ (ne_of wd10 hp10 (by intro z; cases z)) wd10
    have z11 := sb11 _ _ (ne_of z10 hp10 (by intro z; cases z)) z10
    have s7 := same_own (o := .ins C dx (putF "goal" .non (putF "origin" (.ref od) []))) (same_own (o := .ins C dx (putF "origin" (.ref od) [])) s6 p0) p0
    have m6 : H0 wd = none := s7.free nwd
    have s8' := same_own (o := .dK []) s7 m6
    have mz : H0 z = none := s8'.free nz
    have s11 := same_own (o := .ins C dx (putF "waiting" (.ref wd) (putF "goal" .non (putF "origin" (.ref od) [])))) (same_own (o := .dK (mergeK [] [(Sum.inl ((nums (first g).1).length : Int), .ref z)])) (same_own (o := .lst [.ref b1]) s8' mz) m6) p0
    have k8 := (kt_same s5).trans (k6.trans (k7.trans ((kt_same s8).trans ((kt_same s9).trans (k10.trans k11)))))
    have hq11 := hq1.kt k8
    refine ⟨fun m σ H' => ∃ es ws, σ = [some (.ref p), some v, some (.ref fN), some (.ref b1), some (.int c), some (.int d)] ∧ KT H H' ∧ FamAt P w K C H0 H' p es ws ∧ LoopI S nexts (first g) (es.map (·.1)) ws ∧ m = 2 * (S.length - (es.map (·.1)).length) + ws.length,
      ⟨_, [(first g, b1, .ref q4)], [first g], rfl, (kt_same s1).trans k8, ⟨s11, p0, dx, od, wd, _, [⟨((nums (first g).1).length : Int), z, [.ref b1], [first g]⟩], n6, m6, hp11, ⟨od11, fun e he => ?_⟩, wd11, ⟨rfl, by simp, by simp, fun e he => ?_⟩, fun e he => ?_, rfl⟩, ⟨by simp, ?_, by simp, ?_, ?_, ?_, Nat.le_refl _⟩, rfl⟩, ?_⟩
    · rw [List.mem_singleton.mp he]
      exact hq11
    · rw [List.mem_singleton.mp he]
      exact ⟨z11, EachR.one hq11, by simp⟩
    · rw [List.mem_singleton.mp he]
      exact mz
    · intro x hx
      rw [List.mem_singleton.mp hx]
      exact gS
    · intro x hx
      rw [List.mem_singleton.mp hx]
      exact .base
    · intro x hx
      exact hx
    · intro x hx nx
      exact absurd hx nx
    · rintro m σ H2 ⟨es, ws, rfl, kt, fa, li, rfl⟩
      obtain ⟨s0', p0', dx', od', wd', kvs, W, od0, wd0, hp', hod, hwd, hW, hl0, ews⟩ := id fa
      refine ⟨_, rfl, p, C, dx', _, _, rfl, hp', T.cl, T.nW, ff_waiting _ _, _, .inr (.inr ⟨kvs, hwd, rfl⟩), ?_⟩
      cases W with
      | nil =>
        have ek : kvs = [] := hW.kv
        subst ek
        obtain rfl : ws = [] := ews
        exact iteF (iteF (k H2 es kt fa li))
      | cons e W =>
        have ek : kvs = (Sum.inl e.n, V.ref e.l) :: W.map fun e => (Sum.inl e.n, V.ref e.l) := hW.kv
        have nws : ws ≠ [] := fun z => by
          have := flat_len fun e he => (hW.has e he).2.2
          rw [← ews, z] at this
          exact absurd this (by simp)
        subst ek
        refine iteT ⟨_, rfl, p, C, dx', _, _, rfl, hp', T.cl, T.nG, ff_goal _ _, rfl, _, rfl, iteD (fun _ => ?_) fun z => absurd rfl z⟩
        have l1 := nd_len li.nd li.inS
        have l2 := li.len
        have l3 := hS.len
        rw [List.length_map] at l1 l2
        refine ⟨fun σ' H' => ∃ m', m' < 2 * (S.length - (es.map (·.1)).length) + ws.length ∧ _, fun σ' H' h => h, _, rfl, p, dx', _, rfl, hp', ff_look _ _, _, rfl, p, dx', _, rfl, hp', ff_next _ _, p, H0, es, ws, rfl, fa, nws, fun v1 g1 H3 ws1 kt3 ig3 fa3 mem3 len3 => ?_⟩
        have gin : g1 ∈ S := li.inS _ (li.wos _ ((mem3 g1).mpr (.inl rfl)))
        refine ⟨_, rfl, p, v1, g1, H0, es, ws1, rfl, fa3, ig3, hS.st _ gin, hS.go _ gin, by omega, by omega, hS.many _ gin, fun H4 es4 ws4 kt4 fa4 gr4 => ?_⟩
        obtain ⟨li4, lt4⟩ := li.step hS.nx mem3 len3 gr4
        exact ⟨_, lt4, es4, ws4, rfl, kt.trans (kt3.trans kt4), fa4, li4, rfl⟩
end
end Gk
end

section
set_option Elab.async false
set_option linter.all false
set_option maxRecDepth 100000
set_option maxHeartbeats 4000000
/-! Gk: sorted by size and rows. -/
namespace Gk
open PySem PySem.W PyProof.Rows L2
/-! ### the key of a place -/
def keyG (g : G) : Int × DP := ((g.1.length : Int), dg g)
def kD (g : G) : PyData := Datum.toD (keyG g)
def sortG (gs : List G) : List G := gs.mergeSort (dataLe false kD)
theorem reads_ints {h : Heap} : ∀ {l : List Int} {its : List Value}, Vals (nums l) its → ReadsAll h its (l.map Datum.toD) []
  | [], _, r => by
    cases r
    exact .nil
  | x :: xs, _, r => by
    cases r with
    | cons r1 r2 =>
      obtain ⟨t, rfl⟩ := r1
      exact .cons (as := []) (bs := []) (.int x t) (reads_ints r2)
section
variable {X : Cx} {pins : List (Addr × Obj)} {σ : L2.St} {H : Hp} {s : Shared}
theorem row_reads {K : Frag} {l : List Int} {a : Addr} (I : L2.Inv X pins σ H s) (h : Row K l (.ref a) H) : ∃ its : List Value, s.heap.IsTuple a its.toArray ∧ its.length = l.length ∧ its.length ≤ sizeLine ∧ Reads s.heap (.ref a) (Datum.toD (⟨l⟩ : Tup Int)) [] := by
  obtain ⟨a', ob, e, ha, _⟩ := h
  cases e
  obtain ⟨e1, z, its, rv, o, h1, h2, n, h3⟩ := (show L2.ObjOk X.prog X.w H s.heap a (.frz ob (.tup (nums l))) from I.hok _ _ ha)
  have hl := rv.length
  rw [nums_len] at hl
  rw [nums_len] at z
  exact ⟨its, ⟨o, h1, h2, n, h3⟩, hl.symm, by omega, .tuple h1 h2 h3 (reads_ints rv)⟩
theorem place_reads {g : G} {b : Addr} (I : L2.Inv X pins σ H s) (h : IsG X.K g (.ref b) H) : ∃ (a1 a2 : Addr) (its : List Value), s.heap.IsTuple b #[.ref a1, .ref a2] ∧ s.heap.IsTuple a1 its.toArray ∧ its.length = g.1.length ∧ its.length ≤ sizeLine ∧ Reads s.heap (.ref b) (Datum.toD (dg g)) [] := by
  obtain ⟨a, x, o, e, ha, hx, ho⟩ := h
  cases e
  obtain ⟨ax, ex, hax⟩ := id hx.seq
  obtain ⟨ao, eo, hao⟩ := id ho.seq
  subst ex eo
  obtain ⟨its, rv, p, _⟩ := I.tuple ha
  obtain ⟨u1, u2, rfl, r1, r2⟩ := vals2 rv
  cases r1
  cases r2
  obtain ⟨it1, t1, l1, z1, r1⟩ := row_reads I hx
  obtain ⟨it2, t2, l2, z2, r2⟩ := row_reads I ho
  obtain ⟨oo, h1, h2, n, h3⟩ := id p
  exact ⟨ax, ao, it1, p, t1, l1, z1, .tuple (as := []) h1 h2 h3 (.cons (as := []) (bs := []) r1 (.cons (as := []) (bs := []) r2 .nil))⟩
end
/-! ### (len(place[0]), place) -/
section
variable {prog : Program} {w : World} {A : Around} {E : Value → Shared → Prop} {s1 : Shared} {env : Env} {x : Str} {p1 p2 p3 p4 p5 p6 p7 : Pos} {j k : Nat} {a a1 a2 : Addr} {its : List Value} {Q : Value → Shared → Prop}
theorem key_expr (hx : ∀ (p : Pos) (t : Nat) (Q : Value → Shared → Prop), Q (.ref a) { s1 with toks := t } → wpAny (model prog w) A (eval (.Name x p) env) Q E { s1 with toks := t })
    (hl : ∀ (p : Pos) (t : Nat) (Q : Value → Shared → Prop), Q (.builtin "len") { s1 with toks := t } → wpAny (model prog w) A (eval (.Name "len" p) env) Q E { s1 with toks := t })
    (h1 : s1.heap.IsTuple a #[.ref a1, .ref a2]) (h2 : s1.heap.IsTuple a1 its.toArray) (hz : its.length ≤ sizeLine)
    (h : ∀ t t', Q (.ref s1.heap.objs.size) { s1 with heap := s1.heap.push { cls := .type "tuple", data := .seq #[.int its.length t, .ref a] }, toks := t' }) :
    wpAny (model prog w) A (eval (.Tuple [.Call (.Name "len" p1) [.Subscript (.Name x p2) (.Constant (.int 0) j p3) p4] [] p5, .Name x p6] k p7) env) Q E s1 := by
  have hn := line63
  have hs : sizeLine = 16777216 := sizeLine_eq
  refine wpAny_Tuple_spliced ?_
  show wpAny _ _ (spliced [(false, eval (.Call (.Name "len" p1) [.Subscript (.Name x p2) (.Constant (.int 0) j p3) p4] [] p5) env), (false, eval (.Name x p6) env)]) _ _ s1
  refine Calls.spliced_cons (wpAny_Call_Name_kw (hl p1 s1.toks _ ?_))
  refine PyProof.Rows.callWith_builtin1 ?_ (by rfl) (by rfl)
  show wpAny _ _ (spliced [(false, eval (.Subscript (.Name x p2) (.Constant (.int 0) j p3) p4) env)]) _ _ s1
  refine Calls.spliced_cons (Subscript_ (hx p2 s1.toks _ ?_))
  refine wpAny_Constant_int ?_
  refine subscriptTail_builtinR (x := .ref a1) (PySem.Heap.IsTuple.typeIs h1) slot_tuple_getitem.lookup
    (getItem_tuple (j := 0) h1 (by decide) (by decide) (seq_at (i := 0) (Nat.succ_pos 1)) rfl ⟨rfl, ?_⟩)
  refine Calls.spliced_nil ?_
  refine len_tuple h2 (by simp only [List.size_toArray]; omega) ?_
  refine Calls.spliced_cons (hx p6 _ _ (Calls.spliced_nil ⟨of_decide_eq_true rfl, ?_⟩))
  exact h _ _
end
theorem tup_keeps {h h' : Heap} {a : Addr} {xs : Array Value} (t : h.IsTuple a xs) (kp : ∀ c o, h.get? c = some o → h'.get? c = some o) : h'.IsTuple a xs := let ⟨o, ho, r⟩ := t; ⟨o, kp _ _ ho, r⟩
/-- a call f(place) gives the place's key, and keeps the heap -/
def KeyFn (X : Cx) (s : Shared) (H : Hp) (f : Addr) : Prop := ∀ (g : G) (b : Addr), IsG X.K g (.ref b) H → ∀ (h : Heap) (tk : Nat), (∀ c o, s.heap.get? c = some o → h.get? c = some o) →
  wpAny (model X.prog X.w) X.A.in1.in1 (call (.ref f) [.ref b]) (KeyPure (kD g) { s with heap := h, toks := tk }) (fun _ _ => False) { s with heap := h, toks := tk }
theorem key_end {h h2 : Heap} {g : G} {b : Addr} {n t : Nat} {s : Shared} {tk t' : Nat} (kp : ∀ c o, h.get? c = some o → h2.get? c = some o) (hr : Reads h (.ref b) (Datum.toD (dg g)) []) (hn : n = g.1.length) :
    KeyPure (kD g) { s with heap := h, toks := tk } (.ref h2.objs.size) { s with heap := h2.push { cls := .type "tuple", data := .seq #[.int n t, .ref b] }, toks := t' } := by
  subst hn
  refine ⟨_, _, rfl, fun c o e => Heap.get?_push_of_some _ (kp c o e), ?_⟩
  exact .tuple (as := []) (Heap.get?_push_size _ rfl) rfl rfl (.cons (as := []) (bs := []) (.int _ t) (.cons (as := []) (bs := []) (PyProof.Rows.Reads.keeps (fun c o e => Heap.get?_push_of_some _ (kp c o e)) hr) .nil))
section
variable {X : Cx} {pins : List (Addr × Obj)} {σ : L2.St} {H : Hp} {s : Shared}
theorem ld_len {env : Env} {A : Around} {E : Value → Shared → Prop} {s2 : Shared} {p : Pos} {Q : Value → Shared → Prop} (I : L2.Inv X pins σ H s) (kp : ∀ c o, s.heap.get? c = some o → s2.heap.get? c = some o) (hm : X.mg "len" = none) (hk : env.scope.kind = .function)
    (hg : env.globals = mainGlobals) (hb : env.builtins = builtinsNs) (hx : env.kindOf "len" = some .globalImplicit) (h : Q (.builtin "len") s2) : wpAny (model X.prog X.w) A (eval (.Name "len" p) env) Q E s2 := by
  obtain ⟨mb, h1, h2⟩ := I.mod.blt
  exact Calls.Name_function_global hk hx (Calls.loadGlobal_builtin (by rw [hg]; exact (I.mod.glob.keeps I.bk).keeps kp) hm (by rw [hb]; exact (h1.keeps I.bk).keeps kp) ((h2 "len" (by decide)).trans PySem.boot_len) h) (by decide)
end
abbrev sOrderOf : Stmt := top 20
theorem key_def {X : Cx} {pins : List (Addr × Obj)} {σ : L2.St} {H : Hp} {s : Shared} {f : Addr} {fd : FuncData} (I : L2.Inv X pins σ H s) (F : Fun X.K "order_of" "order_of" sOrderOf f fd) (hm : X.mg "len" = none) (hd : X.A.depth < recursionLimit) : KeyFn X s H f := by
  intro g b hg h tk kp
  obtain ⟨oc, od, kV, doc, pm, an, cdv, ct, osl, rfl, lk, hcd⟩ := F.ex
  obtain ⟨a1, a2, its, t1, t2, l1, z1, rd⟩ := place_reads I hg
  have KX : X.K.In h := I.kIn.keeps kp
  refine wpAny_call (codeAny_mono (codeAny_call_straight (binds := [("place", .ref b)]) hd (KX _ _ lk) rfl (I.nolimit.keeps kp) (codeRec_of KX hcd) rfl rfl (show ∀ x ∈ (defScope sOrderOf).names, x.2 ≠ NameKind.cell by decide) (fun x hx => by rw [List.mem_singleton.mp hx]; exact (show (defScope sOrderOf).names.lookup ("place" : Str) = some .local by rfl)) (fun s1 x => ?_) (R := fun r s' => match r with | .ok (.ret v) => KeyPure (kD g) { s with heap := h, toks := tk } v s' | .ok _ => False | .error e => False) rfl rfl rfl) fun r s' hq => hq)
  refine wpAny_execs_cons (wpAny_Return_some ?_)
  have kp1 : ∀ c o, s.heap.get? c = some o → s1.heap.get? c = some o := fun c o e => x.keep c o (kp c o e)
  refine key_expr (a := b) (a1 := a1) (a2 := a2) (its := its) (fun p t Q q => ?_) (fun p t Q q => ?_) (tup_keeps t1 kp1) (tup_keeps t2 kp1) z1 (fun t t' => ?_)
  · exact ldI (x.tok t) rfl (by rfl) (by rfl) q (by decide)
  · exact ld_len (s2 := { s1 with toks := t }) I kp1 hm rfl rfl rfl (by rfl) q
  · obtain ⟨h1, tk1, rfl⟩ := x.same
    exact key_end (s := s) x.keep (PyProof.Rows.Reads.keeps kp rd) l1
/-- the same, of a lambda -/
theorem key_lam {X : Cx} {pins : List (Addr × Obj)} {σ : L2.St} {H : Hp} {s : Shared} {f c' : Addr} {q x : Str} {params : Arguments} {scope : Scope} {clo : List (Str × Addr)} {pm ctv : Value} {p1 p2 p3 p4 p5 p6 p7 : Pos} {j k : Nat} (I : L2.Inv X pins σ H s)
    (hf : s.heap.get? f = some (kla_obj "<lambda>" q params (.Tuple [.Call (.Name "len" p1) [.Subscript (.Name x p2) (.Constant (.int 0) j p3) p4] [] p5, .Name x p6] k p7) scope clo pm c' ctv)) (hc : H c' = some (LamX.CodeO c' q))
    (hco : scope.isCoroutine = false) (hgen : scope.isGenerator = false) (hk : scope.kind = .function) (hcell : ∀ y ∈ scope.names, y.2 ≠ NameKind.cell) (hloc : scope.names.lookup x = some .local) (hlen : scope.names.lookup ("len" : Str) = some .globalImplicit)
    (hbind : ∀ u : Value, bindArgs (kla_fn "<lambda>" q params (.Tuple [.Call (.Name "len" p1) [.Subscript (.Name x p2) (.Constant (.int 0) j p3) p4] [] p5, .Name x p6] k p7) scope clo pm (.ref c') ctv) ⟨[u], []⟩ = pure [(x, u)]) (hdb : (x == ("__debug__" : Str)) = false)
    (hm : X.mg "len" = none) (hd : X.A.depth < recursionLimit) : KeyFn X s H f := by
  intro g b hg h tk kp
  obtain ⟨a1, a2, its, t1, t2, l1, z1, rd⟩ := place_reads I hg
  obtain ⟨⟨oc, vs, t, hoc, hdc, hvc⟩, _, _⟩ := I.hok c' _ hc
  refine wpAny_call (codeAny_mono (kla_callFunE (A := X.A.in1.in1) (s := { s with heap := h, toks := tk }) (R := fun r s' => match r with | .ok (.ret v) => KeyPure (kD g) { s with heap := h, toks := tk } v s' | .ok _ => False | .error e => False) hd (kp _ _ hf) rfl hco hgen rfl ⟨c', oc, vs, t, rfl, kp _ _ hoc, hdc, hvc⟩ ?_) fun r s' hq => hq)
  rw [hbind]
  refine wpAny_pure (wpAny_newFunctionEnv hcell (fun y hy => by rw [List.mem_singleton.mp hy]; exact hloc) (fun h₁ hns hsb => ⟨(I.nolimit.keeps kp).fresh _ hsb, ?_⟩) hk)
  have kp0 : ∀ b o, h.get? b = some o → h₁.get? b = some o := fun b o e => hsb.extBut b o (Nat.ne_of_lt (Heap.lt_size e)) (Heap.get?_push_of_some _ e)
  refine kla_codeExpr ?_
  have kp1 : ∀ c o, s.heap.get? c = some o → h₁.get? c = some o := fun c o e => kp0 c o (kp c o e)
  have xc : InCall { s with heap := h, toks := tk } h.objs.size (fun y => List.lookup y [(x, Value.ref b)].reverse) { s with heap := h₁, toks := tk + 1 } := ⟨⟨h₁, _, rfl⟩, hns, kp0, Nat.le_refl _⟩
  refine key_expr (s1 := { s with heap := h₁, toks := tk + 1 }) (a := b) (a1 := a1) (a2 := a2) (its := its) (fun p t Q q => ?_) (fun p t Q q => ?_) (tup_keeps t1 kp1) (tup_keeps t2 kp1) z1 (fun t t' => ?_)
  · exact ldI (fd := kla_fn "<lambda>" _ params _ scope clo pm (.ref c') ctv) (xc.tok t) hk hloc (by simp [List.lookup]) q hdb
  · exact ld_len (s2 := { s with heap := h₁, toks := t }) I kp1 hm hk rfl rfl hlen q
  · exact key_end (s := s) kp0 (PyProof.Rows.Reads.keeps kp rd) l1
/-! ### sorted by the key -/
def Sorts (K : Frag) (l : Addr) (H : Hp) (Q : VK) : Prop := ∃ gs ys, SqL K H l ys ∧ EachR (IsG K) gs ys H ∧ ∀ p l', H p = none → EachR (IsG K) (sortG gs) l' H → Q (.ref p) (upd H p (.lst l'))
theorem each_is {α : Type} {R : α → L2.V → Hp → Prop} {H : Hp} {P : Value → α → Prop} (hP : ∀ (v : L2.V) (u : Value) (x : α), RelV v u → R x v H → P u x) : ∀ {xs : List α} {vs : List L2.V} {us : List Value}, EachR R xs vs H → Vals vs us → EachIs P us xs
  | [], _, _, e, r => by
    have := List.length_eq_zero_iff.mp e.1
    subst this
    cases r
    exact .nil
  | x :: xs, [], _, e, r => by
    have := e.1
    cases this
  | x :: xs, v :: vs, _, e, r => by
    cases r with
    | cons r1 r2 => exact .cons (hP v _ x r1 (e.2 0 v x rfl rfl)) (each_is hP ⟨by simpa using e.1, fun i v x a b => e.2 (i + 1) v x (by simpa using a) (by simpa using b)⟩ r2)
theorem each_back {α : Type} {R : α → L2.V → Hp → Prop} {H : Hp} : ∀ {xs : List α} {us : List Value}, EachIs (fun u x => ∃ a, u = Value.ref a ∧ R x (.ref a) H) us xs → ∃ vs, Vals vs us ∧ EachR R xs vs H
  | _, _, .nil => ⟨[], .nil, EachR.nil⟩
  | _, _, .cons ⟨a, e, h⟩ t => by
    obtain ⟨vs, r, er⟩ := each_back t
    subst e
    exact ⟨.ref a :: vs, .cons rfl r, (EachR.one h).append er⟩
theorem sort_run {X : Cx} {pins : List (Addr × Obj)} {σ : L2.St} {H : Hp} {s : Shared} {f l : Addr} {Q : VK} (I : L2.Inv X pins σ H s) (hu : X.A.units + 64 < cLine) (KF : KeyFn X s H f) (h : Sorts X.K l H Q) :
    wpAny (model X.prog X.w) X.A (call (.builtin "sorted") [.ref l] [(Str.ofString "key", .ref f)]) (EP X pins σ Q) X.xe s := by
  obtain ⟨gs, ys, hl, er, q⟩ := h
  obtain ⟨its, rv, pl, hz⟩ := I.list hl
  have ei : EachIs (fun u (g : G) => ∃ a, u = Value.ref a ∧ IsG X.K g (.ref a) H) its gs := each_is (fun v u x r hg => by
    obtain ⟨b, x1, o1, e, rest⟩ := id hg
    subst e
    cases r
    exact ⟨b, rfl, hg⟩) er rv
  have dep : Datum.depth (Int × DP) ≤ 60 := by decide
  refine sorted_key_data (b := false) kD pl.isList ei (AllAlike.of fun x y => DatumOrd.alike (keyG x) (keyG y)) (Sortable.tuples fun _ => ⟨_, _, rfl⟩) (by rw [← er.1]; exact hz) (fun g _ => ?_) (ksk_s1 _ _) (fun _ => ksk_l1 _ _) (fun _ => ksk_t1 _ _)
    (fun v g hv _ h tk kp => ?_) fun out c h' tk kp _ hD hlen eo => ?_
  · have := Datum.depth_le (keyG g)
    show X.A.units + 2 + (Datum.toD (keyG g)).depth < cLine
    omega
  · obtain ⟨a, rfl, hg⟩ := hv
    exact KF g a hg h tk kp
  · obtain ⟨vs, rvs, ers⟩ := each_back eo
    exact ⟨.ref _, upd H (s.heap.objs.size + 1) (.lst vs), I.laid (t' := tk) kp (Nat.le_succ _) ⟨by rw [rvs.length, hlen, ← er.1]; exact hz, out, c, rvs, hD⟩, rfl, q _ _ (I.hok.fresh (Nat.le_succ _)) ers⟩
/-- sorted(places, key=order_of) -/
def rSortD (K : Frag) (f : Addr) : List L2.V → List L2.V → Hp → VK → Prop := fun vs zs H Q => ∃ l, vs = [.ref l] ∧ zs = [.ref f] ∧ Sorts K l H Q
theorem sortD {X : Cx} {f : Addr} {fd : FuncData} (K : Frag) (F : Fun K "order_of" "order_of" sOrderOf f fd) (hm : X.mg "len" = none) (hd : X.A.depth < recursionLimit) (hu : X.A.units + 64 < cLine) (hK : X.K = K := by rfl) : CallRK X (.builtin "sorted") [Str.ofString "key"] (rSortD K f) := by
  subst hK
  intro pins s σ H vs zs us ws Q I r rz h
  obtain ⟨l, rfl, rfl, h⟩ := h
  obtain rfl := Vals.ref1 r
  obtain rfl := Vals.ref1 rz
  exact sort_run I hu (key_def I F hm hd) h
/-! ### the order is one -/
theorem ltL_or : ∀ a b : List Int, ltL a b = false → ltL b a = false → a.length = b.length → a = b
  | [], [], _, _, _ => rfl
  | x :: xs, y :: ys, h1, h2, h3 => by
    have e1 : ltL (x :: xs) (y :: ys) = if x = y then ltL xs ys else decide (x < y) := rfl
    have e2 : ltL (y :: ys) (x :: xs) = if y = x then ltL ys xs else decide (y < x) := rfl
    rw [e1] at h1
    rw [e2] at h2
    by_cases h : x = y
    · rw [if_pos h] at h1
      rw [if_pos h.symm] at h2
      rw [h, ltL_or xs ys h1 h2 (by simpa using h3)]
    · rw [if_neg h, decide_eq_false_iff_not] at h1
      rw [if_neg (fun z => h z.symm), decide_eq_false_iff_not] at h2
      omega
  | [], _ :: _, _, _, h3 => by simp at h3
  | _ :: _, [], _, _, h3 => by simp at h3
theorem lt_key (g h : G) : DatumOrd.lt (keyG g) (keyG h) = if g.1.length = h.1.length then ltG g h else decide (g.1.length < h.1.length) := by
  show (if (keyG g).1 = (keyG h).1 then DatumOrd.lt (dg g) (dg h) else DatumOrd.lt (keyG g).1 (keyG h).1) = _
  rw [lt_dg]
  by_cases e : g.1.length = h.1.length
  · rw [if_pos e, if_pos (show (keyG g).1 = (keyG h).1 from congrArg Int.ofNat e)]
  · rw [if_neg e, if_neg (show ¬ (keyG g).1 = (keyG h).1 from fun z => e (Int.ofNat.inj z))]
    show decide ((g.1.length : Int) < (h.1.length : Int)) = _
    exact decide_eq_decide.mpr (by omega)
theorem le_anti {g h : G} (hg : g.2.length = g.1.length) (hh : h.2.length = h.1.length) (h1 : dataLe false kD g h = true) (h2 : dataLe false kD h g = true) : g = h := by
  have e1 : dataLt (kD h) (kD g) = false := by
    rw [dataLe_eq] at h1
    simpa using h1
  have e2 : dataLt (kD g) (kD h) = false := by
    rw [dataLe_eq] at h2
    simpa using h2
  rw [show dataLt (kD h) (kD g) = DatumOrd.lt (keyG h) (keyG g) from DatumOrd.lt_eq _ _, lt_key] at e1
  rw [show dataLt (kD g) (kD h) = DatumOrd.lt (keyG g) (keyG h) from DatumOrd.lt_eq _ _, lt_key] at e2
  by_cases e : g.1.length = h.1.length
  · rw [if_pos e] at e2
    rw [if_pos e.symm] at e1
    have f1 : ltG g h = if g.1 = h.1 then ltL g.2 h.2 else ltL g.1 h.1 := rfl
    have f2 : ltG h g = if h.1 = g.1 then ltL h.2 g.2 else ltL h.1 g.1 := rfl
    rw [f1] at e2
    rw [f2] at e1
    by_cases q : g.1 = h.1
    · rw [if_pos q] at e2
      rw [if_pos q.symm] at e1
      exact Prod.ext q (ltL_or _ _ e2 e1 (by omega))
    · rw [if_neg q] at e2
      rw [if_neg (fun z => q z.symm)] at e1
      exact absurd (ltL_or _ _ e2 e1 e) q
  · rw [if_neg e, decide_eq_false_iff_not] at e2
    rw [if_neg (fun z => e z.symm), decide_eq_false_iff_not] at e1
    omega
theorem sort_same {os qs : List G} (h1 : os.Nodup) (h2 : qs.Nodup) (h : ∀ x, x ∈ os ↔ x ∈ qs) (hv : ∀ x ∈ os, x.2.length = x.1.length) : sortG os = sortG qs := by
  have T : TotalLe (dataLe false kD) := sortLe_total _ _ _
  have p : os.Perm qs := (List.perm_ext_iff_of_nodup h1 h2).mpr h
  have pm : (sortG os).Perm (sortG qs) := (List.mergeSort_perm _ _).trans (p.trans (List.mergeSort_perm _ _).symm)
  exact List.Perm.eq_of_pairwise (le := fun a b => dataLe false kD a b = true) (fun a b ha hb ab ba => le_anti (hv a ((List.mergeSort_perm _ _).mem_iff.mp ha)) (hv b ((h b).mpr ((List.mergeSort_perm _ _).mem_iff.mp hb))) ab ba) (sort_pairwise T os) (sort_pairwise T qs) pm
end Gk
end

section
set_option Elab.async false
set_option linter.all false
set_option maxRecDepth 100000
set_option maxHeartbeats 4000000
namespace Gk
open PySem L2
section
variable {P : Program} {w : World} {K : PySem.W.Frag} {mg : Str → Option Value} {base : Heap}
/-! ### a class made, by promise -/
structure MkOk (P : Program) (w : World) (K : PySem.W.Frag) (mg : Str → Option Value) (base : Heap) (x : Str) (C : Addr) (k : Nat) (ps : List Str) (sp : Sp) : Prop where
  ex : ∃ (f : Addr) (fd : FuncData), FnOk P w K mg base CX0 k f fd ps sp ∧ Mk K C f ∧ mg x = some (.ref C) ∧ Binds K fd ps []
theorem pe_mk {X : Cx} {C : Addr} {x : Str} {k : Nat} {ps : List Str} {sp : Sp} {e : Expr} {es : List Expr} {t : TA} {p pos : Pos} (M : MkOk X.prog X.w X.K X.mg X.base x C k ps sp) (hr : Room (k + 1) X.A) (hg : Gl X x) (ha : PA X (e :: es) t)
    (hdb : (x == ("__debug__" : Str)) = false := by decide) (he : starEach (e :: es) X.env = (false, eval e X.env) :: starEach es X.env := by rfl) (hpl : (backTo pos (starEach es X.env)).any (·.1) = false := by rfl) :
    PE X (.Call (.Name x p) (e :: es) [] pos) (tMake C sp [] E0 t) := by
  obtain ⟨f, fd, F, hm, hx, hb⟩ := M.ex
  exact pe_make hm F hr hg hx hb .nil pass0 ha hdb he hpl
theorem dep_of {k : Nat} {A : Around} (h : Room k A) : A.depth < recursionLimit := h.depth
/-- a tuple of places -/
def IsPl (K : PySem.W.Frag) (gs : List G) (v : V) (H : Hp) : Prop := ∃ a l, v = .ref a ∧ SqT K H a l ∧ EachR (IsG K) gs l H
theorem IsPl.kt {K : PySem.W.Frag} {gs : List G} {v : V} {H H' : Hp} (h : IsPl K gs v H) (e : KT H H') : IsPl K gs v H' := by
  obtain ⟨a, l, q, h, h1⟩ := h
  exact ⟨a, l, q, e.t h, h1.kt fun y v h => h.kt e⟩
theorem IsDN.each {K : PySem.W.Frag} {H H' : Hp} {od : Addr} {es : Ents} (h : IsDN P w K H od es) (e : KT H H') : EachR (IsG K) (es.map (·.1)) (es.map fun e => V.ref e.2.1) H' := by
  refine ⟨by simp, fun i v x a b => ?_⟩
  rw [List.getElem?_map] at a b
  cases q : es[i]? with
  | none => rw [q] at a; cases a
  | some y =>
    rw [q] at a b
    cases a
    cases b
    exact (h.2 y (List.mem_of_getElem? q)).kt e
abbrev sPlaces : Stmt := inClass (top 21) 4
-- slots: self 0
theorem scPlaces : FnScope ["self"] ["self"] (defScope sPlaces) := ⟨rfl, rfl, rfl, by decide +kernel, rfl, by decide +kernel, by decide +kernel⟩
def spPlaces (P : Program) (w : World) (K : PySem.W.Frag) (C : Addr) : Sp := fun vs H Q _ => ∃ (p : Addr) (H0 : Hp) (es : Ents) (ws : List G), vs = [.ref p] ∧ FamAt P w K C H0 H p es ws ∧ ∀ v H', Same H H' → IsPl K (sortG (es.map (·.1))) v H' → Q v H'
theorem ok_places {f : Addr} {fd : FuncData} (F : Fun K "places" "Family.places" sPlaces f fd) {C fO : Addr} {fdO : FuncData} (B : Bl mg) (T : FamTxt K C) (FO : Fun K "order_of" "order_of" sOrderOf fO fdO) (gO : mg "order_of" = some (.ref fO)) : FnOk P w K mg base CX0 1 f fd ["self"] (spPlaces P w K C) := by
  refine F.ok scPlaces (fun vs H Q E h => ?_) (fun cdv A outer s H vs Q E hr h => ?_)
  · obtain ⟨p, H0, es, ws, rfl, _⟩ := h
    rfl
  · obtain ⟨p, H0, es, ws, rfl, hf, k⟩ := h
    have dep := hr.depth
    refine ⟨_, (pss_one (ps_ret (tupOf K (by rfl) B.tuple (pe_callBK (sortD K FO B.len dep (hu64 hr)) rfl B.sorted (by decide +kernel) (pa_cons (pe_callTy (listDN rfl) (by rfl) B.list (by decide +kernel) (pa_cons (pe_fld (pv 0) rfl) pa_nil)) pa_nil) (pk_cons (pe_glob (v := .ref fO) rfl gO rfl) pk_nil))))), ?_⟩
    obtain ⟨s0, p0, dx, od, wd, kvs, W, od0, wd0, hp, hod, hwd, hW, hl0, ews⟩ := id hf
    refine ⟨_, rfl, p, C, dx, _, _, rfl, hp, T.cl, T.nO, ff_origin _ _, od, es, rfl, hod, fun q nq => ?_⟩
    refine ⟨q, rfl, rfl, es.map (·.1), _, SqL.of upd_same, hod.each (kt_same (same_new nq)), fun p2 l2 n2 e2 => ?_⟩
    exact ⟨p2, l2, rfl, SqL.of upd_same, fun q3 o3 n3 d3 => k _ _ ((same_new nq).trans ((same_new n2).trans (same_new n3))) ⟨q3, l2, rfl, sqF upd_same, e2.kt fun y v h => h.kt (kt_same ((same_new n2).trans (same_new n3)))⟩⟩
abbrev sWholeFam : Stmt := top 23
-- slots: pair 0
theorem scWholeFam : FnScope ["pair"] ["pair"] (defScope sWholeFam) := ⟨rfl, rfl, rfl, by decide +kernel, rfl, by decide +kernel, by decide +kernel⟩
def spWhole (P : Program) (w : World) (K : PySem.W.Frag) (C : Addr) (S : List G) : Sp := fun vs H Q _ => ∃ (v : V) (g : G), vs = [v] ∧ IsG K g v H ∧ GOk g ∧ first g ∈ S ∧ ∀ p H' es, FamAt P w K C H H' p es [] → LoopI S nexts (first g) (es.map (·.1)) [] → Q (.ref p) H'
theorem ok_whole {f : Addr} {fd : FuncData} (F : Fun K "whole_family" "whole_family" sWholeFam f fd) {C fN : Addr} {S : List G} (K_Family : MkOk P w K mg base "Family" C 7 ["self", "pair", "is_goal"] (spFamInit P w K C fN S)) (gN : mg "no_goal" = some (.ref fN)) : FnOk P w K mg base CX0 9 f fd ["pair"] (spWhole P w K C S) := by
  refine F.ok scWholeFam (fun vs H Q E h => ?_) (fun cdv A outer s H vs Q E hr h => ?_)
  · obtain ⟨v, g, rfl, _⟩ := h
    rfl
  · obtain ⟨v, g, rfl, hg, gok, gS, k⟩ := h
    refine ⟨_, (pss_one (ps_ret (pe_mk K_Family (hr.mono (by decide)) rfl (pa_cons (pv 0) (pa_cons (pe_glob (v := .ref fN) rfl gN rfl) pa_nil))))), ?_⟩
    refine ⟨v, rfl, fun x dx nx ndx nd => ?_⟩
    have s1 : Same H (upd (upd H dx (.own x)) x (.ins C dx [])) := same_own (same_new ndx) nx
    exact ⟨x, dx, v, g, H, rfl, upd_same, nx, s1, hg.kt (kt_same s1), gok, gS, fun H' es kt fa li => ⟨rfl, k x H' es fa li⟩⟩
/-! ### grids -/
structure GridTxt (K : PySem.W.Frag) (C : Addr) : Prop where
  cl : Cls K C
  nX : NoAttr K C "xs"
  nO : NoAttr K C "ohs"
def gf (x o : V) : List (Str × V) := [("xs", x), ("ohs", o)]
theorem gf_xs (x o : V) : (gf x o).lookup ("xs" : Str) = some x := by kernel_rfl
theorem gf_ohs (x o : V) : (gf x o).lookup ("ohs" : Str) = some o := by kernel_rfl
theorem gf_pair (x o : V) : (gf x o).lookup ("pair" : Str) = none := by kernel_rfl
def IsGrid (K : PySem.W.Frag) (C : Addr) (g : G) (v : V) (H : Hp) : Prop := ∃ a dx x o, v = .ref a ∧ H a = some (.ins C dx (gf x o)) ∧ Row K g.1 x H ∧ Row K g.2 o H
abbrev sGridPair : Stmt := inClass (top 34) 4
-- slots: self 0
theorem scGridPair : FnScope ["self"] ["self"] (defScope sGridPair) := ⟨rfl, rfl, rfl, by decide +kernel, rfl, by decide +kernel, by decide +kernel⟩
def spPair (K : PySem.W.Frag) (C : Addr) : Sp := fun vs H Q _ => ∃ (v : V) (g : G), vs = [v] ∧ IsGrid K C g v H ∧ ∀ v' H', Same H H' → IsG K g v' H' → Q v' H'
theorem ok_pair {f : Addr} {fd : FuncData} (F : Fun K "pair" "Grid.pair" sGridPair f fd) {C : Addr} (T : GridTxt K C) : FnOk P w K mg base CX0 1 f fd ["self"] (spPair K C) := by
  refine F.ok scGridPair (fun vs H Q E h => ?_) (fun cdv A outer s H vs Q E hr h => ?_)
  · obtain ⟨v, g, rfl, _⟩ := h
    rfl
  · obtain ⟨v, g, rfl, ⟨a, dx, x, o, rfl, ha, hx, ho⟩, k⟩ := h
    refine ⟨_, (pss_one (ps_ret (peTup (pa_cons (pe_fld (pv 0) rfl) (pa_cons (pe_fld (pv 0) rfl) pa_nil))))), ?_⟩
    refine ⟨_, rfl, a, C, dx, _, _, rfl, ha, T.cl, T.nX, gf_xs _ _, _, rfl, a, C, dx, _, _, rfl, ha, T.cl, T.nO, gf_ohs _ _, of_decide_eq_true rfl, fun q1 o1 n1 d1 => ?_⟩
    have s1 : Same H (upd H q1 (.frz o1 (.tup [x, o]))) := same_new n1
    exact k _ _ s1 ⟨q1, x, o, rfl, sqF upd_same, hx.kt (kt_same s1), ho.kt (kt_same s1)⟩
abbrev sFamilyF : Stmt := top 37
-- slots: grid 0
theorem scFamilyF : FnScope ["grid"] ["grid"] (defScope sFamilyF) := ⟨rfl, rfl, rfl, by decide +kernel, rfl, by decide +kernel, by decide +kernel⟩
def spFamily (P : Program) (w : World) (K : PySem.W.Frag) (CG : Addr) (S : List G) : Sp := fun vs H Q _ => ∃ (v : V) (g : G), vs = [v] ∧ IsGrid K CG g v H ∧ GOk g ∧ first g ∈ S ∧ ∀ v' H' os, Same H H' → LoopI S nexts (first g) os [] → IsPl K (sortG os) v' H' → Q v' H'
theorem ok_family {f : Addr} {fd : FuncData} (F : Fun K "family" "family" sFamilyF f fd) {C CG : Addr} {S : List G} (T : FamTxt K C) (TG : GridTxt K CG) (M_pair : MDef P w K mg base CG "pair" 1 ["self"] (spPair K CG)) (M_places : MDef P w K mg base C "places" 1 ["self"] (spPlaces P w K C))
    (D_whole_family : DefOk P w K mg base "whole_family" 9 ["pair"] (spWhole P w K C S)) : FnOk P w K mg base CX0 10 f fd ["grid"] (spFamily P w K CG S) := by
  refine F.ok scFamilyF (fun vs H Q E h => ?_) (fun cdv A outer s H vs Q E hr h => ?_)
  · obtain ⟨v, g, rfl, _⟩ := h
    rfl
  · obtain ⟨v, g, rfl, hg, gok, gS, k⟩ := h
    obtain ⟨a, dx, x, o, rfl, ha, hx, ho⟩ := id hg
    refine ⟨_, (pss_one (ps_ret (pe_md0 T.cl M_places (hr.mono (by decide)) (pe_cd D_whole_family (hr.mono (by decide)) rfl (pa_cons (pe_md0 TG.cl M_pair (hr.mono (by decide)) (pv 0)) pa_nil))))), ?_⟩
    refine ⟨_, rfl, a, dx, _, rfl, ha, gf_pair _ _, _, g, rfl, hg, fun v1 H1 s1 g1 => ⟨v1, g, rfl, g1, gok, gS, fun p H2 es fa li => ?_⟩⟩
    obtain ⟨s0, p0, dx2, od, wd, kvs, W, od0, wd0, hp, hod, hwd, hW, hl0, ews⟩ := id fa
    exact ⟨p, dx2, _, rfl, hp, ff_places _ _, p, H1, es, [], rfl, fa, fun v3 H3 s3 pl => k v3 H3 _ (s1.trans (s0.trans s3)) li pl⟩
end
end Gk
end

section
set_option Elab.async false
set_option linter.all false
set_option maxRecDepth 100000
set_option maxHeartbeats 4000000
namespace Gk
open PySem L2
section
variable {P : Program} {w : World} {K : PySem.W.Frag} {mg : Str → Option Value} {base : Heap}
abbrev sIsInt : Stmt := top 2
-- slots: value 0
theorem scIsInt : FnScope ["value"] ["value"] (defScope sIsInt) := ⟨rfl, rfl, rfl, by decide +kernel, rfl, by decide +kernel, by decide +kernel⟩
def spIsInt : Sp := fun vs H Q _ => ∃ n, vs = [.int n] ∧ Q (.bl true) H
theorem kit_ii : PySem.W.kitOne K (.type "int") (.type "int") = some true := by rfl
theorem kit_ib : PySem.W.kitOne K (.type "int") (.type "bool") = some false := by rfl
theorem ok_isint {f : Addr} {fd : FuncData} (F : Fun K "is_integer" "is_integer" sIsInt f fd) (B : Bl mg) : FnOk P w K mg base CX0 1 f fd ["value"] spIsInt := by
  refine F.ok scIsInt (fun vs H Q E h => ?_) (fun cdv A outer s H vs Q E hr h => ?_)
  · obtain ⟨n, rfl, _⟩ := h
    rfl
  · obtain ⟨n, rfl, k⟩ := h
    refine ⟨_, (pss_one (ps_ret (pe_and (pe_callB (isiO K) (by rfl) B.isi (by decide +kernel) (pa_cons (pv 0) (pa_cons (pe_bltn (v := .ty "int") (u := .type "int") rfl B.int (by decide +kernel) rfl) pa_nil))) (pe_one (pe_not (pe_callB (isiO K) (by rfl) B.isi (by decide +kernel) (pa_cons (pv 0) (pa_cons (pe_bltn (v := .ty "bool") (u := .type "bool") rfl B.bool (by decide +kernel) rfl) pa_nil)))))))), ?_⟩
    refine ⟨_, rfl, _, _, _, _, true, rfl, .ty "int", .base (.int n), kit_ii, true, rfl, iteT ?_⟩
    refine ⟨_, rfl, _, _, _, _, false, rfl, .ty "bool", .base (.int n), kit_ib, false, rfl, k⟩
abbrev sIsBelow : Stmt := top 3
-- slots: value 0 most 1
theorem scIsBelow : FnScope ["value", "most"] ["value", "most"] (defScope sIsBelow) := ⟨rfl, rfl, rfl, by decide +kernel, rfl, by decide +kernel, by decide +kernel⟩
def spBelow : Sp := fun vs H Q _ => ∃ x n, vs = [.int x, .int n] ∧ 0 ≤ x ∧ x < n ∧ Q (.bl true) H
theorem ok_below {f : Addr} {fd : FuncData} (F : Fun K "is_place_below" "is_place_below" sIsBelow f fd) (D_is_integer : DefOk P w K mg base "is_integer" 1 ["value"] spIsInt) : FnOk P w K mg base CX0 2 f fd ["value", "most"] spBelow := by
  refine F.ok scIsBelow (fun vs H Q E h => ?_) (fun cdv A outer s H vs Q E hr h => ?_)
  · obtain ⟨x, n, rfl, _⟩ := h
    rfl
  · obtain ⟨x, n, rfl, h0, h1, k⟩ := h
    refine ⟨_, (pss_one (ps_ret (pe_and (pe_cd D_is_integer (hr.mono (by decide)) rfl (pa_cons (pv 0) pa_nil)) (pe_one (pe_chain op_le op_lt pe_int (pv 0) (pv 1)))))), ?_⟩
    refine ⟨_, rfl, x, rfl, true, rfl, iteT ?_⟩
    refine ⟨_, rfl, _, _, rfl, rfl, _, rfl, iteD (fun _ => ⟨_, rfl, _, _, rfl, rfl, ?_⟩) fun z => absurd h0 z⟩
    show Q (.bl (decide (x < n))) H
    rw [decide_eq_true h1]
    exact k
abbrev sIsRows : Stmt := top 32
-- slots: value 0 n 1 row 2
theorem scIsRows : FnScope ["value", "n", "row"] ["value", "n"] (defScope sIsRows) := ⟨rfl, rfl, rfl, by decide +kernel, rfl, by decide +kernel, by decide +kernel⟩
/-- a row of ints, written as a tuple or as a list -/
def SqTL (K : PySem.W.Frag) (t : Bool) (H : Hp) (a : Addr) (xs : List V) : Prop := match t with
  | true => SqT K H a xs
  | false => SqL K H a xs
def spIsRows (K : PySem.W.Frag) (t : Bool) : Sp := fun vs H Q _ => ∃ (a : Addr) (l : List Int), vs = [.ref a, .int l.length] ∧ SqTL K t H a (nums l) ∧ l.length ≤ 100 ∧ (∀ x ∈ l, 0 ≤ x ∧ x < l.length) ∧ l.Nodup ∧ ∀ H', Same H H' → Q (.bl true) H'
theorem ty_tup {H : Hp} {a : Addr} {xs : List V} (h : SqT K H a xs) : TyX K H (.ref a) (.type "tuple") := by
  rcases h with (h | ⟨o, h⟩) | h
  · exact .base (.tup h)
  · exact .fTuple h
  · obtain ⟨o, its, n, lk, hc, rest⟩ := h
    exact .kTuple lk hc
theorem ty_lst {H : Hp} {a : Addr} {xs : List V} (h : SqL K H a xs) : TyX K H (.ref a) (.type "list") := by
  rcases h with (h | ⟨o, h⟩) | h
  · exact .base (.lst h)
  · exact .base (.frz h)
  · obtain ⟨o, its, n, lk, hc, rest⟩ := h
    exact .kList lk hc
theorem kit_t : PySem.W.kitAny K (.type "tuple") [.type "list", .type "tuple"] = some true := by rfl
theorem kit_l : PySem.W.kitAny K (.type "list") [.type "list", .type "tuple"] = some true := by rfl
theorem kit_tt : PySem.W.kitOne K (.type "tuple") (.type "tuple") = some true := by rfl
theorem dc_ints {J : It} {l : List Int} {j : Nat} {σ : L2.St} {tk : TE} {H1 : Hp} {D : Addr} {Qd : Hp → Prop} {vs : List Nat} (nD : H1 D = none) (nd : l.Nodup) (hz : l.length < sizeLine) (hgo : ∀ i H, i < l.length → Same H1 H → J.go i H) (hst : ∀ H, Same H1 H → J.stop l.length H)
    (hy : ∀ i H x H', Same H1 H → J.yld i H x H' → H' = H ∧ ∃ n, l[i]? = some n ∧ x = .int n) (hk : ∀ (n : Int) (H : Hp) (Q : VK), Q (.int n) H → tk ((wipe σ vs).set j (some (.int n))) H Q)
    (hd : ∀ H, Same H1 H → H D = some (.dK (l.map fun n => (Sum.inl n, .bl true))) → Qd H) (hv : vs = [j] := by rfl) :
    ∃ W : Nat → Nat → Hp → Prop, (∃ m, W 0 m (upd H1 D (.dK []))) ∧ ∀ i m H, W i m H →
      (J.stop i H ∧ Qd H) ∨ (J.go i H ∧ ∃ Nx : Hp → Prop, (∀ H', Nx H' → ∃ m', m' < m ∧ W (i + 1) m' H') ∧ ∀ x H', J.yld i H x H' → (gName j) x (wipe σ vs) H' fun σ2 H2 => wipe σ2 vs = wipe σ vs ∧ tYes σ2 H2 fun b H3 =>
        if b = true then tk σ2 H3 fun y H4 => (tC (.bl true)) σ2 H4 fun z H5 => ∃ (kvs : List (Key × V)) (k : Key), y = kV k ∧ H5 D = some (.dK kvs) ∧ kvs.length < sizeLine ∧ Nx (upd H5 D (.dK (putK kvs k z))) else Nx H3) := by
  subst hv
  refine ⟨fun i m H => m = l.length - i ∧ i ≤ l.length ∧ Same H1 H ∧ H D = some (.dK ((l.take i).map fun n => (Sum.inl n, .bl true))), ⟨l.length, rfl, Nat.zero_le _, same_new nD, upd_same⟩, ?_⟩
  rintro i m H ⟨rfl, hi, sm, hD⟩
  by_cases hlt : i < l.length
  · refine .inr ⟨hgo i H hlt sm, fun H' => Same H1 H' ∧ H' D = some (.dK ((l.take (i + 1)).map fun n => (Sum.inl n, .bl true))), fun H' ⟨h1, h2⟩ => ⟨l.length - (i + 1), by omega, rfl, hlt, h1, h2⟩, fun x H' y => ?_⟩
    obtain ⟨rfl, n, hn, rfl⟩ := hy i H x H' sm y
    refine ⟨wipe1 σ j _, ?_⟩
    simp only [tYes, if_true]
    refine hk n H' _ ?_
    have nin : n ∉ l.take i := fun z => by
      obtain ⟨k, hk1, hk2⟩ := List.mem_iff_getElem.mp z
      rw [List.length_take] at hk1
      rw [List.getElem_take] at hk2
      have h3 : l[i]'hlt = n := Option.some.inj ((List.getElem?_eq_getElem hlt).symm.trans hn)
      have := (List.nodup_iff_pairwise_ne.mp nd)
      have h4 := List.pairwise_iff_getElem.mp this k i (by omega) hlt (by omega)
      exact h4 (hk2.trans h3.symm)
    have vn : valV ((l.take i).map fun n => ((Sum.inl n : Key), V.bl true)) (Sum.inl n) = none := by
      unfold valV
      rw [List.find?_eq_none.mpr]
      · rfl
      · intro p hp
        obtain ⟨m, hm, rfl⟩ := List.mem_map.mp hp
        simp only [decide_eq_true_eq]
        intro z
        exact nin (Sum.inl.inj z ▸ hm)
    refine ⟨_, Sum.inl n, rfl, hD, by rw [List.length_map, List.length_take]; omega, fun b u hb => ?_, ?_⟩
    · exact (upd_ne (ne_of_none hb nD)).trans (sm b u hb)
    · rw [upd_same, putK_new _ vn, List.take_add_one, hn, List.map_append]
      rfl
  · have e : i = l.length := by omega
    subst e
    rw [List.take_length] at hD
    exact .inl ⟨hst H sm, hd H sm hD⟩
theorem bls_of : ∀ {l : List V} {n : Nat}, l.length = n → (∀ (i : Nat) (y : V), l[i]? = some y → y = .bl true) → l = (List.replicate n true).map V.bl
  | [], n, e, h => by
    subst e
    rfl
  | x :: xs, n, e, h => by
    subst e
    rw [h 0 x rfl, bls_of (n := xs.length) rfl fun i y hy => h (i + 1) y (by simpa using hy)]
    simp [List.replicate_succ]
theorem ok_isrows {f : Addr} {fd : FuncData} (F : Fun K "is_rows" "is_rows" sIsRows f fd) (t : Bool) (B : Bl mg) (D_is_place_below : DefOk P w K mg base "is_place_below" 2 ["value", "most"] spBelow) : FnOk P w K mg base CX0 3 f fd ["value", "n"] (spIsRows K t) := by
  refine F.ok scIsRows (fun vs H Q E h => ?_) (fun cdv A outer s H vs Q E hr h => ?_)
  · obtain ⟨a, l, rfl, _⟩ := h
    rfl
  · obtain ⟨a, l, rfl, hl, z, h0, nd, k⟩ := h
    cases t with
    | true =>
      refine ⟨_, (pss_cons (ps_if (PW.pt (pw_or (pt_not (pt_val (pe_callB (isiT K) (by rfl) B.isi (by decide +kernel) (pa_cons (pv 0) (pa_cons (pe_tup (pa_cons (pe_bltn (v := .ty "list") (u := .type "list") rfl B.list (by decide +kernel) rfl) (pa_cons (pe_bltn (v := .ty "tuple") (u := .type "tuple") rfl B.tuple (by decide +kernel) rfl) pa_nil))) pa_nil))))) (pw_or1 (pt_cmpR op_ne (pe_callB (lenS K) (by rfl) B.len PySem.boot_len (pa_cons (pv 0) pa_nil)) (pv 1) (nomark _))))) (pss_one (ps_ret pe_bl)) pss_nil)
      (pss_cons (ps_if (pt_not (pt_val (pe_callB (allB K rfl) (by rfl) B.all (by decide +kernel) (pa_cons (pe_lc (own := [("row", 2)]) (by rfl) scIsRows.nd (piT K (pv 0)) (blkOk_by (by kernel_rfl)) (fun _ _ _ _ _ => (pg_name (i := 2) scIsRows.nd rfl (by first | exact Or.inl rfl | exact Or.inr rfl))) (fun _ _ _ _ _ => pts_nil) (fun _ _ _ _ _ => (pe_cd D_is_place_below (hr.mono (by decide)) rfl (pa_cons (pv 2) (pa_cons (pv 1) pa_nil))))) pa_nil)))) (pss_one (ps_ret pe_bl)) pss_nil)
      (pss_one (ps_ret (pe_cmpR op_eq (pe_callB call_lenD (by rfl) B.len PySem.boot_len (pa_cons (pe_dc (own := [("row", 2)]) (by rfl) scIsRows.nd (piT K (pv 0)) (blkOk_by (by kernel_rfl)) (fun _ _ _ _ _ => (pg_name (i := 2) scIsRows.nd rfl (by first | exact Or.inl rfl | exact Or.inr rfl))) (fun _ _ _ _ _ => pts_nil) (fun _ _ _ _ _ => (pv 2)) (fun _ _ _ _ _ => pe_bl)) pa_nil)) (pv 1) (nomark _)))))), ?_⟩
      have hl : SqT K H a (nums l) := hl
      refine ⟨_, rfl, of_decide_eq_true rfl, fun tp ntp => ?_⟩
      have s1 : Same H (upd H tp (.tup [.ty "list", .ty "tuple"])) := same_new ntp
      have hl1 := (kt_same s1).t hl
      refine ⟨_, tp, _, _, _, true, rfl, upd_same, .cons (.ty "list") (.cons (.ty "tuple") .nil), ty_tup hl1, kit_t, true, rfl, iteF ?_⟩
      have nl : (nums l).length = l.length := nums_len _
      refine ⟨_, rfl, a, _, rfl, .inr hl1, _, rfl, rfl, _, rfl, iteDn (fun z => absurd (by rw [nl]) z) fun _ => ?_⟩
      -- all below
      refine ⟨_, rfl, a, rfl, ⟨_, hl1⟩, fun D1 nD1 => ?_⟩
      refine lcT_map (fun i v H => v = .bl true) nD1 hl1 (by rw [nl]; exact small1000 (by omega)) (fun _ _ _ _ _ h => h) (fun i x H1 hx s2 K1 q => ?_) (fun H2 ls s2 e2 el ep => ?_)
      · obtain ⟨n, hn, rfl⟩ := nums_get hx
        have hb := h0 n (List.mem_of_getElem? hn)
        exact ⟨_, rfl, _, rfl, n, _, rfl, hb.1, hb.2, q _ _ (Same.refl _) rfl⟩
      · have el2 := bls_of el fun i y hy => ep i y hy
        refine ⟨D1, List.replicate (nums l).length true, rfl, by rw [← el2]; exact SqL.of e2, ?_⟩
        have ea : (List.replicate (nums l).length true).all id = true := by simp
        rw [ea]
        refine ⟨true, rfl, iteF ?_⟩
        -- all others
        have hl3 := (kt_same s2).t hl1
        refine ⟨_, rfl, a, rfl, ⟨_, hl3⟩, fun D3 nD3 => ?_⟩
        refine dc_ints nD3 nd (small1000 (by omega)) (fun i H hi sm => ⟨_, (nums l)[i]'(by rw [nl]; exact hi), (kt_same sm).t hl3, List.getElem?_eq_getElem _⟩) (fun H sm => ⟨_, (kt_same sm).t hl3, by rw [nl]; exact Nat.le_refl _⟩) (fun i H x H' sm ⟨e1, e2⟩ => ⟨e1, ?_⟩) (fun n H Q q => ⟨_, rfl, q⟩) (fun H sm hD => ?_)
        · have := e2 _ ((kt_same sm).t hl3)
          rw [nums, List.getElem?_map] at this
          cases hq : l[i]? with
          | none => rw [hq] at this; cases this
          | some n => rw [hq] at this; cases this; exact ⟨n, rfl, rfl⟩
        · refine ⟨D3, _, rfl, hD, _, rfl, rfl, ?_⟩
          rw [List.length_map, decide_eq_true rfl]
          exact k H (s1.trans (s2.trans sm))
    | false =>
      refine ⟨_, (pss_cons (ps_if (PW.pt (pw_or (pt_not (pt_val (pe_callB (isiT K) (by rfl) B.isi (by decide +kernel) (pa_cons (pv 0) (pa_cons (pe_tup (pa_cons (pe_bltn (v := .ty "list") (u := .type "list") rfl B.list (by decide +kernel) rfl) (pa_cons (pe_bltn (v := .ty "tuple") (u := .type "tuple") rfl B.tuple (by decide +kernel) rfl) pa_nil))) pa_nil))))) (pw_or1 (pt_cmpR op_ne (pe_callB (lenS K) (by rfl) B.len PySem.boot_len (pa_cons (pv 0) pa_nil)) (pv 1) (nomark _))))) (pss_one (ps_ret pe_bl)) pss_nil)
      (pss_cons (ps_if (pt_not (pt_val (pe_callB (allB K rfl) (by rfl) B.all (by decide +kernel) (pa_cons (pe_lc (own := [("row", 2)]) (by rfl) scIsRows.nd (piL K (pv 0)) (blkOk_by (by kernel_rfl)) (fun _ _ _ _ _ => (pg_name (i := 2) scIsRows.nd rfl (by first | exact Or.inl rfl | exact Or.inr rfl))) (fun _ _ _ _ _ => pts_nil) (fun _ _ _ _ _ => (pe_cd D_is_place_below (hr.mono (by decide)) rfl (pa_cons (pv 2) (pa_cons (pv 1) pa_nil))))) pa_nil)))) (pss_one (ps_ret pe_bl)) pss_nil)
      (pss_one (ps_ret (pe_cmpR op_eq (pe_callB call_lenD (by rfl) B.len PySem.boot_len (pa_cons (pe_dc (own := [("row", 2)]) (by rfl) scIsRows.nd (piL K (pv 0)) (blkOk_by (by kernel_rfl)) (fun _ _ _ _ _ => (pg_name (i := 2) scIsRows.nd rfl (by first | exact Or.inl rfl | exact Or.inr rfl))) (fun _ _ _ _ _ => pts_nil) (fun _ _ _ _ _ => (pv 2)) (fun _ _ _ _ _ => pe_bl)) pa_nil)) (pv 1) (nomark _)))))), ?_⟩
      have hl : SqL K H a (nums l) := hl
      refine ⟨_, rfl, of_decide_eq_true rfl, fun tp ntp => ?_⟩
      have s1 : Same H (upd H tp (.tup [.ty "list", .ty "tuple"])) := same_new ntp
      have hl1 := s1.seq hl
      refine ⟨_, tp, _, _, _, true, rfl, upd_same, .cons (.ty "list") (.cons (.ty "tuple") .nil), ty_lst hl1, kit_l, true, rfl, iteF ?_⟩
      have nl : (nums l).length = l.length := nums_len _
      refine ⟨_, rfl, a, _, rfl, .inl hl1, _, rfl, rfl, _, rfl, iteDn (fun z => absurd (by rw [nl]) z) fun _ => ?_⟩
      -- all below
      refine ⟨_, rfl, a, rfl, ⟨_, hl1⟩, fun D1 nD1 => ?_⟩
      refine lcL_map (fun i v H => v = .bl true) nD1 hl1 (by rw [nl]; exact small1000 (by omega)) (fun _ _ _ _ _ h => h) (fun i x H1 hx s2 K1 q => ?_) (fun H2 ls s2 e2 el ep => ?_)
      · obtain ⟨n, hn, rfl⟩ := nums_get hx
        have hb := h0 n (List.mem_of_getElem? hn)
        exact ⟨_, rfl, _, rfl, n, _, rfl, hb.1, hb.2, q _ _ (Same.refl _) rfl⟩
      · have el2 := bls_of el fun i y hy => ep i y hy
        refine ⟨D1, List.replicate (nums l).length true, rfl, by rw [← el2]; exact SqL.of e2, ?_⟩
        have ea : (List.replicate (nums l).length true).all id = true := by simp
        rw [ea]
        refine ⟨true, rfl, iteF ?_⟩
        -- all others
        have hl3 := s2.seq hl1
        refine ⟨_, rfl, a, rfl, ⟨_, hl3⟩, fun D3 nD3 => ?_⟩
        refine dc_ints nD3 nd (small1000 (by omega)) (fun i H hi sm => ⟨_, (nums l)[i]'(by rw [nl]; exact hi), sm.seq hl3, List.getElem?_eq_getElem _⟩) (fun H sm => ⟨_, sm.seq hl3, by rw [nl]; exact Nat.le_refl _⟩) (fun i H x H' sm ⟨e1, e2⟩ => ⟨e1, ?_⟩) (fun n H Q q => ⟨_, rfl, q⟩) (fun H sm hD => ?_)
        · have := e2 _ (sm.seq hl3)
          rw [nums, List.getElem?_map] at this
          cases hq : l[i]? with
          | none => rw [hq] at this; cases this
          | some n => rw [hq] at this; cases this; exact ⟨n, rfl, rfl⟩
        · refine ⟨D3, _, rfl, hD, _, rfl, rfl, ?_⟩
          rw [List.length_map, decide_eq_true rfl]
          exact k H (s1.trans (s2.trans sm))
theorem SqTL.same {t : Bool} {H H' : Hp} {a : Addr} {xs : List V} (h : SqTL K t H a xs) (s : Same H H') : SqTL K t H' a xs := by
  cases t with
  | true => exact (kt_same s).t h
  | false => exact s.seq h
theorem SqTL.or {t : Bool} {H : Hp} {a : Addr} {xs : List V} (h : SqTL K t H a xs) : SqL K H a xs ∨ SqT K H a xs := by
  cases t with
  | true => exact .inr h
  | false => exact .inl h
theorem SqTL.ty {t : Bool} {H : Hp} {a : Addr} {xs : List V} (h : SqTL K t H a xs) : ∃ T, (∀ H', Same H H' → TyX K H' (.ref a) T) ∧ PySem.W.kitAny K T [.type "list", .type "tuple"] = some true := by
  cases t with
  | true => exact ⟨_, fun H' s => ty_tup ((kt_same s).t h), kit_t⟩
  | false => exact ⟨_, fun H' s => ty_lst (s.seq h), kit_l⟩
abbrev sIsPair : Stmt := top 33
-- slots: xs 0 ohs 1 x 2 o 3
theorem scIsPair : FnScope ["xs", "ohs", "x", "o"] ["xs", "ohs"] (defScope sIsPair) := ⟨rfl, rfl, rfl, by decide +kernel, rfl, by decide +kernel, by decide +kernel⟩
structure VG (g : G) : Prop where
  two : 2 ≤ g.1.length
  most : g.1.length ≤ 100
  l : g.2.length = g.1.length
  b1 : ∀ x ∈ g.1, 0 ≤ x ∧ x < g.1.length
  b2 : ∀ x ∈ g.2, 0 ≤ x ∧ x < g.1.length
  n1 : g.1.Nodup
  n2 : g.2.Nodup
  ap : ∀ (i : Nat) (x o : Int), g.1[i]? = some x → g.2[i]? = some o → x ≠ o
def spIsPair (K : PySem.W.Frag) (t : Bool) : Sp := fun vs H Q _ => ∃ (a b : Addr) (g : G), vs = [.ref a, .ref b] ∧ SqTL K t H a (nums g.1) ∧ SqTL K t H b (nums g.2) ∧ VG g ∧ ∀ H', Same H H' → Q (.bl true) H'
theorem ok_ispair {f : Addr} {fd : FuncData} (F : Fun K "is_pair_of_grid" "is_pair_of_grid" sIsPair f fd) (t : Bool) {tk : Tok} (B : Bl mg) (g_LEAST_SIZE : mg "LEAST_SIZE" = some (.int 2 tk)) (D_is_rows : DefOk P w K mg base "is_rows" 3 ["value", "n"] (spIsRows K t)) : FnOk P w K mg base CX0 4 f fd ["xs", "ohs"] (spIsPair K t) := by
  refine F.ok scIsPair (fun vs H Q E h => ?_) (fun cdv A outer s H vs Q E hr h => ?_)
  · obtain ⟨a, b, g, rfl, _⟩ := h
    rfl
  · obtain ⟨a, b, g, rfl, ha, hb, vg, k⟩ := h
    refine ⟨_, (pss_cons (ps_if (PW.pt (pw_or (pt_not (pt_val (pe_callB (isiT K) (by rfl) B.isi (by decide +kernel) (pa_cons (pv 0) (pa_cons (pe_tup (pa_cons (pe_bltn (v := .ty "list") (u := .type "list") rfl B.list (by decide +kernel) rfl) (pa_cons (pe_bltn (v := .ty "tuple") (u := .type "tuple") rfl B.tuple (by decide +kernel) rfl) pa_nil))) pa_nil))))) (pw_or1 (pt_cmpR op_lt (pe_callB (lenS K) (by rfl) B.len PySem.boot_len (pa_cons (pv 0) pa_nil)) (pe_glob (v := .int 2) rfl g_LEAST_SIZE ⟨_, rfl⟩) (nomark _))))) (pss_one (ps_ret pe_bl)) pss_nil)
      (pss_cons (ps_if (PW.pt (pw_or (pt_not (pt_val (pe_cd D_is_rows (hr.mono (by decide)) rfl (pa_cons (pv 0) (pa_cons (pe_callB (lenS K) (by rfl) B.len PySem.boot_len (pa_cons (pv 0) pa_nil)) pa_nil))))) (pw_or1 (pt_not (pt_val (pe_cd D_is_rows (hr.mono (by decide)) rfl (pa_cons (pv 1) (pa_cons (pe_callB (lenS K) (by rfl) B.len PySem.boot_len (pa_cons (pv 0) pa_nil)) pa_nil)))))))) (pss_one (ps_ret pe_bl)) pss_nil)
      (pss_one (ps_ret (pe_callB (allB K rfl) (by rfl) B.all (by decide +kernel) (pa_cons (pe_lc (own := [("x", 2), ("o", 3)]) (by rfl) scIsPair.nd (RZ.pi_zipA (by rfl) B.zip (pa_cons (pv 0) (pa_cons (pv 1) pa_nil))) (blkOk_by (by kernel_rfl)) (fun _ _ _ _ _ => (pgT K (n := 2) (by rfl) (pgs_cons (pg_name (i := 2) scIsPair.nd rfl (by first | exact Or.inl rfl | exact Or.inr rfl)) (pgs_cons (pg_name (i := 3) scIsPair.nd rfl (by first | exact Or.inl rfl | exact Or.inr rfl)) pgs_nil)))) (fun _ _ _ _ _ => pts_nil) (fun _ _ _ _ _ => (pe_cmpR op_ne (pv 2) (pv 3) (nomark _)))) pa_nil)))))), ?_⟩
    obtain ⟨T, hty, hkit⟩ := ha.ty
    refine ⟨_, rfl, of_decide_eq_true rfl, fun tp ntp => ?_⟩
    have s1 : Same H (upd H tp (.tup [.ty "list", .ty "tuple"])) := same_new ntp
    have ha1 := ha.same s1
    have hb1 := hb.same s1
    have nl : (nums g.1).length = g.1.length := nums_len _
    refine ⟨_, tp, _, _, _, true, rfl, upd_same, .cons (.ty "list") (.cons (.ty "tuple") .nil), hty _ s1, hkit, true, rfl, iteF ?_⟩
    refine ⟨_, rfl, a, _, rfl, ha1.or, _, _, rfl, rfl, _, rfl, iteD (fun z => absurd z (by rw [nl]; have := vg.two; omega)) fun _ => ?_⟩
    refine ⟨_, rfl, _, rfl, a, _, rfl, ha1.or, a, g.1, by rw [nl]; rfl, ha1, vg.most, vg.b1, vg.n1, fun H2 s2 => ⟨true, rfl, iteF ?_⟩⟩
    have ha2 := ha1.same s2
    have hb2 := hb1.same s2
    refine ⟨_, rfl, _, rfl, a, _, rfl, ha2.or, b, g.2, by rw [nl, vg.l]; rfl, hb2, by rw [vg.l]; exact vg.most, by rw [vg.l]; exact vg.b2, vg.n2, fun H3 s3 => ⟨true, rfl, iteF ?_⟩⟩
    have ha3 := ha2.same s3
    have hb3 := hb2.same s3
    have nl2 : (nums g.2).length = g.1.length := by rw [nums_len, vg.l]
    have fin : ∀ (H4 : Hp) (D : Addr) (ls : List V), Same H3 H4 → H4 D = some (.lst ls) → ls.length = g.1.length → (∀ (i : Nat) (y : V), ls[i]? = some y → y = .bl true) → ∃ (a : Addr) (bs : List Bool), [V.ref D] = [V.ref a] ∧ SqL K H4 a (bs.map V.bl) ∧ Q (.bl (bs.all id)) H4 := fun H4 D ls s4 e4 el ep => by
      have el2 := bls_of el ep
      refine ⟨D, List.replicate g.1.length true, rfl, by rw [← el2]; exact SqL.of e4, ?_⟩
      have ea : (List.replicate g.1.length true).all id = true := by simp
      rw [ea]
      exact k H4 (s1.trans (s2.trans (s3.trans s4)))
    have yld : ∀ (i : Nat) (x y : V), (nums g.1)[i]? = some x → (nums g.2)[i]? = some y → ∃ n m, x = .int n ∧ y = .int m ∧ n ≠ m := fun i x y hx hy => by
      obtain ⟨n, hn, rfl⟩ := nums_get hx
      obtain ⟨m, hm, rfl⟩ := nums_get hy
      exact ⟨n, m, rfl, rfl, vg.ap i n m hn hm⟩
    have nei : ∀ n m : Int, n ≠ m → V.bl (!decide (V.int n = V.int m)) = .bl true := fun n m h => by
      rw [decide_eq_false fun z => h (V.int.inj z)]
      rfl
    have z16 : g.1.length < sizeLine := small1000 (by have := vg.most; omega)
    cases t with
    | true =>
      have ha3 : SqT K H3 a (nums g.1) := ha3
      have hb3 : SqT K H3 b (nums g.2) := hb3
      refine ⟨_, rfl, _, rfl, a, b, _, _, rfl, .inr ⟨ha3, hb3, fun D nD => ?_⟩⟩
      refine lc_mapG g.1.length (fun i v H => v = .bl true) nD z16 (fun _ _ _ _ _ h => h) (fun i H hi sm => ⟨_, _, (nums g.1)[i]'(by rw [nl]; exact hi), (nums g.2)[i]'(by rw [nl2]; exact hi), (kt_same sm).t ha3, (kt_same sm).t hb3, List.getElem?_eq_getElem _, List.getElem?_eq_getElem _⟩)
        (fun H sm => ⟨_, _, (kt_same sm).t ha3, (kt_same sm).t hb3, .inl (by rw [nl]; exact Nat.le_refl _)⟩) (fun i H x H' hi sm hy K1 q => ?_) (fun H ls sm e el ep => fin H D ls sm e el ep)
      obtain ⟨T2, x2, y2, rfl, nT, rfl, hx, hy⟩ := hy
      obtain ⟨n, m, rfl, rfl, hne⟩ := yld i x2 y2 (hx _ ((kt_same sm).t ha3)) (hy _ ((kt_same sm).t hb3))
      refine ⟨T2, _, rfl, .inl (.inl upd_same), rfl, _, _, rfl, _, _, rfl, rfl, rfl, _, rfl, _, rfl, rfl, ?_⟩
      rw [nei n m hne]
      exact q _ _ (same_new nT) rfl
    | false =>
      have ha3 : SqL K H3 a (nums g.1) := ha3
      have hb3 : SqL K H3 b (nums g.2) := hb3
      refine ⟨_, rfl, _, rfl, a, b, _, _, rfl, .inl ⟨ha3, hb3, fun D nD => ?_⟩⟩
      refine lc_mapG g.1.length (fun i v H => v = .bl true) nD z16 (fun _ _ _ _ _ h => h) (fun i H hi sm => ⟨_, _, (nums g.1)[i]'(by rw [nl]; exact hi), (nums g.2)[i]'(by rw [nl2]; exact hi), sm.seq ha3, sm.seq hb3, List.getElem?_eq_getElem _, List.getElem?_eq_getElem _⟩)
        (fun H sm => ⟨_, _, sm.seq ha3, sm.seq hb3, .inl (by rw [nl]; exact Nat.le_refl _)⟩) (fun i H x H' hi sm hy K1 q => ?_) (fun H ls sm e el ep => fin H D ls sm e el ep)
      obtain ⟨T2, x2, y2, rfl, nT, rfl, hx, hy⟩ := hy
      obtain ⟨n, m, rfl, rfl, hne⟩ := yld i x2 y2 (hx _ (sm.seq ha3)) (hy _ (sm.seq hb3))
      refine ⟨T2, _, rfl, .inl (.inl upd_same), rfl, _, _, rfl, _, _, rfl, rfl, rfl, _, rfl, _, rfl, rfl, ?_⟩
      rw [nei n m hne]
      exact q _ _ (same_new nT) rfl
end
end Gk
end

section
set_option Elab.async false
set_option linter.all false
set_option maxRecDepth 100000
set_option maxHeartbeats 4000000
namespace Gk
open PySem L2
section
variable {P : Program} {w : World} {K : PySem.W.Frag} {mg : Str → Option Value} {base : Heap}
section
variable {X : Cx}
/-- tuple(x) of a list, of a tuple -/
def tTupAny (K : PySem.W.Frag) (ta : TE) : TE := fun σ H Q => ta σ H fun x H1 => ∃ p xs, x = .ref p ∧ ((SqL K H1 p xs ∧ tnew H1 xs Q) ∨ (SqT K H1 p xs ∧ Q (.ref p) H1))
theorem tupAny (K : PySem.W.Frag) {p pos : Pos} {a : Expr} {ta : TE} (hg : Gl X "tuple") (hm : X.mg "tuple" = none) (ha : PE X a ta) (hK : X.K = K := by rfl) (na : starEach [a] X.env = (false, eval a X.env) :: starEach [] X.env := by rfl) :
    PE X (.Call (.Name "tuple" p) [a] [] pos) (tTupAny K ta) := by
  subst hK
  refine ⟨fun pins s σ H Q I h => ?_⟩
  refine PyProof.Rows.Call_ (ld_blt I hg hm PyProof.Rows.boot_tuple (PyProof.Rows.callWith_type1 (one_arg ha I h (fun v s2 x H2 I2 r hx => ?_) na) na))
  obtain ⟨p, xs, rfl, hx⟩ := hx
  obtain rfl : v = .ref p := r
  rcases hx with ⟨hs, q⟩ | ⟨hs, q⟩
  · obtain ⟨its, rv, pl, hz⟩ := I2.list hs
    refine PySem.call_tuple_list pl.isList (fun h' hk => ?_) (by rw [List.size_toArray, ← rv.length]; exact hz)
    have I3 : L2.Inv X pins σ H2 { s2 with heap := h' } := I2.kept (t' := s2.toks) hk
    exact laidT (s := s2) (t' := s2.toks) I3 rv hz q
  · obtain ⟨its, rv, pl, hz⟩ := I2.tuple hs
    exact PySem.call_tuple_same pl ⟨.ref p, H2, I2, rfl, q⟩
end
def RowTL (K : PySem.W.Frag) (t : Bool) (l : List Int) (v : V) (H : Hp) : Prop := match t with
  | true => Row K l v H
  | false => ∃ a, v = .ref a ∧ SqL K H a (nums l)
theorem RowTL.seq {t : Bool} {l : List Int} {v : V} {H : Hp} (h : RowTL K t l v H) : ∃ a, v = .ref a ∧ SqTL K t H a (nums l) := by
  cases t with
  | true => exact Row.seq h
  | false => exact h
theorem RowTL.tup {t : Bool} {l : List Int} {a : Addr} {H : Hp} {Q : VK} (h : RowTL K t l (.ref a) H) (q : ∀ x H', Same H H' → Row K l x H' → Q x H') : ∃ p xs, V.ref a = .ref p ∧ ((SqL K H p xs ∧ tnew H xs Q) ∨ (SqT K H p xs ∧ Q (.ref p) H)) := by
  cases t with
  | true =>
    have h : Row K l (.ref a) H := h
    obtain ⟨b, e, hb⟩ := h.seq
    cases e
    exact ⟨a, _, rfl, .inr ⟨hb, q _ _ (Same.refl _) h⟩⟩
  | false =>
    obtain ⟨b, e, hb⟩ := h
    cases e
    exact ⟨a, _, rfl, .inl ⟨hb, fun p o n d => q _ _ (same_new n) ⟨p, o, rfl, upd_same, d⟩⟩⟩
theorem sb_seq {H H' : Hp} {p a : Addr} {xs : List V} {o : HO} (sb : SameBut p H H') (hp : H p = some o) (n : ∀ ys, o ≠ .lst ys) (n2 : ∀ ob u, o ≠ .frz ob u) (h : SqL K H a xs) : SqL K H' a xs := by
  rcases h with (h | ⟨ob, h⟩) | h
  · exact .inl (.inl (sb _ _ (fun z => by rw [z, hp] at h; exact n xs (Option.some.inj h)) h))
  · exact .inl (.inr ⟨ob, sb _ _ (fun z => by rw [z, hp] at h; exact n2 ob _ (Option.some.inj h)) h⟩)
  · exact .inr h
theorem sb_row {H H' : Hp} {p : Addr} {t : Bool} {l : List Int} {v : V} {o : HO} (sb : SameBut p H H') (kt : KT H H') (hp : H p = some o) (n : ∀ ys, o ≠ .lst ys) (n2 : ∀ ob u, o ≠ .frz ob u) (h : RowTL K t l v H) : RowTL K t l v H' := by
  cases t with
  | true => exact Row.kt (K := K) h kt
  | false =>
    obtain ⟨a, e, h⟩ := h
    exact ⟨a, e, sb_seq sb hp n n2 h⟩
theorem gf_put (x o : V) : putF "ohs" o (putF "xs" x []) = gf x o := by kernel_rfl
abbrev sGridInit : Stmt := inClass (top 34) 0
-- slots: self 0 xs 1 ohs 2
theorem scGridInit : FnScope ["self", "xs", "ohs"] ["self", "xs", "ohs"] (defScope sGridInit) := ⟨rfl, rfl, rfl, by decide +kernel, rfl, by decide +kernel, by decide +kernel⟩
def spGridInit (K : PySem.W.Frag) (C : Addr) (t : Bool) : Sp := fun vs H Q _ => ∃ (p dx : Addr) (vx vo : V) (g : G), vs = [.ref p, vx, vo] ∧ H p = some (.ins C dx []) ∧ RowTL K t g.1 vx H ∧ RowTL K t g.2 vo H ∧ VG g ∧
  ∀ x o H', SameBut p H H' → H' p = some (.ins C dx (gf x o)) → Row K g.1 x H' → Row K g.2 o H' → Q .non H'
theorem ok_gridinit {f : Addr} {fd : FuncData} (F : Fun K "__init__" "Grid.__init__" sGridInit f fd) {C : Addr} (t : Bool) (B : Bl mg) (TG : GridTxt K C) (D_is_pair_of_grid : DefOk P w K mg base "is_pair_of_grid" 4 ["xs", "ohs"] (spIsPair K t)) : FnOk P w K mg base CX0 5 f fd ["self", "xs", "ohs"] (spGridInit K C t) := by
  refine F.ok scGridInit (fun vs H Q E h => ?_) (fun cdv A outer s H vs Q E hr h => ?_)
  · obtain ⟨p, dx, vx, vo, g, rfl, _⟩ := h
    rfl
  · obtain ⟨p, dx, vx, vo, g, rfl, hp, hx, ho, vg, k⟩ := h
    obtain ⟨a, rfl, ha⟩ := hx.seq
    obtain ⟨b, rfl, hb⟩ := ho.seq
    refine ⟨_, (pss_cons (ps_if (pt_not (pt_val (pe_cd D_is_pair_of_grid (hr.mono (by decide)) rfl (pa_cons (pv 1) (pa_cons (pv 2) pa_nil))))) (pss_one ps_never) pss_nil)
      (pss_cons (ps_fld (pv 0) (tupAny K (by rfl) B.tuple (pv 1)) rfl)
      (pss_one (ps_fld (pv 0) (tupAny K (by rfl) B.tuple (pv 2)) rfl)))), ?_⟩
    have nI : ∀ fs : List (Str × V), (∀ ys, HO.ins C dx fs ≠ .lst ys) ∧ (∀ ob u, HO.ins C dx fs ≠ .frz ob u) ∧ ∀ ys, HO.ins C dx fs ≠ .tup ys := by
      intro fs
      refine ⟨?_, ?_, ?_⟩
      · intro ys z
        cases z
      · intro ob u z
        cases z
      · intro ys z
        cases z
    refine ⟨_, rfl, _, rfl, a, b, g, rfl, ha, hb, vg, fun H1 s1 => ⟨true, rfl, iteF ?_⟩⟩
    have hp1 := s1 _ _ hp
    have hx1 : RowTL K t g.1 (.ref a) H1 := sb_row (same_but s1 p) (kt_same s1) hp (nI _).1 (nI _).2.1 hx
    have ho1 : RowTL K t g.2 (.ref b) H1 := sb_row (same_but s1 p) (kt_same s1) hp (nI _).1 (nI _).2.1 ho
    -- self.xs = tuple(xs)
    refine ⟨_, rfl, hx1.tup fun x H2 s2 hx2 => ?_⟩
    have hp2 := s2 _ _ hp1
    refine ⟨_, rfl, p, C, dx, _, rfl, hp2, TG.cl, TG.nX, of_decide_eq_true rfl, ?_⟩
    obtain ⟨k3, hp3, sb3⟩ := at2 (o := .ins C dx (putF "xs" x [])) hp2 (nI _).2.2 (nI _).2.1
    have ho2 : RowTL K t g.2 (.ref b) H2 := sb_row (same_but s2 p) (kt_same s2) hp1 (nI _).1 (nI _).2.1 ho1
    have ho3 := sb_row sb3 k3 hp2 (nI _).1 (nI _).2.1 ho2
    -- self.ohs = tuple(ohs)
    refine ⟨_, rfl, ho3.tup fun o H4 s4 ho4 => ?_⟩
    have hp4 := s4 _ _ hp3
    refine ⟨_, rfl, p, C, dx, _, rfl, hp4, TG.cl, TG.nO, of_decide_eq_true rfl, ?_⟩
    obtain ⟨k5, hp5, sb5⟩ := at2 (o := .ins C dx (putF "ohs" o (putF "xs" x []))) hp4 (nI _).2.2 (nI _).2.1
    rw [gf_put] at hp5
    exact k x o _ (((same_but (s1.trans s2) p).trans sb3).trans ((same_but s4 p).trans sb5)) hp5 (hx2.kt (k3.trans ((kt_same s4).trans k5))) (ho4.kt k5)
end
end Gk
end

section
set_option Elab.async false
set_option linter.all false
set_option maxRecDepth 100000
set_option maxHeartbeats 4000000
namespace Gk
open PySem L2
section
variable {P : Program} {w : World} {K : PySem.W.Frag} {mg : Str → Option Value} {base : Heap}
abbrev sLCell : Stmt := top 39
-- slots: _law_script 0 _law_k 1
theorem scLCell : FnScope ["_law_script", "_law_k"] ["_law_script", "_law_k"] (defScope sLCell) := ⟨rfl, rfl, rfl, by decide +kernel, rfl, by decide +kernel, by decide +kernel⟩
/-- the request: a list of ints -/
def IsScr (K : PySem.W.Frag) (l : List Int) (v : V) (H : Hp) : Prop := ∃ a, v = .ref a ∧ SqL K H a (nums l)
def spCell (K : PySem.W.Frag) : Sp := fun vs H Q _ => ∃ (v : V) (l : List Int) (k : Nat), vs = [v, .int k] ∧ IsScr K l v H ∧ ∀ c : Int, 0 ≤ c → Q (.int c) H
theorem ok_cell {f : Addr} {fd : FuncData} (F : Fun K "_law_cell" "_law_cell" sLCell f fd) (B : Bl mg) : FnOk P w K mg base CX0 1 f fd ["_law_script", "_law_k"] (spCell K) := by
  refine F.ok scLCell (fun vs H Q E h => ?_) (fun cdv A outer s H vs Q E hr h => ?_)
  · obtain ⟨v, l, k, rfl, _⟩ := h
    rfl
  · obtain ⟨v, l, k, rfl, ⟨a, rfl, ha⟩, q⟩ := h
    refine ⟨_, (pss_cons (ps_if (pt_cmpR op_lt (pv 1) (pe_callB (lenS K) (by rfl) B.len PySem.boot_len (pa_cons (pv 0) pa_nil)) (nomark _)) (pss_one (ps_ret (pe_callB call_abs (by rfl) B.abs (by decide +kernel) (pa_cons (pe_callTy call_int1 (by rfl) B.int (by decide +kernel) (pa_cons (pe_ix (ixL K) (pv 0) (pv 1) (fun _ _ => rfl)) pa_nil)) pa_nil)))) pss_nil)
      (pss_one (ps_ret pe_int))), ?_⟩
    refine ⟨_, rfl, _, rfl, a, _, rfl, .inl ha, _, _, rfl, rfl, _, rfl, iteD (fun h => ?_) fun _ => q 0 (Int.le_refl 0)⟩
    have hk : k < l.length := by rw [nums_len] at h; omega
    refine ⟨_, rfl, _, rfl, a, _, _, _, rfl, rfl, ha, nums_atI (i := k) rfl hk, .inl ⟨_, rfl, _, rfl, ?_⟩⟩
    refine q _ ?_
    split <;> omega
abbrev sLDraws : Stmt := top 40
-- slots: _law_cell_here 0 _law_many 1 _law_most 2 _law_left 3 _law_drawn_here 4 _law_k 5 _law_first_here 6 _law_second 7 _law_third 8
theorem scLDraws : FnScope ["_law_cell_here", "_law_many", "_law_most", "_law_left", "_law_drawn_here", "_law_k", "_law_first_here", "_law_second", "_law_third"] ["_law_cell_here", "_law_many", "_law_most"] (defScope sLDraws) := ⟨rfl, rfl, rfl, by decide +kernel, rfl, by decide +kernel, by decide +kernel⟩
def IsDr (K : PySem.W.Frag) (n : Nat) (m : Int) (l : List Int) (v : V) (H : Hp) : Prop := ∃ a, v = .ref a ∧ H a = some (.lst (nums l)) ∧ l.length = n ∧ ∀ x ∈ l, 0 ≤ x ∧ x < m
def spDraws (K : PySem.W.Frag) : Sp := fun vs H Q _ => ∃ (c : Int) (n : Nat) (m : Int), vs = [.int c, .int n, .int m] ∧ 0 ≤ c ∧ n ≤ 100 ∧ 0 < m ∧ m ≤ 10000 ∧ ∀ v H' l, Same H H' → IsDr K n m l v H' → Q v H'
theorem ok_draws {f : Addr} {fd : FuncData} (F : Fun K "_law_draws" "_law_draws" sLDraws f fd) (B : Bl mg) : FnOk P w K mg base CX0 1 f fd ["_law_cell_here", "_law_many", "_law_most"] (spDraws K) := by
  refine F.ok scLDraws (fun vs H Q E h => ?_) (fun cdv A outer s H vs Q E hr h => ?_)
  · obtain ⟨c, n, m, rfl, _⟩ := h
    rfl
  · obtain ⟨c, n, m, rfl, hc, hn, hm, hm2, k⟩ := h
    refine ⟨_, (pss_cons (ps_set (i := 3) scLDraws.nd rfl (Or.inl rfl) pe_int)
      (pss_cons (ps_if (pt_cmpR op_ge (pv 0) (pe_op op_pow pe_int pe_int) (nomark _)) (pss_one (ps_set (i := 3) scLDraws.nd rfl (Or.inl rfl) (pv 0))) pss_nil)
      (pss_cons (ps_set (i := 4) scLDraws.nd rfl (Or.inl rfl) (pe_lst pa_nil))
      (pss_cons (ps_for PassesOwn.never rfl (pi_range1 (by rfl) B.range (pa_cons (pv 1) pa_nil)) (pg_name (i := 5) scLDraws.nd rfl (by first | exact Or.inl rfl | exact Or.inr rfl)) (pss_one (ps_if (pt_cmpR op_ge (pv 3) (pv 2) (nomark _)) (pss_cons (ps_expr (pe_bm PySem.F.plainAttrs_list PySem.F.slot_list_append PySem.F.type_list_append mt_append (pv 4) (pa_cons (pe_op op_mod (pe_callTy call_int1 (by rfl) B.int (by decide +kernel) (pa_cons (pv 3) pa_nil)) (pv 2)) pa_nil)))
      (pss_one (ps_set (i := 3) scLDraws.nd rfl (Or.inl rfl) (pe_op op_fdivN (pv 3) (pv 2))))) (pss_cons (ps_set (i := 6) scLDraws.nd rfl (Or.inl rfl) (pe_op op_mod (pe_callTy call_int1 (by rfl) B.int (by decide +kernel) (pa_cons (pe_op op_add (pe_op op_mul (pv 0) pe_int) (pe_op op_mul (pe_op op_add (pv 5) pe_int) pe_int)) pa_nil)) pe_int))
      (pss_cons (ps_set (i := 7) scLDraws.nd rfl (Or.inl rfl) (pe_op op_mod (pe_callTy call_int1 (by rfl) B.int (by decide +kernel) (pa_cons (pe_op op_add (pe_op op_mul (pv 6) (pv 6)) (pe_op op_mul (pe_op op_add (pv 5) pe_int) pe_int)) pa_nil)) pe_int))
      (pss_cons (ps_set (i := 8) scLDraws.nd rfl (Or.inl rfl) (pe_op op_mod (pe_callTy call_int1 (by rfl) B.int (by decide +kernel) (pa_cons (pe_op op_add (pe_op op_mul (pv 7) (pv 7)) (pv 6)) pa_nil)) pe_int))
      (pss_one (ps_expr (pe_bm PySem.F.plainAttrs_list PySem.F.slot_list_append PySem.F.type_list_append mt_append (pv 4) (pa_cons (pe_op op_mod (pv 8) (pv 2)) pa_nil))))))))))
      (pss_one (ps_ret (pv 4))))))), ?_⟩
    refine ⟨_, rfl, _, _, rfl, rfl, ⟨by decide, by decide, by decide⟩, _, _, rfl, rfl, _, rfl, iteD (fun h => ⟨_, rfl, ?_⟩) (fun h => ?_)⟩
    all_goals
      refine ⟨of_decide_eq_true rfl, fun D nD => ?_⟩
      refine ⟨_, rfl, _, rfl, by omega, by omega, for_range (Pv := fun i σ H1 => ∃ (left : Int) (l : List Int) (v5 v6 v7 v8 : Option V), σ = [some (.int c), some (.int n), some (.int m), some (.int left), some (.ref D), v5, v6, v7, v8] ∧ 0 ≤ left ∧ SameBut D (upd H D (.lst [])) H1 ∧ H1 D = some (.lst (nums l)) ∧ l.length = i ∧ ∀ x ∈ l, 0 ≤ x ∧ x < m)
        ⟨_, [], none, none, none, none, rfl, by omega, SameBut.refl _ _, upd_same, rfl, fun x hx => nomatch hx⟩ ?_ ?_⟩
    all_goals try
      rintro σ H1 ⟨left, l, v5, v6, v7, v8, rfl, h0, sb, hD, hl, hb⟩
      exact ⟨_, rfl, k _ _ l (sb.same (same_new nD) nD) ⟨D, rfl, hD, hl, hb⟩⟩
    all_goals
      rintro i σ H1 hi ⟨left, l, v5, v6, v7, v8, rfl, h0, sb, hD, hl, hb⟩
      have hi : i < n := hi
      have z16 : (nums l).length < sizeLine := by
        rw [nums_len, hl]
        exact small1000 (by omega)
      have step : ∀ x : Int, 0 ≤ x → x < m → SameBut D (upd H D (.lst [])) (upd H1 D (.lst (nums l ++ [.int x]))) ∧ upd H1 D (.lst (nums l ++ [.int x])) D = some (.lst (nums (l ++ [x]))) ∧ (l ++ [x]).length = i + 1 ∧ ∀ y ∈ l ++ [x], 0 ≤ y ∧ y < m := fun x h1 h2 => by
        refine ⟨sb.upd, ?_, by rw [List.length_append, hl]; rfl, fun y hy => ?_⟩
        · rw [upd_same, nums_append]
          rfl
        · rcases List.mem_append.mp hy with hy | hy
          · exact hb y hy
          · rw [List.mem_singleton.mp hy]
            exact ⟨h1, h2⟩
      refine ⟨_, rfl, _, rfl, _, _, rfl, rfl, _, rfl, iteD (fun hge => ?_) (fun hlt => ?_)⟩
      · obtain ⟨t1, t2, t3, t4⟩ := step (left % m) (Int.emod_nonneg _ (by omega)) (Int.emod_lt_of_pos _ hm)
        refine ⟨_, rfl, .inl ⟨rfl, _, SqL.of hD⟩, _, rfl, .inl ⟨_, rfl, _, rfl, _, _, rfl, rfl, hm, D, _, _, rfl, rfl, hD, z16, ?_⟩⟩
        refine ⟨_, rfl, _, rfl, _, _, rfl, rfl, ⟨by omega, by omega⟩, left.fdiv m, l ++ [left % m], _, _, _, _, rfl, ?_, t1, t2, t3, t4⟩
        rw [Int.fdiv_eq_ediv_of_nonneg _ (by omega)]
        exact Int.ediv_nonneg h0 (by omega)
      · have p1 : (0 : Int) < 2147483647 := by decide
        have p2 : (0 : Int) < 2147483399 := by decide
        have b1 : ∀ z : Int, 0 ≤ z % 2147483647 ∧ z % 2147483647 < 2147483647 := fun z => ⟨Int.emod_nonneg _ (by decide), Int.emod_lt_of_pos _ p1⟩
        have b2 : ∀ z : Int, 0 ≤ z % 2147483399 ∧ z % 2147483399 < 2147483399 := fun z => ⟨Int.emod_nonneg _ (by decide), Int.emod_lt_of_pos _ p2⟩
        refine ⟨_, rfl, _, _, rfl, rfl, .inr ⟨by decide, by decide⟩, _, rfl, _, _, rfl, rfl, _, _, rfl, rfl, .inr ⟨by decide, by decide⟩, _, _, rfl, rfl, .inl ⟨_, rfl, _, _, rfl, rfl, p1, ?_⟩⟩
        refine ⟨_, rfl, _, rfl, _, _, rfl, rfl, .inl ⟨Int.lt_of_lt_of_le (by decide : (-(2 ^ 64) : Int) < 0) (b1 _).1, Int.lt_trans (b1 _).2 (by decide)⟩, _, rfl, _, _, rfl, rfl, _, _, rfl, rfl, .inr ⟨by decide, by decide⟩, _, _, rfl, rfl, .inl ⟨_, rfl, _, _, rfl, rfl, p2, ?_⟩⟩
        refine ⟨_, rfl, _, rfl, _, _, rfl, rfl, .inl ⟨Int.lt_of_lt_of_le (by decide : (-(2 ^ 64) : Int) < 0) (b2 _).1, Int.lt_trans (b2 _).2 (by decide)⟩, _, rfl, _, _, rfl, rfl, .inl ⟨_, rfl, _, _, rfl, rfl, p1, ?_⟩⟩
        have st := fun z : Int => step (z % m) (Int.emod_nonneg _ (by omega)) (Int.emod_lt_of_pos _ hm)
        refine ⟨_, rfl, .inl ⟨rfl, _, SqL.of hD⟩, _, rfl, _, rfl, _, _, rfl, rfl, hm, D, _, _, rfl, rfl, hD, z16, ?_⟩
        exact ⟨left, l ++ [_], _, _, _, _, rfl, h0, (st _).1, (st _).2.1, (st _).2.2.1, (st _).2.2.2⟩
end
end Gk
end

section
set_option Elab.async false
set_option linter.all false
set_option maxRecDepth 100000
set_option maxHeartbeats 4000000
namespace Gk
open PySem L2
section
variable {P : Program} {w : World} {K : PySem.W.Frag} {mg : Str → Option Value} {base : Heap}
abbrev sLTurned : Stmt := top 42
-- slots: _law_pair_here 0 _law_a 1 _law_b 2 _law_n 3 _law_exes 4 _law_k 5
theorem scLTurned : FnScope ["_law_pair_here", "_law_a", "_law_b", "_law_n", "_law_exes", "_law_k"] ["_law_pair_here", "_law_a", "_law_b"] (defScope sLTurned) := ⟨rfl, rfl, rfl, by decide +kernel, rfl, by decide +kernel, by decide +kernel⟩
def spLTurned (K : PySem.W.Frag) : Sp := fun vs H Q _ => ∃ v a b g, vs = [v, .int a, .int b] ∧ IsG K g v H ∧ 0 < g.1.length ∧ g.1.length ≤ 100 ∧ g.2.length = g.1.length ∧ ∀ v' H', Same H H' → IsG K (turned g a b) v' H' → Q v' H'
theorem ok_lturned {f : Addr} {fd : FuncData} (F : Fun K "_law_turned" "_law_turned" sLTurned f fd) (B : Bl mg) : FnOk P w K mg base CX0 1 f fd ["_law_pair_here", "_law_a", "_law_b"] (spLTurned K) := by
  refine F.ok scLTurned (fun vs H Q E h => ?_) (fun cdv A outer s H vs Q E hr h => ?_)
  · obtain ⟨v, a, b, g, rfl, _⟩ := h
    rfl
  · obtain ⟨v, c, d, g, rfl, ⟨a, x, o, rfl, hp, hx, ho⟩, h0, h1, h2, k⟩ := h
    refine ⟨_, (pss_cons (ps_set (i := 3) scLTurned.nd rfl (Or.inr rfl) (pe_callB (lenS K) (by rfl) B.len PySem.boot_len (pa_cons (pe_ix (ixT K) (pv 0) pe_int (fun _ _ => rfl)) pa_nil)))
      (pss_cons (ps_set (i := 4) scLTurned.nd rfl (Or.inl rfl) (tupOf K (by rfl) B.tuple (pe_lc (own := [("_law_k", 5)]) (by rfl) scLTurned.nd (pi_range1 (by rfl) B.range (pa_cons (pv 3) pa_nil)) (blkOk_by (by kernel_rfl)) (fun _ _ _ _ _ => (pg_name (i := 5) scLTurned.nd rfl (by first | exact Or.inl rfl | exact Or.inr rfl))) (fun _ _ _ _ _ => pts_nil) (fun _ _ _ _ _ => (pe_op op_mod (pe_callTy call_int1 (by rfl) B.int (by decide +kernel) (pa_cons (pe_op op_sub (pe_ix (ixT K) (pe_ix (ixT K) (pv 0) pe_int (fun _ _ => rfl)) (pe_op op_mod (pe_callTy call_int1 (by rfl) B.int (by decide +kernel) (pa_cons (pe_op op_add (pv 5) (pv 1)) pa_nil)) (pv 3)) (fun _ _ => rfl)) (pv 2)) pa_nil)) (pv 3))))))
      (pss_one (ps_ret (peTup (pa_cons (pv 4) (pa_cons (tupOf K (by rfl) B.tuple (pe_lc (own := [("_law_k", 5)]) (by rfl) scLTurned.nd (pi_range1 (by rfl) B.range (pa_cons (pv 3) pa_nil)) (blkOk_by (by kernel_rfl)) (fun _ _ _ _ _ => (pg_name (i := 5) scLTurned.nd rfl (by first | exact Or.inl rfl | exact Or.inr rfl))) (fun _ _ _ _ _ => pts_nil) (fun _ _ _ _ _ => (pe_op op_mod (pe_callTy call_int1 (by rfl) B.int (by decide +kernel) (pa_cons (pe_op op_sub (pe_ix (ixT K) (pe_ix (ixT K) (pv 0) pe_int (fun _ _ => rfl)) (pe_op op_mod (pe_callTy call_int1 (by rfl) B.int (by decide +kernel) (pa_cons (pe_op op_add (pv 5) (pv 1)) pa_nil)) (pv 3)) (fun _ _ => rfl)) (pv 2)) pa_nil)) (pv 3))))) pa_nil))))))), ?_⟩
    have hn : (nums g.1).length = g.1.length := nums_len _
    have hn2 : (nums g.2).length = g.1.length := by rw [nums_len, h2]
    obtain ⟨ax, ex, hxa⟩ := id hx.seq
    obtain ⟨ao, eo, hoa⟩ := id ho.seq
    subst ex eo
    have hp0 : (0 : Int) < ((nums g.1).length : Int) := by omega
    have en : List.range ((nums g.1).length : Int).toNat = List.range g.1.length := by rw [hn]; rfl
    -- n = len(pair[0])
    refine ⟨_, rfl, a, _, 0, _, rfl, rfl, hp, rfl, ax, _, rfl, .inr hxa, ?_⟩
    refine ⟨_, rfl, _, rfl, by omega, by omega, fun D2 nD2 => ?_⟩
    refine lcR_ints (fun i => (g.1.getD (((i : Int) + c) % (g.1.length : Int)).toNat 0 - d) % (g.1.length : Int)) nD2 (small_len (by simp; omega)) (fun i2 H2 hi2 s2 K2 q2 => ?_) (fun H2 s2 e2 => ?_)
    · obtain ⟨k2, e2, e3, e4⟩ := mod_nat (z := (0 + (i2 : Int)) + c) (n := g.1.length) h0
      refine ⟨_, rfl, a, _, 0, _, rfl, rfl, (kt_same s2).t hp, rfl, _, rfl, _, rfl, _, _, rfl, rfl, .inl ⟨_, rfl, _, rfl, _, _, rfl, rfl, hp0, ax, _, _, _, rfl, rfl, (kt_same s2).t hxa, nums_atI (i := k2) (by rw [hn]; exact e2) (by omega), _, rfl, _, _, rfl, rfl, .inl ⟨_, rfl, _, rfl, _, _, rfl, rfl, hp0, ?_⟩⟩⟩
      show K2 (.int ((g.1.getD k2 0 - d) % ((nums g.1).length : Int))) H2
      rw [hn]
      rw [Int.zero_add] at e4
      rw [e4]
      exact q2 H2 (Same.refl _)
    · refine ⟨_, _, rfl, SqL.of e2, fun q3 o3 n3 d3 => ?_⟩
      -- the other row
      have s3 : Same H (upd H2 q3 (.frz o3 (.tup (nums ((List.range (((nums g.1).length : Int)).toNat).map fun (i : Nat) => (g.1.getD (((i : Int) + c) % (g.1.length : Int)).toNat 0 - d) % (g.1.length : Int)))))) := s2.trans (same_new n3)
      refine ⟨_, rfl, _, rfl, _, rfl, by omega, by omega, fun D4 nD4 => ?_⟩
      refine lcR_ints (fun i => (g.2.getD (((i : Int) + c) % (g.1.length : Int)).toNat 0 - d) % (g.1.length : Int)) nD4 (small_len (by simp; omega)) (fun i2 H4 hi2 s4 K2 q2 => ?_) (fun H4 s4 e4 => ?_)
      · obtain ⟨k2, e2, e3, e4⟩ := mod_nat (z := (0 + (i2 : Int)) + c) (n := g.1.length) h0
        refine ⟨_, rfl, a, _, 1, _, rfl, rfl, (kt_same (s3.trans s4)).t hp, rfl, _, rfl, _, rfl, _, _, rfl, rfl, .inl ⟨_, rfl, _, rfl, _, _, rfl, rfl, hp0, ao, _, _, _, rfl, rfl, (kt_same (s3.trans s4)).t hoa, nums_atI (i := k2) (by rw [hn]; exact e2) (by omega), _, rfl, _, _, rfl, rfl, .inl ⟨_, rfl, _, rfl, _, _, rfl, rfl, hp0, ?_⟩⟩⟩
        show K2 (.int ((g.2.getD k2 0 - d) % ((nums g.1).length : Int))) H4
        rw [hn]
        rw [Int.zero_add] at e4
        rw [e4]
        exact q2 H4 (Same.refl _)
      · refine ⟨_, _, rfl, SqL.of e4, fun q5 o5 n5 d5 => ⟨of_decide_eq_true rfl, fun q6 o6 n6 d6 => ?_⟩⟩
        have s5 := s4.trans (same_new (o := .frz o5 (.tup (nums ((List.range (((nums g.1).length : Int)).toNat).map fun (i : Nat) => (g.2.getD (((i : Int) + c) % (g.1.length : Int)).toNat 0 - d) % (g.1.length : Int))))) n5)
        have r3 := (s5.trans (same_new (o := .frz o6 (.tup [.ref q3, .ref q5])) n6)) q3 _ upd_same
        have r5 := same_new (o := .frz o6 (.tup [.ref q3, .ref q5])) n6 q5 _ upd_same
        refine k _ _ (s3.trans (s5.trans (same_new n6))) ⟨q6, .ref q3, .ref q5, rfl, sqF upd_same, ⟨q3, o3, rfl, ?_, d3⟩, ⟨q5, o5, rfl, ?_, d5⟩⟩
        · exact r3.trans (by rw [en]; rfl)
        · exact r5.trans (by rw [en]; rfl)
end
end Gk
end

section
set_option Elab.async false
set_option linter.all false
set_option maxRecDepth 100000
set_option maxHeartbeats 4000000
namespace Gk
open PySem L2
section
variable {P : Program} {w : World} {K : PySem.W.Frag} {mg : Str → Option Value} {base : Heap}
def rangeI (n : Nat) : List Int := (List.range n).map fun (i : Nat) => (i : Int)
def shiftBase (n : Nat) (sh : Int) (rev : Bool) : G := ((if rev then (rangeI n).reverse else rangeI n), (if rev then (rangeI n).reverse else rangeI n).map fun r => (r + sh) % (n : Int))
abbrev sLShifted : Stmt := top 43
-- slots: _law_n 0 _law_shift 1 _law_draw 2 _law_exes 3 _law_pair_here 4 _law_r 5
theorem scLShifted : FnScope ["_law_n", "_law_shift", "_law_draw", "_law_exes", "_law_pair_here", "_law_r"] ["_law_n", "_law_shift", "_law_draw"] (defScope sLShifted) := ⟨rfl, rfl, rfl, by decide +kernel, rfl, by decide +kernel, by decide +kernel⟩
def spLShifted (K : PySem.W.Frag) : Sp := fun vs H Q _ => ∃ (n : Nat) (sh d : Int), vs = [.int n, .int sh, .int d] ∧ 0 < n ∧ n ≤ 100 ∧ 0 ≤ d ∧
  ∀ v' H' (rev : Bool) (a b : Int), Same H H' → 0 ≤ a → a < n → 0 ≤ b → b < n → IsG K (turned (shiftBase n sh rev) a b) v' H' → Q v' H'
theorem ok_lshifted {f : Addr} {fd : FuncData} (F : Fun K "_law_shifted" "_law_shifted" sLShifted f fd) (B : Bl mg) (D__law_turned : DefOk P w K mg base "_law_turned" 1 ["_law_pair_here", "_law_a", "_law_b"] (spLTurned K)) : FnOk P w K mg base CX0 2 f fd ["_law_n", "_law_shift", "_law_draw"] (spLShifted K) := by
  refine F.ok scLShifted (fun vs H Q E h => ?_) (fun cdv A outer s H vs Q E hr h => ?_)
  · obtain ⟨n, sh, d, rfl, _⟩ := h
    rfl
  · obtain ⟨n, sh, d, rfl, h0, h1, hd, k⟩ := h
    refine ⟨_, (pss_cons (ps_set (i := 3) scLShifted.nd rfl (Or.inl rfl) (pe_listRg rfl (by rfl) B.list (prg_1 (by rfl) B.range (pv 0))))
      (pss_cons (ps_if (pt_cmpR op_eq (pe_op op_mod (pe_callTy call_int1 (by rfl) B.int (by decide +kernel) (pa_cons (pv 2) pa_nil)) pe_int) pe_int (nomark _)) (pss_one (ps_set (i := 3) scLShifted.nd rfl (Or.inl rfl) (revL K (pv 3)))) pss_nil)
      (pss_cons (ps_set (i := 4) scLShifted.nd rfl (Or.inl rfl) (peTup (pa_cons (tupOf K (by rfl) B.tuple (pv 3)) (pa_cons (tupOf K (by rfl) B.tuple (pe_lc (own := [("_law_r", 5)]) (by rfl) scLShifted.nd (piL K (pv 3)) (blkOk_by (by kernel_rfl)) (fun _ _ _ _ _ => (pg_name (i := 5) scLShifted.nd rfl (by first | exact Or.inl rfl | exact Or.inr rfl))) (fun _ _ _ _ _ => pts_nil) (fun _ _ _ _ _ => (pe_op op_mod (pe_callTy call_int1 (by rfl) B.int (by decide +kernel) (pa_cons (pe_op op_add (pv 5) (pv 1)) pa_nil)) (pv 0))))) pa_nil))))
      (pss_one (ps_ret (pe_cd D__law_turned (hr.mono (by decide)) rfl (pa_cons (pv 4) (pa_cons (pe_op op_mod (pe_callTy call_int1 (by rfl) B.int (by decide +kernel) (pa_cons (pe_op op_fdivN (pv 2) pe_int) pa_nil)) (pv 0)) (pa_cons (pe_op op_mod (pe_callTy call_int1 (by rfl) B.int (by decide +kernel) (pa_cons (pe_op op_fdivN (pv 2) pe_int) pa_nil)) (pv 0)) pa_nil))))))))), ?_⟩
    have hp0 : (0 : Int) < (n : Int) := by omega
    have erg : rgV 0 (n : Int) = nums (rangeI n) := by
      unfold rgV nums rangeI
      rw [List.map_map]
      have e : ((n : Int) - 0).toNat = n := by omega
      rw [e]
      refine List.map_congr_left fun i _ => ?_
      show V.int (0 + (i : Int)) = V.int (i : Int)
      rw [Int.zero_add]
    have two : (0 : Int) < 2 := by decide
    refine ⟨_, rfl, _, rfl, RgOk.of_le (Int.le_refl 0) (by omega) (by decide) (by omega), fun D nD => ?_⟩
    rw [erg]
    have base : ∀ rev : Bool, (shiftBase n sh rev).1.length = n := fun rev => by cases rev <;> simp [shiftBase, rangeI]
    have base2 : ∀ rev : Bool, (shiftBase n sh rev).2.length = n := fun rev => by cases rev <;> simp [shiftBase, rangeI]
    refine ⟨_, rfl, .inl ⟨_, rfl, _, _, rfl, rfl, two, rfl, _, rfl, iteD (fun h => ⟨_, rfl, D, _, rfl, SqL.of upd_same, fun L nL => ?_⟩) (fun h => ?_)⟩⟩
    · have er : (nums (rangeI n)).reverse = nums (shiftBase n sh true).1 := by
        unfold nums
        rw [← List.map_reverse]
        rfl
      rw [er]
      have s1 : Same H (upd (upd H D (.lst (nums (rangeI n)))) L (.lst (nums (shiftBase n sh true).1))) := (same_new nD).trans (same_new nL)
      have hL : SqL K (upd (upd H D (.lst (nums (rangeI n)))) L (.lst (nums (shiftBase n sh true).1))) L (nums (shiftBase n sh true).1) := SqL.of upd_same
      obtain ⟨rev, erev⟩ : ∃ rev : Bool, rev = true := ⟨_, rfl⟩
      rw [← erev] at s1 hL ⊢
      refine ⟨_, rfl, L, _, rfl, hL, fun q1 o1 n1 d1 => ?_⟩
      obtain ⟨s2, h2⟩ := new2 (o := .frz o1 (.tup (nums (shiftBase n sh rev).1))) n1
      have hL2 := s2.seq hL
      refine ⟨_, rfl, L, rfl, ⟨_, hL2⟩, fun D2 nD2 => lcL_ints (fun r => (r + sh) % (n : Int)) nD2 hL2 (by rw [base]; omega) (fun r H3 hr s3 K3 q3 => ⟨_, rfl, _, rfl, _, _, rfl, rfl, .inl ⟨_, rfl, _, rfl, _, _, rfl, rfl, hp0, q3 _ (Same.refl _)⟩⟩) (fun H3 s3 e3 => ?_)⟩
      refine ⟨_, _, rfl, SqL.of e3, fun q4 o4 n4 d4 => ⟨of_decide_eq_true rfl, fun q5 o5 n5 d5 => ?_⟩⟩
      obtain ⟨s4, h4⟩ := new2 (o := .frz o4 (.tup (nums (shiftBase n sh rev).2))) n4
      obtain ⟨s5, h5⟩ := new2 (o := .frz o5 (.tup [.ref q1, .ref q4])) n5
      have sall := s1.trans (s2.trans (s3.trans (s4.trans s5)))
      refine ⟨_, rfl, _, rfl, _, _, rfl, rfl, ⟨by decide, by decide⟩, .inl ⟨_, rfl, _, rfl, _, _, rfl, rfl, hp0, _, rfl, _, _, rfl, rfl, ⟨by decide, by decide⟩, .inl ⟨_, rfl, _, rfl, _, _, rfl, rfl, hp0, ?_⟩⟩⟩
      exact ⟨_, _, _, shiftBase n sh rev, rfl, ⟨q5, .ref q1, .ref q4, rfl, sqF h5, ⟨q1, o1, rfl, (s3.trans (s4.trans s5)) _ _ h2, d1⟩, ⟨q4, o4, rfl, s5 _ _ h4, d4⟩⟩, by rw [base]; exact h0, by rw [base]; omega, by rw [base, base2], fun v' H' s' hg => k v' H' rev _ _ (sall.trans s') (Int.emod_nonneg _ (by omega)) (Int.emod_lt_of_pos _ hp0) (Int.emod_nonneg _ (by omega)) (Int.emod_lt_of_pos _ hp0) hg⟩
    · have er : nums (rangeI n) = nums (shiftBase n sh false).1 := rfl
      rw [er]
      have s1 : Same H (upd H D (.lst (nums (shiftBase n sh false).1))) := same_new nD
      have hL : SqL K (upd H D (.lst (nums (shiftBase n sh false).1))) D (nums (shiftBase n sh false).1) := SqL.of upd_same
      obtain ⟨rev, erev⟩ : ∃ rev : Bool, rev = false := ⟨_, rfl⟩
      obtain ⟨L, eL⟩ : ∃ L : Addr, L = D := ⟨_, rfl⟩
      rw [← erev, ← eL] at s1 hL ⊢
      refine ⟨_, rfl, L, _, rfl, hL, fun q1 o1 n1 d1 => ?_⟩
      obtain ⟨s2, h2⟩ := new2 (o := .frz o1 (.tup (nums (shiftBase n sh rev).1))) n1
      have hL2 := s2.seq hL
      refine ⟨_, rfl, L, rfl, ⟨_, hL2⟩, fun D2 nD2 => lcL_ints (fun r => (r + sh) % (n : Int)) nD2 hL2 (by rw [base]; omega) (fun r H3 hr s3 K3 q3 => ⟨_, rfl, _, rfl, _, _, rfl, rfl, .inl ⟨_, rfl, _, rfl, _, _, rfl, rfl, hp0, q3 _ (Same.refl _)⟩⟩) (fun H3 s3 e3 => ?_)⟩
      refine ⟨_, _, rfl, SqL.of e3, fun q4 o4 n4 d4 => ⟨of_decide_eq_true rfl, fun q5 o5 n5 d5 => ?_⟩⟩
      obtain ⟨s4, h4⟩ := new2 (o := .frz o4 (.tup (nums (shiftBase n sh rev).2))) n4
      obtain ⟨s5, h5⟩ := new2 (o := .frz o5 (.tup [.ref q1, .ref q4])) n5
      have sall := s1.trans (s2.trans (s3.trans (s4.trans s5)))
      refine ⟨_, rfl, _, rfl, _, _, rfl, rfl, ⟨by decide, by decide⟩, .inl ⟨_, rfl, _, rfl, _, _, rfl, rfl, hp0, _, rfl, _, _, rfl, rfl, ⟨by decide, by decide⟩, .inl ⟨_, rfl, _, rfl, _, _, rfl, rfl, hp0, ?_⟩⟩⟩
      exact ⟨_, _, _, shiftBase n sh rev, rfl, ⟨q5, .ref q1, .ref q4, rfl, sqF h5, ⟨q1, o1, rfl, (s3.trans (s4.trans s5)) _ _ h2, d1⟩, ⟨q4, o4, rfl, s5 _ _ h4, d4⟩⟩, by rw [base]; exact h0, by rw [base]; omega, by rw [base, base2], fun v' H' s' hg => k v' H' rev _ _ (sall.trans s') (Int.emod_nonneg _ (by omega)) (Int.emod_lt_of_pos _ hp0) (Int.emod_nonneg _ (by omega)) (Int.emod_lt_of_pos _ hp0) hg⟩
end
end Gk
end

section
set_option Elab.async false
set_option linter.all false
set_option maxRecDepth 100000
set_option maxHeartbeats 4000000
namespace Gk
open PySem L2
section
variable {P : Program} {w : World} {K : PySem.W.Frag} {mg : Str → Option Value} {base : Heap}
theorem at_list {l : List V} {z : Int} {i : Nat} (e : z = (i : Int)) (h : i < l.length) : atI l z = some (l[i]) := by
  rw [e]
  exact atI_nat (List.getElem?_eq_getElem h)
abbrev sLIsInt : Stmt := top 47
-- slots: _law_value 0
theorem scLIsInt : FnScope ["_law_value"] ["_law_value"] (defScope sLIsInt) := ⟨rfl, rfl, rfl, by decide +kernel, rfl, by decide +kernel, by decide +kernel⟩
theorem ok_lisint {f : Addr} {fd : FuncData} (F : Fun K "_law_is_integer" "_law_is_integer" sLIsInt f fd) (B : Bl mg) : FnOk P w K mg base CX0 1 f fd ["_law_value"] spIsInt := by
  refine F.ok scLIsInt (fun vs H Q E h => ?_) (fun cdv A outer s H vs Q E hr h => ?_)
  · obtain ⟨n, rfl, _⟩ := h
    rfl
  · obtain ⟨n, rfl, k⟩ := h
    refine ⟨_, (pss_one (ps_ret (pe_and (pe_callB (isiO K) (by rfl) B.isi (by decide +kernel) (pa_cons (pv 0) (pa_cons (pe_bltn (v := .ty "int") (u := .type "int") rfl B.int (by decide +kernel) rfl) pa_nil))) (pe_one (pe_not (pe_callB (isiO K) (by rfl) B.isi (by decide +kernel) (pa_cons (pv 0) (pa_cons (pe_bltn (v := .ty "bool") (u := .type "bool") rfl B.bool (by decide +kernel) rfl) pa_nil)))))))), ?_⟩
    refine ⟨_, rfl, _, _, _, _, true, rfl, .ty "int", .base (.int n), kit_ii, true, rfl, iteT ?_⟩
    refine ⟨_, rfl, _, _, _, _, false, rfl, .ty "bool", .base (.int n), kit_ib, false, rfl, k⟩
abbrev sLSameRow : Stmt := top 48
-- slots: _law_told 0 _law_due 1 _law_k 2
theorem scLSameRow : FnScope ["_law_told", "_law_due", "_law_k"] ["_law_told", "_law_due"] (defScope sLSameRow) := ⟨rfl, rfl, rfl, by decide +kernel, rfl, by decide +kernel, by decide +kernel⟩
def spSameRow (K : PySem.W.Frag) : Sp := fun vs H Q _ => ∃ v1 v2 l, vs = [v1, v2] ∧ Row K l v1 H ∧ Row K l v2 H ∧ l.length ≤ 100 ∧ Q (.bl true) H
theorem ok_samerow {f : Addr} {fd : FuncData} (F : Fun K "_law_same_row" "_law_same_row" sLSameRow f fd) (B : Bl mg) (D__law_is_integer : DefOk P w K mg base "_law_is_integer" 1 ["_law_value"] spIsInt) : FnOk P w K mg base CX0 2 f fd ["_law_told", "_law_due"] (spSameRow K) := by
  refine F.ok scLSameRow (fun vs H Q E h => ?_) (fun cdv A outer s H vs Q E hr h => ?_)
  · obtain ⟨v1, v2, l, rfl, _⟩ := h
    rfl
  · obtain ⟨v1, v2, l, rfl, h1, h2, hl, k⟩ := h
    obtain ⟨a, rfl, ha⟩ := h1.seq
    obtain ⟨b, rfl, hb⟩ := h2.seq
    have nl : (nums l).length = l.length := nums_len _
    refine ⟨_, (pss_cons (ps_if (PW.pt (pw_or (pt_not (pt_val (pe_callB (isiO K) (by rfl) B.isi (by decide +kernel) (pa_cons (pv 0) (pa_cons (pe_bltn (v := .ty "tuple") (u := .type "tuple") rfl B.tuple (by decide +kernel) rfl) pa_nil))))) (pw_or1 (pt_cmpR op_ne (pe_callB (lenS K) (by rfl) B.len PySem.boot_len (pa_cons (pv 0) pa_nil)) (pe_callB (lenS K) (by rfl) B.len PySem.boot_len (pa_cons (pv 1) pa_nil)) (nomark _))))) (pss_one (ps_ret pe_bl)) pss_nil)
      (pss_cons (ps_for PassesOwn.never rfl (pi_range1 (by rfl) B.range (pa_cons (pe_callB (lenS K) (by rfl) B.len PySem.boot_len (pa_cons (pv 1) pa_nil)) pa_nil)) (pg_name (i := 2) scLSameRow.nd rfl (by first | exact Or.inl rfl | exact Or.inr rfl)) (pss_one (ps_if (PW.pt (pw_or (pt_not (pt_val (pe_cd D__law_is_integer (hr.mono (by decide)) rfl (pa_cons (pe_ix (ixT K) (pv 0) (pv 2) (fun _ _ => rfl)) pa_nil)))) (pw_or1 (pt_cmpR op_ne (pe_ix (ixT K) (pv 0) (pv 2) (fun _ _ => rfl)) (pe_ix (ixT K) (pv 1) (pv 2) (fun _ _ => rfl)) (nomark _))))) (pss_one (ps_ret pe_bl)) pss_nil)))
      (pss_one (ps_ret pe_bl)))), ?_⟩
    refine ⟨_, rfl, _, _, _, _, true, rfl, .ty "tuple", ty_tup ha, kit_tt, true, rfl, iteF ⟨_, rfl, a, _, rfl, .inr ha, _, rfl, b, _, rfl, .inr hb, rfl, _, rfl, iteDn (fun z => absurd rfl z) fun _ => ?_⟩⟩
    refine ⟨_, rfl, b, _, rfl, .inr hb, _, rfl, by omega, by omega, for_range (Pv := fun i σ H1 => ∃ v2, σ = [some (.ref a), some (.ref b), v2] ∧ H1 = H) ⟨none, rfl, rfl⟩ ?_ ?_⟩
    · rintro i σ H1 hi ⟨v2, rfl, rfl⟩
      have hi : i < l.length := by
        have : i < (nums l).length := hi
        omega
      have e : (0 : Int) + (i : Nat) = (i : Nat) := Int.zero_add _
      refine ⟨_, rfl, _, rfl, a, _, _, _, rfl, rfl, ha, nums_atI e hi, _, rfl, true, rfl, iteF ⟨_, rfl, _, rfl, a, _, _, _, rfl, rfl, ha, nums_atI e hi, _, rfl, _, rfl, b, _, _, _, rfl, rfl, hb, nums_atI e hi, rfl, _, rfl, iteDn (fun z => absurd rfl z) fun _ => ⟨_, rfl, rfl⟩⟩⟩
    · rintro σ H1 ⟨v2, rfl, rfl⟩
      exact k
abbrev sLSamePair : Stmt := top 49
-- slots: _law_told 0 _law_due 1
theorem scLSamePair : FnScope ["_law_told", "_law_due"] ["_law_told", "_law_due"] (defScope sLSamePair) := ⟨rfl, rfl, rfl, by decide +kernel, rfl, by decide +kernel, by decide +kernel⟩
def spSamePair (K : PySem.W.Frag) : Sp := fun vs H Q _ => ∃ v1 v2 g, vs = [v1, v2] ∧ IsG K g v1 H ∧ IsG K g v2 H ∧ g.1.length ≤ 100 ∧ g.2.length ≤ 100 ∧ Q (.bl true) H
theorem ok_samepair {f : Addr} {fd : FuncData} (F : Fun K "_law_same_pair" "_law_same_pair" sLSamePair f fd) (B : Bl mg) (D__law_same_row : DefOk P w K mg base "_law_same_row" 2 ["_law_told", "_law_due"] (spSameRow K)) : FnOk P w K mg base CX0 3 f fd ["_law_told", "_law_due"] (spSamePair K) := by
  refine F.ok scLSamePair (fun vs H Q E h => ?_) (fun cdv A outer s H vs Q E hr h => ?_)
  · obtain ⟨v1, v2, l, rfl, _⟩ := h
    rfl
  · obtain ⟨v1, v2, g, rfl, ⟨a, x, o, rfl, ha, hx, ho⟩, ⟨b, x', o', rfl, hb, hx', ho'⟩, h1, h2, k⟩ := h
    refine ⟨_, (pss_cons (ps_if (PW.pt (pw_or (pt_not (pt_val (pe_callB (isiO K) (by rfl) B.isi (by decide +kernel) (pa_cons (pv 0) (pa_cons (pe_bltn (v := .ty "tuple") (u := .type "tuple") rfl B.tuple (by decide +kernel) rfl) pa_nil))))) (pw_or1 (pt_cmpR op_ne (pe_callB (lenS K) (by rfl) B.len PySem.boot_len (pa_cons (pv 0) pa_nil)) pe_int (nomark _))))) (pss_one (ps_ret pe_bl)) pss_nil)
      (pss_one (ps_ret (pe_and (pe_cd D__law_same_row (hr.mono (by decide)) rfl (pa_cons (pe_ix (ixT K) (pv 0) pe_int (fun _ _ => rfl)) (pa_cons (pe_ix (ixT K) (pv 1) pe_int (fun _ _ => rfl)) pa_nil))) (pe_one (pe_cd D__law_same_row (hr.mono (by decide)) rfl (pa_cons (pe_ix (ixT K) (pv 0) pe_int (fun _ _ => rfl)) (pa_cons (pe_ix (ixT K) (pv 1) pe_int (fun _ _ => rfl)) pa_nil)))))))), ?_⟩
    refine ⟨_, rfl, _, _, _, _, true, rfl, .ty "tuple", ty_tup ha, kit_tt, true, rfl, iteF ⟨_, rfl, a, _, rfl, .inr ha, rfl, _, rfl, iteDn (fun z => absurd rfl z) fun _ => ?_⟩⟩
    refine ⟨_, rfl, a, _, 0, _, rfl, rfl, ha, rfl, _, rfl, b, _, 0, _, rfl, rfl, hb, rfl, x, x', g.1, rfl, hx, hx', h1, true, rfl, iteT ?_⟩
    exact ⟨_, rfl, a, _, 1, _, rfl, rfl, ha, rfl, _, rfl, b, _, 1, _, rfl, rfl, hb, rfl, o, o', g.2, rfl, ho, ho', h2, k⟩
abbrev sLSamePlaces : Stmt := top 58
-- slots: _law_told 0 _law_due 1 _law_k 2
theorem scLSamePlaces : FnScope ["_law_told", "_law_due", "_law_k"] ["_law_told", "_law_due"] (defScope sLSamePlaces) := ⟨rfl, rfl, rfl, by decide +kernel, rfl, by decide +kernel, by decide +kernel⟩
/-- a list of places -/
def IsPlL (K : PySem.W.Frag) (gs : List G) (v : V) (H : Hp) : Prop := ∃ a l, v = .ref a ∧ H a = some (.lst l) ∧ EachR (IsG K) gs l H
def spSamePlaces (K : PySem.W.Frag) : Sp := fun vs H Q _ => ∃ v1 v2 gs, vs = [v1, v2] ∧ IsPl K gs v1 H ∧ IsPlL K gs v2 H ∧ gs.length ≤ 1000 ∧ (∀ g ∈ gs, g.1.length ≤ 100 ∧ g.2.length ≤ 100) ∧ Q (.bl true) H
theorem ok_sameplaces {f : Addr} {fd : FuncData} (F : Fun K "_law_same_places" "_law_same_places" sLSamePlaces f fd) (B : Bl mg) (D__law_same_pair : DefOk P w K mg base "_law_same_pair" 3 ["_law_told", "_law_due"] (spSamePair K)) : FnOk P w K mg base CX0 4 f fd ["_law_told", "_law_due"] (spSamePlaces K) := by
  refine F.ok scLSamePlaces (fun vs H Q E h => ?_) (fun cdv A outer s H vs Q E hr h => ?_)
  · obtain ⟨v1, v2, l, rfl, _⟩ := h
    rfl
  · obtain ⟨v1, v2, gs, rfl, ⟨a, l1, rfl, ha, r1⟩, ⟨b, l2, rfl, hb, r2⟩, hz, hgs, k⟩ := h
    refine ⟨_, (pss_cons (ps_if (PW.pt (pw_or (pt_not (pt_val (pe_callB (isiO K) (by rfl) B.isi (by decide +kernel) (pa_cons (pv 0) (pa_cons (pe_bltn (v := .ty "tuple") (u := .type "tuple") rfl B.tuple (by decide +kernel) rfl) pa_nil))))) (pw_or1 (pt_cmpR op_ne (pe_callB (lenS K) (by rfl) B.len PySem.boot_len (pa_cons (pv 0) pa_nil)) (pe_callB (lenS K) (by rfl) B.len PySem.boot_len (pa_cons (pv 1) pa_nil)) (nomark _))))) (pss_one (ps_ret pe_bl)) pss_nil)
      (pss_cons (ps_for PassesOwn.never rfl (pi_range1 (by rfl) B.range (pa_cons (pe_callB (lenS K) (by rfl) B.len PySem.boot_len (pa_cons (pv 1) pa_nil)) pa_nil)) (pg_name (i := 2) scLSamePlaces.nd rfl (by first | exact Or.inl rfl | exact Or.inr rfl)) (pss_one (ps_if (pt_not (pt_val (pe_cd D__law_same_pair (hr.mono (by decide)) rfl (pa_cons (pe_ix (ixT K) (pv 0) (pv 2) (fun _ _ => rfl)) (pa_cons (pe_ix (ixL K) (pv 1) (pv 2) (fun _ _ => rfl)) pa_nil))))) (pss_one (ps_ret pe_bl)) pss_nil)))
      (pss_one (ps_ret pe_bl)))), ?_⟩
    have e12 : l1.length = l2.length := r1.1.trans r2.1.symm
    refine ⟨_, rfl, _, _, _, _, true, rfl, .ty "tuple", ty_tup ha, kit_tt, true, rfl, iteF ⟨_, rfl, a, _, rfl, .inr ha, _, rfl, b, _, rfl, .inl (SqL.of hb), rfl, _, rfl, iteDn (fun z => absurd (by rw [e12]) z) fun _ => ?_⟩⟩
    have z2 := r2.1
    refine ⟨_, rfl, b, _, rfl, .inl (SqL.of hb), _, rfl, by omega, by omega, for_range (Pv := fun i σ H1 => ∃ v2, σ = [some (.ref a), some (.ref b), v2] ∧ H1 = H) ⟨none, rfl, rfl⟩ ?_ ?_⟩
    · rintro i σ H1 hi ⟨v2, rfl, rfl⟩
      have hi2 : i < l2.length := hi
      have hi1 : i < l1.length := by omega
      have e : (0 : Int) + (i : Nat) = (i : Nat) := Int.zero_add _
      obtain ⟨g, hg, i1⟩ := r1.at (List.getElem?_eq_getElem hi1)
      obtain ⟨g', hg', i2⟩ := r2.at (List.getElem?_eq_getElem hi2)
      rw [hg] at hg'
      cases hg'
      have gb := hgs g (List.mem_of_getElem? hg)
      exact ⟨_, rfl, _, rfl, a, _, _, _, rfl, rfl, ha, at_list e hi1, _, rfl, _, rfl, b, _, _, _, rfl, rfl, SqL.of hb, at_list e hi2, _, _, g, rfl, i1, i2, gb.1, gb.2, true, rfl, iteF ⟨_, rfl, rfl⟩⟩
    · rintro σ H1 ⟨v2, rfl, rfl⟩
      exact k
end
end Gk
end

section
set_option Elab.async false
set_option linter.all false
set_option maxRecDepth 100000
set_option maxHeartbeats 4000000
namespace Gk
open PySem L2
section
variable {P : Program} {w : World} {K : PySem.W.Frag} {mg : Str → Option Value} {base : Heap}
abbrev sLAcross : Stmt := top 50
-- slots: _law_pair_here 0 _law_n 1 _law_made 2 _law_i 3
theorem scLAcross : FnScope ["_law_pair_here", "_law_n", "_law_made", "_law_i"] ["_law_pair_here"] (defScope sLAcross) := ⟨rfl, rfl, rfl, by decide +kernel, rfl, by decide +kernel, by decide +kernel⟩
def acr (l : List Int) (i : Nat) : List Int := (List.range i).foldl (fun m (i : Nat) => m.set (l.getD i 0).toNat (i : Int)) (List.replicate l.length 0)
theorem acr_len (l : List Int) (i : Nat) : (acr l i).length = l.length := by
  induction i with
  | zero => simp [acr]
  | succ i ih =>
    unfold acr at ih ⊢
    rw [List.range_succ, List.foldl_append]
    simp only [List.foldl_cons, List.foldl_nil, List.length_set]
    exact ih
theorem acr_succ (l : List Int) (i : Nat) : acr l (i + 1) = (acr l i).set (l.getD i 0).toNat (i : Int) := by
  unfold acr
  rw [List.range_succ, List.foldl_append]
  rfl
theorem nums_set (l : List Int) (j : Nat) (x : Int) : (nums l).set j (.int x) = nums (l.set j x) := by
  unfold nums
  rw [List.map_set]
theorem ix_ok {n : Nat} {z : Int} (h0 : 0 ≤ z) (h1 : z < n) : ixN n z = some z.toNat := by
  unfold ixN
  rw [if_pos h0, if_pos h1]
theorem rep_nums (n : Nat) : (List.replicate n [V.int 0]).flatten = nums (List.replicate n 0) := by
  induction n with
  | zero => rfl
  | succ n ih =>
    rw [List.replicate_succ, List.flatten_cons, ih, List.replicate_succ]
    rfl
theorem getD_mem2 {l : List Int} {i : Nat} (h : i < l.length) : l.getD i 0 ∈ l := by
  rw [List.getD_eq_getElem?_getD, List.getElem?_eq_getElem h]
  exact List.getElem_mem h
def spAcross (K : PySem.W.Frag) : Sp := fun vs H Q _ => ∃ v g, vs = [v] ∧ IsG K g v H ∧ VG g ∧ ∀ v' H', Same H H' → IsG K (across g) v' H' → Q v' H'
theorem ok_across {f : Addr} {fd : FuncData} (F : Fun K "_law_across" "_law_across" sLAcross f fd) (B : Bl mg) : FnOk P w K mg base CX0 1 f fd ["_law_pair_here"] (spAcross K) := by
  refine F.ok scLAcross (fun vs H Q E h => ?_) (fun cdv A outer s H vs Q E hr h => ?_)
  · obtain ⟨v, g, rfl, _⟩ := h
    rfl
  · obtain ⟨v, g, rfl, ⟨a, x, o, rfl, ha, hx, ho⟩, vg, k⟩ := h
    obtain ⟨ax, rfl, hax⟩ := id hx.seq
    obtain ⟨ao, rfl, hao⟩ := id ho.seq
    have hn : (nums g.1).length = g.1.length := nums_len _
    have h1 := vg.most
    refine ⟨_, (pss_cons (ps_set (i := 1) scLAcross.nd rfl (Or.inl rfl) (pe_callB (lenS K) (by rfl) B.len PySem.boot_len (pa_cons (pe_ix (ixT K) (pv 0) pe_int (fun _ _ => rfl)) pa_nil)))
      (pss_cons (ps_set (i := 2) scLAcross.nd rfl (Or.inl rfl) (pe_lst (pa_cons (pe_op op_rep (pe_lst (pa_cons pe_int pa_nil)) (pv 1)) (pa_cons (pe_op op_rep (pe_lst (pa_cons pe_int pa_nil)) (pv 1)) pa_nil))))
      (pss_cons (ps_for PassesOwn.never rfl (pi_range1 (by rfl) B.range (pa_cons (pv 1) pa_nil)) (pg_name (i := 3) scLAcross.nd rfl (by first | exact Or.inl rfl | exact Or.inr rfl)) (pss_cons (ps_asg (pv 3) (pg_sub (pe_ix (ixL K) (pv 2) pe_int (fun _ _ => rfl)) (pe_ix (ixT K) (pe_ix (ixT K) (pv 0) pe_int (fun _ _ => rfl)) (pv 3) (fun _ _ => rfl)) set_list))
      (pss_one (ps_asg (pv 3) (pg_sub (pe_ix (ixL K) (pv 2) pe_int (fun _ _ => rfl)) (pe_ix (ixT K) (pe_ix (ixT K) (pv 0) pe_int (fun _ _ => rfl)) (pv 3) (fun _ _ => rfl)) set_list)))))
      (pss_one (ps_ret (peTup (pa_cons (tupOf K (by rfl) B.tuple (pe_ix (ixL K) (pv 2) pe_int (fun _ _ => rfl))) (pa_cons (tupOf K (by rfl) B.tuple (pe_ix (ixL K) (pv 2) pe_int (fun _ _ => rfl))) pa_nil)))))))), ?_⟩
    refine ⟨_, rfl, a, _, 0, _, rfl, rfl, ha, rfl, ax, _, rfl, .inr hax, ?_⟩
    have er : (List.replicate ((nums g.1).length : Int).toNat [V.int 0]).flatten = nums (acr g.1 0) := by
      rw [show ((nums g.1).length : Int).toNat = g.1.length from hn, rep_nums]
      rfl
    have er2 : nums (acr g.1 0) = nums (acr g.2 0) := by
      show nums (List.replicate g.1.length 0) = nums (List.replicate g.2.length 0)
      rw [vg.l]
    have lim : (g.1.length : Int) < 2 ^ 63 := by omega
    have sz : ([V.int 0] : List V).length * ((nums g.1).length : Int).toNat ≤ sizeLine := by
      rw [show ((nums g.1).length : Int).toNat = g.1.length from hn, List.length_singleton, Nat.one_mul]
      exact Nat.le_of_lt (small1000 (by omega))
    refine ⟨of_decide_eq_true rfl, fun p1 n1 => ⟨_, rfl, p1, _, _, rfl, rfl, upd_same, by omega, by omega, sz, fun A nA => ?_⟩⟩
    rw [er]
    obtain ⟨s1, h1'⟩ := new2 (o := .lst [V.int 0]) n1
    obtain ⟨s2, hA⟩ := new2 (o := .lst (nums (acr g.1 0))) nA
    refine ⟨of_decide_eq_true rfl, fun p3 n3 => ⟨_, rfl, p3, _, _, rfl, rfl, upd_same, by omega, by omega, sz, fun Bb nB => ?_⟩⟩
    rw [er.trans er2]
    obtain ⟨s3, h3⟩ := new2 (o := .lst [V.int 0]) n3
    obtain ⟨s4, hB⟩ := new2 (o := .lst (nums (acr g.2 0))) nB
    refine ⟨of_decide_eq_true rfl, fun M nM => ?_⟩
    obtain ⟨s5, hM⟩ := new2 (o := .lst [.ref A, .ref Bb]) nM
    have s05 := s1.trans (s2.trans (s3.trans (s4.trans s5)))
    have hA5 := (s3.trans (s4.trans s5)) _ _ hA
    have hB5 := s5 _ _ hB
    have A0 := s1.free nA
    have nAB : Bb ≠ A := fun z => by
      rw [z] at nB
      rw [s3 _ _ hA] at nB
      cases nB
    have nMA : M ≠ A := fun z => by
      rw [z, (s3.trans s4) _ _ hA] at nM
      cases nM
    have nMB : M ≠ Bb := fun z => by
      rw [z, hB] at nM
      cases nM
    have B0 := (s1.trans (s2.trans s3)).free nB
    refine ⟨_, rfl, _, rfl, by omega, by omega, for_range (Pv := fun i σ H1 => ∃ v3, σ = [some (.ref a), some (.int (nums g.1).length), some (.ref M), v3] ∧ Same H H1 ∧ H1 M = some (.lst [.ref A, .ref Bb]) ∧ H1 A = some (.lst (nums (acr g.1 i))) ∧ H1 Bb = some (.lst (nums (acr g.2 i))))
      ⟨none, rfl, s05, hM, hA5, hB5⟩ ?_ ?_⟩
    · rintro i σ H1 hi ⟨v3, rfl, sm, hM1, hA1, hB1⟩
      have hi : i < g.1.length := by
        have : i < (nums g.1).length := hi
        omega
      have e : (0 : Int) + (i : Nat) = (i : Nat) := Int.zero_add _
      have b1 := vg.b1 _ (getD_mem2 hi)
      have b2 := vg.b2 _ (getD_mem2 (l := g.2) (i := i) (by rw [vg.l]; exact hi))
      have ha1 := (kt_same sm).t ha
      have hax1 := (kt_same sm).t hax
      have hao1 := (kt_same sm).t hao
      -- made[0][pair[0][i]] = i
      refine ⟨_, rfl, _, rfl, M, _, 0, _, rfl, rfl, SqL.of hM1, rfl, _, rfl, a, _, 0, _, rfl, rfl, ha1, rfl, _, rfl, ax, _, _, _, rfl, rfl, hax1, nums_atI e hi, A, _, _, _, rfl, rfl, hA1, ix_ok b1.1 (by rw [nums_len, acr_len]; exact b1.2), ?_⟩
      rw [nums_set, e, ← acr_succ]
      have sm2 := same_own (o := .lst (nums (acr g.1 (i + 1)))) sm A0
      have hM2 := (upd_ne (o := .lst (nums (acr g.1 (i + 1)))) nMA).trans hM1
      have hB2 := (upd_ne (o := .lst (nums (acr g.1 (i + 1)))) nAB).trans hB1
      have ha2 := (kt_same sm2).t ha
      have hao2 := (kt_same sm2).t hao
      refine ⟨_, rfl, _, rfl, M, _, 1, _, rfl, rfl, SqL.of hM2, rfl, _, rfl, a, _, 1, _, rfl, rfl, ha2, rfl, _, rfl, ao, _, _, _, rfl, rfl, hao2, nums_atI rfl (by rw [vg.l]; exact hi), Bb, _, _, _, rfl, rfl, hB2, ix_ok b2.1 (by rw [nums_len, acr_len, vg.l]; exact b2.2), ?_⟩
      rw [nums_set, ← acr_succ]
      exact ⟨_, rfl, same_own sm2 B0, (upd_ne nMB).trans hM2, (upd_ne nAB.symm).trans upd_same, upd_same⟩
    · rintro σ H1 ⟨v3, rfl, sm, hM1, hA1, hB1⟩
      rw [hn] at hA1 hB1
      refine ⟨_, rfl, M, _, 0, _, rfl, rfl, SqL.of hM1, rfl, A, _, rfl, SqL.of hA1, fun q1 o1 n1 d1 => ?_⟩
      obtain ⟨t1, r1⟩ := new2 (o := .frz o1 (.tup (nums (acr g.1 g.1.length)))) n1
      refine ⟨_, rfl, M, _, 1, _, rfl, rfl, SqL.of (t1 _ _ hM1), rfl, Bb, _, rfl, SqL.of (t1 _ _ hB1), fun q2 o2 n2 d2 => ⟨of_decide_eq_true rfl, fun q3 o3 n3 d3 => ?_⟩⟩
      obtain ⟨t2, r2⟩ := new2 (o := .frz o2 (.tup (nums (acr g.2 g.1.length)))) n2
      obtain ⟨t3, r3⟩ := new2 (o := .frz o3 (.tup [.ref q1, .ref q2])) n3
      refine k _ _ (sm.trans (t1.trans (t2.trans t3))) ⟨q3, _, _, rfl, sqF r3, ⟨q1, o1, rfl, (t2.trans t3) _ _ r1, d1⟩, ⟨q2, o2, rfl, ?_, d2⟩⟩
      exact (t3 _ _ r2).trans (by rw [← vg.l]; rfl)
end
end Gk
end

section
set_option Elab.async false
set_option linter.all false
set_option maxRecDepth 100000
set_option maxHeartbeats 4000000
namespace Gk
open PySem L2
section
variable {P : Program} {w : World} {K : PySem.W.Frag} {mg : Str → Option Value} {base : Heap}
theorem dT {p q : Prop} [Decidable p] [Decidable q] (h : p) : decide (p ∧ q) = decide q := decide_eq_decide.mpr ⟨fun z => z.2, fun z => ⟨h, z⟩⟩
theorem dF {p q : Prop} [Decidable p] [Decidable q] (h : ¬ p) : decide (p ∧ q) = false := decide_eq_false fun z => h z.1
theorem ix_nat {n i : Nat} (h : i < n) : ixN n (i : Int) = some i := ix_ok (Int.natCast_nonneg _) (by omega)
abbrev sLSwapped : Stmt := top 51
-- slots: _law_pair_here 0 _law_i 1 _law_j 2 _law_rows 3 _law_low 4 _law_high 5 _law_exes 6 _law_rings 7
theorem scLSwapped : FnScope ["_law_pair_here", "_law_i", "_law_j", "_law_rows", "_law_low", "_law_high", "_law_exes", "_law_rings"] ["_law_pair_here", "_law_i", "_law_j"] (defScope sLSwapped) := ⟨rfl, rfl, rfl, by decide +kernel, rfl, by decide +kernel, by decide +kernel⟩
def spLSwapped (K : PySem.W.Frag) : Sp := fun vs H Q _ => ∃ (v : V) (i j : Nat) (g : G), vs = [v, .int i, .int j] ∧ IsG K g v H ∧ i < g.1.length ∧ j < g.1.length ∧ g.1.length ≤ 100 ∧ g.2.length = g.1.length ∧ ∀ v' H', Same H H' → IsO K (lawSwapped g i j) v' H' → Q v' H'
theorem ok_lswapped {f : Addr} {fd : FuncData} (F : Fun K "_law_swapped" "_law_swapped" sLSwapped f fd) (B : Bl mg) : FnOk P w K mg base CX0 1 f fd ["_law_pair_here", "_law_i", "_law_j"] (spLSwapped K) := by
  refine F.ok scLSwapped (fun vs H Q E h => ?_) (fun cdv A outer s H vs Q E hr h => ?_)
  · obtain ⟨v, i, j, g, rfl, _⟩ := h
    rfl
  · obtain ⟨v, i, j, g, rfl, ⟨a, x, o, rfl, ha, hx, ho⟩, hi, hj, hz, hl, k⟩ := h
    obtain ⟨ax, rfl, hax⟩ := id hx.seq
    obtain ⟨ao, rfl, hao⟩ := id ho.seq
    refine ⟨_, (pss_cons (ps_set (i := 3) scLSwapped.nd rfl (Or.inl rfl) (pe_lst (pa_cons (pe_ix (ixT K) (pe_ix (ixT K) (pv 0) pe_int (fun _ _ => rfl)) (pv 1) (fun _ _ => rfl)) (pa_cons (pe_ix (ixT K) (pe_ix (ixT K) (pv 0) pe_int (fun _ _ => rfl)) (pv 1) (fun _ _ => rfl)) (pa_cons (pe_ix (ixT K) (pe_ix (ixT K) (pv 0) pe_int (fun _ _ => rfl)) (pv 2) (fun _ _ => rfl)) (pa_cons (pe_ix (ixT K) (pe_ix (ixT K) (pv 0) pe_int (fun _ _ => rfl)) (pv 2) (fun _ _ => rfl)) pa_nil))))))
      (pss_cons (ps_set (i := 4) scLSwapped.nd rfl (Or.inl rfl) (pe_callB (call_min2 rfl) (by rfl) B.min (by decide +kernel) (pa_cons (pe_ix (ixL K) (pv 3) pe_int (fun _ _ => rfl)) (pa_cons (pe_ix (ixL K) (pv 3) pe_int (fun _ _ => rfl)) pa_nil))))
      (pss_cons (ps_set (i := 5) scLSwapped.nd rfl (Or.inl rfl) (pe_callB (call_max2 rfl) (by rfl) B.max (by decide +kernel) (pa_cons (pe_ix (ixL K) (pv 3) pe_int (fun _ _ => rfl)) (pa_cons (pe_ix (ixL K) (pv 3) pe_int (fun _ _ => rfl)) pa_nil))))
      (pss_cons (ps_if (PW.pt (pw_or (pt_cmpR (inS K) (pe_ix (ixL K) (pv 3) pe_int (fun _ _ => rfl)) (pe_slice (slL K) (pv 3) po_none (po_some pe_int)) rfl) (pw_or1 (pt_cmpR (inS K) (pe_ix (ixL K) (pv 3) pe_int (fun _ _ => rfl)) (pe_slice (slL K) (pv 3) po_none (po_some pe_int)) rfl)))) (pss_one (ps_ret pe_non)) pss_nil)
      (pss_cons (ps_if (pt_cmpR op_ne (pe_and (pe_cmpR op_lt (pv 4) (pe_ix (ixL K) (pv 3) pe_int (fun _ _ => rfl)) (nomark _)) (pe_one (pe_cmpR op_lt (pe_ix (ixL K) (pv 3) pe_int (fun _ _ => rfl)) (pv 5) (nomark _)))) (pe_and (pe_cmpR op_lt (pv 4) (pe_ix (ixL K) (pv 3) pe_int (fun _ _ => rfl)) (nomark _)) (pe_one (pe_cmpR op_lt (pe_ix (ixL K) (pv 3) pe_int (fun _ _ => rfl)) (pv 5) (nomark _)))) (nomark _)) (pss_one (ps_ret pe_non)) pss_nil)
      (pss_cons (ps_set (i := 6) scLSwapped.nd rfl (Or.inl rfl) (pe_callTy (listS K) (by rfl) B.list (by decide +kernel) (pa_cons (pe_ix (ixT K) (pv 0) pe_int (fun _ _ => rfl)) pa_nil)))
      (pss_cons (ps_set (i := 7) scLSwapped.nd rfl (Or.inl rfl) (pe_callTy (listS K) (by rfl) B.list (by decide +kernel) (pa_cons (pe_ix (ixT K) (pv 0) pe_int (fun _ _ => rfl)) pa_nil)))
      (pss_cons (ps_asg (pe_ix (ixL K) (pv 3) pe_int (fun _ _ => rfl)) (pg_sub (pv 6) (pv 1) set_list))
      (pss_cons (ps_asg (pe_ix (ixL K) (pv 3) pe_int (fun _ _ => rfl)) (pg_sub (pv 6) (pv 2) set_list))
      (pss_cons (ps_asg (pe_ix (ixL K) (pv 3) pe_int (fun _ _ => rfl)) (pg_sub (pv 7) (pv 1) set_list))
      (pss_cons (ps_asg (pe_ix (ixL K) (pv 3) pe_int (fun _ _ => rfl)) (pg_sub (pv 7) (pv 2) set_list))
      (pss_one (ps_ret (peTup (pa_cons (tupOf K (by rfl) B.tuple (pv 6)) (pa_cons (tupOf K (by rfl) B.tuple (pv 7)) pa_nil)))))))))))))))), ?_⟩
    -- the four rows
    refine ⟨_, rfl, a, _, 0, _, rfl, rfl, ha, rfl, _, rfl, ax, _, _, _, rfl, rfl, hax, nums_atI rfl hi, _, rfl, a, _, 1, _, rfl, rfl, ha, rfl, _, rfl, ao, _, _, _, rfl, rfl, hao, nums_atI rfl (by omega),
      _, rfl, a, _, 0, _, rfl, rfl, ha, rfl, _, rfl, ax, _, _, _, rfl, rfl, hax, nums_atI rfl hj, _, rfl, a, _, 1, _, rfl, rfl, ha, rfl, _, rfl, ao, _, _, _, rfl, rfl, hao, nums_atI rfl (by omega), of_decide_eq_true rfl, fun R nR => ?_⟩
    have key0 : (g.1.getD j 0 ∈ [g.1.getD i 0, g.2.getD i 0] ∨ g.2.getD j 0 ∈ [g.1.getD i 0, g.2.getD i 0]) → lawSwapped g i j = none := fun h => if_pos h
    have key1 : ¬ (g.1.getD j 0 ∈ [g.1.getD i 0, g.2.getD i 0] ∨ g.2.getD j 0 ∈ [g.1.getD i 0, g.2.getD i 0]) → lawSwapped g i j = (if (decide (mn (g.1.getD i 0) (g.2.getD i 0) < g.1.getD j 0 ∧ g.1.getD j 0 < mx (g.1.getD i 0) (g.2.getD i 0))) ≠ (decide (mn (g.1.getD i 0) (g.2.getD i 0) < g.2.getD j 0 ∧ g.2.getD j 0 < mx (g.1.getD i 0) (g.2.getD i 0))) then none
      else some ((g.1.set i (g.1.getD j 0)).set j (g.1.getD i 0), (g.2.set i (g.2.getD j 0)).set j (g.2.getD i 0))) := fun h => if_neg h
    generalize g.1.getD i 0 = r0 at key0 key1 ⊢
    generalize g.2.getD i 0 = r1 at key0 key1 ⊢
    generalize g.1.getD j 0 = r2 at key0 key1 ⊢
    generalize g.2.getD j 0 = r3 at key0 key1 ⊢
    have s1 : Same H (upd H R (.lst (nums [r0, r1, r2, r3]))) := same_new nR
    have hR : upd H R (.lst (nums [r0, r1, r2, r3])) R = some (.lst (nums [r0, r1, r2, r3])) := upd_same
    show tSeq _ _ _ _ (upd H R (.lst (nums [r0, r1, r2, r3])))
    generalize upd H R (.lst (nums [r0, r1, r2, r3])) = H1 at s1 hR ⊢
    -- low, high
    refine ⟨_, rfl, R, _, 0, _, rfl, rfl, SqL.of hR, rfl, _, rfl, R, _, 1, _, rfl, rfl, SqL.of hR, rfl, r0, r1, rfl, ?_⟩
    refine ⟨_, rfl, R, _, 0, _, rfl, rfl, SqL.of hR, rfl, _, rfl, R, _, 1, _, rfl, rfl, SqL.of hR, rfl, r0, r1, rfl, ?_⟩
    have none_ : ∀ H', Same H H' → lawSwapped g i j = none → Q .non H' := fun H' s h => k _ _ s (by rw [h]; rfl)
    -- in rows[:2]
    refine ⟨_, rfl, R, _, 2, _, rfl, rfl, SqL.of hR, rfl, _, rfl, _, rfl, slL_read (SqL.of hR) fun p2 H2 s2 h2 => ?_⟩
    have h2 : H2 p2 = some (.lst (nums [r0, r1])) := h2
    refine ⟨p2, nums [r0, r1], rfl, .inl (SqL.of h2), rfl, flat_nums _, _, congrArg V.bl (inV_nums _ _), iteD (fun c1 => none_ _ (s1.trans s2) (key0 (.inl c1))) (fun c1 => ?_)⟩
    have hR2 := s2 _ _ hR
    refine ⟨_, rfl, R, _, 3, _, rfl, rfl, SqL.of hR2, rfl, _, rfl, _, rfl, slL_read (SqL.of hR2) fun p3 H3 s3 h3 => ?_⟩
    have h3 : H3 p3 = some (.lst (nums [r0, r1])) := h3
    refine ⟨p3, nums [r0, r1], rfl, .inl (SqL.of h3), rfl, flat_nums _, _, congrArg V.bl (inV_nums _ _), iteD (fun c2 => none_ _ (s1.trans (s2.trans s3)) (key0 (.inr c2))) (fun c2 => ?_)⟩
    have hR3 := s3 _ _ hR2
    have s13 := s1.trans (s2.trans s3)
    replace key1 := key1 fun z => z.elim c1 c2
    generalize elo : (if r1 < r0 then r1 else r0) = lo
    generalize ehi : (if r1 > r0 then r1 else r0) = hi'
    rw [show mn r0 r1 = lo from elo, show mx r0 r1 = hi' from ehi] at key1
    -- the test
    refine ⟨_, rfl, _, rfl, R, _, 2, _, rfl, rfl, SqL.of hR3, rfl, _, _, rfl, rfl, _, rfl, iteD (fun c3 => ⟨_, rfl, R, _, 2, _, rfl, rfl, SqL.of hR3, rfl, _, rfl, _, _, rfl, rfl, ?_⟩) (fun c3 => ?_)⟩
    all_goals
      refine ⟨_, rfl, _, rfl, R, _, 3, _, rfl, rfl, SqL.of hR3, rfl, _, _, rfl, rfl, _, rfl, iteD (fun c4 => ⟨_, rfl, R, _, 3, _, rfl, rfl, SqL.of hR3, rfl, _, rfl, _, _, rfl, rfl, ?_⟩) (fun c4 => ?_)⟩
    all_goals
      first
        | rw [dT c3] at key1
        | rw [dF c3] at key1
      first
        | rw [dT c4] at key1
        | rw [dF c4] at key1
      refine ⟨rfl, _, rfl, iteDn (fun hne => none_ _ s13 (key1.trans (if_pos fun z => hne (congrArg V.bl z)))) (fun heq => ?_)⟩
      rw [if_neg (fun z => z (V.bl.inj heq))] at key1
      -- the rows
      have ha3 := (kt_same s13).t ha
      have hax3 := (kt_same s13).t hax
      have hao3 := (kt_same s13).t hao
      refine ⟨_, rfl, a, _, 0, _, rfl, rfl, ha3, rfl, ax, _, rfl, .inr hax3, fun L nL => ?_⟩
      obtain ⟨s4, hL⟩ := new2 (o := .lst (nums g.1)) nL
      refine ⟨_, rfl, a, _, 1, _, rfl, rfl, (kt_same s4).t ha3, rfl, ao, _, rfl, .inr ((kt_same s4).t hao3), fun M nM => ?_⟩
      obtain ⟨s5, hM⟩ := new2 (o := .lst (nums g.2)) nM
      have hL5 := s5 _ _ hL
      have nLM := ne_of_none hL nM
      have hR5 := s5 _ _ (s4 _ _ hR3)
      have nRL := ne_of_none hR3 nL
      have nRM := ne_of_none (s4 _ _ hR3) nM
      have n1 : (nums g.1).length = g.1.length := nums_len _
      have n2 : (nums g.2).length = g.1.length := by rw [nums_len, hl]
      have s15 := s13.trans (s4.trans s5)
      have L0 : H L = none := s13.free nL
      have M0 : H M = none := (s13.trans s4).free nM
      -- exes[i] = rows[2]; exes[j] = rows[0]
      refine ⟨_, rfl, R, _, 2, _, rfl, rfl, SqL.of hR5, rfl, _, rfl, _, rfl, L, _, _, _, rfl, rfl, hL5, ix_nat (by omega), ?_⟩
      rw [nums_set]
      have hR6 := (upd_ne (o := .lst (nums (g.1.set i r2))) nRL).trans hR5
      refine ⟨_, rfl, R, _, 0, _, rfl, rfl, SqL.of hR6, rfl, _, rfl, _, rfl, L, _, _, _, rfl, rfl, upd_same, ix_nat (by rw [nums_len, List.length_set]; exact hj), ?_⟩
      rw [nums_set]
      have hR7 := (upd_ne (o := .lst (nums ((g.1.set i r2).set j r0))) nRL).trans hR6
      have hM7 := (upd_ne (o := .lst (nums ((g.1.set i r2).set j r0))) nLM.symm).trans ((upd_ne (o := .lst (nums (g.1.set i r2))) nLM.symm).trans hM)
      obtain ⟨s7, hL7⟩ := own2 (o := .lst (nums ((g.1.set i r2).set j r0))) (same_own (o := .lst (nums (g.1.set i r2))) s15 L0) L0
      -- rings
      refine ⟨_, rfl, R, _, 3, _, rfl, rfl, SqL.of hR7, rfl, _, rfl, _, rfl, M, _, _, _, rfl, rfl, hM7, ix_nat (by omega), ?_⟩
      rw [nums_set]
      have hR8 := (upd_ne (o := .lst (nums (g.2.set i r3))) nRM).trans hR7
      refine ⟨_, rfl, R, _, 1, _, rfl, rfl, SqL.of hR8, rfl, _, rfl, _, rfl, M, _, _, _, rfl, rfl, upd_same, ix_nat (by rw [nums_len, List.length_set]; omega), ?_⟩
      rw [nums_set]
      have s9 := same_own (o := .lst (nums ((g.2.set i r3).set j r1))) (same_own (o := .lst (nums (g.2.set i r3))) s7 M0) M0
      have hL9 := (upd_ne (o := .lst (nums ((g.2.set i r3).set j r1))) nLM).trans ((upd_ne (o := .lst (nums (g.2.set i r3))) nLM).trans hL7)
      refine ⟨_, rfl, L, _, rfl, SqL.of hL9, fun q1 o1 n1 d1 => ?_⟩
      obtain ⟨t1, e1⟩ := new2 (o := .frz o1 (.tup (nums ((g.1.set i r2).set j r0)))) n1
      refine ⟨_, rfl, M, _, rfl, SqL.of (t1 _ _ upd_same), fun q2 o2 n2 d2 => ⟨of_decide_eq_true rfl, fun q3 o3 n3 d3 => ?_⟩⟩
      obtain ⟨t2, e2⟩ := new2 (o := .frz o2 (.tup (nums ((g.2.set i r3).set j r1)))) n2
      obtain ⟨t3, e3⟩ := new2 (o := .frz o3 (.tup [.ref q1, .ref q2])) n3
      refine k _ _ (s9.trans (t1.trans (t2.trans t3))) ?_
      rw [key1]
      exact ⟨q3, _, _, rfl, sqF e3, ⟨q1, o1, rfl, (t2.trans t3) _ _ e1, d1⟩, ⟨q2, o2, rfl, t3 _ _ e2, d2⟩⟩
end
end Gk
end

section
set_option Elab.async false
set_option linter.all false
set_option maxRecDepth 100000
set_option maxHeartbeats 4000000
namespace Gk
open PySem L2
section
variable {P : Program} {w : World} {K : PySem.W.Frag} {mg : Str → Option Value} {base : Heap}
abbrev sLShrunk : Stmt := top 52
-- slots: _law_pair_here 0 _law_i 1 _law_n 2 _law_low 3 _law_exes 4 _law_rings 5 _law_r 6
theorem scLShrunk : FnScope ["_law_pair_here", "_law_i", "_law_n", "_law_low", "_law_exes", "_law_rings", "_law_r"] ["_law_pair_here", "_law_i"] (defScope sLShrunk) := ⟨rfl, rfl, rfl, by decide +kernel, rfl, by decide +kernel, by decide +kernel⟩
def spLShrunk (K : PySem.W.Frag) : Sp := fun vs H Q _ => ∃ (v : V) (i : Nat) (g : G) (n : Nat), vs = [v, .int i] ∧ IsG K g v H ∧ i < n ∧ n ≤ 100 ∧ PermR n g.1 ∧ PermR n g.2 ∧ ∀ v' H', Same H H' → IsO K (lawShrunk g i) v' H' → Q v' H'
theorem ok_lshrunk {f : Addr} {fd : FuncData} (F : Fun K "_law_shrunk" "_law_shrunk" sLShrunk f fd) (B : Bl mg) : FnOk P w K mg base CX0 1 f fd ["_law_pair_here", "_law_i"] (spLShrunk K) := by
  refine F.ok scLShrunk (fun vs H Q E h => ?_) (fun cdv A outer s H vs Q E hr h => ?_)
  · obtain ⟨v, i, g, n, rfl, _⟩ := h
    rfl
  · obtain ⟨v, i, g, n, rfl, ⟨a, x, o, rfl, ha, hx, ho⟩, hi, hz, f1, f2, k⟩ := h
    obtain ⟨ax, obx, rfl, hxa, dx⟩ := id hx
    obtain ⟨ao, obo, rfl, hoa, d0⟩ := id ho
    have hax : SqT K H ax (nums g.1) := sqF hxa
    have hao : SqT K H ao (nums g.2) := sqF hoa
    have l1 := f1.len
    have l2 := f2.len
    have hn : (nums g.1).length = n := by rw [nums_len, l1]
    have hp0 : (0 : Int) < ((nums g.1).length : Int) := by omega
    have mx1 : g.1.getD i 0 ∈ g.1 := getD_mem (by omega)
    have mo2 : g.2.getD i 0 ∈ g.2 := getD_mem (by omega)
    have mx2 : g.1.getD i 0 ∈ g.2 := f2.mem (f1.rng _ mx1).1 (f1.rng _ mx1).2
    have mo1 : g.2.getD i 0 ∈ g.1 := f1.mem (f2.rng _ mo2).1 (f2.rng _ mo2).2
    refine ⟨_, (pss_cons (ps_set (i := 2) scLShrunk.nd rfl (Or.inr rfl) (pe_callB (lenS K) (by rfl) B.len PySem.boot_len (pa_cons (pe_ix (ixT K) (pv 0) pe_int (fun _ _ => rfl)) pa_nil)))
      (pss_cons (ps_set (i := 3) scLShrunk.nd rfl (Or.inr rfl) (pe_ix (ixT K) (pe_ix (ixT K) (pv 0) pe_int (fun _ _ => rfl)) (pv 1) (fun _ _ => rfl)))
      (pss_cons (ps_if (pt_cmpR op_eq (pe_op op_mod (pe_callTy call_int1 (by rfl) B.int (by decide +kernel) (pa_cons (pe_op op_add (pe_ix (ixT K) (pe_ix (ixT K) (pv 0) pe_int (fun _ _ => rfl)) (pv 1) (fun _ _ => rfl)) pe_int) pa_nil)) (pv 2)) (pv 3) (nomark _)) (pss_one (ps_set (i := 3) scLShrunk.nd rfl (Or.inr rfl) (pe_ix (ixT K) (pe_ix (ixT K) (pv 0) pe_int (fun _ _ => rfl)) (pv 1) (fun _ _ => rfl)))) (pss_one (ps_if (pt_cmpR op_ne (pe_op op_mod (pe_callTy call_int1 (by rfl) B.int (by decide +kernel) (pa_cons (pe_op op_add (pv 3) pe_int) pa_nil)) (pv 2)) (pe_ix (ixT K) (pe_ix (ixT K) (pv 0) pe_int (fun _ _ => rfl)) (pv 1) (fun _ _ => rfl)) (nomark _)) (pss_one (ps_ret pe_non)) pss_nil)))
      (pss_cons (ps_if (pt_cmpR op_eq (tidx (pe_ix (ixT K) (pv 0) pe_int (fun _ _ => rfl)) (pe_ix (ixT K) (pe_ix (ixT K) (pv 0) pe_int (fun _ _ => rfl)) (pv 1) (fun _ _ => rfl))) (tidx (pe_ix (ixT K) (pv 0) pe_int (fun _ _ => rfl)) (pe_ix (ixT K) (pe_ix (ixT K) (pv 0) pe_int (fun _ _ => rfl)) (pv 1) (fun _ _ => rfl))) (nomark _)) (pss_one (ps_ret pe_non)) pss_nil)
      (pss_cons (ps_setLc (i := 4) (own := [("_law_r", 6)]) rfl scLShrunk.nd rfl rfl (sw_true rfl rfl rfl (by decide +kernel)) (piT K (pe_op (catF K) (pe_slice (slT K) (pe_ix (ixT K) (pv 0) pe_int (fun _ _ => rfl)) po_none (po_some (pv 1))) (pe_slice (slT K) (pe_ix (ixT K) (pv 0) pe_int (fun _ _ => rfl)) (po_some (pe_op op_add (pv 1) pe_int)) po_none))) (blkOk_by (by kernel_rfl)) (fun _ _ _ _ _ => (pg_name (i := 6) scLShrunk.nd rfl (by first | exact Or.inl rfl | exact Or.inr rfl))) (fun _ _ _ _ _ => pts_nil) (fun _ _ _ _ _ => (pe_callB (call_max2 rfl) (by rfl) B.max (by decide +kernel) (pa_cons (pe_op op_sub (pe_op op_mod (pe_callTy call_int1 (by rfl) B.int (by decide +kernel) (pa_cons (pe_op op_sub (pv 6) (pv 3)) pa_nil)) (pv 2)) pe_int) (pa_cons pe_int pa_nil)))))
      (pss_cons (ps_setLc (i := 5) (own := [("_law_r", 6)]) rfl scLShrunk.nd rfl rfl (sw_true rfl rfl rfl (by decide +kernel)) (piT K (pe_op (catF K) (pe_slice (slT K) (pe_ix (ixT K) (pv 0) pe_int (fun _ _ => rfl)) po_none (po_some (pv 1))) (pe_slice (slT K) (pe_ix (ixT K) (pv 0) pe_int (fun _ _ => rfl)) (po_some (pe_op op_add (pv 1) pe_int)) po_none))) (blkOk_by (by kernel_rfl)) (fun _ _ _ _ _ => (pg_name (i := 6) scLShrunk.nd rfl (by first | exact Or.inl rfl | exact Or.inr rfl))) (fun _ _ _ _ _ => pts_nil) (fun _ _ _ _ _ => (pe_callB (call_max2 rfl) (by rfl) B.max (by decide +kernel) (pa_cons (pe_op op_sub (pe_op op_mod (pe_callTy call_int1 (by rfl) B.int (by decide +kernel) (pa_cons (pe_op op_sub (pv 6) (pv 3)) pa_nil)) (pv 2)) pe_int) (pa_cons pe_int pa_nil)))))
      (pss_one (ps_ret (peTup (pa_cons (tupOf K (by rfl) B.tuple (pv 4)) (pa_cons (tupOf K (by rfl) B.tuple (pv 5)) pa_nil))))))))))), ?_⟩
    -- n, low
    refine ⟨_, rfl, a, _, 0, _, rfl, rfl, ha, rfl, ax, _, rfl, .inr hax, ?_⟩
    refine ⟨_, rfl, a, _, 0, _, rfl, rfl, ha, rfl, _, rfl, ax, _, _, _, rfl, rfl, hax, nums_atI rfl (by omega), ?_⟩
    have none_ : lawShrunk g i = none → Q .non H := fun h => k _ _ (Same.refl _) (by rw [h]; rfl)
    have eS : lawShrunk g i = match lawLow g i with
      | none => none
      | some lo => if idx g.2 (g.1.getD i 0) = idx g.1 (g.2.getD i 0) then none else some (lawShrinkRow g.1.length g.1 i lo, lawShrinkRow g.1.length g.2 i lo) := rfl
    have eL : lawLow g i = if (g.2.getD i 0 + 1) % (g.1.length : Int) = g.1.getD i 0 then some (g.2.getD i 0) else if (g.1.getD i 0 + 1) % (g.1.length : Int) ≠ g.2.getD i 0 then none else some (g.1.getD i 0) := rfl
    have ml : ((nums g.1).length : Int) = (g.1.length : Int) := by rw [nums_len]
    refine ⟨_, rfl, a, _, 1, _, rfl, rfl, ha, rfl, _, rfl, ao, _, _, _, rfl, rfl, hao, nums_atI rfl (by omega), _, _, rfl, rfl, .inl ⟨_, rfl, _, rfl, _, _, rfl, rfl, hp0, _, rfl, rfl, _, rfl, iteD (fun c1 => ?_) (fun c1 => ?_)⟩⟩
    · have c1 : (g.2.getD i 0 + 1) % (g.1.length : Int) = g.1.getD i 0 := by
        rw [← ml]
        exact V.int.inj c1
      rw [if_pos c1] at eL
      rw [eL] at eS
      refine ⟨_, rfl, a, _, 1, _, rfl, rfl, ha, rfl, _, rfl, ao, _, _, _, rfl, rfl, hao, nums_atI rfl (by omega), ?_⟩
      have eS2 : lawShrunk g i = if idx g.2 (g.1.getD i 0) = idx g.1 (g.2.getD i 0) then none else some (lawShrinkRow g.1.length g.1 i ((g.2.getD i 0)), lawShrinkRow g.1.length g.2 i ((g.2.getD i 0))) := eS
      -- the seats of the two
      refine ⟨_, rfl, a, _, 1, _, rfl, rfl, ha, rfl, ao, obo, g.2, rfl, hoa, d0, _, rfl, a, _, 0, _, rfl, rfl, ha, rfl, _, rfl, ax, _, _, _, rfl, rfl, hax, nums_atI rfl (by omega), _, rfl, hoa, mx2, ?_⟩
      refine ⟨_, rfl, a, _, 0, _, rfl, rfl, ha, rfl, ax, obx, g.1, rfl, hxa, dx, _, rfl, a, _, 1, _, rfl, rfl, ha, rfl, _, rfl, ao, _, _, _, rfl, rfl, hao, nums_atI rfl (by omega), _, rfl, hxa, mo1, ?_⟩
      refine ⟨rfl, _, rfl, iteD (fun c3 => none_ (eS2.trans (if_pos (V.int.inj c3)))) (fun c3 => ?_)⟩
      replace eS2 := eS2.trans (if_neg fun z => c3 (congrArg V.int z))
      -- exes
      refine ⟨_, rfl, a, _, 0, _, rfl, rfl, ha, rfl, _, rfl, _, rfl, slT_read hax fun p2 H2 s2 h2 => ?_⟩
      rw [cut_take] at h2
      refine ⟨_, rfl, a, _, 0, _, rfl, rfl, (kt_same s2).t ha, rfl, _, rfl, _, _, rfl, rfl, _, rfl, ?_⟩
      show tNoPart _ _ _
      refine noPart ?_
      show rSlA K _ _ _ _ _
      refine slT_read ((kt_same s2).t hax) fun p3 H3 s3 h3 => ?_
      rw [cut_drop g.1 (i + 1) (by omega)] at h3
      refine cat_seq ((kt_same s3).t h2) h3 (by rw [List.length_take, List.length_drop]; omega) fun p5 H5 s5 h5 => ⟨p5, rfl, ⟨_, h5⟩, fun D5 nD5 => ?_⟩
      refine lcT_ints (fun r => mx ((r - (g.2.getD i 0)) % (g.1.length : Int) - 1) 0) nD5 h5 (by rw [List.length_append, List.length_take, List.length_drop]; omega) (fun r H6 hr6 s6 K6 q6 => ⟨_, rfl, _, rfl, _, _, rfl, rfl, .inl ⟨_, rfl, _, rfl, _, _, rfl, rfl, hp0, _, _, rfl, rfl, _, _, rfl, ?_⟩⟩) (fun H6 s6 e6 => ?_)
      · have q := q6 _ (Same.refl _)
        rw [← ml] at q
        exact q
      have s06 := s2.trans (s3.trans (s5.trans s6))
      have hao6 := (kt_same s06).t hao
      have ha6 := (kt_same s06).t ha
      -- rings
      refine ⟨_, rfl, a, _, 1, _, rfl, rfl, ha6, rfl, _, rfl, _, rfl, slT_read hao6 fun p7 H7 s7 h7 => ?_⟩
      rw [cut_take] at h7
      refine ⟨_, rfl, a, _, 1, _, rfl, rfl, (kt_same s7).t ha6, rfl, _, rfl, _, _, rfl, rfl, _, rfl, ?_⟩
      show tNoPart _ _ _
      refine noPart ?_
      show rSlA K _ _ _ _ _
      refine slT_read ((kt_same s7).t hao6) fun p8 H8 s8 h8 => ?_
      rw [cut_drop g.2 (i + 1) (by omega)] at h8
      refine cat_seq ((kt_same s8).t h7) h8 (by rw [List.length_take, List.length_drop]; omega) fun p9 H9 s9 h9 => ⟨p9, rfl, ⟨_, h9⟩, fun D9 nD9 => ?_⟩
      refine lcT_ints (fun r => mx ((r - (g.2.getD i 0)) % (g.1.length : Int) - 1) 0) nD9 h9 (by rw [List.length_append, List.length_take, List.length_drop]; omega) (fun r H10 hr10 s10 K10 q10 => ⟨_, rfl, _, rfl, _, _, rfl, rfl, .inl ⟨_, rfl, _, rfl, _, _, rfl, rfl, hp0, _, _, rfl, rfl, _, _, rfl, ?_⟩⟩) (fun H10 s10 e10 => ?_)
      · have q := q10 _ (Same.refl _)
        rw [← ml] at q
        exact q
      have s610 := s7.trans (s8.trans (s9.trans s10))
      refine ⟨_, rfl, D5, _, rfl, SqL.of (s610 _ _ e6), fun q1 o1 n1 d1 => ?_⟩
      obtain ⟨t1, r1⟩ := new2 (o := .frz o1 (.tup (nums (lawShrinkRow g.1.length g.1 i (g.2.getD i 0))))) n1
      refine ⟨_, rfl, D9, _, rfl, SqL.of (t1 _ _ e10), fun q2 o2 n2 d2 => ⟨of_decide_eq_true rfl, fun q3 o3 n3 d3 => ?_⟩⟩
      obtain ⟨t2, r2⟩ := new2 (o := .frz o2 (.tup (nums (lawShrinkRow g.1.length g.2 i (g.2.getD i 0))))) n2
      obtain ⟨t3, r3⟩ := new2 (o := .frz o3 (.tup [.ref q1, .ref q2])) n3
      refine k _ _ (s06.trans (s610.trans (t1.trans (t2.trans t3)))) ?_
      rw [eS2]
      exact ⟨q3, _, _, rfl, sqF r3, ⟨q1, o1, rfl, (t2.trans t3) _ _ r1, d1⟩, ⟨q2, o2, rfl, t3 _ _ r2, d2⟩⟩
    · have c1 : ¬ (g.2.getD i 0 + 1) % (g.1.length : Int) = g.1.getD i 0 := fun z => by
        rw [← ml] at z
        exact c1 (congrArg V.int z)
      rw [if_neg c1] at eL
      refine ⟨_, rfl, _, _, rfl, rfl, .inl ⟨_, rfl, _, rfl, _, _, rfl, rfl, hp0, _, rfl, a, _, 1, _, rfl, rfl, ha, rfl, _, rfl, ao, _, _, _, rfl, rfl, hao, nums_atI rfl (by omega), rfl, _, rfl, iteDn (fun c2 => none_ ?_) (fun c2 => ?_)⟩⟩
      · rw [if_pos (fun z => c2 (by rw [ml]; exact congrArg V.int z))] at eL
        rw [eS, eL]
      rw [if_neg (fun z => z (by rw [← ml]; exact V.int.inj c2))] at eL
      rw [eL] at eS
      have eS2 : lawShrunk g i = if idx g.2 (g.1.getD i 0) = idx g.1 (g.2.getD i 0) then none else some (lawShrinkRow g.1.length g.1 i ((g.1.getD i 0)), lawShrinkRow g.1.length g.2 i ((g.1.getD i 0))) := eS
      -- the seats of the two
      refine ⟨_, rfl, a, _, 1, _, rfl, rfl, ha, rfl, ao, obo, g.2, rfl, hoa, d0, _, rfl, a, _, 0, _, rfl, rfl, ha, rfl, _, rfl, ax, _, _, _, rfl, rfl, hax, nums_atI rfl (by omega), _, rfl, hoa, mx2, ?_⟩
      refine ⟨_, rfl, a, _, 0, _, rfl, rfl, ha, rfl, ax, obx, g.1, rfl, hxa, dx, _, rfl, a, _, 1, _, rfl, rfl, ha, rfl, _, rfl, ao, _, _, _, rfl, rfl, hao, nums_atI rfl (by omega), _, rfl, hxa, mo1, ?_⟩
      refine ⟨rfl, _, rfl, iteD (fun c3 => none_ (eS2.trans (if_pos (V.int.inj c3)))) (fun c3 => ?_)⟩
      replace eS2 := eS2.trans (if_neg fun z => c3 (congrArg V.int z))
      -- exes
      refine ⟨_, rfl, a, _, 0, _, rfl, rfl, ha, rfl, _, rfl, _, rfl, slT_read hax fun p2 H2 s2 h2 => ?_⟩
      rw [cut_take] at h2
      refine ⟨_, rfl, a, _, 0, _, rfl, rfl, (kt_same s2).t ha, rfl, _, rfl, _, _, rfl, rfl, _, rfl, ?_⟩
      show tNoPart _ _ _
      refine noPart ?_
      show rSlA K _ _ _ _ _
      refine slT_read ((kt_same s2).t hax) fun p3 H3 s3 h3 => ?_
      rw [cut_drop g.1 (i + 1) (by omega)] at h3
      refine cat_seq ((kt_same s3).t h2) h3 (by rw [List.length_take, List.length_drop]; omega) fun p5 H5 s5 h5 => ⟨p5, rfl, ⟨_, h5⟩, fun D5 nD5 => ?_⟩
      refine lcT_ints (fun r => mx ((r - (g.1.getD i 0)) % (g.1.length : Int) - 1) 0) nD5 h5 (by rw [List.length_append, List.length_take, List.length_drop]; omega) (fun r H6 hr6 s6 K6 q6 => ⟨_, rfl, _, rfl, _, _, rfl, rfl, .inl ⟨_, rfl, _, rfl, _, _, rfl, rfl, hp0, _, _, rfl, rfl, _, _, rfl, ?_⟩⟩) (fun H6 s6 e6 => ?_)
      · have q := q6 _ (Same.refl _)
        rw [← ml] at q
        exact q
      have s06 := s2.trans (s3.trans (s5.trans s6))
      have hao6 := (kt_same s06).t hao
      have ha6 := (kt_same s06).t ha
      -- rings
      refine ⟨_, rfl, a, _, 1, _, rfl, rfl, ha6, rfl, _, rfl, _, rfl, slT_read hao6 fun p7 H7 s7 h7 => ?_⟩
      rw [cut_take] at h7
      refine ⟨_, rfl, a, _, 1, _, rfl, rfl, (kt_same s7).t ha6, rfl, _, rfl, _, _, rfl, rfl, _, rfl, ?_⟩
      show tNoPart _ _ _
      refine noPart ?_
      show rSlA K _ _ _ _ _
      refine slT_read ((kt_same s7).t hao6) fun p8 H8 s8 h8 => ?_
      rw [cut_drop g.2 (i + 1) (by omega)] at h8
      refine cat_seq ((kt_same s8).t h7) h8 (by rw [List.length_take, List.length_drop]; omega) fun p9 H9 s9 h9 => ⟨p9, rfl, ⟨_, h9⟩, fun D9 nD9 => ?_⟩
      refine lcT_ints (fun r => mx ((r - (g.1.getD i 0)) % (g.1.length : Int) - 1) 0) nD9 h9 (by rw [List.length_append, List.length_take, List.length_drop]; omega) (fun r H10 hr10 s10 K10 q10 => ⟨_, rfl, _, rfl, _, _, rfl, rfl, .inl ⟨_, rfl, _, rfl, _, _, rfl, rfl, hp0, _, _, rfl, rfl, _, _, rfl, ?_⟩⟩) (fun H10 s10 e10 => ?_)
      · have q := q10 _ (Same.refl _)
        rw [← ml] at q
        exact q
      have s610 := s7.trans (s8.trans (s9.trans s10))
      refine ⟨_, rfl, D5, _, rfl, SqL.of (s610 _ _ e6), fun q1 o1 n1 d1 => ?_⟩
      obtain ⟨t1, r1⟩ := new2 (o := .frz o1 (.tup (nums (lawShrinkRow g.1.length g.1 i (g.1.getD i 0))))) n1
      refine ⟨_, rfl, D9, _, rfl, SqL.of (t1 _ _ e10), fun q2 o2 n2 d2 => ⟨of_decide_eq_true rfl, fun q3 o3 n3 d3 => ?_⟩⟩
      obtain ⟨t2, r2⟩ := new2 (o := .frz o2 (.tup (nums (lawShrinkRow g.1.length g.2 i (g.1.getD i 0))))) n2
      obtain ⟨t3, r3⟩ := new2 (o := .frz o3 (.tup [.ref q1, .ref q2])) n3
      refine k _ _ (s06.trans (s610.trans (t1.trans (t2.trans t3)))) ?_
      rw [eS2]
      exact ⟨q3, _, _, rfl, sqF r3, ⟨q1, o1, rfl, (t2.trans t3) _ _ r1, d1⟩, ⟨q2, o2, rfl, t3 _ _ r2, d2⟩⟩
end
end Gk
end

section
set_option Elab.async false
set_option linter.all false
set_option maxRecDepth 100000
set_option maxHeartbeats 4000000
namespace Gk
open PySem L2
section
variable {P : Program} {w : World} {K : PySem.W.Frag} {mg : Str → Option Value} {base : Heap}
def growRow (l : List Int) (i : Nat) (r u ins : Int) : List Int :=
  let m := l.map fun v => v + (if decide (r < v) = true then 1 else 0) + u * (if decide (V.int v = V.int r) = true then 1 else 0)
  (m.take i ++ [ins]) ++ m.drop i
def lawGrown (g : G) (i : Nat) (r up : Int) : G := (growRow g.1 i r up (r + 1 - up), growRow g.2 i r (1 - up) (r + up))
abbrev sLGrown : Stmt := top 53
-- slots: _law_pair_here 0 _law_i 1 _law_r 2 _law_up 3 _law_exes 4 _law_rings 5 _law_v 6
theorem scLGrown : FnScope ["_law_pair_here", "_law_i", "_law_r", "_law_up", "_law_exes", "_law_rings", "_law_v"] ["_law_pair_here", "_law_i", "_law_r", "_law_up"] (defScope sLGrown) := ⟨rfl, rfl, rfl, by decide +kernel, rfl, by decide +kernel, by decide +kernel⟩
def spLGrown (K : PySem.W.Frag) : Sp := fun vs H Q _ => ∃ (v : V) (i : Nat) (r up : Int) (g : G), vs = [v, .int i, .int r, .int up] ∧ IsG K g v H ∧ i ≤ g.1.length ∧ g.1.length ≤ 100 ∧ g.2.length = g.1.length ∧ 0 ≤ up ∧ up ≤ 1 ∧ ∀ v' H', Same H H' → IsG K (lawGrown g i r up) v' H' → Q v' H'
theorem ok_lgrown {f : Addr} {fd : FuncData} (F : Fun K "_law_grown" "_law_grown" sLGrown f fd) (B : Bl mg) : FnOk P w K mg base CX0 1 f fd ["_law_pair_here", "_law_i", "_law_r", "_law_up"] (spLGrown K) := by
  refine F.ok scLGrown (fun vs H Q E h => ?_) (fun cdv A outer s H vs Q E hr h => ?_)
  · obtain ⟨v, i, r, up, g, rfl, _⟩ := h
    rfl
  · obtain ⟨v, i, r, up, g, rfl, ⟨a, x, o, rfl, ha, hx, ho⟩, hi, hz, hl, u0, u1, k⟩ := h
    obtain ⟨ax, rfl, hax⟩ := id hx.seq
    obtain ⟨ao, rfl, hao⟩ := id ho.seq
    refine ⟨_, (pss_cons (ps_setLc (i := 4) (own := [("_law_v", 6)]) rfl scLGrown.nd rfl rfl (sw_true rfl rfl rfl (by decide +kernel)) (piT K (pe_ix (ixT K) (pv 0) pe_int (fun _ _ => rfl))) (blkOk_by (by kernel_rfl)) (fun _ _ _ _ _ => (pg_name (i := 6) scLGrown.nd rfl (by first | exact Or.inl rfl | exact Or.inr rfl))) (fun _ _ _ _ _ => pts_nil) (fun _ _ _ _ _ => (pe_op op_add (pe_op op_add (pv 6) (pe_callTy call_int1 (by rfl) B.int (by decide +kernel) (pa_cons (pe_cmpR op_gt (pv 6) (pv 2) (nomark _)) pa_nil))) (pe_op op_mul (pv 3) (pe_callTy call_int1 (by rfl) B.int (by decide +kernel) (pa_cons (pe_cmpR op_eq (pv 6) (pv 2) (nomark _)) pa_nil))))))
      (pss_cons (ps_setLc (i := 5) (own := [("_law_v", 6)]) rfl scLGrown.nd rfl rfl (sw_true rfl rfl rfl (by decide +kernel)) (piT K (pe_ix (ixT K) (pv 0) pe_int (fun _ _ => rfl))) (blkOk_by (by kernel_rfl)) (fun _ _ _ _ _ => (pg_name (i := 6) scLGrown.nd rfl (by first | exact Or.inl rfl | exact Or.inr rfl))) (fun _ _ _ _ _ => pts_nil) (fun _ _ _ _ _ => (pe_op op_add (pe_op op_add (pv 6) (pe_callTy call_int1 (by rfl) B.int (by decide +kernel) (pa_cons (pe_cmpR op_gt (pv 6) (pv 2) (nomark _)) pa_nil))) (pe_op op_mul (pe_op op_sub pe_int (pv 3)) (pe_callTy call_int1 (by rfl) B.int (by decide +kernel) (pa_cons (pe_cmpR op_eq (pv 6) (pv 2) (nomark _)) pa_nil))))))
      (pss_cons (ps_set (i := 4) scLGrown.nd rfl (Or.inl rfl) (pe_op op_cat (pe_op op_cat (pe_slice (slL K) (pv 4) po_none (po_some (pv 1))) (pe_lst (pa_cons (pe_op op_sub (pe_op op_add (pv 2) pe_int) (pv 3)) pa_nil))) (pe_slice (slL K) (pv 4) (po_some (pv 1)) po_none)))
      (pss_cons (ps_set (i := 5) scLGrown.nd rfl (Or.inl rfl) (pe_op op_cat (pe_op op_cat (pe_slice (slL K) (pv 5) po_none (po_some (pv 1))) (pe_lst (pa_cons (pe_op op_add (pv 2) (pv 3)) pa_nil))) (pe_slice (slL K) (pv 5) (po_some (pv 1)) po_none)))
      (pss_one (ps_ret (peTup (pa_cons (tupOf K (by rfl) B.tuple (pv 4)) (pa_cons (tupOf K (by rfl) B.tuple (pv 5)) pa_nil))))))))), ?_⟩
    refine ⟨_, rfl, a, _, 0, _, rfl, rfl, ha, rfl, ax, rfl, ⟨_, hax⟩, fun D nD => ?_⟩
    refine lcT_ints (fun v => v + (if decide (r < v) = true then 1 else 0) + up * (if decide (V.int v = V.int r) = true then 1 else 0)) nD hax (by omega) (fun v H1 hv s1 K1 q1 => ?_) (fun H1 s1 e1 => ?_)
    · refine ⟨_, rfl, _, rfl, _, rfl, _, _, rfl, rfl, .inr ⟨_, rfl, _, _, rfl, rfl, _, rfl, _, rfl, _, rfl, rfl, .inr ⟨_, rfl, _, _, rfl, rfl, .inl ⟨by omega, by omega⟩, _, _, rfl, rfl, ?_⟩⟩⟩
      exact q1 _ (Same.refl _)
    · have hao1 := (kt_same s1).t hao
      refine ⟨_, rfl, a, _, 1, _, rfl, rfl, (kt_same s1).t ha, rfl, ao, rfl, ⟨_, hao1⟩, fun D2 nD2 => ?_⟩
      refine lcT_ints (fun v => v + (if decide (r < v) = true then 1 else 0) + (1 - up) * (if decide (V.int v = V.int r) = true then 1 else 0)) nD2 hao1 (by omega) (fun v H2 hv s2 K2 q2 => ?_) (fun Hc sc e2 => ?_)
      · refine ⟨_, rfl, _, rfl, _, rfl, _, _, rfl, rfl, .inr ⟨_, rfl, _, _, rfl, rfl, _, rfl, _, _, rfl, rfl, _, rfl, _, rfl, rfl, .inr ⟨_, rfl, _, _, rfl, rfl, .inl ⟨by omega, by omega⟩, _, _, rfl, rfl, ?_⟩⟩⟩
        exact q2 _ (Same.refl _)
      have e1' := sc _ _ e1
      obtain ⟨xm, exm⟩ : ∃ xm, xm = g.1.map fun v => v + (if decide (r < v) = true then 1 else 0) + up * (if decide (V.int v = V.int r) = true then 1 else 0) := ⟨_, rfl⟩
      obtain ⟨om, eom⟩ : ∃ om, om = g.2.map fun v => v + (if decide (r < v) = true then 1 else 0) + (1 - up) * (if decide (V.int v = V.int r) = true then 1 else 0) := ⟨_, rfl⟩
      rw [← exm] at e1'
      rw [← eom] at e2
      have xl : xm.length = g.1.length := by rw [exm, List.length_map]
      have ol : om.length = g.1.length := by rw [eom, List.length_map, hl]
      refine ⟨_, rfl, _, rfl, _, rfl, slL_read (SqL.of e1') fun p2 H2 s2 h2 => ?_⟩
      rw [cut_take] at h2
      refine ⟨_, rfl, _, _, rfl, rfl, _, rfl, _, _, rfl, rfl, of_decide_eq_true rfl, fun p3 n3 => ?_⟩
      obtain ⟨s3, h3⟩ := new2 (o := .lst [V.int (r + 1 - up)]) n3
      refine ⟨p2, p3, _, _, rfl, rfl, s3 _ _ h2, h3, by rw [nums_len, List.length_take, List.length_singleton]; exact Nat.le_of_lt (small1000 (by omega)), fun p4 n4 => ?_⟩
      obtain ⟨s4, h4⟩ := new2 (o := .lst (nums (xm.take i) ++ [V.int (r + 1 - up)])) n4
      have s24 := s2.trans (s3.trans s4)
      refine ⟨_, rfl, _, rfl, _, rfl, ?_⟩
      show tNoPart _ _ _
      refine noPart ?_
      show rSlL K _ _ _ _ _
      refine slL_read (SqL.of (s24 _ _ e1')) fun p5 H5 s5 h5 => ?_
      rw [cut_drop xm i rfl] at h5
      refine ⟨p4, p5, _, _, rfl, rfl, s5 _ _ h4, h5, by rw [List.length_append, nums_len, nums_len, List.length_take, List.length_drop, List.length_singleton]; exact Nat.le_of_lt (small1000 (by omega)), fun p6 n6 => ?_⟩
      have er : nums (xm.take i) ++ [V.int (r + 1 - up)] ++ nums (xm.drop i) = nums (xm.take i ++ [r + 1 - up] ++ xm.drop i) := by
        simp [nums]
      rw [er]
      obtain ⟨s6, h6⟩ := new2 (o := .lst (nums (xm.take i ++ [r + 1 - up] ++ xm.drop i))) n6
      have s26 := s24.trans (s5.trans s6)
      have e2' := s26 _ _ e2
      refine ⟨_, rfl, _, rfl, _, rfl, slL_read (SqL.of e2') fun p2b H2b s2b h2b => ?_⟩
      rw [cut_take] at h2b
      refine ⟨_, rfl, _, rfl, _, _, rfl, rfl, of_decide_eq_true rfl, fun p3b n3b => ?_⟩
      obtain ⟨s3b, h3b⟩ := new2 (o := .lst [V.int (r + up)]) n3b
      refine ⟨p2b, p3b, _, _, rfl, rfl, s3b _ _ h2b, h3b, by rw [nums_len, List.length_take, List.length_singleton]; exact Nat.le_of_lt (small1000 (by omega)), fun p4b n4b => ?_⟩
      obtain ⟨s4b, h4b⟩ := new2 (o := .lst (nums (om.take i) ++ [V.int (r + up)])) n4b
      have s24b := s2b.trans (s3b.trans s4b)
      refine ⟨_, rfl, _, rfl, _, rfl, ?_⟩
      show tNoPart _ _ _
      refine noPart ?_
      show rSlL K _ _ _ _ _
      refine slL_read (SqL.of (s24b _ _ e2')) fun p5b H5b s5b h5b => ?_
      rw [cut_drop om i rfl] at h5b
      refine ⟨p4b, p5b, _, _, rfl, rfl, s5b _ _ h4b, h5b, by rw [List.length_append, nums_len, nums_len, List.length_take, List.length_drop, List.length_singleton]; exact Nat.le_of_lt (small1000 (by omega)), fun p6b n6b => ?_⟩
      have erb : nums (om.take i) ++ [V.int (r + up)] ++ nums (om.drop i) = nums (om.take i ++ [r + up] ++ om.drop i) := by
        simp [nums]
      rw [erb]
      obtain ⟨s6b, h6b⟩ := new2 (o := .lst (nums (om.take i ++ [r + up] ++ om.drop i))) n6b
      have s26b := s24b.trans (s5b.trans s6b)
      refine ⟨_, rfl, p6, _, rfl, SqL.of (s26b _ _ h6), fun q1 o1 n1 d1 => ?_⟩
      obtain ⟨t1, r1⟩ := new2 (o := .frz o1 (.tup (nums (xm.take i ++ [r + 1 - up] ++ xm.drop i)))) n1
      refine ⟨_, rfl, p6b, _, rfl, SqL.of (t1 _ _ h6b), fun q2 o2 n2 d2 => ⟨of_decide_eq_true rfl, fun q3 o3 n3 d3 => ?_⟩⟩
      obtain ⟨t2, r2⟩ := new2 (o := .frz o2 (.tup (nums (om.take i ++ [r + up] ++ om.drop i)))) n2
      obtain ⟨t3, r3⟩ := new2 (o := .frz o3 (.tup [.ref q1, .ref q2])) n3
      refine k _ _ (s1.trans (sc.trans (s26.trans (s26b.trans (t1.trans (t2.trans t3)))))) ?_
      have eg : lawGrown g i r up = (xm.take i ++ [r + 1 - up] ++ xm.drop i, om.take i ++ [r + up] ++ om.drop i) := by
        rw [exm, eom]
        rfl
      rw [eg]
      exact ⟨q3, _, _, rfl, sqF r3, ⟨q1, o1, rfl, (t2.trans t3) _ _ r1, d1⟩, ⟨q2, o2, rfl, t3 _ _ r2, d2⟩⟩
end
end Gk
end

section
set_option Elab.async false
set_option linter.all false
set_option maxRecDepth 100000
set_option maxHeartbeats 4000000
namespace Gk
open PySem L2
section
variable {P : Program} {w : World} {K : PySem.W.Frag} {mg : Str → Option Value} {base : Heap}
theorem nd_lenI {l S : List Int} (h : l.Nodup) (s : ∀ x ∈ l, x ∈ S) : l.length ≤ S.length := by
  induction l generalizing S with
  | nil => exact Nat.zero_le _
  | cons a r ih =>
    rw [List.nodup_cons] at h
    have ha := s a List.mem_cons_self
    have h1 := ih (S := S.erase a) h.2 fun x hx => (List.mem_erase_of_ne fun z => h.1 (by rw [← z]; exact hx)).mpr (s x (List.mem_cons_of_mem _ hx))
    rw [List.length_erase_of_mem ha] at h1
    have h2 := List.length_pos_of_mem ha
    rw [List.length_cons]
    omega
theorem permR_of {n : Nat} {l : List Int} (hl : l.length = n) (nd : l.Nodup) (b : ∀ x ∈ l, 0 ≤ x ∧ x < (n : Int)) : PermR n l := by
  refine ⟨hl, b, fun r hr => Classical.byContradiction fun z => ?_⟩
  have h := nd_lenI (l := (r : Int) :: l) (S := rangeI n) (List.nodup_cons.mpr ⟨z, nd⟩) (fun x hx => by
    unfold rangeI
    rcases List.mem_cons.mp hx with rfl | hx
    · exact List.mem_map.mpr ⟨r, List.mem_range.mpr hr, rfl⟩
    · have := b x hx
      exact List.mem_map.mpr ⟨x.toNat, List.mem_range.mpr (by omega), by omega⟩)
  unfold rangeI at h
  rw [List.length_cons, List.length_map, List.length_range] at h
  omega
theorem VG.p1 {g : G} (h : VG g) : PermR g.1.length g.1 := permR_of rfl h.n1 h.b1
theorem VG.p2 {g : G} (h : VG g) : PermR g.1.length g.2 := permR_of h.l h.n2 h.b2
theorem each_filter {H : Hp} : ∀ {os : List (Option G)} {l : List V}, EachR (IsO K) os l H → EachR (IsG K) (os.filterMap id) (l.filter fun v => !decide (v = .non)) H
  | [], [], _ => EachR.nil
  | [], _ :: _, h => by
    have := h.1
    cases this
  | _ :: _, [], h => by
    have := h.1
    cases this
  | o :: os, v :: l, h => by
    have ho : IsO K o v H := h.2 0 v o rfl rfl
    have hr : EachR (IsO K) os l H := ⟨by simpa using h.1, fun i v x a b => h.2 (i + 1) v x (by simpa using a) (by simpa using b)⟩
    have ih := each_filter hr
    cases o with
    | none =>
      have ev : v = .non := ho
      subst ev
      simpa using ih
    | some g =>
      have ho : IsG K g v H := ho
      obtain ⟨a, x, o, rfl, rest⟩ := id ho
      have e1 : (some g :: os).filterMap id = g :: os.filterMap id := by simp
      have e2 : (V.ref a :: l).filter (fun v => !decide (v = .non)) = V.ref a :: l.filter fun v => !decide (v = .non) := by simp
      rw [e1, e2]
      exact (EachR.one ho).append ih
theorem absD {z : Int} : (if z < 0 then -z else z) = 1 ↔ z.natAbs = 1 := by
  split <;> omega
abbrev sLFound : Stmt := top 54
-- slots: _law_pair_here 0 _law_seam 1 _law_n 2 _law_found_here 3 _law_i 4 _law_told 5
theorem scLFound : FnScope ["_law_pair_here", "_law_seam", "_law_n", "_law_found_here", "_law_i", "_law_told"] ["_law_pair_here", "_law_seam"] (defScope sLFound) := ⟨rfl, rfl, rfl, by decide +kernel, rfl, by decide +kernel, by decide +kernel⟩
def lawPer (g : G) (seam : Bool) (i : Nat) : List (Option G) := (if seam = true ∨ i + 1 < g.1.length then [lawSwapped g i ((i + 1) % g.1.length)] else []) ++ (if seam = true ∨ (g.1.getD i 0 - g.2.getD i 0).natAbs = 1 then [lawShrunk g i] else [])
theorem found_per (g : G) (seam : Bool) : ((List.range g.1.length).flatMap (lawPer g seam)).filterMap id = lawFound g seam := by
  unfold lawFound
  rw [List.filterMap_flatMap]
  congr 1
  funext i
  unfold lawPer
  rw [List.filterMap_append]
  congr 1
  · split
    · cases lawSwapped g i ((i + 1) % g.1.length) <;> rfl
    · rfl
  · split
    · cases lawShrunk g i <;> rfl
    · rfl
def spLFound (K : PySem.W.Frag) : Sp := fun vs H Q _ => ∃ (v : V) (seam : Bool) (g : G), vs = [v, .bl seam] ∧ IsG K g v H ∧ VG g ∧ ToList (IsG K) (lawFound g seam) H Q
theorem ok_lfound {f : Addr} {fd : FuncData} (F : Fun K "_law_found" "_law_found" sLFound f fd) (B : Bl mg) (D__law_swapped : DefOk P w K mg base "_law_swapped" 1 ["_law_pair_here", "_law_i", "_law_j"] (spLSwapped K)) (D__law_shrunk : DefOk P w K mg base "_law_shrunk" 1 ["_law_pair_here", "_law_i"] (spLShrunk K)) : FnOk P w K mg base CX0 2 f fd ["_law_pair_here", "_law_seam"] (spLFound K) := by
  refine F.ok scLFound (fun vs H Q E h => ?_) (fun cdv A outer s H vs Q E hr h => ?_)
  · obtain ⟨v, seam, g, rfl, _⟩ := h
    rfl
  · obtain ⟨v, seam, g, rfl, hg, vg, k⟩ := h
    obtain ⟨a, x, o, rfl, ha, hx, ho⟩ := id hg
    obtain ⟨ax, rfl, hax⟩ := id hx.seq
    obtain ⟨ao, rfl, hao⟩ := id ho.seq
    have hn : (nums g.1).length = g.1.length := nums_len _
    have h1 := vg.most
    have h2 := vg.two
    have hp0 : (0 : Int) < ((nums g.1).length : Int) := by omega
    refine ⟨_, (pss_cons (ps_set (i := 2) scLFound.nd rfl (Or.inl rfl) (pe_callB (lenS K) (by rfl) B.len PySem.boot_len (pa_cons (pe_ix (ixT K) (pv 0) pe_int (fun _ _ => rfl)) pa_nil)))
      (pss_cons (ps_set (i := 3) scLFound.nd rfl (Or.inl rfl) (pe_lst pa_nil))
      (pss_cons (ps_for PassesOwn.never rfl (pi_range1 (by rfl) B.range (pa_cons (pv 2) pa_nil)) (pg_name (i := 4) scLFound.nd rfl (by first | exact Or.inl rfl | exact Or.inr rfl)) (pss_cons (ps_if (PW.pt (pw_or (pt_val (pv 1)) (pw_or1 (pt_cmpR op_lt (pe_op op_add (pv 4) pe_int) (pv 2) (nomark _))))) (pss_one (ps_expr (pe_bm PySem.F.plainAttrs_list PySem.F.slot_list_append PySem.F.type_list_append mt_append (pv 3) (pa_cons (pe_cd D__law_swapped (hr.mono (by decide)) rfl (pa_cons (pv 0) (pa_cons (pv 4) (pa_cons (pe_op op_mod (pe_callTy call_int1 (by rfl) B.int (by decide +kernel) (pa_cons (pe_op op_add (pv 4) pe_int) pa_nil)) (pv 2)) pa_nil)))) pa_nil)))) pss_nil)
      (pss_one (ps_if (PW.pt (pw_or (pt_val (pv 1)) (pw_or1 (pt_cmpR op_eq (pe_callB call_abs (by rfl) B.abs (by decide +kernel) (pa_cons (pe_op op_sub (pe_ix (ixT K) (pe_ix (ixT K) (pv 0) pe_int (fun _ _ => rfl)) (pv 4) (fun _ _ => rfl)) (pe_ix (ixT K) (pe_ix (ixT K) (pv 0) pe_int (fun _ _ => rfl)) (pv 4) (fun _ _ => rfl))) pa_nil)) pe_int (nomark _))))) (pss_one (ps_expr (pe_bm PySem.F.plainAttrs_list PySem.F.slot_list_append PySem.F.type_list_append mt_append (pv 3) (pa_cons (pe_cd D__law_shrunk (hr.mono (by decide)) rfl (pa_cons (pv 0) (pa_cons (pv 4) pa_nil))) pa_nil)))) pss_nil))))
      (pss_one (ps_ret (pe_lc (own := [("_law_told", 5)]) (by rfl) scLFound.nd (piL K (pv 3)) (blkOk_by (by kernel_rfl)) (fun _ _ _ _ _ => (pg_name (i := 5) scLFound.nd rfl (by first | exact Or.inl rfl | exact Or.inr rfl))) (fun _ _ _ _ _ => pts_one (pt_cmpR op_notN (pv 5) pe_non (nomark _))) (fun _ _ _ _ _ => (pv 5)))))))), ?_⟩
    refine ⟨_, rfl, a, _, 0, _, rfl, rfl, ha, rfl, ax, _, rfl, .inr hax, of_decide_eq_true rfl, fun D nD => ?_⟩
    refine ⟨_, rfl, _, rfl, by omega, by omega, for_range (Pv := fun i σ H1 => ∃ v4 v5, σ = [some (.ref a), some (.bl seam), some (.int (nums g.1).length), some (.ref D), v4, v5] ∧ SameBut D (upd H D (.lst [])) H1 ∧ ∃ l, H1 D = some (.lst l) ∧ EachR (IsO K) ((List.range i).flatMap (lawPer g seam)) l H1 ∧ l.length ≤ 2 * i)
      ⟨none, none, rfl, SameBut.refl _ _, [], upd_same, EachR.nil, Nat.le_refl _⟩ ?_ ?_⟩
    · rintro i σ H1 hi ⟨v4, v5, rfl, sb, l, hD, er, ll⟩
      have hi : i < g.1.length := by
        have : i < (nums g.1).length := hi
        omega
      have eP : (List.range (i + 1)).flatMap (lawPer g seam) = (List.range i).flatMap (lawPer g seam) ++ lawPer g seam i := by
        rw [List.range_succ, List.flatMap_append]
        simp
      have e0 : (0 : Int) + (i : Nat) = (i : Nat) := Int.zero_add _
      have ej : ((i : Nat) + 1 : Int) % ((nums g.1).length : Int) = (((i + 1) % g.1.length : Nat) : Int) := by
        rw [hn]
        rfl
      have eqv : [V.ref a, V.int (0 + (i : Nat)), V.int ((0 + (i : Nat) + 1) % ((nums g.1).length : Int))] = [V.ref a, V.int (i : Nat), V.int (((i + 1) % g.1.length : Nat) : Int)] := by
        rw [e0, ej]
      have eqv2 : [V.ref a, V.int (0 + (i : Nat))] = [V.ref a, V.int (i : Nat)] := by rw [e0]
      have KG : ∀ H2, SameBut D (upd H D (.lst [])) H2 → KT H H2 ∧ IsG K g (.ref a) H2 := fun H2 sb2 => by
        have kt := (kt_same (same_new (o := .lst []) nD)).trans (sb2.kt upd_same)
        exact ⟨kt, hg.kt kt⟩
      cases seam with
      | true =>
        refine ⟨_, rfl, _, rfl, iteT ?_⟩
        obtain ⟨kA1, gA1⟩ := KG _ sb
        refine ⟨_, rfl, .inl ⟨rfl, _, SqL.of hD⟩, _, rfl, _, rfl, _, rfl, _, _, rfl, rfl, .inl ⟨_, rfl, _, rfl, _, _, rfl, rfl, hp0, _, i, (i + 1) % g.1.length, g, eqv, gA1, hi, Nat.mod_lt _ (by omega), h1, vg.l, fun v6 H6 s6 io6 => ⟨D, _, v6, rfl, rfl, s6 _ _ hD, small1000 (by omega), ?_⟩⟩⟩
        have sb6 := (sb.trans (same_but s6 D)).upd (o := .lst (l ++ [v6]))
        have k6 := (kt_same s6).trans (kt_upd (o := .lst (l ++ [v6])) (s6 _ _ hD))
        have hD6 := upd_same (H := H6) (a := D) (o := .lst (l ++ [v6]))
        have er6 := (er.kt fun y v h => h.kt k6).snoc (io6.kt (kt_upd (o := .lst (l ++ [v6])) (s6 _ _ hD)))
        have ll6 : (l ++ [v6]).length ≤ 2 * i + 1 := by
          rw [List.length_append, List.length_singleton]
          omega
        refine ⟨_, rfl, _, rfl, iteT ?_⟩
        obtain ⟨kA2, gA2⟩ := KG _ sb6
        refine ⟨_, rfl, .inl ⟨rfl, _, SqL.of hD6⟩, _, rfl, _, rfl, _, i, g, g.1.length, eqv2, gA2, hi, h1, vg.p1, vg.p2, fun v7 H7 s7 io7 => ⟨D, _, v7, rfl, rfl, s7 _ _ hD6, small1000 (by omega), ?_⟩⟩
        have sb7 := (sb6.trans (same_but s7 D)).upd (o := .lst ((l ++ [v6]) ++ [v7]))
        have k7 := (kt_same s7).trans (kt_upd (o := .lst ((l ++ [v6]) ++ [v7])) (s7 _ _ hD6))
        have hD7 := upd_same (H := H7) (a := D) (o := .lst ((l ++ [v6]) ++ [v7]))
        have er7 := (er6.kt fun y v h => h.kt k7).snoc (io7.kt (kt_upd (o := .lst ((l ++ [v6]) ++ [v7])) (s7 _ _ hD6)))
        have eper : lawPer g true i = [lawSwapped g i ((i + 1) % g.1.length)] ++ [lawShrunk g i] := by
          unfold lawPer
          rw [if_pos (Or.inl rfl), if_pos (Or.inl rfl)]
        refine ⟨_, _, rfl, sb7, _, hD7, ?_, ?_⟩
        · rw [eP, eper]
          simpa using er7
        · try simp only [List.length_append, List.length_singleton]
          omega
      | false =>
        refine ⟨_, rfl, _, rfl, iteF ⟨_, rfl, _, _, rfl, rfl, _, rfl, _, _, rfl, rfl, _, rfl, iteD (fun c1 => ?_) (fun c1 => ?_)⟩⟩
        · have c1 : i + 1 < g.1.length := by omega
          obtain ⟨kA1, gA1⟩ := KG _ sb
          refine ⟨_, rfl, .inl ⟨rfl, _, SqL.of hD⟩, _, rfl, _, rfl, _, rfl, _, _, rfl, rfl, .inl ⟨_, rfl, _, rfl, _, _, rfl, rfl, hp0, _, i, (i + 1) % g.1.length, g, eqv, gA1, hi, Nat.mod_lt _ (by omega), h1, vg.l, fun v6 H6 s6 io6 => ⟨D, _, v6, rfl, rfl, s6 _ _ hD, small1000 (by omega), ?_⟩⟩⟩
          have sb6 := (sb.trans (same_but s6 D)).upd (o := .lst (l ++ [v6]))
          have k6 := (kt_same s6).trans (kt_upd (o := .lst (l ++ [v6])) (s6 _ _ hD))
          have hD6 := upd_same (H := H6) (a := D) (o := .lst (l ++ [v6]))
          have er6 := (er.kt fun y v h => h.kt k6).snoc (io6.kt (kt_upd (o := .lst (l ++ [v6])) (s6 _ _ hD)))
          have ll6 : (l ++ [v6]).length ≤ 2 * i + 1 := by
            rw [List.length_append, List.length_singleton]
            omega
          obtain ⟨kT, gT⟩ := KG _ sb6
          have haT := kT.t ha
          have haxT := kT.t hax
          have haoT := kT.t hao
          refine ⟨_, rfl, _, rfl, iteF ⟨_, rfl, a, _, 0, _, rfl, rfl, haT, rfl, _, rfl, ax, _, _, _, rfl, rfl, haxT, nums_atI e0 hi, _, rfl, a, _, 1, _, rfl, rfl, haT, rfl, _, rfl, ao, _, _, _, rfl, rfl, haoT, nums_atI e0 (by rw [vg.l]; exact hi), _, _, rfl, rfl, _, rfl, rfl, _, rfl, iteD (fun c2 => ?_) (fun c2 => ?_)⟩⟩
          · have c2 := absD.mp (V.int.inj c2)
            obtain ⟨kA2, gA2⟩ := KG _ sb6
            refine ⟨_, rfl, .inl ⟨rfl, _, SqL.of hD6⟩, _, rfl, _, rfl, _, i, g, g.1.length, eqv2, gA2, hi, h1, vg.p1, vg.p2, fun v7 H7 s7 io7 => ⟨D, _, v7, rfl, rfl, s7 _ _ hD6, small1000 (by omega), ?_⟩⟩
            have sb7 := (sb6.trans (same_but s7 D)).upd (o := .lst ((l ++ [v6]) ++ [v7]))
            have k7 := (kt_same s7).trans (kt_upd (o := .lst ((l ++ [v6]) ++ [v7])) (s7 _ _ hD6))
            have hD7 := upd_same (H := H7) (a := D) (o := .lst ((l ++ [v6]) ++ [v7]))
            have er7 := (er6.kt fun y v h => h.kt k7).snoc (io7.kt (kt_upd (o := .lst ((l ++ [v6]) ++ [v7])) (s7 _ _ hD6)))
            have eper : lawPer g false i = [lawSwapped g i ((i + 1) % g.1.length)] ++ [lawShrunk g i] := by
              unfold lawPer
              rw [if_pos (Or.inr c1), if_pos (Or.inr c2)]
            refine ⟨_, _, rfl, sb7, _, hD7, ?_, ?_⟩
            · rw [eP, eper]
              simpa using er7
            · try simp only [List.length_append, List.length_singleton]
              omega
          · have c2 : ¬ (g.1.getD i 0 - g.2.getD i 0).natAbs = 1 := fun z => c2 (congrArg V.int (absD.mpr z))
            have eper : lawPer g false i = [lawSwapped g i ((i + 1) % g.1.length)] ++ ([] : List (Option G)) := by
              unfold lawPer
              rw [if_pos (Or.inr c1), if_neg (fun z => z.elim (fun q => nomatch q) c2)]
            refine ⟨_, _, rfl, sb6, _, hD6, ?_, ?_⟩
            · rw [eP, eper]
              simpa using er6
            · try simp only [List.length_append, List.length_singleton]
              omega
        · have c1 : ¬ i + 1 < g.1.length := by omega
          obtain ⟨kT, gT⟩ := KG _ sb
          have haT := kT.t ha
          have haxT := kT.t hax
          have haoT := kT.t hao
          refine ⟨_, rfl, _, rfl, iteF ⟨_, rfl, a, _, 0, _, rfl, rfl, haT, rfl, _, rfl, ax, _, _, _, rfl, rfl, haxT, nums_atI e0 hi, _, rfl, a, _, 1, _, rfl, rfl, haT, rfl, _, rfl, ao, _, _, _, rfl, rfl, haoT, nums_atI e0 (by rw [vg.l]; exact hi), _, _, rfl, rfl, _, rfl, rfl, _, rfl, iteD (fun c2 => ?_) (fun c2 => ?_)⟩⟩
          · have c2 := absD.mp (V.int.inj c2)
            obtain ⟨kA2, gA2⟩ := KG _ sb
            refine ⟨_, rfl, .inl ⟨rfl, _, SqL.of hD⟩, _, rfl, _, rfl, _, i, g, g.1.length, eqv2, gA2, hi, h1, vg.p1, vg.p2, fun v7 H7 s7 io7 => ⟨D, _, v7, rfl, rfl, s7 _ _ hD, small1000 (by omega), ?_⟩⟩
            have sb7 := (sb.trans (same_but s7 D)).upd (o := .lst (l ++ [v7]))
            have k7 := (kt_same s7).trans (kt_upd (o := .lst (l ++ [v7])) (s7 _ _ hD))
            have hD7 := upd_same (H := H7) (a := D) (o := .lst (l ++ [v7]))
            have er7 := (er.kt fun y v h => h.kt k7).snoc (io7.kt (kt_upd (o := .lst (l ++ [v7])) (s7 _ _ hD)))
            have eper : lawPer g false i = ([] : List (Option G)) ++ [lawShrunk g i] := by
              unfold lawPer
              rw [if_neg (fun z => z.elim (fun q => nomatch q) c1), if_pos (Or.inr c2)]
            refine ⟨_, _, rfl, sb7, _, hD7, ?_, ?_⟩
            · rw [eP, eper]
              simpa using er7
            · try simp only [List.length_append, List.length_singleton]
              omega
          · have c2 : ¬ (g.1.getD i 0 - g.2.getD i 0).natAbs = 1 := fun z => c2 (congrArg V.int (absD.mpr z))
            have eper : lawPer g false i = ([] : List (Option G)) ++ ([] : List (Option G)) := by
              unfold lawPer
              rw [if_neg (fun z => z.elim (fun q => nomatch q) c1), if_neg (fun z => z.elim (fun q => nomatch q) c2)]
            refine ⟨_, _, rfl, sb, _, hD, ?_, ?_⟩
            · rw [eP, eper]
              simpa using er
            · try simp only [List.length_append, List.length_singleton]
              omega
    · rintro σ H1 ⟨v4, v5, rfl, sb, l, hD, er, ll⟩
      have er : EachR (IsO K) ((List.range g.1.length).flatMap (lawPer g seam)) l H1 := by
        have e : ((nums g.1).length : Int).toNat = g.1.length := hn
        rw [e] at er
        exact er
      have ll : l.length ≤ 2 * g.1.length := by
        have e : ((nums g.1).length : Int).toNat = g.1.length := hn
        rw [e] at ll
        exact ll
      refine ⟨_, rfl, D, rfl, ⟨_, SqL.of hD⟩, fun D2 nD2 => ?_⟩
      refine lcL_filter (fun v => !decide (v = .non)) nD2 (SqL.of hD) (small1000 (by omega)) (fun x H2 hx s2 Qb qb => ⟨_, rfl, rfl, _, rfl, qb H2 (Same.refl _)⟩) (fun x H2 K1 hx q1 => ⟨_, rfl, q1⟩) (fun H2 s2 e2 => ?_)
      have ef := each_filter (er.kt fun y v h => h.kt (kt_same s2))
      rw [found_per] at ef
      have s0 := sb.same (same_new nD) nD
      exact k D2 H2 _ (s0.trans s2) (s0.free nD2) e2 ef
end
end Gk
end

section
set_option Elab.async false
set_option linter.all false
set_option maxRecDepth 100000
set_option maxHeartbeats 4000000
namespace Gk
open PySem L2
section
variable {P : Program} {w : World} {K : PySem.W.Frag} {mg : Str → Option Value} {base : Heap}
abbrev sLFirst : Stmt := top 46
-- slots: _law_pair_here 0 _law_n 1 _law_j 2 _law_steps 3 _law_low 4 _law_best 5 _law_told 6
theorem scLFirst : FnScope ["_law_pair_here", "_law_n", "_law_j", "_law_steps", "_law_low", "_law_best", "_law_told"] ["_law_pair_here"] (defScope sLFirst) := ⟨rfl, rfl, rfl, by decide +kernel, rfl, by decide +kernel, by decide +kernel⟩
theorem foldl_mn (l : List Int) : ∀ x : Int, (l.foldl mn x = x ∨ l.foldl mn x ∈ l) ∧ l.foldl mn x ≤ x ∧ ∀ y ∈ l, l.foldl mn x ≤ y := by
  induction l with
  | nil => exact fun x => ⟨.inl rfl, Int.le_refl _, fun y hy => nomatch hy⟩
  | cons a r ih =>
    intro x
    rw [List.foldl_cons]
    obtain ⟨h1, h2, h3⟩ := ih (mn x a)
    have hm : mn x a ≤ x ∧ mn x a ≤ a ∧ (mn x a = x ∨ mn x a = a) := by
      unfold mn
      split <;> omega
    refine ⟨?_, by omega, fun y hy => ?_⟩
    · rcases h1 with h1 | h1
      · rw [h1]
        rcases hm.2.2 with e | e
        · exact .inl e
        · rw [e]
          exact .inr List.mem_cons_self
      · exact .inr (List.mem_cons_of_mem _ h1)
    · rcases List.mem_cons.mp hy with rfl | hy
      · omega
      · exact h3 y hy
theorem leastI_eq {l : List Int} {m : Int} (hm : m ∈ l) (hle : ∀ y ∈ l, m ≤ y) : m = leastI l := by
  cases l with
  | nil => cases hm
  | cons x r =>
    obtain ⟨h1, h2, h3⟩ := foldl_mn r x
    show m = r.foldl mn x
    have hin : r.foldl mn x ∈ x :: r := by
      rcases h1 with h1 | h1
      · rw [h1]
        exact List.mem_cons_self
      · exact List.mem_cons_of_mem _ h1
    have a := hle _ hin
    have b : r.foldl mn x ≤ m := by
      rcases List.mem_cons.mp hm with rfl | hm
      · exact h2
      · exact h3 m hm
    omega
def fstep (g : G) (best : Option G) (j : Nat) : Option G := if (lawSteps g).getD j 0 = leastI (lawSteps g) then
      (match best with
      | none => some (turned g j (g.1.getD j 0))
      | some b => if ltG (turned g j (g.1.getD j 0)) b = true then some (turned g j (g.1.getD j 0)) else best)
    else best
def fb (g : G) (i : Nat) : Option G := (List.range i).foldl (fstep g) none
theorem fb_succ (g : G) (i : Nat) : fb g (i + 1) = fstep g (fb g i) i := by
  unfold fb
  rw [List.range_succ, List.foldl_append]
  rfl
theorem fb_all (g : G) : fb g g.1.length = lawFirst g := rfl
def spLFirst (K : PySem.W.Frag) : Sp := fun vs H Q _ => ∃ (v : V) (g : G), vs = [v] ∧ IsG K g v H ∧ VG g ∧ ∀ v' H', Same H H' → IsO K (lawFirst g) v' H' → Q v' H'
theorem ok_lfirst {f : Addr} {fd : FuncData} (F : Fun K "_law_first" "_law_first" sLFirst f fd) (B : Bl mg) (D__law_turned : DefOk P w K mg base "_law_turned" 1 ["_law_pair_here", "_law_a", "_law_b"] (spLTurned K)) : FnOk P w K mg base CX0 2 f fd ["_law_pair_here"] (spLFirst K) := by
  refine F.ok scLFirst (fun vs H Q E h => ?_) (fun cdv A outer s H vs Q E hr h => ?_)
  · obtain ⟨v, g, rfl, _⟩ := h
    rfl
  · obtain ⟨v, g, rfl, hg, vg, k⟩ := h
    obtain ⟨a, x, o, rfl, ha, hx, ho⟩ := id hg
    obtain ⟨ax, rfl, hax⟩ := id hx.seq
    have hn : (nums g.1).length = g.1.length := nums_len _
    have h1 := vg.most
    have h2 := vg.two
    have hp0 : (0 : Int) < ((nums g.1).length : Int) := by omega
    refine ⟨_, (pss_cons (ps_set (i := 1) scLFirst.nd rfl (Or.inr rfl) (pe_callB (lenS K) (by rfl) B.len PySem.boot_len (pa_cons (pe_ix (ixT K) (pv 0) pe_int (fun _ _ => rfl)) pa_nil)))
      (pss_cons (ps_setLc (i := 3) (own := [("_law_j", 2)]) rfl scLFirst.nd rfl rfl (sw_true rfl rfl rfl (by decide +kernel)) (pi_range1 (by rfl) B.range (pa_cons (pv 1) pa_nil)) (blkOk_by (by kernel_rfl)) (fun _ _ _ _ _ => (pg_name (i := 2) scLFirst.nd rfl (by first | exact Or.inl rfl | exact Or.inr rfl))) (fun _ _ _ _ _ => pts_nil) (fun _ _ _ _ _ => (pe_op op_mod (pe_callTy call_int1 (by rfl) B.int (by decide +kernel) (pa_cons (pe_op op_sub (pe_ix (ixT K) (pe_ix (ixT K) (pv 0) pe_int (fun _ _ => rfl)) (pe_op op_mod (pe_callTy call_int1 (by rfl) B.int (by decide +kernel) (pa_cons (pe_op op_add (pv 2) pe_int) pa_nil)) (pv 1)) (fun _ _ => rfl)) (pe_ix (ixT K) (pe_ix (ixT K) (pv 0) pe_int (fun _ _ => rfl)) (pv 2) (fun _ _ => rfl))) pa_nil)) (pv 1))))
      (pss_cons (ps_set (i := 4) scLFirst.nd rfl (Or.inl rfl) (pe_callB (minI K rfl) (by rfl) B.min (by decide +kernel) (pa_cons (pv 3) pa_nil)))
      (pss_cons (ps_set (i := 5) scLFirst.nd rfl (Or.inl rfl) pe_non)
      (pss_cons (ps_for PassesOwn.never rfl (pi_range1 (by rfl) B.range (pa_cons (pv 1) pa_nil)) (pg_name (i := 2) scLFirst.nd rfl (by first | exact Or.inl rfl | exact Or.inr rfl)) (pss_one (ps_if (pt_cmpR op_eq (pe_ix (ixL K) (pv 3) (pv 2) (fun _ _ => rfl)) (pv 4) (nomark _)) (pss_cons (ps_set (i := 6) scLFirst.nd rfl (Or.inl rfl) (pe_cd D__law_turned (hr.mono (by decide)) rfl (pa_cons (pv 0) (pa_cons (pv 2) (pa_cons (pe_ix (ixT K) (pe_ix (ixT K) (pv 0) pe_int (fun _ _ => rfl)) (pv 2) (fun _ _ => rfl)) pa_nil)))))
      (pss_one (ps_if (PW.pt (pw_or (pt_cmpR op_isN (pv 5) pe_non (nomark _)) (pw_or1 (pt_cmpR (ltP K (hu64 hr)) (pv 6) (pv 5) (nomark _))))) (pss_one (ps_set (i := 5) scLFirst.nd rfl (Or.inl rfl) (pv 6))) pss_nil))) pss_nil)))
      (pss_one (ps_ret (pv 5)))))))), ?_⟩
    refine ⟨_, rfl, a, _, 0, _, rfl, rfl, ha, rfl, ax, _, rfl, .inr hax, ?_⟩
    -- steps
    refine ⟨_, rfl, _, rfl, by omega, by omega, fun D nD => ?_⟩
    refine lcR_ints (fun (j : Nat) => (g.1.getD (((j : Int) + 1) % (g.1.length : Int)).toNat 0 - g.1.getD j 0) % (g.1.length : Int)) nD (small_len (by simp; omega)) (fun j H1 hj s1 K1 q1 => ?_) (fun H1 s1 e1 => ?_)
    · have hj : j < g.1.length := by
        have : j < (nums g.1).length := hj
        omega
      obtain ⟨k2, e2, e3, e4⟩ := mod_nat (z := (0 + (j : Int)) + 1) (n := g.1.length) (by omega)
      have ha1 := (kt_same s1).t ha
      have hax1 := (kt_same s1).t hax
      refine ⟨_, rfl, a, _, 0, _, rfl, rfl, ha1, rfl, _, rfl, _, _, rfl, rfl, .inl ⟨_, rfl, _, rfl, _, _, rfl, rfl, hp0, ax, _, _, _, rfl, rfl, hax1, nums_atI (i := k2) (by rw [hn]; exact e2) (by omega), _, rfl, a, _, 0, _, rfl, rfl, ha1, rfl, _, rfl, ax, _, _, _, rfl, rfl, hax1, nums_atI (Int.zero_add _) hj, _, _, rfl, rfl, .inl ⟨_, rfl, _, rfl, _, _, rfl, rfl, hp0, ?_⟩⟩⟩
      show K1 (.int ((g.1.getD k2 0 - g.1.getD j 0) % ((nums g.1).length : Int))) H1
      rw [hn]
      rw [Int.zero_add] at e4
      rw [e4]
      exact q1 H1 (Same.refl _)
    · have e1 : H1 D = some (.lst (nums (lawSteps g))) := by
        have e : ((nums g.1).length : Int).toNat = g.1.length := hn
        rw [e] at e1
        exact e1
      have sl : (lawSteps g).length = g.1.length := by simp [lawSteps]
      -- low
      refine ⟨_, rfl, D, lawSteps g, rfl, SqL.of e1, by omega, fun m hm hle => ?_⟩
      have em := leastI_eq hm hle
      refine ⟨_, rfl, _, rfl, by omega, by omega, for_range (Pv := fun i σ H2 => ∃ v2 v5 v6, σ = [some (.ref a), some (.int (nums g.1).length), v2, some (.ref D), some (.int m), some v5, v6] ∧ Same H1 H2 ∧ IsO K (fb g i) v5 H2)
        ⟨none, .non, none, rfl, Same.refl _, rfl⟩ ?_ ?_⟩
      · rintro i σ H2 hi ⟨v2, v5, v6, rfl, s2, io⟩
        have hi : i < g.1.length := by
          have : i < (nums g.1).length := hi
          omega
        have e0 : (0 : Int) + (i : Nat) = (i : Nat) := Int.zero_add _
        have eD := s2 _ _ e1
        have kt := kt_same (s1.trans s2)
        have efb := fb_succ g i
        refine ⟨_, rfl, _, rfl, D, _, _, _, rfl, rfl, SqL.of eD, nums_atI e0 (by omega), _, rfl, rfl, _, rfl, iteD (fun c1 => ?_) (fun c1 => ?_)⟩
        · have c1 : (lawSteps g).getD i 0 = leastI (lawSteps g) := (V.int.inj c1).trans em
          refine ⟨_, rfl, _, rfl, _, rfl, a, _, 0, _, rfl, rfl, kt.t ha, rfl, _, rfl, ax, _, _, _, rfl, rfl, kt.t hax, nums_atI e0 hi, _, _, _, g, rfl, hg.kt kt, by omega, h1, vg.l, fun v' H3 s3 g3 => ?_⟩
          rw [e0] at g3
          cases hfb : fb g i with
          | none =>
            rw [hfb] at io efb
            have io : v5 = .non := io
            subst io
            have efb : fb g (i + 1) = some (turned g i (g.1.getD i 0)) := efb.trans (if_pos c1)
            refine ⟨_, rfl, rfl, _, rfl, iteT ⟨_, rfl, _, _, _, rfl, s2.trans s3, ?_⟩⟩
            rw [efb]
            exact g3
          | some b =>
            rw [hfb] at io efb
            have io : IsG K b v5 H2 := io
            obtain ⟨b1, b2, b3, rfl, brest⟩ := id io
            have efb : fb g (i + 1) = if ltG (turned g i (g.1.getD i 0)) b = true then some (turned g i (g.1.getD i 0)) else some b := efb.trans (if_pos c1)
            refine ⟨_, rfl, rfl, _, rfl, iteF ⟨_, rfl, _, rfl, _, b, g3, io.kt (kt_same s3), _, rfl, ?_⟩⟩
            cases hlt : ltG (turned g i (g.1.getD i 0)) b with
            | true =>
              rw [if_pos hlt] at efb
              refine iteT ⟨_, rfl, _, _, _, rfl, s2.trans s3, ?_⟩
              rw [efb]
              exact g3
            | false =>
              rw [if_neg (by rw [hlt]; decide)] at efb
              refine iteF ⟨_, _, _, rfl, s2.trans s3, ?_⟩
              rw [efb]
              exact io.kt (kt_same s3)
        · have c1 : ¬ (lawSteps g).getD i 0 = leastI (lawSteps g) := fun z => c1 (congrArg V.int (z.trans em.symm))
          refine ⟨_, _, _, rfl, s2, ?_⟩
          rw [efb, show fstep g (fb g i) i = fb g i from if_neg c1]
          exact io
      · rintro σ H2 ⟨v2, v5, v6, rfl, s2, io⟩
        refine ⟨_, rfl, k _ _ (s1.trans s2) ?_⟩
        have e : ((nums g.1).length : Int).toNat = g.1.length := hn
        rw [e, fb_all] at io
        exact io
abbrev sLNext : Stmt := top 55
-- slots: _law_pair_here 0 _law_seam 1 _law_found_here 2 _law_told 3
theorem scLNext : FnScope ["_law_pair_here", "_law_seam", "_law_found_here", "_law_told"] ["_law_pair_here", "_law_seam"] (defScope sLNext) := ⟨rfl, rfl, rfl, by decide +kernel, rfl, by decide +kernel, by decide +kernel⟩
structure NxOk (g : G) (seam : Bool) : Prop where
  a : VG g
  b : ∀ t ∈ lawFound g seam, VG t ∧ lawFirst t = some (first t)
  c : VG (across g)
  d : ∀ t ∈ lawFound (across g) seam, VG t ∧ lawFirst (across t) = some (first (across t)) ∧ VG (across t)
def spLNext (K : PySem.W.Frag) : Sp := fun vs H Q _ => ∃ (v : V) (seam : Bool) (g : G), vs = [v, .bl seam] ∧ IsG K g v H ∧ NxOk g seam ∧ ToList (IsG K) (lawNext g seam) H Q
theorem found_len (g : G) (seam : Bool) : (lawFound g seam).length ≤ 2 * g.1.length := by
  rw [← found_per]
  refine Nat.le_trans (List.length_filterMap_le _ _) ?_
  have : ∀ l : List Nat, (l.flatMap (lawPer g seam)).length ≤ 2 * l.length := fun l => by
    induction l with
    | nil => exact Nat.le_refl _
    | cons i r ih =>
      rw [List.flatMap_cons, List.length_append, List.length_cons]
      have : (lawPer g seam i).length ≤ 2 := by
        unfold lawPer
        rw [List.length_append]
        split <;> split <;> simp
      omega
  have := this (List.range g.1.length)
  rw [List.length_range] at this
  exact this
theorem ok_lnext {f : Addr} {fd : FuncData} (F : Fun K "_law_next" "_law_next" sLNext f fd) (B : Bl mg) (D__law_found : DefOk P w K mg base "_law_found" 2 ["_law_pair_here", "_law_seam"] (spLFound K)) (D__law_first : DefOk P w K mg base "_law_first" 2 ["_law_pair_here"] (spLFirst K)) (D__law_across : DefOk P w K mg base "_law_across" 1 ["_law_pair_here"] (spAcross K)) : FnOk P w K mg base CX0 3 f fd ["_law_pair_here", "_law_seam"] (spLNext K) := by
  refine F.ok scLNext (fun vs H Q E h => ?_) (fun cdv A outer s H vs Q E hr h => ?_)
  · obtain ⟨v, seam, g, rfl, _⟩ := h
    rfl
  · obtain ⟨v, seam, g, rfl, hg, nx, k⟩ := h
    have la := nx.a.most
    have lc := nx.c.most
    have z1 := found_len g seam
    have z2 := found_len (across g) seam
    refine ⟨_, (pss_cons (ps_setLc (i := 2) (own := [("_law_told", 3)]) rfl scLNext.nd rfl rfl (sw_true rfl rfl rfl (by decide +kernel)) (piL K (pe_cd D__law_found (hr.mono (by decide)) rfl (pa_cons (pv 0) (pa_cons (pv 1) pa_nil)))) (blkOk_by (by kernel_rfl)) (fun _ _ _ _ _ => (pg_name (i := 3) scLNext.nd rfl (by first | exact Or.inl rfl | exact Or.inr rfl))) (fun _ _ _ _ _ => pts_nil) (fun _ _ _ _ _ => (pe_cd D__law_first (hr.mono (by decide)) rfl (pa_cons (pv 3) pa_nil))))
      (pss_one (ps_ret (pe_op op_cat (pv 2) (pe_lc (own := [("_law_told", 3)]) (by rfl) scLNext.nd (piL K (pe_cd D__law_found (hr.mono (by decide)) rfl (pa_cons (pe_cd D__law_across (hr.mono (by decide)) rfl (pa_cons (pv 0) pa_nil)) (pa_cons (pv 1) pa_nil)))) (blkOk_by (by kernel_rfl)) (fun _ _ _ _ _ => (pg_name (i := 3) scLNext.nd rfl (by first | exact Or.inl rfl | exact Or.inr rfl))) (fun _ _ _ _ _ => pts_nil) (fun _ _ _ _ _ => (pe_cd D__law_first (hr.mono (by decide)) rfl (pa_cons (pe_cd D__law_across (hr.mono (by decide)) rfl (pa_cons (pv 3) pa_nil)) pa_nil)))))))), ?_⟩
    refine ⟨_, rfl, _, rfl, _, seam, g, rfl, hg, nx.a, fun p1 H1 l1 s1 n1 e1 r1 => ?_⟩
    refine ⟨p1, rfl, ⟨_, SqL.of e1⟩, fun D nD => ?_⟩
    have zl1 := r1.1
    refine lcL_map (fun i y H => ∃ t, (lawFound g seam)[i]? = some t ∧ IsG K (first t) y H) nD (SqL.of e1) (small1000 (by omega)) (fun i v H H' e ⟨t, h1, h2⟩ => ⟨t, h1, h2.kt e⟩) (fun i x H2 hx s2 K2 q2 => ?_) (fun H2 l2 s2 e2 hl2 hp2 => ?_)
    · obtain ⟨t, ht, it⟩ := r1.at hx
      have nt := nx.b t (List.mem_of_getElem? ht)
      refine ⟨_, rfl, _, t, rfl, it.kt (kt_same s2), nt.1, fun v' H' s' io => ?_⟩
      rw [nt.2] at io
      exact q2 _ _ s' ⟨t, ht, io⟩
    · have r2 : EachR (IsG K) ((lawFound g seam).map first) l2 H2 := EachR.by_map (by rw [hl2, zl1]) fun i v z a b => by
        obtain ⟨t, h1, h2⟩ := hp2 i v a
        rw [b] at h1
        cases h1
        exact h2
      have s12 := s1.trans s2
      -- the second half
      refine ⟨_, rfl, _, rfl, _, g, rfl, hg.kt (kt_same s12), nx.a, fun v3 H3 s3 g3 => ?_⟩
      refine ⟨_, rfl, _, seam, across g, rfl, g3, nx.c, fun p4 H4 l4 s4 n4 e4 r4 => ?_⟩
      refine ⟨p4, rfl, ⟨_, SqL.of e4⟩, fun D2 nD2 => ?_⟩
      have zl4 := r4.1
      have ca : (across g).1.length = g.1.length := by
        show (acrossRow g.1).length = _
        exact acr_len g.1 g.1.length
      refine lcL_map (fun i y H => ∃ t, (lawFound (across g) seam)[i]? = some t ∧ IsG K (first (across t)) y H) nD2 (SqL.of e4) (small1000 (by omega)) (fun i v H H' e ⟨t, h1, h2⟩ => ⟨t, h1, h2.kt e⟩) (fun i x H5 hx s5 K5 q5 => ?_) (fun H5 l5 s5 e5 hl5 hp5 => ?_)
      · obtain ⟨t, ht, it⟩ := r4.at hx
        have nt := nx.d t (List.mem_of_getElem? ht)
        refine ⟨_, rfl, _, t, rfl, it.kt (kt_same s5), nt.1, fun v' H' s' ga => ⟨_, across t, rfl, ga, nt.2.2, fun v'' H'' s'' io => ?_⟩⟩
        rw [nt.2.1] at io
        exact q5 _ _ (s'.trans s'') ⟨t, ht, io⟩
      · have r5 : EachR (IsG K) ((lawFound (across g) seam).map fun t => first (across t)) l5 H5 := EachR.by_map (by rw [hl5, zl4]) fun i v z a b => by
          obtain ⟨t, h1, h2⟩ := hp5 i v a
          rw [b] at h1
          cases h1
          exact h2
        have s35 := s3.trans (s4.trans s5)
        refine ⟨D, D2, _, _, rfl, rfl, s35 _ _ e2, e5, by rw [hl2, hl5]; exact Nat.le_of_lt (small1000 (by omega)), fun q nq => ?_⟩
        have sq : Same H5 _ := same_new (o := .lst (l2 ++ l5)) nq
        exact k q _ _ (s12.trans (s35.trans sq)) (s12.free (s35.free nq)) upd_same ((r2.kt fun y v h => h.kt (kt_same (s35.trans sq))).append (r5.kt fun y v h => h.kt (kt_same sq)))
end
end Gk
end

section
set_option Elab.async false
set_option linter.all false
set_option maxRecDepth 100000
set_option maxHeartbeats 4000000
namespace Gk
open PySem L2
section
variable {P : Program} {w : World} {K : PySem.W.Frag} {mg : Str → Option Value} {base : Heap}
section
variable {X : Cx}
def tSortLam (K : PySem.W.Frag) (T : List (Addr × Str)) (te : TE) : TE := fun σ H Q => te σ H fun x H1 => ∃ l, [x] = [V.ref l] ∧ LamX.Tabs T H1 ∧ ∀ H2, LamX.ExtN H1 H2 → LamX.Tabs T H2 → Sorts K l H2 Q
theorem sortLam (K : PySem.W.Frag) {T : List (Addr × Str)} {c Pt : Addr} {qn : Str} {pq : Pos} {te : TE} {x : Str} {params : Arguments} {scope : Scope} {p0 p1 p2 p3 p4 p5 p6 p7 lpos kpos pos : Pos} {j k : Nat} (TB : LamX.TabB X.base X.mg c Pt) (hcode : X.env.code = .ref c)
    (hm : (Pt, X.env.qual ++ "<lambda>") ∈ T) (hu : ∀ p ∈ T, p.1 = Pt → p.2 = X.env.qual ++ "<lambda>") (hlen : X.mg "len" = none) (hsd : X.mg "sorted" = none) (hd : X.A.depth < recursionLimit) (hun : X.A.units + 64 < cLine) (he : PE X (.Name qn pq) te)
    (hg : Gl X "sorted") (hdef : defaultsOf params X.env = ([], [])) (hfree : ∀ y ∈ scope.names, y.2 ≠ .free) (hco : scope.isCoroutine = false) (hgen : scope.isGenerator = false) (hk : scope.kind = .function) (hcell : ∀ y ∈ scope.names, y.2 ≠ NameKind.cell)
    (hloc : scope.names.lookup x = some .local) (hlg : scope.names.lookup ("len" : Str) = some .globalImplicit)
    (hbind : ∀ (q : Str) (clo : List (Str × Addr)) (pm cv ctv u : Value), bindArgs (PySem.W.kla_fn "<lambda>" q params (.Tuple [.Call (.Name "len" p1) [.Subscript (.Name x p2) (.Constant (.int 0) j p3) p4] [] p5, .Name x p6] k p7) scope clo pm cv ctv) ⟨[u], []⟩ = pure [(x, u)]) (hdb : (x == ("__debug__" : Str)) = false) (hK : X.K = K := by rfl) :
    PE X (.Call (.Name "sorted" p0) [.Name qn pq] [⟨some "key", .Lambda params (.Tuple [.Call (.Name "len" p1) [.Subscript (.Name x p2) (.Constant (.int 0) j p3) p4] [] p5, .Name x p6] k p7) scope lpos, kpos⟩] pos) (tSortLam K T te) := by
  subst hK
  refine ⟨fun pins s σ H Q I h => ?_⟩
  refine wpAny_Call_Name_kw (ld_blt I hg hsd (u := .builtin "sorted") (by decide +kernel) ?_)
  refine PyProof.Rows.callWith_kw (thn ((pa_cons he pa_nil).run pos pins s σ H (fun vs H1 => ∃ l, vs = [.ref l] ∧ LamX.Tabs T H1 ∧ ∀ H2, LamX.ExtN H1 H2 → LamX.Tabs T H2 → Sorts X.K l H2 Q) I ?_) fun us s1 ⟨vs, H1, I1, r1, l, ev, hT, q⟩ => ?_) (by rfl) (by rfl) (by rfl) (by rfl)
  · exact h
  · subst ev
    obtain rfl := Vals.ref1 r1
    show wpAny _ _ (evalAll [(do let v ← eval (.Lambda params _ scope lpos) X.env; standAt pos; pure v)]) _ _ s1
    refine wpAny_evalAll_cons (wpAny_bind (LamX.lam_make2 I1 TB hcode hm hu hT hdef (fun y hy z => absurd z (hfree y hy)) fun f c' pm ctv H2 s2 I2 eN T2 hf hfn hfr hcd => wpAny_bind (wpAny_standAt (wpAny_pure (wpAny_evalAll_nil ?_)))))
    exact sort_run I2 hun (key_lam I2 hf hcd hco hgen hk hcell hloc hlg (hbind _ _ _ _ _) hdb hlen hd) (q H2 eN T2)
end
/-- but for two objects all is kept -/
def SB2 (D E : Addr) (H H' : Hp) : Prop := ∀ b o, b ≠ D → b ≠ E → H b = some o → H' b = some o
theorem SB2.refl (D E : Addr) (H : Hp) : SB2 D E H H := fun _ _ _ _ h => h
theorem SB2.trans {D E : Addr} {H H1 H2 : Hp} (a : SB2 D E H H1) (b : SB2 D E H1 H2) : SB2 D E H H2 := fun c o n m h => b c o n m (a c o n m h)
theorem sb2_same {H H' : Hp} (e : Same H H') (D E : Addr) : SB2 D E H H' := fun b o _ _ h => e b o h
theorem SB2.updD {D E : Addr} {H H' : Hp} {o : HO} (e : SB2 D E H H') : SB2 D E H (upd H' D o) := fun b u n m h => (upd_ne n).trans (e b u n m h)
theorem SB2.updE {D E : Addr} {H H' : Hp} {o : HO} (e : SB2 D E H H') : SB2 D E H (upd H' E o) := fun b u n m h => (upd_ne m).trans (e b u n m h)
theorem SB2.kt {D E : Addr} {H H' : Hp} {l : List V} {o : HO} (e : SB2 D E H H') (h : H D = some (.lst l)) (hE : H E = some o) (n1 : ∀ xs, o ≠ .tup xs) (n2 : ∀ ob u, o ≠ .frz ob u) : KT H H' :=
  ⟨fun b xs hb => e b _ (ne_of hb h (by intro z; cases z)) (fun z => by rw [z, hE] at hb; exact n1 xs (Option.some.inj hb)) hb, fun b ob u hb => e b _ (fun z => by rw [z, h] at hb; cases hb) (fun z => by rw [z, hE] at hb; exact n2 ob u (Option.some.inj hb)) hb⟩
theorem SB2.same {D E : Addr} {H0 H H' : Hp} (e : SB2 D E H H') (s : Same H0 H) (hD : H0 D = none) (hE : H0 E = none) : Same H0 H' := fun b o hb => e b o (ne_of_none hb hD) (ne_of_none hb hE) (s b o hb)
/-- the queue, k of its places looked at -/
structure FamQ (S : List G) (nx : G → List G) (a : G) (qs : List G) (k : Nat) : Prop where
  nd : qs.Nodup
  inS : ∀ x ∈ qs, x ∈ S
  base : a ∈ qs
  reach : ∀ x ∈ qs, Reach nx a x
  done : ∀ (i : Nat) (x : G), i < k → qs[i]? = some x → ∀ y ∈ nx x, y ∈ qs
/-- a place's own turn: j of its neighbours are met -/
structure FamT (S : List G) (nx : G → List G) (a : G) (qs : List G) (k : Nat) (x : G) (j : Nat) : Prop extends FamQ S nx a qs k where
  at_ : qs[k]? = some x
  met : ∀ y ∈ (nx x).take j, y ∈ qs
theorem FamQ.turn {S : List G} {nx : G → List G} {a : G} {qs : List G} {k : Nat} {x : G} (h : FamQ S nx a qs k) (hx : qs[k]? = some x) : FamT S nx a qs k x 0 := ⟨h, hx, fun y hy => by simp at hy⟩
theorem FamT.old {S : List G} {nx : G → List G} {a : G} {qs : List G} {k j : Nat} {x y : G} (h : FamT S nx a qs k x j) (hy : (nx x)[j]? = some y) (hin : y ∈ qs) : FamT S nx a qs k x (j + 1) := by
  refine ⟨h.toFamQ, h.at_, fun z hz => ?_⟩
  rw [List.take_add_one, hy] at hz
  rcases List.mem_append.mp hz with hz | hz
  · exact h.met z hz
  · rw [List.mem_singleton.mp hz]
    exact hin
theorem FamT.new {S : List G} {nx : G → List G} {a : G} {qs : List G} {k j : Nat} {x y : G} (hS : ∀ x ∈ S, ∀ y ∈ nx x, y ∈ S) (h : FamT S nx a qs k x j) (hy : (nx x)[j]? = some y) (hin : y ∉ qs) : FamT S nx a (qs ++ [y]) k x (j + 1) := by
  have hxq : x ∈ qs := List.mem_of_getElem? h.at_
  have hyn : y ∈ nx x := List.mem_of_getElem? hy
  have hk : k < qs.length := (List.getElem?_eq_some_iff.mp h.at_).1
  refine ⟨⟨?_, fun z hz => ?_, List.mem_append_left _ h.base, fun z hz => ?_, fun i z hi hz w hw => ?_⟩, by rw [List.getElem?_append_left hk]; exact h.at_, fun z hz => ?_⟩
  · rw [List.nodup_append]
    exact ⟨h.nd, by simp, fun p hp q hq z => hin (by rw [List.mem_singleton.mp hq] at z; rw [← z]; exact hp)⟩
  · rcases List.mem_append.mp hz with hz | hz
    · exact h.inS z hz
    · rw [List.mem_singleton.mp hz]
      exact hS x (h.inS x hxq) y hyn
  · rcases List.mem_append.mp hz with hz | hz
    · exact h.reach z hz
    · rw [List.mem_singleton.mp hz]
      exact .step (h.reach x hxq) hyn
  · rw [List.getElem?_append_left (by omega)] at hz
    exact List.mem_append_left _ (h.done i z hi hz w hw)
  · rw [List.take_add_one, hy] at hz
    rcases List.mem_append.mp hz with hz | hz
    · exact List.mem_append_left _ (h.met z hz)
    · rw [List.mem_singleton.mp hz]
      simp
theorem FamT.fin {S : List G} {nx : G → List G} {a : G} {qs : List G} {k : Nat} {x : G} (h : FamT S nx a qs k x (nx x).length) : FamQ S nx a qs (k + 1) := by
  refine ⟨h.nd, h.inS, h.base, h.reach, fun i z hi hz w hw => ?_⟩
  by_cases e : i = k
  · subst e
    rw [h.at_] at hz
    cases hz
    exact h.met w (by rw [List.take_length]; exact hw)
  · exact h.done i z (by omega) hz w hw
theorem FamQ.skip {S : List G} {nx : G → List G} {a : G} {qs : List G} {k : Nat} (h : FamQ S nx a qs k) (hk : qs.length ≤ k) : FamQ S nx a qs (k + 1) := by
  refine ⟨h.nd, h.inS, h.base, h.reach, fun i z hi hz w hw => ?_⟩
  have := (List.getElem?_eq_some_iff.mp hz).1
  exact h.done i z (by omega) hz w hw
theorem FamQ.all {S : List G} {nx : G → List G} {a : G} {qs : List G} {k : Nat} (h : FamQ S nx a qs k) (hk : qs.length ≤ k) (x : G) : x ∈ qs ↔ Reach nx a x := by
  refine ⟨h.reach x, fun r => ?_⟩
  induction r with
  | base => exact h.base
  | step _ hy ih =>
    obtain ⟨i, hi, e⟩ := List.mem_iff_getElem.mp ih
    exact h.done i _ (by omega) (by rw [List.getElem?_eq_getElem hi, e]) _ hy
end
end Gk
end

section
set_option Elab.async false
set_option linter.all false
set_option maxRecDepth 100000
set_option maxHeartbeats 4000000
namespace Gk
open PySem L2
section
variable {P : Program} {w : World} {K : PySem.W.Frag} {mg : Str → Option Value} {base : Heap}
structure FunC (K : PySem.W.Frag) (x qual : Str) (st : Stmt) (f : Addr) (fd : FuncData) (c : Addr) : Prop where
  ex : ∃ (oc : Value) (od : Option Addr) (kV doc pm : Value) (an : Option Addr) (ct : Value) (osl : Array (Option Value)),
    fd = PySem.W.fnOf x qual (defArgs st) (defBody st) (defScope st) .none kV doc pm an (.ref c) ct ∧ K.lookup f = some ⟨oc, od, .func fd, osl⟩ ∧ PySem.W.codeIn K (.ref c) qual = true
  kp : PySem.W.keepIn K (.ref f) = true
theorem FunC.ok {x qual : Str} {st : Stmt} {f c : Addr} {fd : FuncData} {N ps : List Str} {k : Nat} {sp : Sp} (F : FunC K x qual st f fd c) (S : FnScope N ps (defScope st)) (len : ∀ vs H Q E, sp vs H Q E → vs.length = ps.length)
    (hbody : ∀ (A : Around) (outer : List Env) (s : Shared) (H : Hp) (vs : List V) (Q : VK) (E : XK), Room k (A.deeper (PyProof.Rows.envOfC qual (defScope st) s.heap.objs.size f (.ref c))) → sp vs H Q E →
      ∃ t, PSs (cxOf CX0 P w K mg base N qual (defScope st) f (.ref c) A outer s H E).nox (defBody st) t ∧ t { nx := fun _ H' => Q .non H', rt := Q } (L2.start N vs) H) : FnOk P w K mg base CX0 (k + 1) f fd ps sp := by
  obtain ⟨oc, od, kV, doc, pm, an, ct, osl, rfl, lk, hcd⟩ := F.ex
  refine fn_of lk hcd S len fun A outer s H vs Q E hr hsp => ?_
  obtain ⟨t, h, q⟩ := hbody A outer s H vs Q E hr hsp
  exact ⟨t, h.nox, q⟩
theorem FunC.toFun {x qual : Str} {st : Stmt} {f c : Addr} {fd : FuncData} (F : FunC K x qual st f fd c) : Fun K x qual st f fd := by
  obtain ⟨oc, od, kV, doc, pm, an, ct, osl, e, lk, hcd⟩ := F.ex
  exact ⟨⟨oc, od, kV, doc, pm, an, _, ct, osl, e, lk, hcd⟩, F.kp⟩
def lamT (Pt : Addr) : List (Addr × Str) := [(Pt, (("_law_family" : Str) ++ ".<locals>.") ++ "<lambda>")]
theorem extn_same {H H' : Hp} (e : Same H H') : LamX.ExtN H H' := .of e
theorem kt_ext {H H' : Hp} (e : LamX.ExtN H H') : KT H H' := ⟨fun b xs h => e b _ h (by intro ps z; cases z), fun b ob u h => e b _ h (by intro ps z; cases z)⟩
abbrev sLFamily : Stmt := top 56
-- slots: _law_pair_here 0 _law_seam 1 _law_queue 2 _law_seen 3 _law_k 4 _law_told 5
theorem scLFamily : FnScope ["_law_pair_here", "_law_seam", "_law_queue", "_law_seen", "_law_k", "_law_told"] ["_law_pair_here", "_law_seam"] (defScope sLFamily) := ⟨rfl, rfl, rfl, by decide +kernel, rfl, by decide +kernel, by decide +kernel⟩
structure DomL (S : List G) (seam : Bool) : Prop where
  ok : ∀ x ∈ S, NxOk x seam
  nx : ∀ x ∈ S, ∀ y ∈ lawNext x seam, y ∈ S
  len : S.length ≤ 399
def spLFamily (K : PySem.W.Frag) (T : List (Addr × Str)) (S : List G) : Sp := fun vs H Q _ => ∃ (v : V) (seam : Bool) (g : G), vs = [v, .bl seam] ∧ IsG K g v H ∧ VG g ∧ lawFirst g = some (first g) ∧ DomL S seam ∧ first g ∈ S ∧ LamX.Tabs T H ∧
  ∀ v' H' qs k, LamX.ExtN H H' → LamX.Tabs T H' → FamQ S (fun x => lawNext x seam) (first g) qs k → qs.length ≤ k → IsPlL K (sortG qs) v' H' → Q v' H'
theorem ok_lfamily {f c Pt : Addr} {fd : FuncData} (F : FunC K "_law_family" "_law_family" sLFamily f fd c) (S : List G) (B : Bl mg) (TB : LamX.TabB base mg c Pt) (D__law_first : DefOk P w K mg base "_law_first" 2 ["_law_pair_here"] (spLFirst K)) (D__law_next : DefOk P w K mg base "_law_next" 3 ["_law_pair_here", "_law_seam"] (spLNext K)) :
    FnOk P w K mg base CX0 4 f fd ["_law_pair_here", "_law_seam"] (spLFamily K (lamT Pt) S) := by
  refine F.ok scLFamily (fun vs H Q E h => ?_) (fun A outer s H vs Q E hr h => ?_)
  · obtain ⟨v, seam, g, rfl, _⟩ := h
    rfl
  · obtain ⟨v, seam, g, rfl, hg, vg, ef, dom, gS, hT, k⟩ := h
    have dep := hr.depth
    refine ⟨_, (pss_cons (ps_set (i := 2) scLFamily.nd rfl (Or.inl rfl) (pe_lst (pa_cons (pe_cd D__law_first (hr.mono (by decide)) rfl (pa_cons (pv 0) pa_nil)) pa_nil)))
      (pss_cons (ps_set (i := 3) scLFamily.nd rfl (Or.inl rfl) (dispN (hu64 hr) (pe_ix (ixL K) (pv 2) pe_int (fun _ _ => rfl)) pe_bl))
      (pss_cons (ps_for PassesOwn.never rfl (pi_range1 (by rfl) B.range (pa_cons pe_int pa_nil)) (pg_name (i := 4) scLFamily.nd rfl (by first | exact Or.inl rfl | exact Or.inr rfl)) (pss_one (ps_if (pt_cmpR op_lt (pv 4) (pe_callB (lenS K) (by rfl) B.len PySem.boot_len (pa_cons (pv 2) pa_nil)) (nomark _)) (pss_one (ps_for PassesOwn.never rfl (piL K (pe_cd D__law_next (hr.mono (by decide)) rfl (pa_cons (pe_ix (ixL K) (pv 2) (pv 4) (fun _ _ => rfl)) (pa_cons (pv 1) pa_nil)))) (pg_name (i := 5) scLFamily.nd rfl (by first | exact Or.inl rfl | exact Or.inr rfl)) (pss_one (ps_if (pt_cmpR (ninDN (hu64 hr)) (pv 5) (pv 3) rfl) (pss_cons (ps_asg pe_bl (pg_sub (pv 3) (pv 5) (putDN (hu64 hr))))
      (pss_one (ps_expr (pe_bm PySem.F.plainAttrs_list PySem.F.slot_list_append PySem.F.type_list_append mt_append (pv 2) (pa_cons (pv 5) pa_nil))))) pss_nil)))) pss_nil)))
      (pss_one (ps_ret (sortLam K TB rfl (List.mem_singleton.mpr rfl) (fun p hp _ => by rw [List.mem_singleton.mp hp]) B.len B.sorted dep (hu64 hr) (pv 2) rfl rfl (by decide) rfl rfl rfl (by decide) (by rfl) (by rfl) (fun _ _ _ _ _ _ => rfl) (by decide))))))), ?_⟩
    refine ⟨_, rfl, _, g, rfl, hg, vg, fun v1 H1 s1 io => ⟨of_decide_eq_true rfl, fun D nD => ?_⟩⟩
    rw [ef] at io
    have io : IsG K (first g) v1 H1 := io
    obtain ⟨b1, x1, y1, rfl, rest1⟩ := id io
    obtain ⟨s2, hD2⟩ := new2 (o := .lst [.ref b1]) nD
    refine fun Es nE => ⟨_, rfl, D, _, 0, _, rfl, rfl, SqL.of ((same_new nE) _ _ hD2), rfl, ?_⟩
    obtain ⟨s3, hE3⟩ := new2 (o := DNo P w Es []) nE
    have io3 := io.kt (kt_same (s2.trans s3))
    refine ⟨first g, b1, rfl, hE3, io3, ?_⟩
    have s03 := s1.trans (s2.trans s3)
    have E0 : H Es = none := (s1.trans s2).free nE
    have D0 : H D = none := s1.free nD
    have kd : KT (upd (upd H1 D (.lst [.ref b1])) Es (DNo P w Es [])) (upd (upd (upd H1 D (.lst [.ref b1])) Es (DNo P w Es [])) Es (DNo P w Es [(first g, b1, .bl true)])) := kt_at hE3 (fun xs z => by cases z) (fun ob u z => by cases z)
    have nDE := ne_of_none hD2 nE
    have hD4 := (upd_ne (o := DNo P w Es [(first g, b1, .bl true)]) nDE).trans (s3 _ _ hD2)
    have s04 := same_own (o := DNo P w Es [(first g, b1, .bl true)]) s03 E0
    have io4 := io3.kt kd
    have zS := dom.len
    refine ⟨400, rfl, by decide, by decide, for_range (Pv := fun i σ H4 => ∃ (v4 v5 : Option V) (es : Ents) (l : List V), σ = [some v, some (.bl seam), some (.ref D), some (.ref Es), v4, v5] ∧ Same H H4 ∧ H4 D = some (.lst l) ∧ IsDN P w K H4 Es es ∧ EachR (IsG K) (es.map (·.1)) l H4 ∧ FamQ S (fun x => lawNext x seam) (first g) (es.map (·.1)) i)
      ⟨none, none, [(first g, b1, .bl true)], [.ref b1], rfl, s04, hD4, ⟨upd_same, fun e he => ?_⟩, EachR.one io4, ⟨by simp, fun x hx => ?_, by simp, fun x hx => ?_, fun i x hi => absurd hi (Nat.not_lt_zero _)⟩⟩ ?_ ?_⟩
    · rw [List.mem_singleton.mp he]
      exact io4
    · rw [List.mem_singleton.mp hx]
      exact gS
    · rw [List.mem_singleton.mp hx]
      exact .base
    · rintro i σ H4 hi ⟨v4, v5, es, l, rfl, s4, hD, hE, er, fq⟩
      have e0 : (0 : Int) + (i : Nat) = (i : Nat) := Int.zero_add _
      have ll : l.length = (es.map (·.1)).length := er.1
      refine ⟨_, rfl, _, rfl, D, _, rfl, .inl (SqL.of hD), _, _, rfl, rfl, _, rfl, iteD (fun hlt => ?_) (fun hge => ?_)⟩
      · have hlt : i < l.length := by omega
        obtain ⟨x, hx, ix⟩ := er.at (List.getElem?_eq_getElem hlt)
        have xS := fq.inS x (List.mem_of_getElem? hx)
        refine ⟨_, rfl, _, rfl, D, _, _, _, rfl, rfl, SqL.of hD, at_list e0 hlt, _, rfl, _, seam, x, rfl, ix, dom.ok x xS, fun p3 H3 l3 s3' n3 e3 r3 => ?_⟩
        have hD3 := s3' _ _ hD
        have D3ne : p3 ≠ D := fun z => by rw [z, hD] at n3; cases n3
        have E3ne : p3 ≠ Es := fun z => by rw [z, hE.1] at n3; cases n3
        refine ⟨p3, rfl, ⟨_, SqL.of e3⟩, for_list (K := K) (a := p3) (xs := l3) (fun j σ H5 => ∃ (v5 : Option V) (es' : Ents) (l' : List V), σ = [some v, some (.bl seam), some (.ref D), some (.ref Es), some (.int (0 + (i : Nat))), v5] ∧ SB2 D Es H3 H5 ∧ H5 D = some (.lst l') ∧ IsDN P w K H5 Es es' ∧ EachR (IsG K) (es'.map (·.1)) l' H5 ∧ FamT S (fun x => lawNext x seam) (first g) (es'.map (·.1)) i x j)
          ⟨v5, es, l, rfl, SB2.refl _ _ _, hD3, ⟨s3' _ _ hE.1, fun e he => (hE.2 e he).kt (kt_same s3')⟩, er.kt (fun y v h => h.kt (kt_same s3')), fq.turn hx⟩ (fun j σ H5 hj ⟨_, _, _, _, sb, _⟩ => SqL.of (sb _ _ D3ne E3ne e3)) ?_ ?_⟩
        · rintro j y σ H5 hy ⟨v5', es', l', rfl, sb, hD5, hE5, er5, ft⟩
          obtain ⟨yg, hyg, iy⟩ := r3.at hy
          have kt35 : KT H3 H5 := sb.kt hD3 (s3' _ _ hE.1) (fun xs z => by cases z) (fun ob u z => by cases z)
          have iy5 := iy.kt kt35
          obtain ⟨yb, yx, yo, rfl, yrest⟩ := id iy5
          have len5 := nd_len ft.nd ft.inS
          rw [List.length_map] at len5
          have ll5 : l'.length = es'.length := by rw [er5.1, List.length_map]
          refine ⟨_, rfl, _, rfl, Es, es', yg, yb, rfl, rfl, hE5, iy5, _, rfl, iteDn (fun hnew => ?_) (fun hold => ?_)⟩
          · refine ⟨_, rfl, _, rfl, Es, es', yg, yb, rfl, rfl, hE5, iy5, hnew, small1000 (by omega), ?_⟩
            obtain ⟨k6, hE6, sbE⟩ := at2 (o := DNo P w Es (es' ++ [(yg, yb, .bl true)])) hE5.1 (fun xs z => by cases z) (fun ob u z => by cases z)
            have hD6 := (upd_ne (o := DNo P w Es (es' ++ [(yg, yb, .bl true)])) nDE).trans hD5
            refine ⟨_, rfl, .inl ⟨rfl, _, SqL.of hD6⟩, _, rfl, D, l', _, rfl, rfl, hD6, small1000 (by omega), ?_⟩
            have k7 := k6.trans (kt_upd (o := .lst (l' ++ [.ref yb])) hD6)
            have em : (es' ++ [(yg, yb, V.bl true)]).map (·.1) = es'.map (·.1) ++ [yg] := by simp
            refine ⟨_, es' ++ [(yg, yb, V.bl true)], l' ++ [V.ref yb], rfl, (sb.updE).updD, upd_same, ⟨(upd_ne nDE.symm).trans hE6, fun e he => ?_⟩, ?_, ?_⟩
            · rcases List.mem_append.mp he with he | he
              · exact (hE5.2 e he).kt k7
              · rw [List.mem_singleton.mp he]
                exact iy5.kt k7
            · rw [em]
              exact (er5.kt fun y v h => h.kt k7).snoc (iy5.kt k7)
            · rw [em]
              exact ft.new dom.nx hyg hnew
          · exact ⟨_, es', l', rfl, sb, hD5, hE5, er5, ft.old hyg hold⟩
        · rintro σ H5 ⟨v5', es', l', rfl, sb, hD5, hE5, er5, ft⟩
          have e9 : l3.length = (lawNext x seam).length := r3.1
          rw [e9] at ft
          exact ⟨_, _, es', l', rfl, sb.same (s4.trans s3') D0 E0, hD5, hE5, er5, ft.fin⟩
      · exact ⟨_, _, es, l, rfl, s4, hD, hE, er, fq.skip (by omega)⟩
    · rintro σ H4 ⟨v4, v5, es, l, rfl, s4, hD, hE, er, fq⟩
      refine ⟨_, rfl, D, rfl, hT.ext s4, fun H5 eN T5 => ⟨es.map (·.1), l, SqL.of (eN _ _ hD (fun ps z => by cases z)), er.kt (fun y v h => h.kt (kt_ext eN)), fun p l' np er' => ?_⟩⟩
      have zq := nd_len fq.nd fq.inS
      have s6 : Same H5 (upd H5 p (.lst l')) := same_new np
      refine k _ _ _ _ (((extn_same s4).trans eN).trans (extn_same s6)) (T5.ext s6) fq ?_ ⟨p, l', rfl, upd_same, er'.kt fun y v h => h.kt (kt_same s6)⟩
      have e400 : ((400 : Int)).toNat = 400 := rfl
      rw [e400]
      omega
end
end Gk
end

section
set_option Elab.async false
set_option linter.all false
set_option maxRecDepth 100000
set_option maxHeartbeats 4000000
namespace Gk
open PySem L2
section
variable {P : Program} {w : World} {K : PySem.W.Frag} {mg : Str → Option Value} {base : Heap}
theorem erase_perm : ∀ (l : List Int) (j : Nat) (h : j < l.length), (l[j] :: l.eraseIdx j).Perm l
  | a :: r, 0, _ => List.Perm.refl _
  | a :: r, j + 1, h => by
    have hj : j < r.length := by simpa using h
    exact (List.Perm.swap _ _ _).trans ((erase_perm r j hj).cons a)
theorem perm_pop {E L : List Int} {n j : Nat} (h : (E ++ L).Perm (rangeI n)) (hj : j < L.length) : ((E ++ [L[j]]) ++ L.eraseIdx j).Perm (rangeI n) := by
  refine List.Perm.trans ?_ h
  rw [List.append_assoc]
  exact (erase_perm L j hj).append_left E
theorem range_nd (n : Nat) : (rangeI n).Nodup := by
  unfold rangeI
  exact List.Pairwise.map _ (fun a b h z => h (Int.ofNat.inj z)) List.nodup_range
theorem range_b {n : Nat} {x : Int} (h : x ∈ rangeI n) : 0 ≤ x ∧ x < (n : Int) := by
  obtain ⟨i, hi, rfl⟩ := List.mem_map.mp h
  have := List.mem_range.mp hi
  omega
theorem range_len (n : Nat) : (rangeI n).length = n := by simp [rangeI]
theorem VG.of {E R : List Int} {n : Nat} (h2 : 2 ≤ n) (h5 : n ≤ 100) (hE : E.Perm (rangeI n)) (hR : R.Perm (rangeI n)) (ap : ∀ (i : Nat) (x o : Int), E[i]? = some x → R[i]? = some o → x ≠ o) : VG (E, R) := by
  have lE : E.length = n := by rw [hE.length_eq, range_len]
  have lR : R.length = n := by rw [hR.length_eq, range_len]
  refine ⟨?_, ?_, ?_, fun x hx => ?_, fun x hx => ?_, hE.nodup_iff.mpr (range_nd n), hR.nodup_iff.mpr (range_nd n), ap⟩
  · show 2 ≤ E.length
    omega
  · show E.length ≤ 100
    omega
  · show R.length = E.length
    omega
  · show 0 ≤ x ∧ x < (E.length : Int)
    rw [lE]
    exact range_b (hE.mem_iff.mp hx)
  · show 0 ≤ x ∧ x < (E.length : Int)
    rw [lE]
    exact range_b (hR.mem_iff.mp hx)
theorem rgV_eq (n : Nat) : rgV 0 (n : Int) = nums (rangeI n) := by
  unfold rgV nums rangeI
  rw [List.map_map]
  have e : ((n : Int) - 0).toNat = n := by omega
  rw [e]
  refine List.map_congr_left fun i _ => ?_
  show V.int (0 + (i : Int)) = V.int (i : Int)
  rw [Int.zero_add]
theorem nums_erase (l : List Int) (j : Nat) : (nums l).eraseIdx j = nums (l.eraseIdx j) := by
  exact erase_mapI l j
theorem first_at : ∀ {L : List Int} {y : Int}, y ∈ L → ∃ (j : Nat) (hj : j < L.length), L[j] = y ∧ ∀ m : Nat, m < j → L[m]? ≠ some y
  | a :: r, y, h => by
    by_cases e : a = y
    · exact ⟨0, Nat.succ_pos _, e, fun m hm => absurd hm (Nat.not_lt_zero _)⟩
    · obtain ⟨j, hj, e1, e2⟩ := first_at (L := r) (y := y) (by
        rcases List.mem_cons.mp h with h | h
        · exact absurd h.symm e
        · exact h)
      refine ⟨j + 1, Nat.succ_lt_succ hj, e1, fun m hm => ?_⟩
      cases m with
      | zero => simpa using e
      | succ m => simpa using e2 m (by omega)
theorem two_free {L : List Int} {e : Int} (nd : L.Nodup) (h : 2 ≤ L.length) : 0 < (L.filter fun r => !decide (r = e)).length := by
  match L, nd, h with
  | a :: b :: r, nd, _ =>
    rw [List.nodup_cons] at nd
    by_cases ha : a = e
    · have hb : b ≠ e := fun z => nd.1 (by rw [ha, ← z]; exact List.mem_cons_self)
      exact List.length_pos_of_mem (List.mem_filter.mpr ⟨List.mem_cons_of_mem _ List.mem_cons_self, by simp [hb]⟩)
    · exact List.length_pos_of_mem (List.mem_filter.mpr ⟨List.mem_cons_self, by simp [ha]⟩)
theorem pair_fix {n : Nat} {Ex Rg : List Int} {b : Int} (hE : Ex.Perm (rangeI n)) (hR : (Rg ++ [b]).Perm (rangeI n)) (h2 : 2 ≤ n) (hl : Rg.length = n - 1) (ap : ∀ (m : Nat) (x o : Int), Ex[m]? = some x → Rg[m]? = some o → x ≠ o) (eq : (Rg ++ [b]).getD (n - 1) 0 = Ex.getD (n - 1) 0) :
    ((Rg ++ [b]).take (n - 2) ++ [(Rg ++ [b]).getD (n - 1) 0, (Rg ++ [b]).getD (n - 2) 0]).Perm (rangeI n) ∧ ∀ (m : Nat) (x o : Int), Ex[m]? = some x → ((Rg ++ [b]).take (n - 2) ++ [(Rg ++ [b]).getD (n - 1) 0, (Rg ++ [b]).getD (n - 2) 0])[m]? = some o → x ≠ o := by
  obtain ⟨T, a, rfl⟩ : ∃ T a, Rg = T ++ [a] := by
    rcases List.eq_nil_or_concat Rg with rfl | ⟨T, a, e⟩
    · simp at hl
      omega
    · exact ⟨T, a, by rw [e, List.concat_eq_append]⟩
  have lT : T.length = n - 2 := by
    rw [List.length_append, List.length_singleton] at hl
    omega
  have e1 : (T ++ [a] ++ [b]).take (n - 2) = T := by
    rw [List.append_assoc, ← lT, List.take_left']
    rfl
  have e2 : (T ++ [a] ++ [b]).getD (n - 1) 0 = b := by
    rw [List.getD_eq_getElem?_getD, List.getElem?_append_right (by omega), hl]
    simp
  have e3 : (T ++ [a] ++ [b]).getD (n - 2) 0 = a := by
    rw [List.getD_eq_getElem?_getD, List.append_assoc, List.getElem?_append_right (by omega), lT]
    simp
  rw [e2] at eq
  rw [e1, e2, e3]
  have ndE : Ex.Nodup := hE.nodup_iff.mpr (range_nd n)
  have ndR : (T ++ [a] ++ [b]).Nodup := hR.nodup_iff.mpr (range_nd n)
  have lE : Ex.length = n := by rw [hE.length_eq, range_len]
  refine ⟨?_, fun m x o hx ho => ?_⟩
  · refine List.Perm.trans ?_ hR
    rw [List.append_assoc]
    exact (List.Perm.swap a b []).append_left T
  · have hm := (List.getElem?_eq_some_iff.mp ho).1
    rw [List.length_append, lT] at hm
    simp at hm
    by_cases c1 : m < n - 2
    · rw [List.getElem?_append_left (by omega)] at ho
      exact ap m x o hx (by rw [List.getElem?_append_left (by omega)]; exact ho)
    · rw [List.getElem?_append_right (by omega), lT] at ho
      by_cases c2 : m = n - 2
      · subst c2
        simp at ho
        subst ho
        intro z
        have h1 : Ex[n - 1]? = some b := by
          have hlt : n - 1 < Ex.length := by omega
          rw [List.getElem?_eq_getElem hlt]
          have : Ex.getD (n - 1) 0 = Ex[n - 1] := by rw [List.getD_eq_getElem?_getD, List.getElem?_eq_getElem hlt]; rfl
          rw [← this, ← eq]
        have h2' := List.pairwise_iff_getElem.mp (List.nodup_iff_pairwise_ne.mp ndE) (n - 2) (n - 1) (by omega) (by omega) (by omega)
        obtain ⟨p1, q1⟩ := List.getElem?_eq_some_iff.mp h1
        obtain ⟨p2, q2⟩ := List.getElem?_eq_some_iff.mp hx
        exact h2' (by rw [q1, q2, z])
      · have em : m = n - 1 := by omega
        subst em
        have ee : n - 1 - (n - 2) = 1 := by omega
        rw [ee] at ho
        simp at ho
        subst ho
        have : Ex.getD (n - 1) 0 = x := by rw [List.getD_eq_getElem?_getD, hx]; rfl
        rw [← this, ← eq]
        intro z
        rw [List.nodup_append] at ndR
        exact ndR.2.2 a (by simp) b (by simp) z.symm
abbrev sLPair : Stmt := top 41
-- slots: _law_cell_here 0 _law_n 1 _law_draws_here 2 _law_left 3 _law_exes 4 _law_k 5 _law_rings 6 _law_free 7 _law_r 8
theorem scLPair : FnScope ["_law_cell_here", "_law_n", "_law_draws_here", "_law_left", "_law_exes", "_law_k", "_law_rings", "_law_free", "_law_r"] ["_law_cell_here", "_law_n"] (defScope sLPair) := ⟨rfl, rfl, rfl, by decide +kernel, rfl, by decide +kernel, by decide +kernel⟩
def spLPair (K : PySem.W.Frag) : Sp := fun vs H Q _ => ∃ (c : Int) (n : Nat), vs = [.int c, .int n] ∧ 0 ≤ c ∧ 2 ≤ n ∧ n ≤ 5 ∧ ∀ v' H' g, Same H H' → g.1.length = n → VG g → IsG K g v' H' → Q v' H'
theorem ok_lpair {f : Addr} {fd : FuncData} (F : Fun K "_law_pair" "_law_pair" sLPair f fd) (B : Bl mg) (D__law_draws : DefOk P w K mg base "_law_draws" 1 ["_law_cell_here", "_law_many", "_law_most"] (spDraws K)) : FnOk P w K mg base CX0 2 f fd ["_law_cell_here", "_law_n"] (spLPair K) := by
  refine F.ok scLPair (fun vs H Q E h => ?_) (fun cdv A outer s H vs Q E hr h => ?_)
  · obtain ⟨c, n, rfl, _⟩ := h
    rfl
  · obtain ⟨c, n, rfl, hc, h2, h5, k⟩ := h
    refine ⟨_, (pss_cons (ps_set (i := 2) scLPair.nd rfl (Or.inl rfl) (pe_cd D__law_draws (hr.mono (by decide)) rfl (pa_cons (pv 0) (pa_cons (pe_op op_mul pe_int (pv 1)) (pa_cons pe_int pa_nil)))))
      (pss_cons (ps_set (i := 3) scLPair.nd rfl (Or.inl rfl) (pe_listRg rfl (by rfl) B.list (prg_1 (by rfl) B.range (pv 1))))
      (pss_cons (ps_set (i := 4) scLPair.nd rfl (Or.inr rfl) (pe_lst pa_nil))
      (pss_cons (ps_for PassesOwn.never rfl (pi_range1 (by rfl) B.range (pa_cons (pv 1) pa_nil)) (pg_name (i := 5) scLPair.nd rfl (by first | exact Or.inl rfl | exact Or.inr rfl)) (pss_one (ps_expr (pe_bm PySem.F.plainAttrs_list PySem.F.slot_list_append PySem.F.type_list_append mt_append (pv 4) (pa_cons (pe_bm PySem.F.plainAttrs_list PySem.F.slot_list_pop PySem.F.type_list_pop mt_popAt (pv 3) (pa_cons (pe_op op_mod (pe_callTy call_int1 (by rfl) B.int (by decide +kernel) (pa_cons (pe_ix (ixL K) (pv 2) (pv 5) (fun _ _ => rfl)) pa_nil)) (pe_callB (lenS K) (by rfl) B.len PySem.boot_len (pa_cons (pv 3) pa_nil))) pa_nil)) pa_nil)))))
      (pss_cons (ps_set (i := 3) scLPair.nd rfl (Or.inl rfl) (pe_listRg rfl (by rfl) B.list (prg_1 (by rfl) B.range (pv 1))))
      (pss_cons (ps_set (i := 6) scLPair.nd rfl (Or.inl rfl) (pe_lst pa_nil))
      (pss_cons (ps_for PassesOwn.never rfl (pi_range1 (by rfl) B.range (pa_cons (pe_op op_sub (pv 1) pe_int) pa_nil)) (pg_name (i := 5) scLPair.nd rfl (by first | exact Or.inl rfl | exact Or.inr rfl)) (pss_cons (ps_setLc (i := 7) (own := [("_law_r", 8)]) rfl scLPair.nd rfl rfl (sw_true rfl rfl rfl (by decide +kernel)) (piL K (pv 3)) (blkOk_by (by kernel_rfl)) (fun _ _ _ _ _ => (pg_name (i := 8) scLPair.nd rfl (by first | exact Or.inl rfl | exact Or.inr rfl))) (fun _ _ _ _ _ => pts_one (pt_cmpR op_ne (pv 8) (pe_ix (ixL K) (pv 4) (pv 5) (fun _ _ => rfl)) (nomark _))) (fun _ _ _ _ _ => (pv 8)))
      (pss_cons (ps_expr (pe_bm PySem.F.plainAttrs_list PySem.F.slot_list_append PySem.F.type_list_append mt_append (pv 6) (pa_cons (pe_ix (ixL K) (pv 7) (pe_op op_mod (pe_callTy call_int1 (by rfl) B.int (by decide +kernel) (pa_cons (pe_ix (ixL K) (pv 2) (pe_op op_add (pv 1) (pv 5)) (fun _ _ => rfl)) pa_nil)) (pe_callB (lenS K) (by rfl) B.len PySem.boot_len (pa_cons (pv 7) pa_nil))) (fun _ _ => rfl)) pa_nil)))
      (pss_one (ps_expr (pe_bm PySem.F.plainAttrs_list PySem.F.slot_list_remove PySem.F.type_list_remove mt_remove (pv 3) (pa_cons (pe_ix (ixL K) (pv 6) (pv 5) (fun _ _ => rfl)) pa_nil)))))))
      (pss_cons (ps_expr (pe_bm PySem.F.plainAttrs_list PySem.F.slot_list_append PySem.F.type_list_append mt_append (pv 6) (pa_cons (pe_ix (ixL K) (pv 3) pe_int (fun _ _ => rfl)) pa_nil)))
      (pss_cons (ps_if (pt_cmpR op_eq (pe_ix (ixL K) (pv 6) (pe_op op_sub (pv 1) pe_int) (fun _ _ => rfl)) (pe_ix (ixL K) (pv 4) (pe_op op_sub (pv 1) pe_int) (fun _ _ => rfl)) (nomark _)) (pss_one (ps_set (i := 6) scLPair.nd rfl (Or.inl rfl) (pe_op op_cat (pe_slice (slL K) (pv 6) po_none (po_some (pe_op op_sub (pv 1) pe_int))) (pe_lst (pa_cons (pe_ix (ixL K) (pv 6) (pe_op op_sub (pv 1) pe_int) (fun _ _ => rfl)) (pa_cons (pe_ix (ixL K) (pv 6) (pe_op op_sub (pv 1) pe_int) (fun _ _ => rfl)) pa_nil)))))) pss_nil)
      (pss_one (ps_ret (peTup (pa_cons (tupOf K (by rfl) B.tuple (pv 4)) (pa_cons (tupOf K (by rfl) B.tuple (pv 6)) pa_nil)))))))))))))), ?_⟩
    refine ⟨_, rfl, _, rfl, _, _, rfl, rfl, .inl ⟨by decide, by decide⟩, c, 2 * n, 5040, rfl, hc, by omega, by decide, by decide, fun v1 H1 ds s1 dr => ?_⟩
    obtain ⟨dA, rfl, hds, ld, bd⟩ := dr
    refine ⟨_, rfl, _, rfl, RgOk.of_le (Int.le_refl 0) (by omega) (by decide) (by omega), fun L nL => ?_⟩
    rw [rgV_eq]
    obtain ⟨s2, hL2⟩ := new2 (o := .lst (nums (rangeI n))) nL
    refine ⟨of_decide_eq_true rfl, fun X nX => ?_⟩
    obtain ⟨s3, hX3⟩ := new2 (o := .lst ([] : List V)) nX
    have nLX := ne_of_none hL2 nX
    have ndL := ne_of_none hds nL
    have ndX := ne_of_none (s2 _ _ hds) nX
    have L0 : H L = none := s1.free nL
    have X0 : H X = none := (s1.trans s2).free nX
    have n15 : n ≤ 1000 := by omega
    refine ⟨_, rfl, _, rfl, by omega, by omega, for_range (Pv := fun i σ H4 => ∃ (v7 : Option V) (Ex Lf : List Int), σ = [some (.int c), some (.int n), some (.ref dA), some (.ref L), some (.ref X), v7, none, none, none] ∧ Same H H4 ∧ H4 dA = some (.lst (nums ds)) ∧ H4 L = some (.lst (nums Lf)) ∧ H4 X = some (.lst (nums Ex)) ∧ (Ex ++ Lf).Perm (rangeI n) ∧ Ex.length = i)
      ⟨none, [], rangeI n, rfl, s1.trans (s2.trans s3), s3 _ _ (s2 _ _ hds), s3 _ _ hL2, hX3, List.Perm.refl _, rfl⟩ ?_ ?_⟩
    · rintro i σ H4 hi ⟨v7, Ex, Lf, rfl, s4, hds4, hL4, hX4, pm, le⟩
      have hi : i < n := hi
      have e0 : (0 : Int) + (i : Nat) = (i : Nat) := Int.zero_add _
      have lt := pm.length_eq
      rw [List.length_append, range_len] at lt
      have lp : 0 < Lf.length := by omega
      obtain ⟨j, e2, e3, e4⟩ := mod_nat (z := ds.getD i 0) (n := Lf.length) lp
      have nlL : (nums Lf).length = Lf.length := nums_len _
      have nlX : (nums Ex).length = Ex.length := nums_len _
      have e2' : ds.getD i 0 % ((nums Lf).length : Int) = (j : Nat) := by rw [nlL]; exact e2
      refine ⟨_, rfl, .inl ⟨rfl, _, SqL.of hX4⟩, _, rfl, .inl ⟨rfl, _, SqL.of hL4⟩, _, rfl, _, rfl, dA, _, _, _, rfl, rfl, SqL.of hds4, nums_atI e0 (by omega), .inl ⟨_, rfl, _, rfl, L, _, rfl, .inl (SqL.of hL4), _, _, rfl, rfl, by omega, ?_⟩⟩
      refine ⟨L, _, ds.getD i 0 % ((nums Lf).length : Int), j, .int (Lf[j]), rfl, rfl, hL4, by rw [e2']; omega, by rw [e2']; omega, by rw [e2']; exact seq_at (by omega), by rw [nums, List.getElem?_map, List.getElem?_eq_getElem e3]; rfl, ?_⟩
      rw [nums_erase]
      have hX5 := (upd_ne (o := .lst (nums (Lf.eraseIdx j))) nLX.symm).trans hX4
      refine ⟨X, _, _, rfl, rfl, hX5, small1000 (by omega), ?_⟩
      have ea : nums Ex ++ [V.int (Lf[j])] = nums (Ex ++ [Lf[j]]) := by
        rw [nums_append]
        rfl
      rw [ea]
      have s5 := same_own (o := .lst (nums (Ex ++ [Lf[j]]))) (same_own (o := .lst (nums (Lf.eraseIdx j))) s4 L0) X0
      refine ⟨_, Ex ++ [Lf[j]], Lf.eraseIdx j, rfl, s5, (upd_ne ndX).trans ((upd_ne ndL).trans hds4), (upd_ne nLX).trans upd_same, upd_same, perm_pop pm e3, by rw [List.length_append, le]; rfl⟩
    · rintro σ H4 ⟨v7, Ex, Lf, rfl, s4, hds4, hL4, hX4, pm, le⟩
      have le : Ex.length = n := le
      have lt := pm.length_eq
      rw [List.length_append, range_len] at lt
      have lf0 : Lf = [] := List.length_eq_zero_iff.mp (by omega)
      subst lf0
      rw [List.append_nil] at pm
      -- the rings
      refine ⟨_, rfl, _, rfl, RgOk.of_le (Int.le_refl 0) (by omega) (by decide) (by omega), fun M nM => ?_⟩
      rw [rgV_eq]
      obtain ⟨s5, hM5⟩ := new2 (o := .lst (nums (rangeI n))) nM
      refine ⟨of_decide_eq_true rfl, fun R nR => ?_⟩
      obtain ⟨s6, hR6⟩ := new2 (o := .lst ([] : List V)) nR
      have nMR := ne_of_none hM5 nR
      have M0 : H M = none := s4.free nM
      have R0 : H R = none := (s4.trans s5).free nR
      have nXM := ne_of_none hX4 nM
      have nXR := ne_of_none (s5 _ _ hX4) nR
      have ndM := ne_of_none hds4 nM
      have ndR := ne_of_none (s5 _ _ hds4) nR
      have en1 : ((n : Int) - 1).toNat = n - 1 := by omega
      refine ⟨_, rfl, _, _, rfl, rfl, _, rfl, by omega, by omega, for_range (Pv := fun i σ H7 => ∃ (v5 v7 : Option V) (Rg Lf : List Int), σ = [some (.int c), some (.int n), some (.ref dA), some (.ref M), some (.ref X), v5, some (.ref R), v7, none] ∧ Same H H7 ∧ H7 dA = some (.lst (nums ds)) ∧ H7 M = some (.lst (nums Lf)) ∧ H7 X = some (.lst (nums Ex)) ∧ H7 R = some (.lst (nums Rg)) ∧ (Rg ++ Lf).Perm (rangeI n) ∧ Rg.length = i ∧ ∀ (m : Nat) (x o : Int), Ex[m]? = some x → Rg[m]? = some o → x ≠ o)
        ⟨_, none, [], rangeI n, rfl, s4.trans (s5.trans s6), s6 _ _ (s5 _ _ hds4), s6 _ _ hM5, s6 _ _ (s5 _ _ hX4), hR6, List.Perm.refl _, rfl, fun m x o _ hz => by simp at hz⟩ ?_ ?_⟩
      · rintro i σ H7 hi ⟨v5, v7', Rg, Lf, rfl, s7, hds7, hM7, hX7, hR7, pm2, lr, ap⟩
        have hi : i < n - 1 := by
          have : i < ((n : Int) - 1).toNat := hi
          omega
        have e0 : (0 : Int) + (i : Nat) = (i : Nat) := Int.zero_add _
        have lt2 := pm2.length_eq
        rw [List.length_append, range_len] at lt2
        have nd2 : Lf.Nodup := (List.nodup_append.mp (pm2.nodup_iff.mpr (range_nd n))).2.1
        refine ⟨_, rfl, M, rfl, ⟨_, SqL.of hM7⟩, fun D nD => ?_⟩
        refine lcL_filter (fun v => !decide (v = .int (Ex.getD i 0))) nD (SqL.of hM7) (small1000 (by rw [nums_len]; omega)) (fun x H8 hx s8 Qb qb => ?_) (fun x H8 K1 hx q1 => ⟨_, rfl, q1⟩) (fun H8 s8 e8 => ?_)
        · obtain ⟨v, hv, rfl⟩ := mem_nums hx
          exact ⟨_, rfl, _, rfl, _, rfl, X, _, _, _, rfl, rfl, SqL.of (s8 _ _ hX7), nums_atI e0 (by omega), rfl, _, rfl, qb H8 (Same.refl _)⟩
        rw [nums_filter (fun r => !decide (r = Ex.getD i 0)) _ (fun r => by simp [ne_iff])] at e8
        obtain ⟨Fr, eF⟩ : ∃ Fr, Fr = Lf.filter fun r => !decide (r = Ex.getD i 0) := ⟨_, rfl⟩
        rw [← eF] at e8
        have fp : 0 < Fr.length := by
          rw [eF]
          exact two_free nd2 (by omega)
        have hMR8 := s8 _ _ hM7
        have hR8 := s8 _ _ hR7
        have hX8 := s8 _ _ hX7
        have hds8 := s8 _ _ hds7
        obtain ⟨j, e2, e3, e4⟩ := mod_nat (z := ds.getD (n + i) 0) (n := Fr.length) fp
        have nlF : (nums Fr).length = Fr.length := nums_len _
        have e2' : ds.getD (n + i) 0 % ((nums Fr).length : Int) = (j : Nat) := by rw [nlF]; exact e2
        refine ⟨_, rfl, .inl ⟨rfl, _, SqL.of hR8⟩, _, rfl, _, rfl, _, rfl, _, rfl, _, _, rfl, rfl, dA, _, _, _, rfl, rfl, SqL.of hds8, nums_atI (i := n + i) (by rw [e0]; rfl) (by omega), .inl ⟨_, rfl, _, rfl, D, _, rfl, .inl (SqL.of e8), _, _, rfl, rfl, by omega, D, _, _, _, rfl, rfl, SqL.of e8, nums_atI e2' e3, R, _, _, rfl, rfl, hR8, small1000 (by rw [nums_len]; omega), ?_⟩⟩
        have ymem : Fr.getD j 0 ∈ Fr := getD_mem2 e3
        generalize Fr.getD j 0 = y at ymem
        rw [eF] at ymem
        obtain ⟨yL, yne⟩ := List.mem_filter.mp ymem
        have yne : y ≠ Ex.getD i 0 := by simpa using yne
        have ea : nums Rg ++ [V.int y] = nums (Rg ++ [y]) := by
          rw [nums_append]
          rfl
        rw [ea]
        obtain ⟨jj, hjj, ejj, fst⟩ := first_at yL
        have hM9 := (upd_ne (o := .lst (nums (Rg ++ [y]))) nMR).trans hMR8
        have gl : (Rg ++ [y]).getD i 0 = y := by
          rw [List.getD_eq_getElem?_getD, List.getElem?_append_right (by omega), lr]
          simp
        refine ⟨_, rfl, .inl ⟨rfl, _, SqL.of hM9⟩, _, rfl, _, rfl, R, _, _, _, rfl, rfl, SqL.of upd_same, nums_atI e0 (by rw [List.length_append, lr]; simp), M, Lf, y, jj, rfl, by rw [gl], hM9, by rw [List.getElem?_eq_getElem hjj, ejj], fst, ?_⟩
        have s9 := same_own (o := .lst (nums (Lf.eraseIdx jj))) (same_own (o := .lst (nums (Rg ++ [y]))) (s7.trans s8) R0) M0
        have pm3 := perm_pop pm2 hjj
        rw [ejj] at pm3
        refine ⟨_, _, Rg ++ [y], Lf.eraseIdx jj, rfl, s9, (upd_ne ndM).trans ((upd_ne ndR).trans hds8), upd_same, (upd_ne nXM).trans ((upd_ne nXR).trans hX8), (upd_ne nMR.symm).trans upd_same, pm3, by rw [List.length_append, lr]; rfl, fun m x o hx ho => ?_⟩
        by_cases hm : m < i
        · rw [List.getElem?_append_left (by omega)] at ho
          exact ap m x o hx ho
        · have hm2 := (List.getElem?_eq_some_iff.mp ho).1
          rw [List.length_append, lr, List.length_singleton] at hm2
          have em : m = i := by omega
          subst em
          rw [List.getElem?_append_right (by omega), lr] at ho
          simp at ho
          have : Ex.getD m 0 = x := by rw [List.getD_eq_getElem?_getD, hx]; rfl
          rw [← ho, ← this]
          exact fun z => yne z.symm
      · rintro σ H7 ⟨v5, v7', Rg, Lf, rfl, s7, hds7, hM7, hX7, hR7, pm2, lr, ap⟩
        rw [en1] at lr
        have lt2 := pm2.length_eq
        rw [List.length_append, range_len] at lt2
        obtain ⟨b, eb⟩ : ∃ b, Lf = [b] := by
          cases Lf with
          | nil => simp at lt2; omega
          | cons b r =>
            cases r with
            | nil => exact ⟨b, rfl⟩
            | cons b2 r => simp at lt2; omega
        subst eb
        -- the last ring
        refine ⟨_, rfl, .inl ⟨rfl, _, SqL.of hR7⟩, _, rfl, M, _, 0, _, rfl, rfl, SqL.of hM7, nums_atI (i := 0) rfl (by simp), R, _, _, rfl, rfl, hR7, small1000 (by rw [nums_len]; omega), ?_⟩
        have ea : nums Rg ++ [V.int ([b].getD 0 0)] = nums (Rg ++ [b]) := by
          rw [nums_append]
          rfl
        rw [ea]
        obtain ⟨s8, hR8⟩ := own2 (o := .lst (nums (Rg ++ [b]))) s7 R0
        have hX8 := (upd_ne (o := .lst (nums (Rg ++ [b]))) nXR).trans hX7
        have lR8 : (Rg ++ [b]).length = n := by rw [List.length_append, lr]; simp; omega
        have en1' : (n : Int) - 1 = ((n - 1 : Nat) : Int) := by omega
        have en2' : (n : Int) - 2 = ((n - 2 : Nat) : Int) := by omega
        refine ⟨_, rfl, _, rfl, _, _, rfl, rfl, R, _, _, _, rfl, rfl, SqL.of hR8, nums_atI en1' (by omega), _, rfl, _, rfl, _, _, rfl, rfl, X, _, _, _, rfl, rfl, SqL.of hX8, nums_atI en1' (by omega), rfl, _, rfl, iteD (fun heq => ?_) (fun hne => ?_)⟩
        · have heq := V.int.inj heq
          refine ⟨_, rfl, _, rfl, _, _, rfl, rfl, _, rfl, slL_read (SqL.of hR8) fun p9 H9 s9 h9 => ?_⟩
          rw [en2', cut_take] at h9
          have hR9 := s9 _ _ hR8
          refine ⟨_, rfl, _, rfl, _, _, rfl, rfl, R, _, _, _, rfl, rfl, SqL.of hR9, nums_atI en1' (by omega), _, rfl, _, rfl, _, _, rfl, rfl, R, _, _, _, rfl, rfl, SqL.of hR9, nums_atI en2' (by omega), of_decide_eq_true rfl, fun p10 n10 => ?_⟩
          obtain ⟨s10, h10⟩ := new2 (o := .lst [V.int ((Rg ++ [b]).getD (n - 1) 0), V.int ((Rg ++ [b]).getD (n - 2) 0)]) n10
          refine ⟨p9, p10, _, _, rfl, rfl, s10 _ _ h9, h10, Nat.le_of_lt (small1000 (by rw [nums_len, List.length_take]; simp; omega)), fun p11 n11 => ?_⟩
          have ec : nums ((Rg ++ [b]).take (n - 2)) ++ [V.int ((Rg ++ [b]).getD (n - 1) 0), V.int ((Rg ++ [b]).getD (n - 2) 0)] = nums ((Rg ++ [b]).take (n - 2) ++ [(Rg ++ [b]).getD (n - 1) 0, (Rg ++ [b]).getD (n - 2) 0]) := by
            rw [nums_append]
            rfl
          rw [ec]
          obtain ⟨g1, g2⟩ := pair_fix pm pm2 h2 lr ap heq
          generalize (Rg ++ [b]).take (n - 2) ++ [(Rg ++ [b]).getD (n - 1) 0, (Rg ++ [b]).getD (n - 2) 0] = Rr at g1 g2 ⊢
          obtain ⟨s11, h11⟩ := new2 (o := .lst (nums Rr)) n11
          have hX11 := (s9.trans (s10.trans s11)) _ _ hX8
          refine ⟨_, rfl, X, _, rfl, SqL.of hX11, fun q1 o1 n1 d1 => ?_⟩
          obtain ⟨t1, r1⟩ := new2 (o := .frz o1 (.tup (nums Ex))) n1
          refine ⟨_, rfl, p11, _, rfl, SqL.of (t1 _ _ h11), fun q2 o2 n2 d2 => ⟨of_decide_eq_true rfl, fun q3 o3 n3 d3 => ?_⟩⟩
          obtain ⟨t2, r2⟩ := new2 (o := .frz o2 (.tup (nums Rr))) n2
          obtain ⟨t3, r3⟩ := new2 (o := .frz o3 (.tup [.ref q1, .ref q2])) n3
          exact k _ _ (Ex, Rr) (s8.trans (s9.trans (s10.trans (s11.trans (t1.trans (t2.trans t3)))))) le (VG.of h2 (by omega) pm g1 g2) ⟨q3, _, _, rfl, sqF r3, ⟨q1, o1, rfl, (t2.trans t3) _ _ r1, d1⟩, ⟨q2, o2, rfl, t3 _ _ r2, d2⟩⟩
        · refine ⟨_, rfl, X, _, rfl, SqL.of hX8, fun q1 o1 n1 d1 => ?_⟩
          obtain ⟨t1, r1⟩ := new2 (o := .frz o1 (.tup (nums Ex))) n1
          refine ⟨_, rfl, R, _, rfl, SqL.of (t1 _ _ hR8), fun q2 o2 n2 d2 => ⟨of_decide_eq_true rfl, fun q3 o3 n3 d3 => ?_⟩⟩
          obtain ⟨t2, r2⟩ := new2 (o := .frz o2 (.tup (nums (Rg ++ [b])))) n2
          obtain ⟨t3, r3⟩ := new2 (o := .frz o3 (.tup [.ref q1, .ref q2])) n3
          refine k _ _ (Ex, Rg ++ [b]) (s8.trans (t1.trans (t2.trans t3))) le (VG.of h2 (by omega) pm pm2 (fun m x o hx ho => ?_)) ⟨q3, _, _, rfl, sqF r3, ⟨q1, o1, rfl, (t2.trans t3) _ _ r1, d1⟩, ⟨q2, o2, rfl, t3 _ _ r2, d2⟩⟩
          by_cases hm : m < n - 1
          · rw [List.getElem?_append_left (by omega)] at ho
            exact ap m x o hx ho
          · have hm2 := (List.getElem?_eq_some_iff.mp hx).1
            have em : m = n - 1 := by omega
            subst em
            have e1 : Ex.getD (n - 1) 0 = x := by rw [List.getD_eq_getElem?_getD, hx]; rfl
            have e2 : (Rg ++ [b]).getD (n - 1) 0 = o := by rw [List.getD_eq_getElem?_getD, ho]; rfl
            rw [← e1, ← e2]
            exact fun z => hne (congrArg V.int z.symm)
end
end Gk
end

section
set_option Elab.async false
set_option linter.all false
set_option maxRecDepth 100000
set_option maxHeartbeats 4000000
namespace Gk
open PySem L2
section
variable {P : Program} {w : World} {K : PySem.W.Frag} {mg : Str → Option Value} {base : Heap}
def nx5 : Nat → Nat
  | 0 => 1
  | 1 => 0
  | 2 => 3
  | 3 => 4
  | 4 => 2
  | _ => 0
def pO (O : List Int) (t : Nat) : Nat := (O.getD t 0).toNat
def rk (O E : List Int) (T : Nat) : List Int := (List.range T).foldl (fun m (i : Nat) => m.set (pO O i) (E.getD (pO O (nx5 i)) 0)) (List.replicate 5 0)
theorem rk_succ (O E : List Int) (T : Nat) : rk O E (T + 1) = (rk O E T).set (pO O T) (E.getD (pO O (nx5 T)) 0) := by
  unfold rk
  rw [List.range_succ, List.foldl_append]
  rfl
theorem rk_len (O E : List Int) (T : Nat) : (rk O E T).length = 5 := by
  induction T with
  | zero => rfl
  | succ T ih => rw [rk_succ, List.length_set, ih]
theorem perm_at {O : List Int} {n t : Nat} (h : O.Perm (rangeI n)) (ht : t < n) : 0 ≤ O.getD t 0 ∧ O.getD t 0 < (n : Int) := by
  have hl : O.length = n := by rw [h.length_eq, range_len]
  exact range_b (h.mem_iff.mp (getD_mem2 (by omega)))
theorem perm_inj {O : List Int} {n s t : Nat} (h : O.Perm (rangeI n)) (hs : s < n) (ht : t < n) (e : O.getD s 0 = O.getD t 0) : s = t := by
  have hl : O.length = n := by rw [h.length_eq, range_len]
  have nd : O.Nodup := h.nodup_iff.mpr (range_nd n)
  have hs' : s < O.length := by omega
  have ht' : t < O.length := by omega
  have e1 : O[s] = O[t] := by
    have a : O.getD s 0 = O[s] := by rw [List.getD_eq_getElem?_getD, List.getElem?_eq_getElem hs']; rfl
    have b : O.getD t 0 = O[t] := by rw [List.getD_eq_getElem?_getD, List.getElem?_eq_getElem ht']; rfl
    rw [← a, ← b, e]
  have pw := List.pairwise_iff_getElem.mp (List.nodup_iff_pairwise_ne.mp nd)
  rcases Nat.lt_trichotomy s t with h1 | h1 | h1
  · exact absurd e1 (pw s t hs' ht' h1)
  · exact h1
  · exact absurd e1.symm (pw t s ht' hs' h1)
theorem pO_lt {O : List Int} {n t : Nat} (h : O.Perm (rangeI n)) (ht : t < n) : pO O t < n := by
  have := perm_at h ht
  unfold pO
  omega
theorem pO_inj {O : List Int} {n s t : Nat} (h : O.Perm (rangeI n)) (hs : s < n) (ht : t < n) (e : pO O s = pO O t) : s = t := by
  have h1 := perm_at h hs
  have h2 := perm_at h ht
  refine perm_inj h hs ht ?_
  unfold pO at e
  omega
theorem pO_sur {O : List Int} {n q : Nat} (h : O.Perm (rangeI n)) (hq : q < n) : ∃ t, t < n ∧ pO O t = q := by
  have hl : O.length = n := by rw [h.length_eq, range_len]
  have : (q : Int) ∈ O := h.mem_iff.mpr (List.mem_map.mpr ⟨q, List.mem_range.mpr hq, rfl⟩)
  obtain ⟨t, ht, e⟩ := List.mem_iff_getElem.mp this
  refine ⟨t, by omega, ?_⟩
  unfold pO
  rw [List.getD_eq_getElem?_getD, List.getElem?_eq_getElem ht, e]
  rfl
theorem rk_at {O E : List Int} (h : O.Perm (rangeI 5)) : ∀ (T : Nat), T ≤ 5 → ∀ t, t < T → (rk O E T)[pO O t]? = some (E.getD (pO O (nx5 t)) 0) := by
  intro T
  induction T with
  | zero => intro _ t ht; exact absurd ht (Nat.not_lt_zero _)
  | succ T ih =>
    intro hT t ht
    rw [rk_succ]
    by_cases e : t = T
    · subst e
      rw [List.getElem?_set_self (by rw [rk_len]; exact pO_lt h (by omega))]
    · rw [List.getElem?_set_ne (fun z => e (pO_inj h (by omega) (by omega) z.symm))]
      exact ih (by omega) t (by omega)
theorem nx_facts : ∀ t, t < 5 → nx5 t < 5 ∧ nx5 t ≠ t := by decide
theorem nx_inj : ∀ s, s < 5 → ∀ t, t < 5 → nx5 s = nx5 t → s = t := by decide
theorem rk_vg {O E : List Int} (hO : O.Perm (rangeI 5)) (hE : E.Perm (rangeI 5)) : VG (E, rk O E 5) := by
  have lE : E.length = 5 := by rw [hE.length_eq, range_len]
  have at_ : ∀ q, q < 5 → ∃ t, t < 5 ∧ pO O t = q ∧ (rk O E 5)[q]? = some (E.getD (pO O (nx5 t)) 0) := fun q hq => by
    obtain ⟨t, ht, e⟩ := pO_sur hO hq
    exact ⟨t, ht, e, e ▸ rk_at hO 5 (Nat.le_refl _) t ht⟩
  refine ⟨by show 2 ≤ E.length; omega, by show E.length ≤ 100; omega, by show (rk O E 5).length = E.length; rw [rk_len, lE], fun x hx => ?_, fun x hx => ?_, hE.nodup_iff.mpr (range_nd 5), ?_, fun i x o hx ho => ?_⟩
  · show 0 ≤ x ∧ x < (E.length : Int)
    rw [lE]
    exact range_b (hE.mem_iff.mp hx)
  · show 0 ≤ x ∧ x < (E.length : Int)
    rw [lE]
    obtain ⟨q, hq, e⟩ := List.mem_iff_getElem.mp hx
    have hq' : q < 5 := by rw [rk_len] at hq; exact hq
    obtain ⟨t, ht, _, e2⟩ := at_ q hq'
    rw [List.getElem?_eq_getElem hq, e] at e2
    rw [Option.some.inj e2]
    exact perm_at hE (pO_lt hO (nx_facts t ht).1)
  · refine List.nodup_iff_pairwise_ne.mpr (List.pairwise_iff_getElem.mpr fun i j hi hj hij z => ?_)
    have hi' : i < 5 := by rw [rk_len] at hi; exact hi
    have hj' : j < 5 := by rw [rk_len] at hj; exact hj
    obtain ⟨s, hs, es, e1⟩ := at_ i hi'
    obtain ⟨t, ht, et, e2⟩ := at_ j hj'
    rw [List.getElem?_eq_getElem hi] at e1
    rw [List.getElem?_eq_getElem hj, ← z] at e2
    have e3 := Option.some.inj (e1.symm.trans e2)
    have e4 := perm_inj hE (pO_lt hO (nx_facts s hs).1) (pO_lt hO (nx_facts t ht).1) e3
    have e5 := nx_inj s hs t ht (pO_inj hO (nx_facts s hs).1 (nx_facts t ht).1 e4)
    rw [e5] at es
    omega
  · have hi := (List.getElem?_eq_some_iff.mp hx).1
    have hi : i < 5 := by
      have : i < E.length := hi
      omega
    obtain ⟨t, ht, et, e2⟩ := at_ i hi
    have ho : (rk O E 5)[i]? = some o := ho
    rw [ho] at e2
    have hx : E[i]? = some x := hx
    have ex : E.getD i 0 = x := by rw [List.getD_eq_getElem?_getD, hx]; rfl
    rw [← ex, Option.some.inj e2, ← et]
    intro z
    have e4 := perm_inj hE (pO_lt hO ht) (pO_lt hO (nx_facts t ht).1) z
    exact (nx_facts t ht).2 (pO_inj hO (nx_facts t ht).1 ht e4.symm)
def cut5 : Nat → Nat
  | 0 => 0
  | 1 => 2
  | _ => 5
abbrev sLLinkish : Stmt := top 44
-- slots: _law_cell_here 0 _law_parts 1 _law_n 2 _law_draws_here 3 _law_columns 4 _law_rows 5 _law_order 6 _law_exes 7 _law_k 8 _law_rings 9 _law_first_here 10 _law_part 11
theorem scLLinkish : FnScope ["_law_cell_here", "_law_parts", "_law_n", "_law_draws_here", "_law_columns", "_law_rows", "_law_order", "_law_exes", "_law_k", "_law_rings", "_law_first_here", "_law_part"] ["_law_cell_here", "_law_parts"] (defScope sLLinkish) := ⟨rfl, rfl, rfl, by decide +kernel, rfl, by decide +kernel, by decide +kernel⟩
def spLLinkish (K : PySem.W.Frag) : Sp := fun vs H Q _ => ∃ (c : Int) (a : Addr), vs = [.int c, .ref a] ∧ 0 ≤ c ∧ H a = some (.lst [.int 2, .int 3]) ∧ ∀ v' H' g, Same H H' → g.1.length = 5 → VG g → IsG K g v' H' → Q v' H'
theorem ok_llinkish {f : Addr} {fd : FuncData} (F : Fun K "_law_linkish" "_law_linkish" sLLinkish f fd) (B : Bl mg) (D__law_draws : DefOk P w K mg base "_law_draws" 1 ["_law_cell_here", "_law_many", "_law_most"] (spDraws K)) : FnOk P w K mg base CX0 2 f fd ["_law_cell_here", "_law_parts"] (spLLinkish K) := by
  refine F.ok scLLinkish (fun vs H Q E h => ?_) (fun cdv A outer s H vs Q E hr h => ?_)
  · obtain ⟨c, a, rfl, _⟩ := h
    rfl
  · obtain ⟨c, a, rfl, hc, ha, k⟩ := h
    refine ⟨_, (pss_cons (ps_set (i := 2) scLLinkish.nd rfl (Or.inl rfl) (pe_callB (sumI K rfl) (by rfl) B.sum (by decide +kernel) (pa_cons (pv 1) pa_nil)))
      (pss_cons (ps_set (i := 3) scLLinkish.nd rfl (Or.inl rfl) (pe_cd D__law_draws (hr.mono (by decide)) rfl (pa_cons (pv 0) (pa_cons (pe_op op_mul pe_int (pv 2)) (pa_cons pe_int pa_nil)))))
      (pss_cons (ps_set (i := 4) scLLinkish.nd rfl (Or.inl rfl) (pe_listRg rfl (by rfl) B.list (prg_1 (by rfl) B.range (pv 2))))
      (pss_cons (ps_set (i := 5) scLLinkish.nd rfl (Or.inl rfl) (pe_listRg rfl (by rfl) B.list (prg_1 (by rfl) B.range (pv 2))))
      (pss_cons (ps_set (i := 6) scLLinkish.nd rfl (Or.inl rfl) (pe_lst pa_nil))
      (pss_cons (ps_set (i := 7) scLLinkish.nd rfl (Or.inl rfl) (pe_lst pa_nil))
      (pss_cons (ps_for PassesOwn.never rfl (pi_range1 (by rfl) B.range (pa_cons (pv 2) pa_nil)) (pg_name (i := 8) scLLinkish.nd rfl (by first | exact Or.inl rfl | exact Or.inr rfl)) (pss_cons (ps_expr (pe_bm PySem.F.plainAttrs_list PySem.F.slot_list_append PySem.F.type_list_append mt_append (pv 6) (pa_cons (pe_bm PySem.F.plainAttrs_list PySem.F.slot_list_pop PySem.F.type_list_pop mt_popAt (pv 4) (pa_cons (pe_op op_mod (pe_callTy call_int1 (by rfl) B.int (by decide +kernel) (pa_cons (pe_ix (ixL K) (pv 3) (pv 8) (fun _ _ => rfl)) pa_nil)) (pe_callB (lenS K) (by rfl) B.len PySem.boot_len (pa_cons (pv 4) pa_nil))) pa_nil)) pa_nil)))
      (pss_one (ps_expr (pe_bm PySem.F.plainAttrs_list PySem.F.slot_list_append PySem.F.type_list_append mt_append (pv 7) (pa_cons (pe_bm PySem.F.plainAttrs_list PySem.F.slot_list_pop PySem.F.type_list_pop mt_popAt (pv 5) (pa_cons (pe_op op_mod (pe_callTy call_int1 (by rfl) B.int (by decide +kernel) (pa_cons (pe_ix (ixL K) (pv 3) (pe_op op_add (pv 2) (pv 8)) (fun _ _ => rfl)) pa_nil)) (pe_callB (lenS K) (by rfl) B.len PySem.boot_len (pa_cons (pv 5) pa_nil))) pa_nil)) pa_nil))))))
      (pss_cons (ps_set (i := 9) scLLinkish.nd rfl (Or.inl rfl) (pe_op op_rep (pe_lst (pa_cons pe_int pa_nil)) (pv 2)))
      (pss_cons (ps_set (i := 10) scLLinkish.nd rfl (Or.inl rfl) pe_int)
      (pss_cons (ps_for PassesOwn.never rfl (piL K (pv 1)) (pg_name (i := 11) scLLinkish.nd rfl (by first | exact Or.inl rfl | exact Or.inr rfl)) (pss_cons (ps_for PassesOwn.never rfl (pi_range1 (by rfl) B.range (pa_cons (pv 11) pa_nil)) (pg_name (i := 8) scLLinkish.nd rfl (by first | exact Or.inl rfl | exact Or.inr rfl)) (pss_one (ps_asg (pe_ix (ixL K) (pv 7) (pe_ix (ixL K) (pv 6) (pe_op op_add (pv 10) (pe_op op_mod (pe_callTy call_int1 (by rfl) B.int (by decide +kernel) (pa_cons (pe_op op_add (pv 8) pe_int) pa_nil)) (pv 11))) (fun _ _ => rfl)) (fun _ _ => rfl)) (pg_sub (pv 9) (pe_ix (ixL K) (pv 6) (pe_op op_add (pv 10) (pv 8)) (fun _ _ => rfl)) set_list))))
      (pss_one (ps_set (i := 10) scLLinkish.nd rfl (Or.inl rfl) (pe_op op_add (pv 10) (pv 11))))))
      (pss_one (ps_ret (peTup (pa_cons (tupOf K (by rfl) B.tuple (pv 7)) (pa_cons (tupOf K (by rfl) B.tuple (pv 9)) pa_nil))))))))))))))), ?_⟩
    refine ⟨_, rfl, a, [2, 3], rfl, SqL.of ha, ?_⟩
    rw [show ([2, 3] : List Int).sum = 5 from rfl]
    refine ⟨_, rfl, _, rfl, _, _, rfl, rfl, .inl ⟨by decide, by decide⟩, c, 10, 5040, rfl, hc, by decide, by decide, by decide, fun v1 H1 ds s1 dr => ?_⟩
    obtain ⟨dA, rfl, hds, ld, bd⟩ := dr
    have five : RgOk 0 5 := RgOk.of_le (Int.le_refl 0) (by decide) (by decide) (by decide)
    have erg : rgV 0 (5 : Int) = nums (rangeI 5) := rgV_eq 5
    refine ⟨_, rfl, _, rfl, five, fun C nC => ?_⟩
    rw [erg]
    obtain ⟨s2, hC2⟩ := new2 (o := .lst (nums (rangeI 5))) nC
    refine ⟨_, rfl, _, rfl, five, fun R nR => ?_⟩
    rw [erg]
    obtain ⟨s3, hR3⟩ := new2 (o := .lst (nums (rangeI 5))) nR
    refine ⟨of_decide_eq_true rfl, fun O nO => ?_⟩
    obtain ⟨s4, hO4⟩ := new2 (o := .lst ([] : List V)) nO
    refine ⟨of_decide_eq_true rfl, fun X nX => ?_⟩
    obtain ⟨s5, hX5⟩ := new2 (o := .lst ([] : List V)) nX
    have hC5 := s5 _ _ (s4 _ _ (s3 _ _ hC2))
    have hR5 := s5 _ _ (s4 _ _ hR3)
    have hO5 := s5 _ _ hO4
    have hds5 := s5 _ _ (s4 _ _ (s3 _ _ (s2 _ _ hds)))
    have nCR := ne_of_none hC2 nR
    have nCO := ne_of_none (s3 _ _ hC2) nO
    have nCX := ne_of_none (s4 _ _ (s3 _ _ hC2)) nX
    have nRO := ne_of_none hR3 nO
    have nRX := ne_of_none (s4 _ _ hR3) nX
    have nOX := ne_of_none hO4 nX
    have ndC := ne_of_none hds nC
    have ndR := ne_of_none (s2 _ _ hds) nR
    have ndO := ne_of_none (s3 _ _ (s2 _ _ hds)) nO
    have ndX := ne_of_none (s4 _ _ (s3 _ _ (s2 _ _ hds))) nX
    have C0 : H C = none := s1.free nC
    have R0 : H R = none := (s1.trans s2).free nR
    have O0 : H O = none := (s1.trans (s2.trans s3)).free nO
    have X0 : H X = none := (s1.trans (s2.trans (s3.trans s4))).free nX
    have s05 := s1.trans (s2.trans (s3.trans (s4.trans s5)))
    have hp2 := s05 _ _ ha
    refine ⟨_, rfl, _, rfl, by decide, by decide, for_range (Pv := fun i σ H6 => ∃ (v8 : Option V) (Ol Cl El Rl : List Int), σ = [some (.int c), some (.ref a), some (.int 5), some (.ref dA), some (.ref C), some (.ref R), some (.ref O), some (.ref X), v8, none, none, none] ∧ Same H H6 ∧ H6 dA = some (.lst (nums ds)) ∧ H6 C = some (.lst (nums Cl)) ∧ H6 R = some (.lst (nums Rl)) ∧ H6 O = some (.lst (nums Ol)) ∧ H6 X = some (.lst (nums El)) ∧ (Ol ++ Cl).Perm (rangeI 5) ∧ (El ++ Rl).Perm (rangeI 5) ∧ Ol.length = i ∧ El.length = i)
      ⟨none, [], rangeI 5, [], rangeI 5, rfl, s05, hds5, hC5, hR5, hO5, hX5, List.Perm.refl _, List.Perm.refl _, rfl, rfl⟩ ?_ ?_⟩
    · rintro i σ H6 hi ⟨v8, Ol, Cl, El, Rl, rfl, s6, hds6, hC6, hR6, hO6, hX6, pm1, pm2, l1, l2⟩
      have hi : i < 5 := hi
      have e0 : (0 : Int) + (i : Nat) = (i : Nat) := Int.zero_add _
      have t1 := pm1.length_eq
      have t2 := pm2.length_eq
      rw [List.length_append, range_len] at t1 t2
      obtain ⟨j, e2, e3, e4⟩ := mod_nat (z := ds.getD i 0) (n := Cl.length) (by omega)
      obtain ⟨j', e2', e3', e4'⟩ := mod_nat (z := ds.getD (5 + i) 0) (n := Rl.length) (by omega)
      have q1 : (nums Cl).length = Cl.length := nums_len _
      have q2 : (nums Rl).length = Rl.length := nums_len _
      have q3 : (nums Ol).length = Ol.length := nums_len _
      have q4 : (nums El).length = El.length := nums_len _
      have e5 : ds.getD i 0 % ((nums Cl).length : Int) = (j : Nat) := by rw [q1]; exact e2
      have e5' : ds.getD (5 + i) 0 % ((nums Rl).length : Int) = (j' : Nat) := by rw [q2]; exact e2'
      refine ⟨_, rfl, .inl ⟨rfl, _, SqL.of hO6⟩, _, rfl, .inl ⟨rfl, _, SqL.of hC6⟩, _, rfl, _, rfl, dA, _, _, _, rfl, rfl, SqL.of hds6, nums_atI e0 (by omega), .inl ⟨_, rfl, _, rfl, C, _, rfl, .inl (SqL.of hC6), _, _, rfl, rfl, by omega, ?_⟩⟩
      refine ⟨C, _, ds.getD i 0 % ((nums Cl).length : Int), j, .int (Cl[j]), rfl, rfl, hC6, by rw [e5]; omega, by rw [e5]; omega, by rw [e5]; exact seq_at (by omega), by rw [nums, List.getElem?_map, List.getElem?_eq_getElem e3]; rfl, ?_⟩
      rw [nums_erase]
      have hO7 := (upd_ne (o := .lst (nums (Cl.eraseIdx j))) nCO.symm).trans hO6
      refine ⟨O, _, _, rfl, rfl, hO7, small1000 (by omega), ?_⟩
      have ea : nums Ol ++ [V.int (Cl[j])] = nums (Ol ++ [Cl[j]]) := by
        rw [nums_append]
        rfl
      rw [ea]
      obtain ⟨s7, hO8⟩ := own2 (o := .lst (nums (Ol ++ [Cl[j]]))) (same_own (o := .lst (nums (Cl.eraseIdx j))) s6 C0) O0
      have hC8 := (upd_ne (o := .lst (nums (Ol ++ [Cl[j]]))) nCO).trans (upd_same (H := H6) (a := C) (o := .lst (nums (Cl.eraseIdx j))))
      have hR8 := (upd_ne (o := .lst (nums (Ol ++ [Cl[j]]))) nRO).trans ((upd_ne (o := .lst (nums (Cl.eraseIdx j))) nCR.symm).trans hR6)
      have hX8 := (upd_ne (o := .lst (nums (Ol ++ [Cl[j]]))) nOX.symm).trans ((upd_ne (o := .lst (nums (Cl.eraseIdx j))) nCX.symm).trans hX6)
      have hds8 := (upd_ne (o := .lst (nums (Ol ++ [Cl[j]]))) ndO).trans ((upd_ne (o := .lst (nums (Cl.eraseIdx j))) ndC).trans hds6)
      refine ⟨_, rfl, .inl ⟨rfl, _, SqL.of hX8⟩, _, rfl, .inl ⟨rfl, _, SqL.of hR8⟩, _, rfl, _, rfl, _, rfl, _, _, rfl, rfl, dA, _, _, _, rfl, rfl, SqL.of hds8, nums_atI (i := 5 + i) (by rw [e0]; rfl) (by omega), .inl ⟨_, rfl, _, rfl, R, _, rfl, .inl (SqL.of hR8), _, _, rfl, rfl, by omega, ?_⟩⟩
      refine ⟨R, _, ds.getD (5 + i) 0 % ((nums Rl).length : Int), j', .int (Rl[j']), rfl, rfl, hR8, by rw [e5']; omega, by rw [e5']; omega, by rw [e5']; exact seq_at (by omega), by rw [nums, List.getElem?_map, List.getElem?_eq_getElem e3']; rfl, ?_⟩
      rw [nums_erase]
      have hX9 := (upd_ne (o := .lst (nums (Rl.eraseIdx j'))) nRX.symm).trans hX8
      refine ⟨X, _, _, rfl, rfl, hX9, small1000 (by omega), ?_⟩
      have eb : nums El ++ [V.int (Rl[j'])] = nums (El ++ [Rl[j']]) := by
        rw [nums_append]
        rfl
      rw [eb]
      have s9 := same_own (o := .lst (nums (El ++ [Rl[j']]))) (same_own (o := .lst (nums (Rl.eraseIdx j'))) s7 R0) X0
      exact ⟨_, Ol ++ [Cl[j]], Cl.eraseIdx j, El ++ [Rl[j']], Rl.eraseIdx j', rfl, s9, (upd_ne ndX).trans ((upd_ne ndR).trans hds8), (upd_ne nCX).trans ((upd_ne nCR).trans hC8), (upd_ne nRX).trans upd_same, (upd_ne nOX).trans ((upd_ne nRO.symm).trans hO8), upd_same, perm_pop pm1 e3, perm_pop pm2 e3', by rw [List.length_append, l1]; rfl, by rw [List.length_append, l2]; rfl⟩
    · rintro σ H6 ⟨v8, Ol, Cl, El, Rl, rfl, s6, hds6, hC6, hR6, hO6, hX6, pm1, pm2, l1, l2⟩
      have l1 : Ol.length = 5 := l1
      have l2 : El.length = 5 := l2
      have t1 := pm1.length_eq
      have t2 := pm2.length_eq
      rw [List.length_append, range_len] at t1 t2
      have z1 : Cl = [] := List.length_eq_zero_iff.mp (by omega)
      have z2 : Rl = [] := List.length_eq_zero_iff.mp (by omega)
      subst z1 z2
      rw [List.append_nil] at pm1 pm2
      -- rings
      refine ⟨of_decide_eq_true rfl, fun p1 n1 => ⟨_, rfl, p1, _, _, rfl, rfl, upd_same, by decide, by decide, by decide, fun G nG => ?_⟩⟩
      have er : (List.replicate (5 : Int).toNat [V.int 0]).flatten = nums (rk Ol El 0) := rep_nums 5
      rw [er]
      obtain ⟨s7, h7⟩ := new2 (o := .lst [V.int 0]) n1
      obtain ⟨s8, hG8⟩ := new2 (o := .lst (nums (rk Ol El 0))) nG
      have s08 := s6.trans (s7.trans s8)
      have G0 : H G = none := (s6.trans s7).free nG
      have nOG := ne_of_none (s7 _ _ hO6) nG
      have nXG := ne_of_none (s7 _ _ hX6) nG
      have ha8 := s08 _ _ ha
      refine ⟨_, rfl, a, rfl, ⟨_, SqL.of ha8⟩, for_list (K := K) (a := a) (xs := [.int 2, .int 3]) (fun i σ H9 => ∃ (v8 v11 : Option V), σ = [some (.int c), some (.ref a), some (.int 5), some (.ref dA), some (.ref C), some (.ref R), some (.ref O), some (.ref X), v8, some (.ref G), some (.int (cut5 i)), v11] ∧ Same H H9 ∧ H9 O = some (.lst (nums Ol)) ∧ H9 X = some (.lst (nums El)) ∧ H9 G = some (.lst (nums (rk Ol El (cut5 i)))))
        ⟨_, none, rfl, s08, s8 _ _ (s7 _ _ hO6), s8 _ _ (s7 _ _ hX6), hG8⟩ (fun i σ H9 hi ⟨_, _, _, s9, _⟩ => SqL.of (s9 _ _ ha)) ?_ ?_⟩
      · rintro i x σ H9 hx ⟨v8, v11, rfl, s9, hO9, hX9, hG9⟩
        obtain ⟨p, hp, rfl, ec, ec5, hnx⟩ : ∃ p : Nat, 0 < p ∧ x = .int (p : Nat) ∧ cut5 (i + 1) = cut5 i + p ∧ cut5 i + p ≤ 5 ∧ ∀ k, k < p → nx5 (cut5 i + k) = cut5 i + (k + 1) % p := by
          match i, hx with
          | 0, hx =>
            cases hx
            exact ⟨2, by decide, rfl, rfl, by decide, by decide⟩
          | 1, hx =>
            cases hx
            exact ⟨3, by decide, rfl, rfl, by decide, by decide⟩
        generalize hcu : cut5 i = cu at ec ec5 hnx
        refine ⟨_, rfl, _, rfl, by omega, by omega, for_range (Pv := fun kk σ H10 => ∃ (v8 : Option V), σ = [some (.int c), some (.ref a), some (.int 5), some (.ref dA), some (.ref C), some (.ref R), some (.ref O), some (.ref X), v8, some (.ref G), some (.int (cu : Nat)), some (.int (p : Nat))] ∧ Same H H10 ∧ H10 O = some (.lst (nums Ol)) ∧ H10 X = some (.lst (nums El)) ∧ H10 G = some (.lst (nums (rk Ol El (cu + kk)))))
          ⟨_, by rw [← hcu]; rfl, s9, hO9, hX9, by rw [← hcu]; exact hG9⟩ ?_ ?_⟩
        · rintro kk σ H10 hkk ⟨v8, rfl, s10, hO10, hX10, hG10⟩
          have hkk : kk < p := hkk
          have e0 : (0 : Int) + (kk : Nat) = (kk : Nat) := Int.zero_add _
          have em : ((0 : Int) + (kk : Nat) + 1) % (p : Int) = (((kk + 1) % p : Nat) : Int) := by
            rw [e0]
            rfl
          have hm := Nat.mod_lt (kk + 1) hp
          have hn := hnx kk hkk
          have lt5 : cu + (kk + 1) % p < 5 := by omega
          have b1 := perm_at pm1 lt5
          have b2 := perm_at pm1 (t := cu + kk) (by omega)
          refine ⟨_, rfl, _, rfl, _, rfl, _, rfl, _, _, rfl, rfl, .inl ⟨_, rfl, _, rfl, _, _, rfl, rfl, by omega, _, _, rfl, rfl, O, _, _, _, rfl, rfl, SqL.of hO10, nums_atI (i := cu + (kk + 1) % p) (by rw [em]; rfl) (by omega), X, _, _, _, rfl, rfl, SqL.of hX10, nums_atI (i := pO Ol (cu + (kk + 1) % p)) (by unfold pO; omega) (by unfold pO; omega), ?_⟩⟩
          refine ⟨_, rfl, _, rfl, _, rfl, _, rfl, _, _, rfl, rfl, O, _, _, _, rfl, rfl, SqL.of hO10, nums_atI (i := cu + kk) (by rw [e0]; rfl) (by omega), G, _, _, _, rfl, rfl, hG10, ix_ok b2.1 (by rw [nums_len, rk_len]; exact b2.2), ?_⟩
          rw [nums_set, ← hn, show (Ol.getD (cu + kk) 0).toNat = pO Ol (cu + kk) from rfl, ← rk_succ]
          exact ⟨_, rfl, same_own s10 G0, (upd_ne nOG).trans hO10, (upd_ne nXG).trans hX10, upd_same⟩
        · rintro σ H10 ⟨v8, rfl, s10, hO10, hX10, hG10⟩
          have hG10 : H10 G = some (.lst (nums (rk Ol El (cu + p)))) := hG10
          refine ⟨_, rfl, _, rfl, _, _, rfl, rfl, v8, some (.int (p : Nat)), ?_, s10, hO10, hX10, by rw [ec]; exact hG10⟩
          rw [ec]
          rfl
      · rintro σ H9 ⟨v8, v11, rfl, s9, hO9, hX9, hG9⟩
        have hG9 : H9 G = some (.lst (nums (rk Ol El 5))) := hG9
        refine ⟨_, rfl, X, _, rfl, SqL.of hX9, fun q1 o1 n1 d1 => ?_⟩
        obtain ⟨t1, r1⟩ := new2 (o := .frz o1 (.tup (nums El))) n1
        refine ⟨_, rfl, G, _, rfl, SqL.of (t1 _ _ hG9), fun q2 o2 n2 d2 => ⟨of_decide_eq_true rfl, fun q3 o3 n3 d3 => ?_⟩⟩
        obtain ⟨t2, r2⟩ := new2 (o := .frz o2 (.tup (nums (rk Ol El 5)))) n2
        obtain ⟨t3, r3⟩ := new2 (o := .frz o3 (.tup [.ref q1, .ref q2])) n3
        exact k _ _ (El, rk Ol El 5) (s9.trans (t1.trans (t2.trans t3))) l2 (rk_vg pm1 pm2) ⟨q3, _, _, rfl, sqF r3, ⟨q1, o1, rfl, (t2.trans t3) _ _ r1, d1⟩, ⟨q2, o2, rfl, t3 _ _ r2, d2⟩⟩
end
end Gk
end

section
set_option Elab.async false
set_option linter.all false
set_option maxRecDepth 100000
set_option maxHeartbeats 4000000
namespace Gk
open PySem L2
section
variable {P : Program} {w : World} {K : PySem.W.Frag} {mg : Str → Option Value} {base : Heap}
theorem acr_at {l : List Int} {n : Nat} (h : PermR n l) (nd : l.Nodup) : ∀ (T : Nat), T ≤ n → ∀ t, t < T → (acr l T)[(l.getD t 0).toNat]? = some (t : Int) := by
  have hl := h.len
  have inj : ∀ s t, s < n → t < n → (l.getD s 0).toNat = (l.getD t 0).toNat → s = t := fun s t hs ht e => by
    have hs' : s < l.length := by omega
    have ht' : t < l.length := by omega
    have b1 := (h.rng _ (getD_mem2 hs')).1
    have b2 := (h.rng _ (getD_mem2 ht')).1
    have a : l.getD s 0 = l[s] := by rw [List.getD_eq_getElem?_getD, List.getElem?_eq_getElem hs']; rfl
    have b : l.getD t 0 = l[t] := by rw [List.getD_eq_getElem?_getD, List.getElem?_eq_getElem ht']; rfl
    have e1 : l[s] = l[t] := by rw [← a, ← b]; omega
    have pw := List.pairwise_iff_getElem.mp (List.nodup_iff_pairwise_ne.mp nd)
    rcases Nat.lt_trichotomy s t with h1 | h1 | h1
    · exact absurd e1 (pw s t hs' ht' h1)
    · exact h1
    · exact absurd e1.symm (pw t s ht' hs' h1)
  intro T
  induction T with
  | zero => intro _ t ht; exact absurd ht (Nat.not_lt_zero _)
  | succ T ih =>
    intro hT t ht
    rw [acr_succ]
    by_cases e : t = T
    · subst e
      have b := h.rng _ (getD_mem2 (l := l) (i := t) (by omega))
      rw [List.getElem?_set_self (by rw [acr_len]; omega)]
    · rw [List.getElem?_set_ne (fun z => e (inj t T (by omega) (by omega) z.symm))]
      exact ih (by omega) t (by omega)
theorem acr_get {l : List Int} {n : Nat} (h : PermR n l) (nd : l.Nodup) {q : Nat} (hq : q < n) : ∃ t, t < n ∧ l[t]? = some (q : Int) ∧ (acr l n)[q]? = some (t : Int) := by
  have hl := h.len
  obtain ⟨t, ht, e⟩ := List.mem_iff_getElem.mp (h.all q hq)
  have a : l.getD t 0 = (q : Int) := by rw [List.getD_eq_getElem?_getD, List.getElem?_eq_getElem ht, e]; rfl
  have h2 := acr_at h nd n (Nat.le_refl _) t (by omega)
  rw [a] at h2
  exact ⟨t, by omega, by rw [List.getElem?_eq_getElem ht, e], h2⟩
theorem acr_row {l : List Int} {n : Nat} (h : PermR n l) (nd : l.Nodup) : (acr l n).length = n ∧ (∀ x ∈ acr l n, 0 ≤ x ∧ x < (n : Int)) ∧ (acr l n).Nodup := by
  have hl := h.len
  have len : (acr l n).length = n := by rw [acr_len, hl]
  refine ⟨len, fun x hx => ?_, List.nodup_iff_pairwise_ne.mpr (List.pairwise_iff_getElem.mpr fun i j hi hj hij z => ?_)⟩
  · obtain ⟨q, hq, e⟩ := List.mem_iff_getElem.mp hx
    obtain ⟨t, ht, _, e2⟩ := acr_get h nd (q := q) (by omega)
    rw [List.getElem?_eq_getElem hq, e] at e2
    rw [Option.some.inj e2]
    omega
  · obtain ⟨s, hs, es, e1⟩ := acr_get h nd (q := i) (by omega)
    obtain ⟨t, ht, et, e2⟩ := acr_get h nd (q := j) (by omega)
    rw [List.getElem?_eq_getElem hi] at e1
    rw [List.getElem?_eq_getElem hj, ← z] at e2
    have e3 : s = t := by
      have := Option.some.inj (e1.symm.trans e2)
      omega
    subst e3
    rw [es] at et
    have := Option.some.inj et
    omega
theorem across_vg {g : G} (h : VG g) : VG (across g) := by
  have e1 : (across g).1 = acr g.1 g.1.length := rfl
  have e2 : (across g).2 = acr g.2 g.1.length := by
    show acr g.2 g.2.length = _
    rw [h.l]
  obtain ⟨a1, a2, a3⟩ := acr_row h.p1 h.n1
  obtain ⟨b1, b2, b3⟩ := acr_row h.p2 h.n2
  refine ⟨by rw [e1, a1]; exact h.two, by rw [e1, a1]; exact h.most, by rw [e1, e2, a1, b1], by rw [e1, a1]; exact a2, by rw [e1, e2, a1]; exact b2, by rw [e1]; exact a3, by rw [e2]; exact b3, fun i x o hx ho => ?_⟩
  rw [e1] at hx
  rw [e2] at ho
  have hi := (List.getElem?_eq_some_iff.mp hx).1
  rw [a1] at hi
  obtain ⟨s, hs, es, f1⟩ := acr_get h.p1 h.n1 hi
  obtain ⟨t, ht, et, f2⟩ := acr_get h.p2 h.n2 hi
  rw [f1] at hx
  rw [f2] at ho
  rw [← Option.some.inj hx, ← Option.some.inj ho]
  intro z
  have : s = t := by omega
  subst this
  exact h.ap s _ _ es et rfl
theorem across_len (g : G) : (across g).1.length = g.1.length := acr_len g.1 g.1.length
/-- what the walk asks of the places -/
structure Wld (S : List G) : Prop where
  dom : Dom S
  dl : ∀ seam, DomL S seam
  ent : ∀ g, VG g → g.1.length ≤ 5 → lawFirst g = some (first g) ∧ first g ∈ S
  same : ∀ x ∈ S, ∀ y, y ∈ nexts x ↔ y ∈ lawNext x true
  vg : ∀ x ∈ S, VG x ∧ x.1.length ≤ 5
  inv : ∀ g, VG g → g.1.length ≤ 5 → ∀ a b, first (turned g a b) = first g
  tur : ∀ g, VG g → ∀ a b, VG (turned g a b)
  shi : ∀ (n : Nat) (sh : Int) (rev : Bool), 2 ≤ n → n ≤ 5 → 1 ≤ sh → sh ≤ n - 1 → VG (shiftBase n sh rev)
  gro : ∀ (rev : Bool) (a b : Int) (i : Nat) (r up : Int), 0 ≤ a → a < 4 → 0 ≤ b → b < 4 → i < 5 → 0 ≤ r → r < 4 → 0 ≤ up → up < 2 → VG (lawGrown (turned (shiftBase 4 2 rev) a b) i r up)
theorem grow_len (l : List Int) (i : Nat) (r u ins : Int) (h : i ≤ l.length) : (growRow l i r u ins).length = l.length + 1 := by
  unfold growRow
  simp
  omega
abbrev sLSeamed : Stmt := top 57
-- slots: _law_cell_here 0 _law_draws_here 1 _law_k 2 _law_pair_here 3 _law_i 4 _law_r 5
theorem scLSeamed : FnScope ["_law_cell_here", "_law_draws_here", "_law_k", "_law_pair_here", "_law_i", "_law_r"] ["_law_cell_here"] (defScope sLSeamed) := ⟨rfl, rfl, rfl, by decide +kernel, rfl, by decide +kernel, by decide +kernel⟩
def spLSeamed (K : PySem.W.Frag) (T : List (Addr × Str)) : Sp := fun vs H Q _ => ∃ (c : Int), vs = [.int c] ∧ 0 ≤ c ∧ LamX.Tabs T H ∧ ∀ v' H' g, LamX.ExtN H H' → LamX.Tabs T H' → VG g → g.1.length ≤ 5 → IsG K g v' H' → Q v' H'
theorem ok_lseamed {f : Addr} {fd : FuncData} (F : Fun K "_law_seamed" "_law_seamed" sLSeamed f fd) {T : List (Addr × Str)} {S : List G} (W : Wld S) (B : Bl mg) (D__law_draws : DefOk P w K mg base "_law_draws" 1 ["_law_cell_here", "_law_many", "_law_most"] (spDraws K)) (D__law_shifted : DefOk P w K mg base "_law_shifted" 2 ["_law_n", "_law_shift", "_law_draw"] (spLShifted K)) (D__law_grown : DefOk P w K mg base "_law_grown" 1 ["_law_pair_here", "_law_i", "_law_r", "_law_up"] (spLGrown K))
    (D__law_across : DefOk P w K mg base "_law_across" 1 ["_law_pair_here"] (spAcross K)) (D__law_family : DefOk P w K mg base "_law_family" 4 ["_law_pair_here", "_law_seam"] (spLFamily K T S)) : FnOk P w K mg base CX0 5 f fd ["_law_cell_here"] (spLSeamed K T) := by
  refine F.ok scLSeamed (fun vs H Q E h => ?_) (fun cdv A outer s H vs Q E hr h => ?_)
  · obtain ⟨c, rfl, _⟩ := h
    rfl
  · obtain ⟨c, rfl, hc, hT, k⟩ := h
    refine ⟨_, (pss_cons (ps_set (i := 1) scLSeamed.nd rfl (Or.inl rfl) (pe_cd D__law_draws (hr.mono (by decide)) rfl (pa_cons (pv 0) (pa_cons pe_int (pa_cons (pe_op op_pow pe_int pe_int) pa_nil)))))
      (pss_cons (ps_for PassesOwn.never rfl (pi_range1 (by rfl) B.range (pa_cons pe_int pa_nil)) (pg_name (i := 2) scLSeamed.nd rfl (by first | exact Or.inl rfl | exact Or.inr rfl)) (pss_cons (ps_set (i := 3) scLSeamed.nd rfl (Or.inl rfl) (pe_cd D__law_shifted (hr.mono (by decide)) rfl (pa_cons pe_int (pa_cons pe_int (pa_cons (pe_ix (ixL K) (pv 1) (pe_op op_mul pe_int (pv 2)) (fun _ _ => rfl)) pa_nil)))))
      (pss_cons (ps_set (i := 4) scLSeamed.nd rfl (Or.inl rfl) (pe_op op_mod (pe_callTy call_int1 (by rfl) B.int (by decide +kernel) (pa_cons (pe_ix (ixL K) (pv 1) (pe_op op_add (pe_op op_mul pe_int (pv 2)) pe_int) (fun _ _ => rfl)) pa_nil)) pe_int))
      (pss_cons (ps_set (i := 5) scLSeamed.nd rfl (Or.inl rfl) (pe_op op_mod (pe_callTy call_int1 (by rfl) B.int (by decide +kernel) (pa_cons (pe_ix (ixL K) (pv 1) (pe_op op_add (pe_op op_mul pe_int (pv 2)) pe_int) (fun _ _ => rfl)) pa_nil)) pe_int))
      (pss_cons (ps_set (i := 3) scLSeamed.nd rfl (Or.inl rfl) (pe_cd D__law_grown (hr.mono (by decide)) rfl (pa_cons (pv 3) (pa_cons (pv 4) (pa_cons (pv 5) (pa_cons (pe_op op_mod (pe_callTy call_int1 (by rfl) B.int (by decide +kernel) (pa_cons (pe_ix (ixL K) (pv 1) (pe_op op_add (pe_op op_mul pe_int (pv 2)) pe_int) (fun _ _ => rfl)) pa_nil)) pe_int) pa_nil))))))
      (pss_cons (ps_if (pt_cmpR op_eq (pe_op op_mod (pe_callTy call_int1 (by rfl) B.int (by decide +kernel) (pa_cons (pe_op op_fdivN (pe_ix (ixL K) (pv 1) (pe_op op_add (pe_op op_mul pe_int (pv 2)) pe_int) (fun _ _ => rfl)) pe_int) pa_nil)) pe_int) pe_int (nomark _)) (pss_one (ps_set (i := 3) scLSeamed.nd rfl (Or.inl rfl) (pe_cd D__law_across (hr.mono (by decide)) rfl (pa_cons (pv 3) pa_nil)))) pss_nil)
      (pss_one (ps_if (pt_cmpR op_lt (pe_callB (lenS K) (by rfl) B.len PySem.boot_len (pa_cons (pe_cd D__law_family (hr.mono (by decide)) rfl (pa_cons (pv 3) (pa_cons pe_bl pa_nil))) pa_nil)) (pe_callB (lenS K) (by rfl) B.len PySem.boot_len (pa_cons (pe_cd D__law_family (hr.mono (by decide)) rfl (pa_cons (pv 3) (pa_cons pe_bl pa_nil))) pa_nil)) (nomark _)) (pss_one ps_break) pss_nil))))))))
      (pss_one (ps_ret (pv 3))))), ?_⟩
    refine ⟨_, rfl, _, _, rfl, rfl, ⟨by decide, by decide, by decide⟩, c, 36, 10000, rfl, hc, by decide, by decide, by decide, fun v1 H1 ds s1 dr => ?_⟩
    obtain ⟨dA, rfl, hds, ld, bd⟩ := dr
    refine ⟨9, rfl, by decide, by decide, for_range (Pv := fun i σ H2 => ∃ (v2 v3 v4 v5 : Option V), σ = [some (.int c), some (.ref dA), v2, v3, v4, v5] ∧ LamX.ExtN H1 H2 ∧ LamX.Tabs T H2 ∧ (0 < i → ∃ v g, v3 = some v ∧ VG g ∧ g.1.length ≤ 5 ∧ IsG K g v H2))
      ⟨none, none, none, none, rfl, LamX.ExtN.refl _, hT.ext s1, fun z => absurd z (Nat.lt_irrefl _)⟩ ?_ ?_⟩
    · rintro i σ H2 hi ⟨v2, v3, v4, v5, rfl, e2, T2, _⟩
      have hi : i < 9 := hi
      have e0 : (0 : Int) + (i : Nat) = (i : Nat) := Int.zero_add _
      have hds2 := e2 _ _ hds (fun ps z => by cases z)
      have m0 : 4 * ((0 : Int) + (i : Nat)) = ((4 * i : Nat) : Int) := by rw [e0]; rfl
      have m1 : 4 * ((0 : Int) + (i : Nat)) + 1 = ((4 * i + 1 : Nat) : Int) := by rw [e0]; rfl
      have m2 : 4 * ((0 : Int) + (i : Nat)) + 2 = ((4 * i + 2 : Nat) : Int) := by rw [e0]; rfl
      have m3 : 4 * ((0 : Int) + (i : Nat)) + 3 = ((4 * i + 3 : Nat) : Int) := by rw [e0]; rfl
      have five : (0 : Int) < 5 := by decide
      have four : (0 : Int) < 4 := by decide
      have two : (0 : Int) < 2 := by decide
      have d0 := (bd _ (getD_mem2 (l := ds) (i := 4 * i) (by omega))).1
      refine ⟨_, rfl, _, rfl, _, _, rfl, rfl, .inl ⟨by decide, by decide⟩, dA, _, _, _, rfl, rfl, SqL.of hds2, nums_atI m0 (by omega), 4, 2, _, rfl, by decide, by decide, d0, fun v6 H3 rev aa bb s3 ha0 ha1 hb0 hb1 ig3 => ?_⟩
      have hds3 := s3 _ _ hds2
      refine ⟨_, rfl, _, rfl, _, _, rfl, rfl, .inl ⟨by decide, by decide⟩, _, _, rfl, rfl, dA, _, _, _, rfl, rfl, SqL.of hds3, nums_atI m1 (by omega), .inl ⟨_, rfl, _, _, rfl, rfl, five, ?_⟩⟩
      refine ⟨_, rfl, _, rfl, _, _, rfl, rfl, .inl ⟨by decide, by decide⟩, _, _, rfl, rfl, dA, _, _, _, rfl, rfl, SqL.of hds3, nums_atI m2 (by omega), .inl ⟨_, rfl, _, _, rfl, rfl, four, ?_⟩⟩
      obtain ⟨ii, ei, ii5, _⟩ := mod_nat (z := ds.getD (4 * i + 1) 0) (n := 5) (by decide)
      have eqv : [v6, V.int (ds.getD (4 * i + 1) 0 % 5), V.int (ds.getD (4 * i + 2) 0 % 4), V.int (ds.getD (4 * i + 3) 0 % 2)] = [v6, V.int (ii : Nat), V.int (ds.getD (4 * i + 2) 0 % 4), V.int (ds.getD (4 * i + 3) 0 % 2)] := by
        rw [show ds.getD (4 * i + 1) 0 % 5 = (ii : Nat) from ei]
      have br0 := Int.emod_nonneg (ds.getD (4 * i + 2) 0) (show (4 : Int) ≠ 0 by decide)
      have br1 := Int.emod_lt_of_pos (ds.getD (4 * i + 2) 0) four
      have bu0 := Int.emod_nonneg (ds.getD (4 * i + 3) 0) (show (2 : Int) ≠ 0 by decide)
      have bu1 := Int.emod_lt_of_pos (ds.getD (4 * i + 3) 0) two
      have sb := W.shi 4 2 rev (by decide) (by decide) (by decide) (by decide)
      have st := W.tur _ sb aa bb
      have lt4 : (turned (shiftBase 4 2 rev) aa bb).1.length = 4 := by
        cases rev <;> rfl
      refine ⟨_, rfl, _, rfl, _, rfl, _, rfl, _, rfl, _, _, rfl, rfl, .inl ⟨by decide, by decide⟩, _, _, rfl, rfl, dA, _, _, _, rfl, rfl, SqL.of hds3, nums_atI m3 (by omega), .inl ⟨_, rfl, _, _, rfl, rfl, two, _, ii, _, _, turned (shiftBase 4 2 rev) aa bb, eqv, ig3, by rw [lt4]; omega, st.most, st.l, bu0, by omega, fun v7 H4 s4 ig4 => ?_⟩⟩
      have vg4 := W.gro rev aa bb ii (ds.getD (4 * i + 2) 0 % 4) (ds.getD (4 * i + 3) 0 % 2) ha0 ha1 hb0 hb1 ii5 br0 br1 bu0 bu1
      have gl4 : (lawGrown (turned (shiftBase 4 2 rev) aa bb) ii (ds.getD (4 * i + 2) 0 % 4) (ds.getD (4 * i + 3) 0 % 2)).1.length ≤ 5 := by
        show (growRow _ _ _ _ _).length ≤ 5
        rw [grow_len _ _ _ _ _ (by rw [lt4]; omega), lt4]
        exact Nat.le_refl _
      generalize lawGrown (turned (shiftBase 4 2 rev) aa bb) ii (ds.getD (4 * i + 2) 0 % 4) (ds.getD (4 * i + 3) 0 % 2) = g4 at ig4 vg4 gl4
      have hds4 := s4 _ _ hds3
      refine ⟨_, rfl, _, rfl, _, _, rfl, rfl, .inl ⟨by decide, by decide⟩, _, _, rfl, rfl, dA, _, _, _, rfl, rfl, SqL.of hds4, nums_atI m3 (by omega), _, _, rfl, rfl, ⟨by decide, by decide⟩, .inl ⟨_, rfl, _, _, rfl, rfl, two, rfl, _, rfl, iteD (fun c1 => ?_) (fun c1 => ?_)⟩⟩
      · refine ⟨_, rfl, _, g4, rfl, ig4, vg4, fun v8 H5 s5 ig5 => ?_⟩
        have vg5 := across_vg vg4
        have gl5 : (across g4).1.length ≤ 5 := by rw [across_len]; exact gl4
        have T5 := T2.ext (s3.trans (s4.trans s5))
        refine ⟨_, rfl, _, false, across g4, rfl, ig5, vg5, (W.ent _ vg5 gl5).1, W.dl false, (W.ent _ vg5 gl5).2, T5, fun v7 H7 qs kk eN T7 fq lq pl => ?_⟩
        obtain ⟨p7, l7, rfl, h7, r7⟩ := pl
        have ig7 := ig5.kt (kt_ext eN)
        refine ⟨p7, _, rfl, .inl (SqL.of h7), _, rfl, _, true, across g4, rfl, ig7, vg5, (W.ent _ vg5 gl5).1, W.dl true, (W.ent _ vg5 gl5).2, T7, fun v8 H8 qs8 kk8 eN8 T8 fq8 lq8 pl8 => ?_⟩
        obtain ⟨p8, l8, rfl, h8, r8⟩ := pl8
        have ig8 := ig7.kt (kt_ext eN8)
        have eall := (e2.trans (extn_same (s3.trans (s4.trans s5)))).trans (eN.trans eN8)
        exact ⟨p8, _, rfl, .inl (SqL.of h8), _, _, rfl, rfl, _, rfl, iteD (fun _ => ⟨_, rfl, k _ _ _ ((extn_same s1).trans eall) T8 vg5 gl5 ig8⟩) (fun _ => ⟨_, _, _, _, rfl, eall, T8, fun _ => ⟨_, _, rfl, vg5, gl5, ig8⟩⟩)⟩
      · have T4 := T2.ext (s3.trans s4)
        refine ⟨_, rfl, _, false, g4, rfl, ig4, vg4, (W.ent _ vg4 gl4).1, W.dl false, (W.ent _ vg4 gl4).2, T4, fun v7 H7 qs kk eN T7 fq lq pl => ?_⟩
        obtain ⟨p7, l7, rfl, h7, r7⟩ := pl
        have ig7 := ig4.kt (kt_ext eN)
        refine ⟨p7, _, rfl, .inl (SqL.of h7), _, rfl, _, true, g4, rfl, ig7, vg4, (W.ent _ vg4 gl4).1, W.dl true, (W.ent _ vg4 gl4).2, T7, fun v8 H8 qs8 kk8 eN8 T8 fq8 lq8 pl8 => ?_⟩
        obtain ⟨p8, l8, rfl, h8, r8⟩ := pl8
        have ig8 := ig7.kt (kt_ext eN8)
        have eall := (e2.trans (extn_same (s3.trans s4))).trans (eN.trans eN8)
        exact ⟨p8, _, rfl, .inl (SqL.of h8), _, _, rfl, rfl, _, rfl, iteD (fun _ => ⟨_, rfl, k _ _ _ ((extn_same s1).trans eall) T8 vg4 gl4 ig8⟩) (fun _ => ⟨_, _, _, _, rfl, eall, T8, fun _ => ⟨_, _, rfl, vg4, gl4, ig8⟩⟩)⟩
    · rintro σ H2 ⟨v2, v3, v4, v5, rfl, e2, T2, hv⟩
      obtain ⟨v, g, rfl, vg, gl, ig⟩ := hv (by decide)
      exact ⟨_, rfl, k _ _ g ((extn_same s1).trans e2) T2 vg gl ig⟩
end
end Gk
end

section
set_option Elab.async false
set_option linter.all false
set_option maxRecDepth 100000
set_option maxHeartbeats 4000000
namespace Gk
open PySem L2
section
variable {P : Program} {w : World} {K : PySem.W.Frag} {mg : Str → Option Value} {base : Heap}
abbrev sLDrawn : Stmt := top 45
-- slots: _law_cell_here 0 _law_head 1 _law_kind 2 _law_n 3
theorem scLDrawn : FnScope ["_law_cell_here", "_law_head", "_law_kind", "_law_n"] ["_law_cell_here", "_law_head"] (defScope sLDrawn) := ⟨rfl, rfl, rfl, by decide +kernel, rfl, by decide +kernel, by decide +kernel⟩
theorem shift_len (n : Nat) (sh : Int) (rev : Bool) (a b : Int) : (turned (shiftBase n sh rev) a b).1.length = n := by
  cases rev <;> simp [turned, turnRow, shiftBase, rangeI]
def spLDrawn (K : PySem.W.Frag) (T : List (Addr × Str)) : Sp := fun vs H Q _ => ∃ (c : Int) (v : V) (hs : List Int), vs = [.int c, v] ∧ 0 ≤ c ∧ IsDr K 6 10000 hs v H ∧ LamX.Tabs T H ∧ ∀ v' H' g, LamX.ExtN H H' → LamX.Tabs T H' → VG g → g.1.length ≤ 5 → IsG K g v' H' → Q v' H'
theorem ok_ldrawn {f : Addr} {fd : FuncData} (F : Fun K "_law_drawn" "_law_drawn" sLDrawn f fd) {T : List (Addr × Str)} {S : List G} (W : Wld S) (B : Bl mg) (D__law_shifted : DefOk P w K mg base "_law_shifted" 2 ["_law_n", "_law_shift", "_law_draw"] (spLShifted K)) (D__law_linkish : DefOk P w K mg base "_law_linkish" 2 ["_law_cell_here", "_law_parts"] (spLLinkish K)) (D__law_pair : DefOk P w K mg base "_law_pair" 2 ["_law_cell_here", "_law_n"] (spLPair K))
    (D__law_seamed : DefOk P w K mg base "_law_seamed" 5 ["_law_cell_here"] (spLSeamed K T)) : FnOk P w K mg base CX0 6 f fd ["_law_cell_here", "_law_head"] (spLDrawn K T) := by
  refine F.ok scLDrawn (fun vs H Q E h => ?_) (fun cdv A outer s H vs Q E hr h => ?_)
  · obtain ⟨c, v, hs, rfl, _⟩ := h
    rfl
  · obtain ⟨c, v, hs, rfl, hc, ⟨a, rfl, ha, ld, bd⟩, hT, k⟩ := h
    refine ⟨_, (pss_cons (ps_set (i := 2) scLDrawn.nd rfl (Or.inl rfl) (pe_op op_mod (pe_callTy call_int1 (by rfl) B.int (by decide +kernel) (pa_cons (pe_ix (ixL K) (pv 1) pe_int (fun _ _ => rfl)) pa_nil)) pe_int))
      (pss_cons (ps_if (pt_cmpR op_gt (pv 2) pe_int (nomark _)) (pss_one (ps_ret (pe_cd D__law_shifted (hr.mono (by decide)) rfl (pa_cons pe_int (pa_cons (pe_op op_sub (pv 2) pe_int) (pa_cons (pe_ix (ixL K) (pv 1) pe_int (fun _ _ => rfl)) pa_nil)))))) pss_nil)
      (pss_cons (ps_if (pt_cmpR op_gt (pv 2) pe_int (nomark _)) (pss_one (ps_ret (pe_cd D__law_linkish (hr.mono (by decide)) rfl (pa_cons (pv 0) (pa_cons (pe_lst (pa_cons pe_int (pa_cons pe_int pa_nil))) pa_nil))))) pss_nil)
      (pss_cons (ps_if (pt_cmpR op_gt (pv 2) pe_int (nomark _)) (pss_one (ps_ret (pe_cd D__law_seamed (hr.mono (by decide)) rfl (pa_cons (pv 0) pa_nil)))) pss_nil)
      (pss_cons (ps_set (i := 3) scLDrawn.nd rfl (Or.inl rfl) pe_int)
      (pss_cons (ps_if (pt_cmpR op_lt (pv 2) pe_int (nomark _)) (pss_one (ps_set (i := 3) scLDrawn.nd rfl (Or.inl rfl) (pe_ix (ixL K) (pe_lst (pa_cons pe_int (pa_cons pe_int (pa_cons pe_int (pa_cons pe_int (pa_cons pe_int (pa_cons pe_int (pa_cons pe_int (pa_cons pe_int pa_nil))))))))) (pv 2) (fun _ _ => rfl)))) pss_nil)
      (pss_cons (ps_if (pt_cmpR op_eq (pe_op op_mod (pe_callTy call_int1 (by rfl) B.int (by decide +kernel) (pa_cons (pe_ix (ixL K) (pv 1) pe_int (fun _ _ => rfl)) pa_nil)) pe_int) pe_int (nomark _)) (pss_one (ps_ret (pe_cd D__law_shifted (hr.mono (by decide)) rfl (pa_cons (pv 3) (pa_cons (pe_op op_add pe_int (pe_op op_mod (pe_callTy call_int1 (by rfl) B.int (by decide +kernel) (pa_cons (pe_op op_fdivN (pe_ix (ixL K) (pv 1) pe_int (fun _ _ => rfl)) pe_int) pa_nil)) (pe_op op_sub (pv 3) pe_int))) (pa_cons (pe_ix (ixL K) (pv 1) pe_int (fun _ _ => rfl)) pa_nil)))))) pss_nil)
      (pss_one (ps_ret (pe_cd D__law_pair (hr.mono (by decide)) rfl (pa_cons (pv 0) (pa_cons (pv 3) pa_nil)))))))))))), ?_⟩
    have p64 : (0 : Int) < 64 := by decide
    have p4 : (0 : Int) < 4 := by decide
    have fs : ∀ (n : Nat) (sh : Int), 2 ≤ n → n ≤ 5 → 1 ≤ sh → sh ≤ n - 1 → ∀ (v' : V) (H' : Hp) (rev : Bool) (a b : Int), Same H H' → IsG K (turned (shiftBase n sh rev) a b) v' H' → Q v' H' := fun n sh h1 h2 h3 h4 v' H' rev a b s' ig =>
      k v' H' _ (extn_same s') (hT.ext s') (W.tur _ (W.shi n sh rev h1 h2 h3 h4) a b) (by rw [shift_len]; exact h2) ig
    refine ⟨_, rfl, a, _, 0, _, rfl, rfl, SqL.of ha, nums_atI (i := 0) rfl (by omega), .inl ⟨_, rfl, _, _, rfl, rfl, p64, ?_⟩⟩
    have k0 := Int.emod_nonneg (hs.getD 0 0) (show (64 : Int) ≠ 0 by decide)
    have k1 := Int.emod_lt_of_pos (hs.getD 0 0) p64
    show gName 2 (.int (hs.getD 0 0 % 64)) _ _ _
    generalize hs.getD 0 0 % 64 = kind at k0 k1 ⊢
    have d1 := (bd _ (getD_mem2 (l := hs) (i := 1) (by omega))).1
    refine ⟨_, rfl, _, _, rfl, rfl, _, rfl, iteD (fun c1 => ?_) (fun c1 => ?_)⟩
    · have c1 : 61 < kind := c1
      exact ⟨_, rfl, _, _, rfl, rfl, _, rfl, a, _, 1, _, rfl, rfl, SqL.of ha, nums_atI (i := 1) rfl (by omega), 5, _, _, rfl, by decide, by decide, d1, fun v' H' rev aa bb s' _ _ _ _ ig => fs 5 _ (by decide) (by decide) (by omega) (by omega) v' H' rev aa bb s' ig⟩
    refine ⟨_, rfl, _, _, rfl, rfl, _, rfl, iteD (fun c2 => ?_) (fun c2 => ?_)⟩
    · refine ⟨_, rfl, of_decide_eq_true rfl, fun p np => ⟨c, p, rfl, hc, upd_same, fun v' H' g s' l5 vg ig => ?_⟩⟩
      have sp := (same_new (o := .lst [.int 2, .int 3]) np).trans s'
      exact k v' H' g (extn_same sp) (hT.ext sp) vg (by omega) ig
    refine ⟨_, rfl, _, _, rfl, rfl, _, rfl, iteD (fun c3 => ?_) (fun c3 => ?_)⟩
    · exact ⟨_, rfl, c, rfl, hc, hT, fun v' H' g eN T' vg gl ig => k v' H' g eN T' vg gl ig⟩
    refine ⟨_, rfl, _, _, rfl, rfl, _, rfl, iteD (fun c4 => ?_) (fun c4 => ?_)⟩
    · have c4 : kind < 8 := c4
      obtain ⟨kn, rfl⟩ := Int.eq_ofNat_of_zero_le k0
      refine ⟨of_decide_eq_true rfl, fun p np => ⟨_, rfl, p, nums [2, 2, 3, 3, 3, 3, 3, 3], _, _, rfl, rfl, SqL.of upd_same, nums_atI (i := kn) rfl (by simp; omega), ?_⟩⟩
      obtain ⟨n, en, n2, n5⟩ : ∃ n : Nat, ([2, 2, 3, 3, 3, 3, 3, 3] : List Int).getD kn 0 = (n : Nat) ∧ 2 ≤ n ∧ n ≤ 5 := by
        have : ∀ kn, kn < 8 → ([2, 2, 3, 3, 3, 3, 3, 3] : List Int).getD kn 0 = 2 ∨ ([2, 2, 3, 3, 3, 3, 3, 3] : List Int).getD kn 0 = 3 := by decide
        rcases this kn (by omega) with e | e
        · exact ⟨2, e, by decide, by decide⟩
        · exact ⟨3, e, by decide, by decide⟩
      rw [en]
      have sp := same_new (o := .lst (nums [2, 2, 3, 3, 3, 3, 3, 3])) np
      have ha2 := sp _ _ ha
      refine ⟨_, rfl, a, _, 2, _, rfl, rfl, SqL.of ha2, nums_atI (i := 2) rfl (by omega), .inl ⟨_, rfl, _, _, rfl, rfl, p4, rfl, _, rfl, iteD (fun c5 => ?_) (fun c5 => ?_)⟩⟩
      · have pn : (0 : Int) < ((n : Nat) : Int) - 1 := by omega
        have b0 := Int.emod_nonneg ((hs.getD 2 0).fdiv 4) (show ((n : Nat) : Int) - 1 ≠ 0 by omega)
        have b1 := Int.emod_lt_of_pos ((hs.getD 2 0).fdiv 4) pn
        exact ⟨_, rfl, _, rfl, a, _, 2, _, rfl, rfl, SqL.of ha2, nums_atI (i := 2) rfl (by omega), _, _, rfl, rfl, ⟨by decide, by decide⟩, .inl ⟨_, rfl, _, rfl, _, _, rfl, rfl, _, _, rfl, rfl, pn, _, _, rfl, rfl, _, rfl, a, _, 1, _, rfl, rfl, SqL.of ha2, nums_atI (i := 1) rfl (by omega), n, _, _, rfl, by omega, by omega, d1, fun v' H' rev aa bb s' _ _ _ _ ig => fs n (1 + (hs.getD 2 0).fdiv 4 % (((n : Nat) : Int) - 1)) n2 n5 (by omega) (by omega) v' H' rev aa bb (sp.trans s') ig⟩⟩
      · exact ⟨_, rfl, _, rfl, c, n, rfl, hc, n2, n5, fun v' H' g s' gl vg ig => k v' H' g (extn_same (sp.trans s')) (hT.ext (sp.trans s')) vg (by omega) ig⟩
    · have n2 : 2 ≤ 4 := by decide
      have n5 : 4 ≤ 5 := by decide
      have sp := Same.refl H
      have ha2 := ha
      refine ⟨_, rfl, a, _, 2, _, rfl, rfl, SqL.of ha2, nums_atI (i := 2) rfl (by omega), .inl ⟨_, rfl, _, _, rfl, rfl, p4, rfl, _, rfl, iteD (fun c5 => ?_) (fun c5 => ?_)⟩⟩
      · have pn : (0 : Int) < ((4 : Nat) : Int) - 1 := by omega
        have b0 := Int.emod_nonneg ((hs.getD 2 0).fdiv 4) (show ((4 : Nat) : Int) - 1 ≠ 0 by omega)
        have b1 := Int.emod_lt_of_pos ((hs.getD 2 0).fdiv 4) pn
        exact ⟨_, rfl, _, rfl, a, _, 2, _, rfl, rfl, SqL.of ha2, nums_atI (i := 2) rfl (by omega), _, _, rfl, rfl, ⟨by decide, by decide⟩, .inl ⟨_, rfl, _, rfl, _, _, rfl, rfl, _, _, rfl, rfl, pn, _, _, rfl, rfl, _, rfl, a, _, 1, _, rfl, rfl, SqL.of ha2, nums_atI (i := 1) rfl (by omega), 4, _, _, rfl, by omega, by omega, d1, fun v' H' rev aa bb s' _ _ _ _ ig => fs 4 (1 + (hs.getD 2 0).fdiv 4 % (((4 : Nat) : Int) - 1)) n2 n5 (by omega) (by omega) v' H' rev aa bb (sp.trans s') ig⟩⟩
      · exact ⟨_, rfl, _, rfl, c, 4, rfl, hc, n2, n5, fun v' H' g s' gl vg ig => k v' H' g (extn_same (sp.trans s')) (hT.ext (sp.trans s')) vg (by omega) ig⟩
end
end Gk
end

section
set_option Elab.async false
set_option linter.all false
set_option maxRecDepth 100000
set_option maxHeartbeats 4000000
namespace Gk
open PySem L2
section
variable {P : Program} {w : World} {K : PySem.W.Frag} {mg : Str → Option Value} {base : Heap}
/-! ### a def called by a keyword alone -/
structure DefK (P : Program) (w : World) (K : PySem.W.Frag) (mg : Str → Option Value) (base : Heap) (x : Str) (k : Nat) (ps ks : List Str) (sp : Sp) : Prop where
  ex : ∃ (f : Addr) (fd : FuncData), FnOk P w K mg base CX0 k f fd ps sp ∧ mg x = some (.ref f) ∧ PySem.W.keepIn K (.ref f) = true ∧ KBinds K fd ps ks (fun us ws => us ++ ws) (fun vs zs => vs ++ zs)
section
variable {X : Cx} {x : Str} {k : Nat} {ps ks : List Str} {sp : Sp} {kws : List Keyword} {tk : TA} {p pos : Pos}
theorem pe_cdK (D : DefK X.prog X.w X.K X.mg X.base x k ps ks sp) (hr : Room k X.A) (hg : Gl X x) (hkw : PK X kws tk)
    (hall : (backToKw pos (keywordEach kws X.env)).all (·.1.isSome) = true := by rfl) (hks : (backToKw pos (keywordEach kws X.env)).filterMap (·.1) = ks := by rfl) (hdb : (x == ("__debug__" : Str)) = false := by decide)
    (hpl : ((backTo pos (starEach [] X.env)).any (·.1) || (backToKw pos (keywordEach kws X.env)).any (·.1.isNone)) = false := by rfl) :
    PE X (.Call (.Name x p) [] kws pos) (tCallK sp (fun vs zs => vs ++ zs) E0 tNil tk) := by
  obtain ⟨f, fd, F, hm, kp, hb⟩ := D.ex
  refine ⟨fun pins s σ H Q I h => ?_⟩
  refine wpAny_Call_Name_kw (ld_glob I hg hm ?_ hdb)
  refine PySem.W.callWith_KW0 (h₀ := X.base) I.ok.mod.kin kp hall ?_ hpl
  refine thn (hkw.run pos pins s σ H _ I h) fun ws s2 ⟨zs, H2, I2, rz, q2⟩ => ⟨I2.kIn, ?_⟩
  rw [hks]
  exact run_fnk F hr hb pass0 I2 .nil rz q2
end
theorem reach_same {S : List G} (W : Wld S) {a : G} (ha : a ∈ S) (x : G) : Reach nexts a x ↔ Reach (fun x => lawNext x true) a x := by
  have h1 : ∀ x, Reach nexts a x → x ∈ S ∧ Reach (fun x => lawNext x true) a x := fun x r => by
    induction r with
    | base => exact ⟨ha, .base⟩
    | step _ hy ih => exact ⟨W.dom.nx _ ih.1 _ hy, .step ih.2 ((W.same _ ih.1 _).mp hy)⟩
  have h2 : ∀ x, Reach (fun x => lawNext x true) a x → x ∈ S ∧ Reach nexts a x := fun x r => by
    induction r with
    | base => exact ⟨ha, .base⟩
    | step _ hy ih => exact ⟨(W.dl true).nx _ ih.1 _ hy, .step ih.2 ((W.same _ ih.1 _).mpr hy)⟩
  exact ⟨fun r => (h1 x r).2, fun r => (h2 x r).2⟩
theorem agree {S : List G} (W : Wld S) {a : G} (ha : a ∈ S) {os qs : List G} {k : Nat} (li : LoopI S nexts a os []) (fq : FamQ S (fun x => lawNext x true) a qs k) (lq : qs.length ≤ k) : sortG os = sortG qs :=
  sort_same li.nd fq.nd (fun x => (li.all x).trans ((reach_same W ha x).trans (fq.all lq x).symm)) fun x hx => (W.vg x (li.inS x hx)).1.l
theorem sort_mem {gs : List G} {x : G} : x ∈ sortG gs ↔ x ∈ gs := (List.mergeSort_perm _ _).mem_iff
theorem sort_len (gs : List G) : (sortG gs).length = gs.length := (List.mergeSort_perm _ _).length_eq
theorem gok {g : G} (h : VG g) : GOk g := ⟨by have := h.two; omega, h.most, h.l⟩
theorem IsPlL.same {gs : List G} {v : V} {H H' : Hp} (h : IsPlL K gs v H) (s : Same H H') : IsPlL K gs v H' := by
  obtain ⟨a, l, e, h1, h2⟩ := h
  exact ⟨a, l, e, s _ _ h1, h2.kt fun y v h => h.kt (kt_same s)⟩
theorem IsPl.ext {gs : List G} {v : V} {H H' : Hp} (h : IsPl K gs v H) (e : LamX.ExtN H H') : IsPl K gs v H' := h.kt (kt_ext e)
abbrev sLAsked : Stmt := top 59
-- slots: _law_script 0 _law_head 1 _law_pair_here 2 _law_n 3 _law_due 4 _law_turned_here 5 _law_place 6
theorem scLAsked : FnScope ["_law_script", "_law_head", "_law_pair_here", "_law_n", "_law_due", "_law_turned_here", "_law_place"] ["_law_script"] (defScope sLAsked) := ⟨rfl, rfl, rfl, by decide +kernel, rfl, by decide +kernel, by decide +kernel⟩
def spAsked (K : PySem.W.Frag) (T : List (Addr × Str)) : Sp := fun vs H Q _ => ∃ v l, vs = [v] ∧ IsScr K l v H ∧ LamX.Tabs T H ∧ ∀ H', Q (.bl true) H'
theorem ok_lasked {f : Addr} {fd : FuncData} (F : Fun K "_law_asked" "_law_asked" sLAsked f fd) {T : List (Addr × Str)} {S : List G} {CG : Addr} (W : Wld S) (B : Bl mg) (D__law_cell : DefOk P w K mg base "_law_cell" 1 ["_law_script", "_law_k"] (spCell K)) (D__law_draws : DefOk P w K mg base "_law_draws" 1 ["_law_cell_here", "_law_many", "_law_most"] (spDraws K)) (D__law_drawn : DefOk P w K mg base "_law_drawn" 6 ["_law_cell_here", "_law_head"] (spLDrawn K T))
    (D__law_family : DefOk P w K mg base "_law_family" 4 ["_law_pair_here", "_law_seam"] (spLFamily K T S)) (D__law_same_places : DefOk P w K mg base "_law_same_places" 4 ["_law_told", "_law_due"] (spSamePlaces K)) (D__law_turned : DefOk P w K mg base "_law_turned" 1 ["_law_pair_here", "_law_a", "_law_b"] (spLTurned K))
    (D_family : DefOk P w K mg base "family" 10 ["grid"] (spFamily P w K CG S)) (D_familyK : DefK P w K mg base "family" 10 ["grid"] ["grid"] (spFamily P w K CG S))
    (K_Grid : MkOk P w K mg base "Grid" CG 5 ["self", "xs", "ohs"] (spGridInit K CG true)) (K_GridL : MkOk P w K mg base "Grid" CG 5 ["self", "xs", "ohs"] (spGridInit K CG false)) : FnOk P w K mg base CX0 11 f fd ["_law_script"] (spAsked K T) := by
  refine F.ok scLAsked (fun vs H Q E h => ?_) (fun cdv A outer s H vs Q E hr h => ?_)
  · obtain ⟨v, l, rfl, _⟩ := h
    rfl
  · obtain ⟨v, l, rfl, hs, hT, k⟩ := h
    refine ⟨_, (pss_cons (ps_set (i := 1) scLAsked.nd rfl (Or.inl rfl) (pe_cd D__law_draws (hr.mono (by decide)) rfl (pa_cons (pe_cd D__law_cell (hr.mono (by decide)) rfl (pa_cons (pv 0) (pa_cons pe_int pa_nil))) (pa_cons pe_int (pa_cons (pe_op op_pow pe_int pe_int) pa_nil)))))
      (pss_cons (ps_set (i := 2) scLAsked.nd rfl (Or.inl rfl) (pe_cd D__law_drawn (hr.mono (by decide)) rfl (pa_cons (pe_cd D__law_cell (hr.mono (by decide)) rfl (pa_cons (pv 0) (pa_cons pe_int pa_nil))) (pa_cons (pv 1) pa_nil))))
      (pss_cons (ps_set (i := 3) scLAsked.nd rfl (Or.inl rfl) (pe_callB (lenS K) (by rfl) B.len PySem.boot_len (pa_cons (pe_ix (ixT K) (pv 2) pe_int (fun _ _ => rfl)) pa_nil)))
      (pss_cons (ps_set (i := 4) scLAsked.nd rfl (Or.inl rfl) (pe_cd D__law_family (hr.mono (by decide)) rfl (pa_cons (pv 2) (pa_cons pe_bl pa_nil))))
      (pss_cons (ps_if (pt_not (pt_val (pe_cd D__law_same_places (hr.mono (by decide)) rfl (pa_cons (pe_cd D_family (hr.mono (by decide)) rfl (pa_cons (pe_mk K_Grid (hr.mono (by decide)) rfl (pa_cons (pe_ix (ixT K) (pv 2) pe_int (fun _ _ => rfl)) (pa_cons (pe_ix (ixT K) (pv 2) pe_int (fun _ _ => rfl)) pa_nil))) pa_nil)) (pa_cons (pv 4) pa_nil))))) (pss_one (ps_ret pe_bl)) pss_nil)
      (pss_cons (ps_if (pt_cmpR op_gt (pe_callB (lenS K) (by rfl) B.len PySem.boot_len (pa_cons (pv 4) pa_nil)) pe_int (nomark _)) (pss_one (ps_ret pe_bl)) pss_nil)
      (pss_cons (ps_set (i := 5) scLAsked.nd rfl (Or.inl rfl) (pe_cd D__law_turned (hr.mono (by decide)) rfl (pa_cons (pv 2) (pa_cons (pe_op op_mod (pe_callTy call_int1 (by rfl) B.int (by decide +kernel) (pa_cons (pe_ix (ixL K) (pv 1) pe_int (fun _ _ => rfl)) pa_nil)) (pv 3)) (pa_cons (pe_op op_mod (pe_callTy call_int1 (by rfl) B.int (by decide +kernel) (pa_cons (pe_ix (ixL K) (pv 1) pe_int (fun _ _ => rfl)) pa_nil)) (pv 3)) pa_nil)))))
      (pss_cons (ps_if (pt_not (pt_val (pe_cd D__law_same_places (hr.mono (by decide)) rfl (pa_cons (pe_cdK D_familyK (hr.mono (by decide)) rfl (pk_cons (pe_mk K_GridL (hr.mono (by decide)) rfl (pa_cons (pe_callTy (listS K) (by rfl) B.list (by decide +kernel) (pa_cons (pe_ix (ixT K) (pv 5) pe_int (fun _ _ => rfl)) pa_nil)) (pa_cons (pe_callTy (listS K) (by rfl) B.list (by decide +kernel) (pa_cons (pe_ix (ixT K) (pv 5) pe_int (fun _ _ => rfl)) pa_nil)) pa_nil))) pk_nil)) (pa_cons (pv 4) pa_nil))))) (pss_one (ps_ret pe_bl)) pss_nil)
      (pss_cons (ps_set (i := 6) scLAsked.nd rfl (Or.inl rfl) (pe_ix (ixL K) (pv 4) (pe_op op_mod (pe_callTy call_int1 (by rfl) B.int (by decide +kernel) (pa_cons (pe_ix (ixL K) (pv 1) pe_int (fun _ _ => rfl)) pa_nil)) (pe_callB (lenS K) (by rfl) B.len PySem.boot_len (pa_cons (pv 4) pa_nil))) (fun _ _ => rfl)))
      (pss_one (ps_ret (pe_cd D__law_same_places (hr.mono (by decide)) rfl (pa_cons (pe_cd D_family (hr.mono (by decide)) rfl (pa_cons (pe_mk K_Grid (hr.mono (by decide)) rfl (pa_cons (pe_ix (ixT K) (pv 6) pe_int (fun _ _ => rfl)) (pa_cons (pe_ix (ixT K) (pv 6) pe_int (fun _ _ => rfl)) pa_nil))) pa_nil)) (pa_cons (pe_cd D__law_family (hr.mono (by decide)) rfl (pa_cons (pv 6) (pa_cons pe_bl pa_nil))) pa_nil)))))))))))))), ?_⟩
    refine ⟨_, rfl, v, l, 0, rfl, hs, fun c hc => ?_⟩
    refine ⟨_, _, rfl, rfl, ⟨by decide, by decide, by decide⟩, c, 6, 10000, rfl, hc, by decide, by decide, by decide, fun v1 H1 ds s1 dr => ?_⟩
    obtain ⟨sa, rfl, hsa⟩ := id hs
    have hs1 : IsScr K l (.ref sa) H1 := ⟨sa, rfl, s1.seq hsa⟩
    refine ⟨_, rfl, _, l, 1, rfl, hs1, fun c2 hc2 => ⟨_, rfl, c2, v1, ds, rfl, hc2, dr, hT.ext s1, fun v2 H2 g e2 T2 vg gl ig => ?_⟩⟩
    obtain ⟨dA, rfl, hds, ld, bd⟩ := id dr
    have hds2 := e2 _ _ hds (fun ps z => by cases z)
    obtain ⟨a2, x2, o2, rfl, ha2, hx2, ho2⟩ := id ig
    obtain ⟨ax, rfl, hax⟩ := id hx2.seq
    obtain ⟨ao, rfl, hao⟩ := id ho2.seq
    have hn : (nums g.1).length = g.1.length := nums_len _
    have en := W.ent g vg gl
    have g2 := vg.two
    -- n, due
    refine ⟨_, rfl, a2, _, 0, _, rfl, rfl, ha2, rfl, ax, _, rfl, .inr hax, ?_⟩
    refine ⟨_, rfl, _, true, g, rfl, ig, vg, en.1, W.dl true, en.2, T2, fun v3 H3 qs kq e3 T3 fq lq pl => ?_⟩
    have ig3 := ig.kt (kt_ext e3)
    have hx3 := hx2.kt (kt_ext e3)
    have ho3 := ho2.kt (kt_ext e3)
    have ha3 := (kt_ext e3).t ha2
    have hds3 := e3 _ _ hds2 (fun ps z => by cases z)
    have zq := nd_len fq.nd fq.inS
    have zS := (W.dl true).len
    have plens : ∀ y ∈ sortG qs, y.1.length ≤ 100 ∧ y.2.length ≤ 100 := fun y hy => by
      have h := (W.vg y (fq.inS y (sort_mem.mp hy))).1
      exact ⟨h.most, by rw [h.l]; exact h.most⟩
    -- the grid's own family
    refine ⟨_, rfl, a2, _, 0, _, rfl, rfl, ha3, rfl, _, rfl, a2, _, 1, _, rfl, rfl, ha3, rfl, fun gx gdx ngx ngdx ngd => ?_⟩
    have sm : Same H3 (upd (upd H3 gdx (.own gx)) gx (.ins CG gdx [])) := same_own (same_new ngdx) ngx
    refine ⟨gx, gdx, _, _, g, rfl, upd_same, hx3.kt (kt_same sm), ho3.kt (kt_same sm), vg, fun x4 o4 H4 sb4 hp4 rx4 ro4 => ⟨rfl, ?_⟩⟩
    have s34 : Same H3 H4 := sb4.same sm ngx
    refine ⟨_, g, rfl, ⟨gx, gdx, x4, o4, rfl, hp4, rx4, ro4⟩, gok vg, en.2, fun v5 H5 os s5 li pl5 => ?_⟩
    have s35 := s34.trans s5
    rw [agree W en.2 li fq lq] at pl5
    refine ⟨_, rfl, v5, v3, sortG qs, rfl, pl5, pl.same s35, by rw [sort_len]; omega, plens, true, rfl, iteF ?_⟩
    obtain ⟨p3, l3, rfl, h3, r3⟩ := id pl
    have h5 := s35 _ _ h3
    have r5 := r3.kt fun y v h => h.kt (kt_same s35)
    refine ⟨_, rfl, p3, _, rfl, .inl (SqL.of h5), _, _, rfl, rfl, _, rfl, iteD (fun _ => k _) (fun _ => ?_)⟩
    -- the turned grid
    have hds5 := s35 _ _ hds3
    have ig5 := ig3.kt (kt_same s35)
    have hp0 : (0 : Int) < ((nums g.1).length : Int) := by omega
    refine ⟨_, rfl, _, rfl, dA, _, 3, _, rfl, rfl, SqL.of hds5, nums_atI (i := 3) rfl (by omega), .inl ⟨_, rfl, _, rfl, _, _, rfl, rfl, hp0, _, rfl, dA, _, 4, _, rfl, rfl, SqL.of hds5, nums_atI (i := 4) rfl (by omega), .inl ⟨_, rfl, _, rfl, _, _, rfl, rfl, hp0, ?_⟩⟩⟩
    refine ⟨_, _, _, g, rfl, ig5, by omega, vg.most, vg.l, fun v6 H6 s6 ig6 => ?_⟩
    obtain ⟨a6, x6, o6, rfl, ha6, hx6, ho6⟩ := id ig6
    obtain ⟨ax6, rfl, hax6⟩ := id hx6.seq
    obtain ⟨ao6, rfl, hao6⟩ := id ho6.seq
    have vgt := W.tur g vg (ds.getD 3 0 % ((nums g.1).length : Int)) (ds.getD 4 0 % ((nums g.1).length : Int))
    have ft := W.inv g vg gl (ds.getD 3 0 % ((nums g.1).length : Int)) (ds.getD 4 0 % ((nums g.1).length : Int))
    have vgt : VG (turned g (ds.getD 3 0 % ((nums g.1).length : Int)) (ds.getD 4 0 % ((nums g.1).length : Int))) := vgt
    -- family(grid=Grid(list(..), list(..)))
    refine ⟨_, rfl, a6, _, 0, _, rfl, rfl, ha6, rfl, ax6, _, rfl, .inr hax6, fun L nL => ?_⟩
    obtain ⟨s7, hL7⟩ := new2 (o := .lst (nums (turned g (ds.getD 3 0 % ((nums g.1).length : Int)) (ds.getD 4 0 % ((nums g.1).length : Int))).1)) nL
    refine ⟨_, rfl, a6, _, 1, _, rfl, rfl, (kt_same s7).t ha6, rfl, ao6, _, rfl, .inr ((kt_same s7).t hao6), fun M nM => ?_⟩
    obtain ⟨s8, hM8⟩ := new2 (o := .lst (nums (turned g (ds.getD 3 0 % ((nums g.1).length : Int)) (ds.getD 4 0 % ((nums g.1).length : Int))).2)) nM
    refine fun hx9 hdx9 nx9 ndx9 nd9 => ?_
    have sm9 := same_own (o := .ins CG hdx9 []) (same_new (o := .own hx9) ndx9) nx9
    refine ⟨hx9, hdx9, _, _, turned g (ds.getD 3 0 % ((nums g.1).length : Int)) (ds.getD 4 0 % ((nums g.1).length : Int)), rfl, upd_same, ⟨L, rfl, SqL.of (sm9 _ _ (s8 _ _ hL7))⟩, ⟨M, rfl, SqL.of (sm9 _ _ hM8)⟩, vgt, fun x4' o4' H10 sb10 hp10 rx10 ro10 => ⟨rfl, ?_⟩⟩
    have s10 : Same _ H10 := sb10.same sm9 nx9
    refine ⟨_, _, rfl, ⟨hx9, hdx9, x4', o4', rfl, hp10, rx10, ro10⟩, gok vgt, by rw [ft]; exact en.2, fun v11 H11 os11 s11 li11 pl11 => ?_⟩
    rw [ft] at li11
    rw [agree W en.2 li11 fq lq] at pl11
    have s511 := s6.trans (s7.trans (s8.trans (s10.trans s11)))
    refine ⟨_, rfl, v11, .ref p3, sortG qs, rfl, pl11, pl.same (s35.trans s511), by rw [sort_len]; omega, plens, true, rfl, iteF ?_⟩
    -- a place of it
    have h11 := s511 _ _ h5
    have r11 := r5.kt fun y v h => h.kt (kt_same s511)
    have hds11 := s511 _ _ hds5
    have lpos : 0 < l3.length := by
      rw [r3.1, sort_len]
      exact List.length_pos_of_mem fq.base
    obtain ⟨ii, ei, iil, _⟩ := mod_nat (z := ds.getD 5 0) (n := l3.length) lpos
    refine ⟨_, rfl, _, rfl, dA, _, 5, _, rfl, rfl, SqL.of hds11, nums_atI (i := 5) rfl (by omega), .inl ⟨_, rfl, _, rfl, p3, _, rfl, .inl (SqL.of h11), _, _, rfl, rfl, by omega, p3, _, _, _, rfl, rfl, SqL.of h11, at_list ei iil, ?_⟩⟩
    obtain ⟨y, hy, iy⟩ := r11.at (List.getElem?_eq_getElem iil)
    have yq : y ∈ sortG qs := List.mem_of_getElem? hy
    have yS := fq.inS y (sort_mem.mp yq)
    obtain ⟨yv, yl⟩ := W.vg y yS
    have yn := W.ent y yv yl
    generalize l3[ii] = yref at iy
    obtain ⟨b1, bx, bo, rfl, hb, hbx, hbo⟩ := id iy
    obtain ⟨bax, rfl, hbax⟩ := id hbx.seq
    obtain ⟨bao, rfl, hbao⟩ := id hbo.seq
    refine ⟨_, rfl, b1, _, 0, _, rfl, rfl, hb, rfl, _, rfl, b1, _, 1, _, rfl, rfl, hb, rfl, fun z1 z2 nz1 nz2 nz3 => ?_⟩
    have smz := same_own (o := .ins CG z2 []) (same_new (o := .own z1) nz2) nz1
    refine ⟨z1, z2, _, _, y, rfl, upd_same, hbx.kt (kt_same smz), hbo.kt (kt_same smz), yv, fun x12 o12 H12 sb12 hp12 rx12 ro12 => ⟨rfl, ?_⟩⟩
    have s12 : Same _ H12 := sb12.same smz nz1
    refine ⟨_, y, rfl, ⟨z1, z2, x12, o12, rfl, hp12, rx12, ro12⟩, gok yv, yn.2, fun v13 H13 os13 s13 li13 pl13 => ?_⟩
    have s1113 := s12.trans s13
    have sT := s35.trans (s511.trans s1113)
    refine ⟨_, rfl, _, true, y, rfl, iy.kt (kt_same s1113), yv, yn.1, W.dl true, yn.2, T3.ext sT, fun v14 H14 qs14 k14 e14 T14 fq14 lq14 pl14 => ?_⟩
    rw [agree W yn.2 li13 fq14 lq14] at pl13
    have zq14 := nd_len fq14.nd fq14.inS
    exact ⟨v13, v14, sortG qs14, rfl, pl13.ext e14, pl14, by rw [sort_len]; omega, fun z hz => by
      have h := (W.vg z (fq14.inS z (sort_mem.mp hz))).1
      exact ⟨h.most, by rw [h.l]; exact h.most⟩, k _⟩
abbrev sLaw : Stmt := top 60
-- slots: _law_script 0
theorem scLaw : FnScope ["_law_script"] ["_law_script"] (defScope sLaw) := ⟨rfl, rfl, rfl, by decide +kernel, rfl, by decide +kernel, by decide +kernel⟩
theorem ok_law {f : Addr} {fd : FuncData} (F : Fun K "law" "law" sLaw f fd) {T : List (Addr × Str)} (D__law_asked : DefOk P w K mg base "_law_asked" 11 ["_law_script"] (spAsked K T)) : FnOk P w K mg base CX0 12 f fd ["_law_script"] (spAsked K T) := by
  refine F.ok scLaw (fun vs H Q E h => ?_) (fun cdv A outer s H vs Q E hr h => ?_)
  · obtain ⟨v, l, rfl, _⟩ := h
    rfl
  · obtain ⟨v, l, rfl, hs, hT, k⟩ := h
    refine ⟨_, (pss_one (ps_try_thru0 (pss_one (ps_ret (pe_cd D__law_asked (hr.mono (by decide)) rfl (pa_cons (pv 0) pa_nil)))))), ?_⟩
    exact ⟨_, rfl, v, l, rfl, hs, hT, k⟩
end
end Gk
end

section
set_option Elab.async false
set_option linter.all false
set_option maxRecDepth 100000
set_option maxHeartbeats 4000000
namespace Gk
open PySem L2
section
variable {P : Program} {w : World} {K : PySem.W.Frag} {mg : Str → Option Value} {base : Heap}
/-! ### turns -/
theorem turn_len (n : Nat) (l : List Int) (c d : Int) : (turnRow n l c d).length = n := by simp [turnRow]
theorem turn_get {n i : Nat} (l : List Int) (c d : Int) (h : i < n) : (turnRow n l c d)[i]? = some ((l.getD (((i : Int) + c) % (n : Int)).toNat 0 - d) % (n : Int)) := by
  unfold turnRow
  rw [List.getElem?_map, List.getElem?_range h]
  rfl
theorem turn_getD {n i : Nat} (l : List Int) (c d : Int) (h : i < n) : (turnRow n l c d).getD i 0 = (l.getD (((i : Int) + c) % (n : Int)).toNat 0 - d) % (n : Int) := by
  rw [List.getD_eq_getElem?_getD, turn_get l c d h]
  rfl
theorem row_ext {a b : List Int} {n : Nat} (ha : a.length = n) (hb : b.length = n) (h : ∀ i, i < n → a[i]? = b[i]?) : a = b := by
  refine List.ext_getElem? fun i => ?_
  by_cases hi : i < n
  · exact h i hi
  · rw [List.getElem?_eq_none (by omega), List.getElem?_eq_none (by omega)]
theorem toNat_lt {n : Nat} (h : 0 < n) (z : Int) : (z % (n : Int)).toNat < n ∧ (((z % (n : Int)).toNat : Nat) : Int) = z % (n : Int) := by
  obtain ⟨k, e, hk, e2⟩ := mod_nat (z := z) h
  rw [e]
  exact ⟨by omega, by omega⟩
theorem turn_turn {n : Nat} (h : 0 < n) (l : List Int) (a b c d : Int) : turnRow n (turnRow n l a b) c d = turnRow n l (a + c) (b + d) := by
  refine row_ext (turn_len _ _ _ _) (turn_len _ _ _ _) fun i hi => ?_
  rw [turn_get _ _ _ hi, turn_get _ _ _ hi]
  obtain ⟨k1, k2⟩ := toNat_lt h ((i : Int) + c)
  rw [turn_getD _ _ _ k1, k2, Int.emod_add_emod, Int.emod_sub_emod]
  congr 2
  have e : (i : Int) + c + a = (i : Int) + (a + c) := by omega
  rw [e]
  omega
theorem turned_len (g : G) (a b : Int) : (turned g a b).1.length = g.1.length := turn_len _ _ _ _
theorem turned_turned {g : G} (h : 0 < g.1.length) (a b c d : Int) : turned (turned g a b) c d = turned g (a + c) (b + d) := by
  show (turnRow (turned g a b).1.length (turned g a b).1 c d, turnRow (turned g a b).1.length (turned g a b).2 c d) = _
  rw [turned_len]
  show (turnRow g.1.length (turnRow g.1.length g.1 a b) c d, turnRow g.1.length (turnRow g.1.length g.2 a b) c d) = _
  rw [turn_turn h, turn_turn h]
  rfl
theorem turn_mod {n : Nat} (l : List Int) {a a' d d' : Int} (ha : a % (n : Int) = a' % (n : Int)) (hd : d % (n : Int) = d' % (n : Int)) : turnRow n l a d = turnRow n l a' d' := by
  refine row_ext (turn_len _ _ _ _) (turn_len _ _ _ _) fun i hi => ?_
  rw [turn_get _ _ _ hi, turn_get _ _ _ hi]
  have e1 : ((i : Int) + a) % (n : Int) = ((i : Int) + a') % (n : Int) := by rw [Int.add_emod, ha, ← Int.add_emod]
  rw [e1]
  congr 1
  rw [Int.sub_emod, hd, ← Int.sub_emod]
theorem turned_mod {g : G} {a a' d d' : Int} (ha : a % (g.1.length : Int) = a' % (g.1.length : Int)) (hd : d % (g.1.length : Int) = d' % (g.1.length : Int)) : turned g a d = turned g a' d' := by
  show (turnRow _ _ _ _, turnRow _ _ _ _) = (turnRow _ _ _ _, turnRow _ _ _ _)
  rw [turn_mod g.1 ha hd, turn_mod g.2 ha hd]
theorem mod_inj {n u v d : Int} (u0 : 0 ≤ u) (u1 : u < n) (v0 : 0 ≤ v) (v1 : v < n) (h : (u - d) % n = (v - d) % n) : u = v := by
  have h2 := Int.emod_emod_of_dvd
  have e := Int.emod_eq_emod_iff_emod_sub_eq_zero.mp h
  have e2 : u - d - (v - d) = u - v := by omega
  rw [e2] at e
  rcases Int.le_total v u with c | c
  · rw [Int.emod_eq_of_lt (by omega) (by omega)] at e
    omega
  · have e3 := Int.emod_eq_emod_iff_emod_sub_eq_zero.mp h.symm
    have e4 : v - d - (u - d) = v - u := by omega
    rw [e4, Int.emod_eq_of_lt (by omega) (by omega)] at e3
    omega
theorem PermR.perm {n : Nat} {l : List Int} (h : PermR n l) (nd : l.Nodup) : l.Perm (rangeI n) := (List.perm_ext_iff_of_nodup nd (range_nd n)).mpr fun x => ⟨fun hx => by
    have := h.rng x hx
    exact List.mem_map.mpr ⟨x.toNat, List.mem_range.mpr (by omega), by omega⟩, fun hx => by
    obtain ⟨i, hi, rfl⟩ := List.mem_map.mp hx
    exact h.all i (List.mem_range.mp hi)⟩
theorem turn_row {n : Nat} {l : List Int} (h : 0 < n) (hl : l.length = n) (nd : l.Nodup) (b : ∀ x ∈ l, 0 ≤ x ∧ x < (n : Int)) (c d : Int) : (∀ x ∈ turnRow n l c d, 0 ≤ x ∧ x < (n : Int)) ∧ (turnRow n l c d).Nodup := by
  refine ⟨fun x hx => ?_, List.nodup_iff_pairwise_ne.mpr (List.pairwise_iff_getElem.mpr fun i j hi hj hij z => ?_)⟩
  · obtain ⟨i, _, rfl⟩ := List.mem_map.mp hx
    exact ⟨Int.emod_nonneg _ (by omega), Int.emod_lt_of_pos _ (by omega)⟩
  · rw [turn_len] at hi hj
    have e1 := turn_get l c d hi
    have e2 := turn_get l c d hj
    rw [List.getElem?_eq_getElem (by rw [turn_len]; exact hi)] at e1
    rw [List.getElem?_eq_getElem (by rw [turn_len]; exact hj), ← z] at e2
    have e3 := Option.some.inj (e1.symm.trans e2)
    obtain ⟨p1, p2⟩ := toNat_lt h ((i : Int) + c)
    obtain ⟨q1, q2⟩ := toNat_lt h ((j : Int) + c)
    have bp := b _ (getD_mem2 (l := l) (by rw [hl]; exact p1))
    have bq := b _ (getD_mem2 (l := l) (by rw [hl]; exact q1))
    have e4 := mod_inj bp.1 bp.2 bq.1 bq.2 e3
    have e5 := perm_inj (O := l) (n := n) ((permR_of hl nd b).perm nd) p1 q1 e4
    have e6 : ((i : Int) + c) % (n : Int) = ((j : Int) + c) % (n : Int) := by rw [← p2, ← q2, e5]
    have e7 : ((i : Int) - (-c)) % (n : Int) = ((j : Int) - (-c)) % (n : Int) := by
      rw [Int.sub_neg, Int.sub_neg]
      exact e6
    have := mod_inj (by omega) (by omega) (by omega) (by omega) e7
    omega
theorem turned_vg {g : G} (h : VG g) (a b : Int) : VG (turned g a b) := by
  have h2 := h.two
  have n0 : 0 < g.1.length := by omega
  obtain ⟨x1, x2⟩ := turn_row n0 rfl h.n1 h.b1 a b
  obtain ⟨o1, o2⟩ := turn_row n0 h.l h.n2 h.b2 a b
  refine ⟨by rw [turned_len]; exact h2, by rw [turned_len]; exact h.most, by rw [turned_len]; exact turn_len _ _ _ _, by rw [turned_len]; exact x1, by rw [turned_len]; exact o1, x2, o2, fun i x o hx ho => ?_⟩
  have hi := (List.getElem?_eq_some_iff.mp hx).1
  rw [turned_len] at hi
  have e1 := turn_get g.1 a b hi
  have e2 := turn_get g.2 a b hi
  rw [show (turnRow g.1.length g.1 a b)[i]? = some x from hx] at e1
  rw [show (turnRow g.1.length g.2 a b)[i]? = some o from ho] at e2
  rw [Option.some.inj e1, Option.some.inj e2]
  obtain ⟨p1, p2⟩ := toNat_lt n0 ((i : Int) + a)
  intro z
  have bp := h.b1 _ (getD_mem2 (l := g.1) p1)
  have bq := h.b2 _ (getD_mem2 (l := g.2) (by rw [h.l]; exact p1))
  have e4 := mod_inj bp.1 bp.2 bq.1 bq.2 z
  refine h.ap (((i : Int) + a) % (g.1.length : Int)).toNat _ _ (getD_lt p1) (getD_lt (by rw [h.l]; exact p1)) e4
end
end Gk
end

section
set_option Elab.async false
set_option linter.all false
set_option maxRecDepth 100000
set_option maxHeartbeats 4000000
namespace Gk
open PySem L2
section
variable {P : Program} {w : World} {K : PySem.W.Frag} {mg : Str → Option Value} {base : Heap}
/-! ### the order -/
theorem ltL_cons (x y : Int) (xs ys : List Int) : ltL (x :: xs) (y :: ys) = if x = y then ltL xs ys else decide (x < y) := rfl
theorem ltL_irr : ∀ a : List Int, ltL a a = false
  | [] => rfl
  | x :: xs => by rw [ltL_cons, if_pos rfl]; exact ltL_irr xs
theorem ltL_trans : ∀ a b c : List Int, ltL a b = true → ltL b c = true → ltL a c = true
  | [], [], _, h, _ => by cases h
  | _ :: _, [], _, h, _ => by cases h
  | _, _ :: _, [], _, h => by cases h
  | [], _ :: _, _ :: _, _, _ => rfl
  | x :: xs, y :: ys, z :: zs, h1, h2 => by
    rw [ltL_cons] at h1 h2 ⊢
    by_cases e1 : x = y
    · rw [if_pos e1] at h1
      subst e1
      by_cases e2 : x = z
      · rw [if_pos e2] at h2 ⊢
        exact ltL_trans xs ys zs h1 h2
      · rw [if_neg e2] at h2 ⊢
        exact h2
    · rw [if_neg e1, decide_eq_true_eq] at h1
      by_cases e2 : y = z
      · subst e2
        rw [if_neg e1]
        exact decide_eq_true h1
      · rw [if_neg e2, decide_eq_true_eq] at h2
        rw [if_neg (by omega)]
        exact decide_eq_true (by omega)
theorem ltG_def (a b : G) : ltG a b = if a.1 = b.1 then ltL a.2 b.2 else ltL a.1 b.1 := rfl
theorem ltG_irr (a : G) : ltG a a = false := by rw [ltG_def, if_pos rfl]; exact ltL_irr _
theorem ltG_trans {a b c : G} (h1 : ltG a b = true) (h2 : ltG b c = true) : ltG a c = true := by
  rw [ltG_def] at h1 h2 ⊢
  by_cases e1 : a.1 = b.1
  · rw [if_pos e1] at h1
    by_cases e2 : b.1 = c.1
    · rw [if_pos e2] at h2
      rw [if_pos (e1.trans e2)]
      exact ltL_trans _ _ _ h1 h2
    · rw [if_neg e2] at h2
      rw [if_neg (by rw [e1]; exact e2), e1]
      exact h2
  · rw [if_neg e1] at h1
    by_cases e2 : b.1 = c.1
    · rw [if_pos e2] at h2
      rw [if_neg (by rw [← e2]; exact e1), ← e2]
      exact h1
    · rw [if_neg e2] at h2
      have h3 := ltL_trans _ _ _ h1 h2
      have e3 : a.1 ≠ c.1 := fun z => by rw [z, ltL_irr] at h3; cases h3
      rw [if_neg e3]
      exact h3
theorem ltL_tri : ∀ a b : List Int, ltL a b = false → ltL b a = false → a = b
  | [], [], _, _ => rfl
  | [], _ :: _, h, _ => by cases h
  | _ :: _, [], _, h => by cases h
  | x :: xs, y :: ys, h1, h2 => by
    rw [ltL_cons] at h1 h2
    by_cases h : x = y
    · rw [if_pos h] at h1
      rw [if_pos h.symm] at h2
      rw [h, ltL_tri xs ys h1 h2]
    · rw [if_neg h, decide_eq_false_iff_not] at h1
      rw [if_neg (fun z => h z.symm), decide_eq_false_iff_not] at h2
      omega
theorem ltG_tri {a b : G} (h1 : ltG a b = false) (h2 : ltG b a = false) : a = b := by
  rw [ltG_def] at h1 h2
  by_cases e : a.1 = b.1
  · rw [if_pos e] at h1
    rw [if_pos e.symm] at h2
    exact Prod.ext e (ltL_tri _ _ h1 h2)
  · rw [if_neg e] at h1
    rw [if_neg (fun z => e z.symm)] at h2
    exact absurd (ltL_tri _ _ h1 h2) e
theorem fold_least (l : List G) : ∀ x : G, (l.foldl (fun a y => if ltG y a = true then y else a) x = x ∨ l.foldl (fun a y => if ltG y a = true then y else a) x ∈ l) ∧ ltG x (l.foldl (fun a y => if ltG y a = true then y else a) x) = false ∧
    ∀ y ∈ l, ltG y (l.foldl (fun a y => if ltG y a = true then y else a) x) = false := by
  induction l with
  | nil => exact fun x => ⟨.inl rfl, ltG_irr x, fun y hy => nomatch hy⟩
  | cons a r ih =>
    intro x
    rw [List.foldl_cons]
    by_cases c : ltG a x = true
    · rw [if_pos c]
      obtain ⟨h1, h2, h3⟩ := ih a
      refine ⟨?_, ?_, fun y hy => ?_⟩
      · rcases h1 with h1 | h1
        · rw [h1]
          exact .inr List.mem_cons_self
        · exact .inr (List.mem_cons_of_mem _ h1)
      · refine Bool.eq_false_iff.mpr fun z => ?_
        rw [ltG_trans c z] at h2
        cases h2
      · rcases List.mem_cons.mp hy with rfl | hy
        · exact h2
        · exact h3 y hy
    · rw [if_neg c]
      obtain ⟨h1, h2, h3⟩ := ih x
      refine ⟨?_, h2, fun y hy => ?_⟩
      · rcases h1 with h1 | h1
        · exact .inl h1
        · exact .inr (List.mem_cons_of_mem _ h1)
      · rcases List.mem_cons.mp hy with rfl | hy
        · refine Bool.eq_false_iff.mpr fun z => ?_
          rcases h1 with h1 | h1
          · rw [h1] at z
            exact c z
          · by_cases e : ltG x y = true
            · rw [ltG_trans e z] at h2
              cases h2
            · have e : ltG x y = false := by simpa using e
              have c : ltG y x = false := by simpa using c
              rw [ltG_tri c e, h2] at z
              cases z
        · exact h3 y hy
theorem least_of {L : List G} (h : L ≠ []) : least L ∈ L ∧ ∀ y ∈ L, ltG y (least L) = false := by
  cases L with
  | nil => exact absurd rfl h
  | cons x r =>
    obtain ⟨h1, h2, h3⟩ := fold_least r x
    refine ⟨?_, fun y hy => ?_⟩
    · rcases h1 with h1 | h1
      · show r.foldl _ x ∈ _
        rw [h1]
        exact List.mem_cons_self
      · exact List.mem_cons_of_mem _ h1
    · rcases List.mem_cons.mp hy with rfl | hy
      · exact h2
      · exact h3 y hy
theorem least_eq {L : List G} {m : G} (hm : m ∈ L) (h : ∀ y ∈ L, ltG y m = false) : m = least L := by
  have hne : L ≠ [] := fun z => by rw [z] at hm; cases hm
  obtain ⟨h1, h2⟩ := least_of hne
  exact ltG_tri (h2 m hm) (h _ h1)
/-! ### the first turn -/
def topAt (g : G) (i : Nat) : G := turned g (i : Int) (g.1.getD i 0)
theorem mem_tops {g x : G} : x ∈ tops g ↔ ∃ i, i < g.1.length ∧ x = topAt g i := by
  unfold tops
  rw [List.mem_map]
  constructor
  · rintro ⟨i, hi, rfl⟩
    exact ⟨i, List.mem_range.mp hi, rfl⟩
  · rintro ⟨i, hi, rfl⟩
    exact ⟨i, List.mem_range.mpr hi, rfl⟩
theorem first_of {g : G} (h : 0 < g.1.length) : (∃ i, i < g.1.length ∧ first g = topAt g i) ∧ ∀ i, i < g.1.length → ltG (topAt g i) (first g) = false := by
  have hne : tops g ≠ [] := fun z => by
    have := mem_tops.mpr ⟨0, h, rfl⟩
    rw [z] at this
    cases this
  obtain ⟨h1, h2⟩ := least_of hne
  exact ⟨mem_tops.mp h1, fun i hi => h2 _ (mem_tops.mpr ⟨i, hi, rfl⟩)⟩
theorem top_turned {g : G} (h : 0 < g.1.length) (a b : Int) {j : Nat} (hj : j < g.1.length) : topAt (turned g a b) j = topAt g (((j : Int) + a) % (g.1.length : Int)).toNat := by
  obtain ⟨p1, p2⟩ := toNat_lt h ((j : Int) + a)
  unfold topAt
  rw [turned_turned h]
  refine turned_mod ?_ ?_
  · rw [p2, Int.emod_emod]
    congr 1
    omega
  · rw [show (turned g a b).1.getD j 0 = (g.1.getD (((j : Int) + a) % (g.1.length : Int)).toNat 0 - b) % (g.1.length : Int) from turn_getD g.1 a b hj]
    rw [Int.add_emod, Int.emod_emod, ← Int.add_emod]
    congr 1
    omega
theorem first_turned {g : G} (h : 0 < g.1.length) (a b : Int) : first (turned g a b) = first g := by
  obtain ⟨⟨i, hi, e⟩, h2⟩ := first_of h
  symm
  refine least_eq ?_ ?_
  · obtain ⟨p1, p2⟩ := toNat_lt h ((i : Int) - a)
    refine mem_tops.mpr ⟨(((i : Int) - a) % (g.1.length : Int)).toNat, by rw [turned_len]; exact p1, ?_⟩
    rw [e, top_turned h a b p1, p2, Int.emod_add_emod]
    have e2 : ((i : Int) - a + a) % (g.1.length : Int) = (i : Int) := by
      have e3 : (i : Int) - a + a = (i : Int) := by omega
      rw [e3]
      exact Int.emod_eq_of_lt (by omega) (by omega)
    rw [e2]
    rfl
  · intro y hy
    obtain ⟨j, hj, rfl⟩ := mem_tops.mp hy
    rw [turned_len] at hj
    rw [top_turned h a b hj]
    exact h2 _ (toNat_lt h _).1
theorem first_vg {g : G} (h : VG g) : VG (first g) ∧ first (first g) = first g ∧ (first g).1.length = g.1.length ∧ (first g).1.getD 0 0 = 0 := by
  have h2 := h.two
  obtain ⟨⟨i, hi, e⟩, _⟩ := first_of (g := g) (by omega)
  rw [e]
  refine ⟨turned_vg h _ _, ?_, turned_len _ _ _, ?_⟩
  · show first (turned g _ _) = _
    rw [first_turned (by omega), e]
  · show (turnRow _ _ _ _).getD 0 0 = 0
    rw [turn_getD _ _ _ (by omega)]
    have e1 : (((0 : Nat) : Int) + (i : Int)) % (g.1.length : Int) = (i : Int) := by
      rw [show ((0 : Nat) : Int) + (i : Int) = (i : Int) by omega]
      exact Int.emod_eq_of_lt (by omega) (by omega)
    rw [e1, Int.toNat_natCast, Int.sub_self]
    rfl
/-! ### the law's first turn is that one -/
theorem fb_inv (g : G) : ∀ i, i ≤ g.1.length → (fb g i = none → ∀ j, j < i → (lawSteps g).getD j 0 ≠ leastI (lawSteps g)) ∧
    ∀ m, fb g i = some m → (∃ j, j < i ∧ (lawSteps g).getD j 0 = leastI (lawSteps g) ∧ m = topAt g j) ∧ ∀ j, j < i → (lawSteps g).getD j 0 = leastI (lawSteps g) → ltG (topAt g j) m = false := by
  intro i
  induction i with
  | zero =>
    intro _
    exact ⟨fun _ j hj => absurd hj (Nat.not_lt_zero _), fun m hm => by cases hm⟩
  | succ i ih =>
    intro hi
    obtain ⟨ih1, ih2⟩ := ih (by omega)
    rw [fb_succ]
    unfold fstep
    by_cases c : (lawSteps g).getD i 0 = leastI (lawSteps g)
    · rw [if_pos c]
      cases hf : fb g i with
      | none =>
        refine ⟨fun z => (by cases z), fun m hm => ?_⟩
        cases hm
        refine ⟨⟨i, Nat.lt_succ_self _, c, rfl⟩, fun j hj hc => ?_⟩
        by_cases e : j = i
        · subst e
          exact ltG_irr _
        · exact absurd hc (ih1 hf j (by omega))
      | some b =>
        obtain ⟨⟨jb, hjb, cb, eb⟩, hb⟩ := ih2 b hf
        show ((if ltG (topAt g i) b = true then some (topAt g i) else some b) = none → _) ∧ ∀ m, (if ltG (topAt g i) b = true then some (topAt g i) else some b) = some m → _
        by_cases d : ltG (topAt g i) b = true
        · rw [if_pos d]
          refine ⟨fun z => (by cases z), fun m hm => ?_⟩
          cases hm
          refine ⟨⟨i, Nat.lt_succ_self _, c, rfl⟩, fun j hj hc => ?_⟩
          by_cases e : j = i
          · subst e
            exact ltG_irr _
          · refine Bool.eq_false_iff.mpr fun z => ?_
            have := hb j (by omega) hc
            rw [ltG_trans z d] at this
            cases this
        · rw [if_neg d]
          refine ⟨fun z => (by cases z), fun m hm => ?_⟩
          cases hm
          refine ⟨⟨jb, by omega, cb, eb⟩, fun j hj hc => ?_⟩
          by_cases e : j = i
          · subst e
            simpa using d
          · exact hb j (by omega) hc
    · rw [if_neg c]
      refine ⟨fun z j hj => ?_, fun m hm => ?_⟩
      · by_cases e : j = i
        · subst e
          exact c
        · exact ih1 z j (by omega)
      · obtain ⟨⟨jb, hjb, cb, eb⟩, hb⟩ := ih2 m hm
        refine ⟨⟨jb, by omega, cb, eb⟩, fun j hj hc => ?_⟩
        by_cases e : j = i
        · subst e
          exact absurd hc c
        · exact hb j (by omega) hc
theorem steps_getD {g : G} {j : Nat} (hj : j < g.1.length) : (lawSteps g).getD j 0 = (g.1.getD (((j : Int) + 1) % (g.1.length : Int)).toNat 0 - g.1.getD j 0) % (g.1.length : Int) := by
  unfold lawSteps
  rw [List.getD_eq_getElem?_getD, List.getElem?_map, List.getElem?_range hj]
  rfl
theorem top_two {g : G} (h : 2 ≤ g.1.length) {j : Nat} (hj : j < g.1.length) : ∃ r, (topAt g j).1 = 0 :: (lawSteps g).getD j 0 :: r := by
  have len : (topAt g j).1.length = g.1.length := turned_len _ _ _
  have e0 : (topAt g j).1[0]? = some 0 := by
    rw [show (topAt g j).1[0]? = _ from turn_get g.1 (j : Int) (g.1.getD j 0) (by omega)]
    have e1 : (((0 : Nat) : Int) + (j : Int)) % (g.1.length : Int) = (j : Int) := by
      rw [show ((0 : Nat) : Int) + (j : Int) = (j : Int) by omega]
      exact Int.emod_eq_of_lt (by omega) (by omega)
    rw [e1, Int.toNat_natCast, Int.sub_self]
    rfl
  have e1 : (topAt g j).1[1]? = some ((lawSteps g).getD j 0) := by
    rw [show (topAt g j).1[1]? = _ from turn_get g.1 (j : Int) (g.1.getD j 0) (by omega), steps_getD hj]
    rw [show ((1 : Nat) : Int) + (j : Int) = (j : Int) + 1 by omega]
  match h : (topAt g j).1 with
  | [] => rw [h] at e0; cases e0
  | [a] => rw [h] at e1; cases e1
  | a :: b :: r =>
    rw [h] at e0 e1
    cases e0
    cases e1
    exact ⟨r, rfl⟩
theorem lawFirst_eq {g : G} (h : 2 ≤ g.1.length) : lawFirst g = some (first g) := by
  rw [← fb_all]
  obtain ⟨h1, h2⟩ := fb_inv g g.1.length (Nat.le_refl _)
  obtain ⟨⟨k, hk, ek⟩, hmin⟩ := first_of (g := g) (by omega)
  have ls : (lawSteps g).length = g.1.length := by simp [lawSteps]
  -- one of the steps is least
  obtain ⟨j0, hj0, ej0⟩ : ∃ j, j < g.1.length ∧ (lawSteps g).getD j 0 = leastI (lawSteps g) := by
    cases hs : lawSteps g with
    | nil => rw [hs] at ls; simp at ls; omega
    | cons s r =>
      obtain ⟨f1, f2, f3⟩ := foldl_mn r s
      have hin : leastI (s :: r) ∈ s :: r := by
        show r.foldl mn s ∈ _
        rcases f1 with f1 | f1
        · rw [f1]
          exact List.mem_cons_self
        · exact List.mem_cons_of_mem _ f1
      obtain ⟨q, hq, e⟩ := List.mem_iff_getElem.mp hin
      rw [hs] at ls
      refine ⟨q, by omega, ?_⟩
      rw [List.getD_eq_getElem?_getD, List.getElem?_eq_getElem hq, e]
      rfl
  have hle : ∀ j, j < g.1.length → leastI (lawSteps g) ≤ (lawSteps g).getD j 0 := fun j hj => by
    have hin := getD_mem2 (l := lawSteps g) (i := j) (by omega)
    cases hs : lawSteps g with
    | nil => rw [hs] at ls; simp at ls; omega
    | cons s r =>
      rw [hs] at hin
      obtain ⟨f1, f2, f3⟩ := foldl_mn r s
      show r.foldl mn s ≤ _
      rcases List.mem_cons.mp hin with e | e
      · rw [e]
        exact f2
      · exact f3 _ e
  cases hf : fb g g.1.length with
  | none => exact absurd ej0 (h1 hf j0 hj0)
  | some m =>
    obtain ⟨⟨jm, hjm, cm, em⟩, hm⟩ := h2 m hf
    -- the first turn has the least step
    have ck : (lawSteps g).getD k 0 = leastI (lawSteps g) := by
      refine Classical.byContradiction fun z => ?_
      have lt : (lawSteps g).getD jm 0 < (lawSteps g).getD k 0 := by
        have := hle k hk
        rw [cm]
        omega
      obtain ⟨r1, e1⟩ := top_two h hjm
      obtain ⟨r2, e2⟩ := top_two h hk
      have hh := hmin jm hjm
      rw [ek, ltG_def, e1, e2] at hh
      rw [if_neg (by
        intro z
        injection z with _ z
        injection z with z _
        omega), ltL_cons, if_pos rfl, ltL_cons, if_neg (by omega), decide_eq_false_iff_not] at hh
      exact hh lt
    have a1 := hm k hk ck
    have a2 := hmin jm hjm
    rw [← ek] at a1
    rw [← em] at a2
    rw [ltG_tri a2 a1]
end
end Gk
end

section
set_option Elab.async false
set_option linter.all false
set_option maxRecDepth 100000
set_option maxHeartbeats 4000000
namespace Gk
open PySem L2
section
variable {P : Program} {w : World} {K : PySem.W.Frag} {mg : Str → Option Value} {base : Heap}
/-! ### the places -/
def nodupB : List Int → Bool
  | [] => true
  | x :: r => !(r.contains x) && nodupB r
theorem nodupB_iff : ∀ l : List Int, nodupB l = true ↔ l.Nodup
  | [] => by simp [nodupB]
  | x :: r => by
    have ih := nodupB_iff r
    rw [List.nodup_cons, ← ih]
    simp [nodupB]
def rowB (n : Nat) (l : List Int) : Bool := decide (l.length = n) && (l.all fun x => decide (0 ≤ x) && decide (x < (n : Int))) && nodupB l
theorem rowB_iff {n : Nat} {l : List Int} : rowB n l = true ↔ l.length = n ∧ (∀ x ∈ l, 0 ≤ x ∧ x < (n : Int)) ∧ l.Nodup := by
  unfold rowB
  rw [Bool.and_eq_true, Bool.and_eq_true, nodupB_iff, decide_eq_true_eq, List.all_eq_true]
  simp only [Bool.and_eq_true, decide_eq_true_eq, and_assoc]
theorem apart_iff : ∀ {a b : List Int}, apart a b = true ↔ ∀ (i : Nat) (x o : Int), a[i]? = some x → b[i]? = some o → x ≠ o
  | [], b => by simp [apart]
  | _ :: _, [] => by simp [apart]
  | x :: xs, y :: ys => by
    have ih := apart_iff (a := xs) (b := ys)
    show (!(decide (x = y)) && apart xs ys) = true ↔ _
    rw [Bool.and_eq_true, ih]
    constructor
    · rintro ⟨h1, h2⟩ i a b ha hb
      cases i with
      | zero =>
        cases ha
        cases hb
        simpa using h1
      | succ i => exact h2 i a b (by simpa using ha) (by simpa using hb)
    · intro h
      exact ⟨by simpa using h 0 x y rfl rfl, fun i a b ha hb => h (i + 1) a b (by simpa using ha) (by simpa using hb)⟩
def vb (g : G) : Bool := decide (2 ≤ g.1.length) && decide (g.1.length ≤ 5) && rowB g.1.length g.1 && rowB g.1.length g.2 && apart g.1 g.2
theorem vb_iff {g : G} : vb g = true ↔ VG g ∧ g.1.length ≤ 5 := by
  unfold vb
  rw [Bool.and_eq_true, Bool.and_eq_true, Bool.and_eq_true, Bool.and_eq_true, rowB_iff, rowB_iff, apart_iff, decide_eq_true_eq, decide_eq_true_eq]
  constructor
  · rintro ⟨⟨⟨⟨h2, h5⟩, ⟨_, b1, n1⟩⟩, ⟨l, b2, n2⟩⟩, ap⟩
    exact ⟨⟨h2, by omega, l, b1, b2, n1, n2, ap⟩, h5⟩
  · rintro ⟨h, h5⟩
    exact ⟨⟨⟨⟨h.two, h5⟩, ⟨rfl, h.b1, h.n1⟩⟩, ⟨h.l, h.b2, h.n2⟩⟩, h.ap⟩
theorem mem_lists {n : Nat} : ∀ {k : Nat} {l : List Int}, l.length = k → (∀ x ∈ l, 0 ≤ x ∧ x < (n : Int)) → l ∈ lists n k
  | 0, l, h, _ => by
    rw [List.length_eq_zero_iff.mp h]
    exact List.mem_singleton.mpr rfl
  | k + 1, x :: r, h, hb => by
    show x :: r ∈ (List.range n).flatMap fun (x : Nat) => (lists n k).map fun l => (x : Int) :: l
    have hx := hb x List.mem_cons_self
    refine List.mem_flatMap.mpr ⟨x.toNat, List.mem_range.mpr (by omega), List.mem_map.mpr ⟨r, mem_lists (by simpa using h) fun y hy => hb y (List.mem_cons_of_mem _ hy), ?_⟩⟩
    rw [Int.toNat_of_nonneg hx.1]
def P2 : List (List Int) := [[0,1], [1,0]]
def P3 : List (List Int) := [[0,1,2], [0,2,1], [1,0,2], [1,2,0], [2,0,1], [2,1,0]]
def P4 : List (List Int) := [[0,1,2,3], [0,1,3,2], [0,2,1,3], [0,2,3,1], [0,3,1,2], [0,3,2,1], [1,0,2,3], [1,0,3,2], [1,2,0,3], [1,2,3,0], [1,3,0,2], [1,3,2,0], [2,0,1,3], [2,0,3,1], [2,1,0,3], [2,1,3,0], [2,3,0,1], [2,3,1,0], [3,0,1,2], [3,0,2,1], [3,1,0,2], [3,1,2,0], [3,2,0,1], [3,2,1,0]]
def P5 : List (List Int) := [[0,1,2,3,4], [0,1,2,4,3], [0,1,3,2,4], [0,1,3,4,2], [0,1,4,2,3], [0,1,4,3,2], [0,2,1,3,4], [0,2,1,4,3], [0,2,3,1,4], [0,2,3,4,1], [0,2,4,1,3], [0,2,4,3,1], [0,3,1,2,4], [0,3,1,4,2], [0,3,2,1,4], [0,3,2,4,1], [0,3,4,1,2], [0,3,4,2,1], [0,4,1,2,3], [0,4,1,3,2], [0,4,2,1,3], [0,4,2,3,1], [0,4,3,1,2], [0,4,3,2,1], [1,0,2,3,4], [1,0,2,4,3], [1,0,3,2,4], [1,0,3,4,2], [1,0,4,2,3], [1,0,4,3,2], [1,2,0,3,4], [1,2,0,4,3], [1,2,3,0,4], [1,2,3,4,0], [1,2,4,0,3], [1,2,4,3,0], [1,3,0,2,4], [1,3,0,4,2], [1,3,2,0,4], [1,3,2,4,0], [1,3,4,0,2], [1,3,4,2,0], [1,4,0,2,3], [1,4,0,3,2], [1,4,2,0,3], [1,4,2,3,0], [1,4,3,0,2], [1,4,3,2,0], [2,0,1,3,4], [2,0,1,4,3], [2,0,3,1,4], [2,0,3,4,1], [2,0,4,1,3], [2,0,4,3,1], [2,1,0,3,4], [2,1,0,4,3], [2,1,3,0,4], [2,1,3,4,0], [2,1,4,0,3], [2,1,4,3,0], [2,3,0,1,4], [2,3,0,4,1], [2,3,1,0,4], [2,3,1,4,0], [2,3,4,0,1], [2,3,4,1,0], [2,4,0,1,3], [2,4,0,3,1], [2,4,1,0,3], [2,4,1,3,0], [2,4,3,0,1], [2,4,3,1,0], [3,0,1,2,4], [3,0,1,4,2], [3,0,2,1,4], [3,0,2,4,1], [3,0,4,1,2], [3,0,4,2,1], [3,1,0,2,4], [3,1,0,4,2], [3,1,2,0,4], [3,1,2,4,0], [3,1,4,0,2], [3,1,4,2,0], [3,2,0,1,4], [3,2,0,4,1], [3,2,1,0,4], [3,2,1,4,0], [3,2,4,0,1], [3,2,4,1,0], [3,4,0,1,2], [3,4,0,2,1], [3,4,1,0,2], [3,4,1,2,0], [3,4,2,0,1], [3,4,2,1,0], [4,0,1,2,3], [4,0,1,3,2], [4,0,2,1,3], [4,0,2,3,1], [4,0,3,1,2], [4,0,3,2,1], [4,1,0,2,3], [4,1,0,3,2], [4,1,2,0,3], [4,1,2,3,0], [4,1,3,0,2], [4,1,3,2,0], [4,2,0,1,3], [4,2,0,3,1], [4,2,1,0,3], [4,2,1,3,0], [4,2,3,0,1], [4,2,3,1,0], [4,3,0,1,2], [4,3,0,2,1], [4,3,1,0,2], [4,3,1,2,0], [4,3,2,0,1], [4,3,2,1,0]]
def Q0 : List G := [([0,1], [1,0]), ([0,1,2], [1,2,0]), ([0,1,2], [2,0,1]), ([0,2,1], [1,0,2]), ([0,2,1], [2,1,0]), ([0,1,2,3], [1,0,3,2]), ([0,1,2,3], [1,2,3,0]), ([0,1,2,3], [1,3,0,2]), ([0,1,2,3], [2,3,0,1]), ([0,1,2,3], [3,0,1,2]), ([0,1,3,2], [1,0,2,3]), ([0,1,3,2], [1,2,0,3]), ([0,1,3,2], [1,3,2,0]), ([0,1,3,2], [2,0,1,3]), ([0,1,3,2], [2,3,0,1]), ([0,1,3,2], [2,3,1,0]), ([0,1,3,2], [3,0,2,1]), ([0,1,3,2], [3,2,0,1]), ([0,1,3,2], [3,2,1,0]), ([0,3,2,1], [1,0,3,2]), ([0,3,2,1], [1,2,0,3]), ([0,3,2,1], [1,2,3,0]), ([0,3,2,1], [2,1,0,3]), ([0,3,2,1], [3,2,1,0])]
def Q1 : List G := [([0,1,2,3,4], [1,0,3,4,2]), ([0,1,2,3,4], [1,0,4,2,3]), ([0,1,2,3,4], [1,2,3,4,0]), ([0,1,2,3,4], [1,2,4,0,3]), ([0,1,2,3,4], [1,3,0,4,2]), ([0,1,2,3,4], [1,3,4,0,2]), ([0,1,2,3,4], [1,4,0,2,3]), ([0,1,2,3,4], [2,0,4,1,3])]
def Q2 : List G := [([0,1,2,3,4], [2,3,4,0,1]), ([0,1,2,3,4], [2,4,0,1,3]), ([0,1,2,3,4], [3,4,0,1,2]), ([0,1,2,3,4], [4,0,1,2,3]), ([0,1,2,4,3], [1,0,3,2,4]), ([0,1,2,4,3], [1,0,4,3,2]), ([0,1,2,4,3], [1,2,0,3,4]), ([0,1,2,4,3], [1,2,3,0,4])]
def Q3 : List G := [([0,1,2,4,3], [1,2,4,3,0]), ([0,1,2,4,3], [1,3,0,2,4]), ([0,1,2,4,3], [1,3,4,0,2]), ([0,1,2,4,3], [1,3,4,2,0]), ([0,1,2,4,3], [1,4,0,3,2]), ([0,1,2,4,3], [1,4,3,0,2]), ([0,1,2,4,3], [1,4,3,2,0]), ([0,1,2,4,3], [2,0,1,3,4])]
def Q4 : List G := [([0,1,2,4,3], [2,0,3,1,4]), ([0,1,2,4,3], [2,0,4,3,1]), ([0,1,2,4,3], [2,3,0,1,4]), ([0,1,2,4,3], [2,3,1,0,4]), ([0,1,2,4,3], [2,3,4,0,1]), ([0,1,2,4,3], [2,3,4,1,0]), ([0,1,2,4,3], [2,4,0,3,1]), ([0,1,2,4,3], [2,4,1,3,0])]
def Q5 : List G := [([0,1,2,4,3], [2,4,3,0,1]), ([0,1,2,4,3], [2,4,3,1,0]), ([0,1,2,4,3], [3,0,1,2,4]), ([0,1,2,4,3], [3,0,4,1,2]), ([0,1,2,4,3], [3,0,4,2,1]), ([0,1,2,4,3], [3,2,0,1,4]), ([0,1,2,4,3], [3,2,1,0,4]), ([0,1,2,4,3], [3,2,4,0,1])]
def Q6 : List G := [([0,1,2,4,3], [3,2,4,1,0]), ([0,1,2,4,3], [3,4,0,1,2]), ([0,1,2,4,3], [3,4,0,2,1]), ([0,1,2,4,3], [3,4,1,0,2]), ([0,1,2,4,3], [3,4,1,2,0]), ([0,1,2,4,3], [4,0,1,3,2]), ([0,1,2,4,3], [4,0,3,1,2]), ([0,1,2,4,3], [4,0,3,2,1])]
def Q7 : List G := [([0,1,2,4,3], [4,2,0,3,1]), ([0,1,2,4,3], [4,2,1,3,0]), ([0,1,2,4,3], [4,2,3,0,1]), ([0,1,2,4,3], [4,2,3,1,0]), ([0,1,2,4,3], [4,3,0,1,2]), ([0,1,2,4,3], [4,3,0,2,1]), ([0,1,2,4,3], [4,3,1,0,2]), ([0,1,2,4,3], [4,3,1,2,0])]
def Q8 : List G := [([0,1,3,4,2], [1,0,2,3,4]), ([0,1,3,4,2], [1,0,4,2,3]), ([0,1,3,4,2], [1,2,0,3,4]), ([0,1,3,4,2], [1,2,4,0,3]), ([0,1,3,4,2], [1,2,4,3,0]), ([0,1,3,4,2], [1,3,0,2,4]), ([0,1,3,4,2], [1,3,2,0,4]), ([0,1,3,4,2], [1,3,4,2,0])]
def Q9 : List G := [([0,1,3,4,2], [1,4,0,2,3]), ([0,1,3,4,2], [1,4,2,0,3]), ([0,1,3,4,2], [1,4,2,3,0]), ([0,1,3,4,2], [2,0,1,3,4]), ([0,1,3,4,2], [2,0,4,1,3]), ([0,1,3,4,2], [2,0,4,3,1]), ([0,1,3,4,2], [2,3,0,1,4]), ([0,1,3,4,2], [2,3,1,0,4])]
def Q10 : List G := [([0,1,3,4,2], [2,3,4,0,1]), ([0,1,3,4,2], [2,3,4,1,0]), ([0,1,3,4,2], [2,4,0,1,3]), ([0,1,3,4,2], [2,4,0,3,1]), ([0,1,3,4,2], [2,4,1,0,3]), ([0,1,3,4,2], [2,4,1,3,0]), ([0,1,3,4,2], [3,0,1,2,4]), ([0,1,3,4,2], [3,0,2,1,4])]
def Q11 : List G := [([0,1,3,4,2], [3,0,4,2,1]), ([0,1,3,4,2], [3,2,0,1,4]), ([0,1,3,4,2], [3,2,1,0,4]), ([0,1,3,4,2], [3,2,4,0,1]), ([0,1,3,4,2], [3,2,4,1,0]), ([0,1,3,4,2], [3,4,0,2,1]), ([0,1,3,4,2], [3,4,1,2,0]), ([0,1,3,4,2], [3,4,2,0,1])]
def Q12 : List G := [([0,1,3,4,2], [3,4,2,1,0]), ([0,1,3,4,2], [4,0,1,2,3]), ([0,1,3,4,2], [4,0,2,1,3]), ([0,1,3,4,2], [4,0,2,3,1]), ([0,1,3,4,2], [4,2,0,1,3]), ([0,1,3,4,2], [4,2,0,3,1]), ([0,1,3,4,2], [4,2,1,0,3]), ([0,1,3,4,2], [4,2,1,3,0])]
def Q13 : List G := [([0,1,3,4,2], [4,3,0,2,1]), ([0,1,3,4,2], [4,3,1,2,0]), ([0,1,3,4,2], [4,3,2,0,1]), ([0,1,3,4,2], [4,3,2,1,0]), ([0,1,4,3,2], [1,0,2,4,3]), ([0,1,4,3,2], [1,0,3,2,4]), ([0,1,4,3,2], [1,2,0,4,3]), ([0,1,4,3,2], [1,2,3,0,4])]
def Q14 : List G := [([0,1,4,3,2], [1,2,3,4,0]), ([0,1,4,3,2], [1,3,0,2,4]), ([0,1,4,3,2], [1,3,2,0,4]), ([0,1,4,3,2], [1,3,2,4,0]), ([0,1,4,3,2], [1,4,0,2,3]), ([0,1,4,3,2], [1,4,2,0,3]), ([0,1,4,3,2], [1,4,3,2,0]), ([0,1,4,3,2], [2,0,1,4,3])]
def Q15 : List G := [([0,1,4,3,2], [2,0,3,1,4]), ([0,1,4,3,2], [2,0,3,4,1]), ([0,1,4,3,2], [2,3,0,1,4]), ([0,1,4,3,2], [2,3,0,4,1]), ([0,1,4,3,2], [2,3,1,0,4]), ([0,1,4,3,2], [2,3,1,4,0]), ([0,1,4,3,2], [2,4,0,1,3]), ([0,1,4,3,2], [2,4,1,0,3])]
def Q16 : List G := [([0,1,4,3,2], [2,4,3,0,1]), ([0,1,4,3,2], [2,4,3,1,0]), ([0,1,4,3,2], [3,0,1,2,4]), ([0,1,4,3,2], [3,0,2,1,4]), ([0,1,4,3,2], [3,0,2,4,1]), ([0,1,4,3,2], [3,2,0,1,4]), ([0,1,4,3,2], [3,2,0,4,1]), ([0,1,4,3,2], [3,2,1,0,4])]
def Q17 : List G := [([0,1,4,3,2], [3,2,1,4,0]), ([0,1,4,3,2], [3,4,0,2,1]), ([0,1,4,3,2], [3,4,1,2,0]), ([0,1,4,3,2], [3,4,2,0,1]), ([0,1,4,3,2], [3,4,2,1,0]), ([0,1,4,3,2], [4,0,1,2,3]), ([0,1,4,3,2], [4,0,2,1,3]), ([0,1,4,3,2], [4,0,3,2,1])]
def Q18 : List G := [([0,1,4,3,2], [4,2,0,1,3]), ([0,1,4,3,2], [4,2,1,0,3]), ([0,1,4,3,2], [4,2,3,0,1]), ([0,1,4,3,2], [4,2,3,1,0]), ([0,1,4,3,2], [4,3,0,2,1]), ([0,1,4,3,2], [4,3,1,2,0]), ([0,1,4,3,2], [4,3,2,0,1]), ([0,1,4,3,2], [4,3,2,1,0])]
def Q19 : List G := [([0,2,1,4,3], [1,0,2,3,4]), ([0,2,1,4,3], [1,0,3,2,4]), ([0,2,1,4,3], [1,0,4,3,2]), ([0,2,1,4,3], [1,3,0,2,4]), ([0,2,1,4,3], [1,3,2,0,4]), ([0,2,1,4,3], [1,3,4,0,2]), ([0,2,1,4,3], [1,3,4,2,0]), ([0,2,1,4,3], [1,4,0,3,2])]
def Q20 : List G := [([0,2,1,4,3], [1,4,2,3,0]), ([0,2,1,4,3], [1,4,3,0,2]), ([0,2,1,4,3], [1,4,3,2,0]), ([0,2,1,4,3], [2,0,3,1,4]), ([0,2,1,4,3], [2,0,4,3,1]), ([0,2,1,4,3], [2,1,0,3,4]), ([0,2,1,4,3], [2,1,3,0,4]), ([0,2,1,4,3], [2,1,4,3,0])]
def Q21 : List G := [([0,2,1,4,3], [2,3,0,1,4]), ([0,2,1,4,3], [2,3,4,0,1]), ([0,2,1,4,3], [2,3,4,1,0]), ([0,2,1,4,3], [2,4,0,3,1]), ([0,2,1,4,3], [2,4,3,0,1]), ([0,2,1,4,3], [2,4,3,1,0]), ([0,2,1,4,3], [3,0,2,1,4]), ([0,2,1,4,3], [3,0,4,1,2])]
def Q22 : List G := [([0,2,1,4,3], [3,0,4,2,1]), ([0,2,1,4,3], [3,1,0,2,4]), ([0,2,1,4,3], [3,1,2,0,4]), ([0,2,1,4,3], [3,1,4,0,2]), ([0,2,1,4,3], [3,1,4,2,0]), ([0,2,1,4,3], [3,4,0,1,2]), ([0,2,1,4,3], [3,4,0,2,1]), ([0,2,1,4,3], [3,4,2,0,1])]
def Q23 : List G := [([0,2,1,4,3], [3,4,2,1,0]), ([0,2,1,4,3], [4,0,2,3,1]), ([0,2,1,4,3], [4,0,3,1,2]), ([0,2,1,4,3], [4,0,3,2,1]), ([0,2,1,4,3], [4,1,0,3,2]), ([0,2,1,4,3], [4,1,2,3,0]), ([0,2,1,4,3], [4,1,3,0,2]), ([0,2,1,4,3], [4,1,3,2,0])]
def Q24 : List G := [([0,2,1,4,3], [4,3,0,1,2]), ([0,2,1,4,3], [4,3,0,2,1]), ([0,2,1,4,3], [4,3,2,0,1]), ([0,2,1,4,3], [4,3,2,1,0]), ([0,2,4,1,3], [1,0,2,3,4]), ([0,2,4,1,3], [1,0,3,2,4]), ([0,2,4,1,3], [1,0,3,4,2]), ([0,2,4,1,3], [1,3,0,2,4])]
def Q25 : List G := [([0,2,4,1,3], [1,4,0,3,2]), ([0,2,4,1,3], [1,4,2,3,0]), ([0,2,4,1,3], [1,4,3,0,2]), ([0,2,4,1,3], [2,0,3,4,1]), ([0,2,4,1,3], [2,1,3,4,0]), ([0,2,4,1,3], [2,4,1,3,0]), ([0,2,4,1,3], [3,0,2,4,1]), ([0,2,4,1,3], [4,1,3,0,2])]
def Q26 : List G := [([0,3,1,4,2], [1,0,2,3,4]), ([0,3,1,4,2], [1,0,3,2,4]), ([0,3,1,4,2], [1,0,4,2,3]), ([0,3,1,4,2], [1,2,0,3,4]), ([0,3,1,4,2], [1,2,4,0,3]), ([0,3,1,4,2], [1,2,4,3,0]), ([0,3,1,4,2], [1,4,2,0,3]), ([0,3,1,4,2], [2,0,3,1,4])]
def Q27 : List G := [([0,3,1,4,2], [2,0,4,3,1]), ([0,3,1,4,2], [2,1,4,3,0]), ([0,3,1,4,2], [3,1,4,2,0]), ([0,3,1,4,2], [4,2,0,3,1]), ([0,4,3,2,1], [1,0,2,3,4]), ([0,4,3,2,1], [1,0,2,4,3]), ([0,4,3,2,1], [1,0,4,3,2]), ([0,4,3,2,1], [1,2,0,3,4])]
def Q28 : List G := [([0,4,3,2,1], [1,2,0,4,3]), ([0,4,3,2,1], [1,3,2,0,4]), ([0,4,3,2,1], [1,3,2,4,0]), ([0,4,3,2,1], [2,1,0,4,3]), ([0,4,3,2,1], [2,3,0,1,4]), ([0,4,3,2,1], [2,3,1,0,4]), ([0,4,3,2,1], [3,2,1,0,4]), ([0,4,3,2,1], [4,3,2,1,0])]
def S0 : List G := Q0 ++ (Q1 ++ (Q2 ++ (Q3 ++ (Q4 ++ (Q5 ++ (Q6 ++ (Q7 ++ (Q8 ++ (Q9 ++ (Q10 ++ (Q11 ++ (Q12 ++ (Q13 ++ (Q14 ++ (Q15 ++ (Q16 ++ (Q17 ++ (Q18 ++ (Q19 ++ (Q20 ++ (Q21 ++ (Q22 ++ (Q23 ++ (Q24 ++ (Q25 ++ (Q26 ++ (Q27 ++ (Q28))))))))))))))))))))))))))))
def rowsOf (n : Nat) : List (List Int) := if n = 2 then P2 else if n = 3 then P3 else if n = 4 then P4 else P5
theorem rows2 : (lists 2 2).all (fun l => !nodupB l || P2.contains l) = true := by decide +kernel
theorem rows3 : (lists 3 3).all (fun l => !nodupB l || P3.contains l) = true := by decide +kernel
theorem rows4 : (lists 4 4).all (fun l => !nodupB l || P4.contains l) = true := by decide +kernel
theorem rows5 : (lists 5 5).all (fun l => !nodupB l || P5.contains l) = true := by decide +kernel
theorem rows_in {n : Nat} {Pn : List (List Int)} (h : (lists n n).all (fun l => !nodupB l || Pn.contains l) = true) {l : List Int} (hl : l.length = n) (hb : ∀ x ∈ l, 0 ≤ x ∧ x < (n : Int)) (nd : l.Nodup) : l ∈ Pn := by
  have := List.all_eq_true.mp h l (mem_lists hl hb)
  rw [(nodupB_iff l).mpr nd] at this
  simpa using this
/-- every first turn is among the places -/
def full (Pn : List (List Int)) : Bool := Pn.all fun x => decide (x.getD 0 0 ≠ 0) || Pn.all fun o => !apart x o || !decide (lawFirst (x, o) = some (x, o)) || S0.contains (x, o)
theorem full2 : full P2 = true := by decide +kernel
theorem full3 : full P3 = true := by decide +kernel
theorem full4 : full P4 = true := by decide +kernel
theorem full5 : full P5 = true := by decide +kernel
theorem full_in {Pn : List (List Int)} (h : full Pn = true) {g : G} (hx : g.1 ∈ Pn) (ho : g.2 ∈ Pn) (h0 : g.1.getD 0 0 = 0) (ap : apart g.1 g.2 = true) (hf : lawFirst g = some g) : g ∈ S0 := by
  have h1 := List.all_eq_true.mp h g.1 hx
  rw [Bool.or_eq_true, decide_eq_true_eq] at h1
  rcases h1 with h1 | h1
  · exact absurd h0 h1
  · have h2 := List.all_eq_true.mp h1 g.2 ho
    have ef : lawFirst (g.1, g.2) = some (g.1, g.2) := hf
    rw [ap, decide_eq_true ef] at h2
    simpa using h2
theorem first_in {g : G} (h : VG g) (h5 : g.1.length ≤ 5) : first g ∈ S0 := by
  obtain ⟨v, ff, fl, f0⟩ := first_vg h
  have h2 := v.two
  have lf : lawFirst (first g) = some (first g) := by rw [lawFirst_eq h2, ff]
  have ap := apart_iff.mpr v.ap
  have cs : (first g).1.length = 2 ∨ (first g).1.length = 3 ∨ (first g).1.length = 4 ∨ (first g).1.length = 5 := by omega
  rcases cs with e | e | e | e
  · exact full_in full2 (rows_in rows2 e (e ▸ v.b1) v.n1) (rows_in rows2 (v.l.trans e) (e ▸ v.b2) v.n2) f0 ap lf
  · exact full_in full3 (rows_in rows3 e (e ▸ v.b1) v.n1) (rows_in rows3 (v.l.trans e) (e ▸ v.b2) v.n2) f0 ap lf
  · exact full_in full4 (rows_in rows4 e (e ▸ v.b1) v.n1) (rows_in rows4 (v.l.trans e) (e ▸ v.b2) v.n2) f0 ap lf
  · exact full_in full5 (rows_in rows5 e (e ▸ v.b1) v.n1) (rows_in rows5 (v.l.trans e) (e ▸ v.b2) v.n2) f0 ap lf
theorem S0_len : S0.length ≤ 399 := by decide +kernel
end
end Gk
end

section
set_option Elab.async false
set_option linter.all false
set_option maxRecDepth 100000
set_option maxHeartbeats 4000000
namespace Gk
open PySem L2
section
variable {P : Program} {w : World} {K : PySem.W.Frag} {mg : Str → Option Value} {base : Heap}
/-! ### the neighbours, place by place -/
def chkA (x : G) : Bool := vb x && seams.all fun s => (changesBy (turned x s.1 s.2)).all vb && (changesBy (trans (turned x s.1 s.2))).all vb
def chkL (x : G) : Bool := (lawFound x true).all vb && (lawFound (across x) true).all vb
def chkS (x : G) : Bool :=
  let A := (steps x).map lawFirst
  let B := (lawFound x true).map lawFirst ++ (lawFound (across x) true).map fun t => lawFirst (across t)
  A.all (fun a => B.contains a) && B.all fun b => A.contains b
def chk (x : G) : Bool := chkA x && (chkL x && chkS x)
theorem c0 : Q0.all chk = true := by decide +kernel
theorem c1 : Q1.all chk = true := by decide +kernel
theorem c2 : Q2.all chk = true := by decide +kernel
theorem c3 : Q3.all chk = true := by decide +kernel
theorem c4 : Q4.all chk = true := by decide +kernel
theorem c5 : Q5.all chk = true := by decide +kernel
theorem c6 : Q6.all chk = true := by decide +kernel
theorem c7 : Q7.all chk = true := by decide +kernel
theorem c8 : Q8.all chk = true := by decide +kernel
theorem c9 : Q9.all chk = true := by decide +kernel
theorem c10 : Q10.all chk = true := by decide +kernel
theorem c11 : Q11.all chk = true := by decide +kernel
theorem c12 : Q12.all chk = true := by decide +kernel
theorem c13 : Q13.all chk = true := by decide +kernel
theorem c14 : Q14.all chk = true := by decide +kernel
theorem c15 : Q15.all chk = true := by decide +kernel
theorem c16 : Q16.all chk = true := by decide +kernel
theorem c17 : Q17.all chk = true := by decide +kernel
theorem c18 : Q18.all chk = true := by decide +kernel
theorem c19 : Q19.all chk = true := by decide +kernel
theorem c20 : Q20.all chk = true := by decide +kernel
theorem c21 : Q21.all chk = true := by decide +kernel
theorem c22 : Q22.all chk = true := by decide +kernel
theorem c23 : Q23.all chk = true := by decide +kernel
theorem c24 : Q24.all chk = true := by decide +kernel
theorem c25 : Q25.all chk = true := by decide +kernel
theorem c26 : Q26.all chk = true := by decide +kernel
theorem c27 : Q27.all chk = true := by decide +kernel
theorem c28 : Q28.all chk = true := by decide +kernel
theorem chk_all : S0.all chk = true := by
  unfold S0
  simp only [List.all_append, c0, c1, c2, c3, c4, c5, c6, c7, c8, c9, c10, c11, c12, c13, c14, c15, c16, c17, c18, c19, c20, c21, c22, c23, c24, c25, c26, c27, c28, Bool.and_self]
end
end Gk
end

section
set_option Elab.async false
set_option linter.all false
set_option maxRecDepth 100000
set_option maxHeartbeats 4000000
namespace Gk
open PySem L2
section
variable {P : Program} {w : World} {K : PySem.W.Frag} {mg : Str → Option Value} {base : Heap}
theorem trans_row {l : List Int} {n : Nat} (h : PermR n l) (nd : l.Nodup) : transRow l = acr l n := by
  have hl := h.len
  refine row_ext (n := n) (by simp [transRow, hl]) (by rw [acr_len, hl]) fun q hq => ?_
  obtain ⟨t, ht, e1, e2⟩ := acr_get h nd hq
  rw [e2]
  unfold transRow
  rw [List.getElem?_map, hl, List.getElem?_range hq]
  have ht' : t < l.length := by omega
  have el : l[t] = (q : Int) := by
    rw [List.getElem?_eq_getElem ht'] at e1
    exact Option.some.inj e1
  have ei : l.idxOf (q : Int) = t := by
    have hin : (q : Int) ∈ l := el ▸ List.getElem_mem ht'
    have hlt := List.idxOf_lt_length_of_mem hin
    have eg := List.getElem_idxOf hlt
    have pw := List.pairwise_iff_getElem.mp (List.nodup_iff_pairwise_ne.mp nd)
    rcases Nat.lt_trichotomy (l.idxOf (q : Int)) t with c | c | c
    · exact absurd (eg.trans el.symm) (pw _ _ hlt ht' c)
    · exact c
    · exact absurd (el.trans eg.symm) (pw _ _ ht' hlt c)
  show some ((l.idxOf (q : Int) : Nat) : Int) = some (t : Int)
  rw [ei]
theorem trans_across {g : G} (h : VG g) : trans g = across g := by
  have e2 : (across g).2 = acr g.2 g.1.length := by
    show acr g.2 g.2.length = _
    rw [h.l]
  refine Prod.ext (trans_row h.p1 h.n1) ?_
  rw [e2]
  exact trans_row h.p2 h.n2
theorem trans_vg {g : G} (h : VG g) : VG (trans g) := by
  rw [trans_across h]
  exact across_vg h
theorem chk_of {x : G} (h : x ∈ S0) : vb x = true ∧ (∀ s ∈ seams, (∀ o ∈ changesBy (turned x s.1 s.2), vb o = true) ∧ ∀ o ∈ changesBy (trans (turned x s.1 s.2)), vb o = true) ∧
    (∀ t ∈ lawFound x true, vb t = true) ∧ (∀ t ∈ lawFound (across x) true, vb t = true) ∧
    (∀ o ∈ steps x, lawFirst o ∈ (lawFound x true).map lawFirst ++ (lawFound (across x) true).map fun t => lawFirst (across t)) ∧
    (∀ b ∈ (lawFound x true).map lawFirst ++ (lawFound (across x) true).map (fun t => lawFirst (across t)), b ∈ (steps x).map lawFirst) := by
  have c := List.all_eq_true.mp chk_all x h
  unfold chk chkA chkL chkS at c
  simp only [Bool.and_eq_true, List.all_eq_true] at c
  obtain ⟨⟨a1, a2⟩, ⟨b1, b2⟩, c1, c2⟩ := c
  refine ⟨a1, fun s hs => ⟨(a2 s hs).1, (a2 s hs).2⟩, b1, b2, fun o ho => ?_, fun b hb => ?_⟩
  · have := c1 (lawFirst o) (List.mem_map.mpr ⟨o, ho, rfl⟩)
    simpa using this
  · have := c2 b hb
    simpa using this
theorem steps_vg {x : G} (h : x ∈ S0) : ∀ o ∈ steps x, VG o ∧ o.1.length ≤ 5 := by
  obtain ⟨a1, a2, _⟩ := chk_of h
  have one : ∀ s ∈ seams, ∀ o ∈ changes (turned x s.1 s.2), VG o ∧ o.1.length ≤ 5 := fun s hs o ho => by
    unfold changes at ho
    rcases List.mem_append.mp ho with ho | ho
    · exact vb_iff.mp ((a2 s hs).1 o ho)
    · obtain ⟨q, hq, rfl⟩ := List.mem_map.mp ho
      obtain ⟨v, l5⟩ := vb_iff.mp ((a2 s hs).2 q hq)
      refine ⟨trans_vg v, ?_⟩
      rw [trans_across v, across_len]
      exact l5
  intro o ho
  unfold steps at ho
  rcases List.mem_append.mp ho with ho | ho
  · exact one (0, 0) (by decide) o ho
  · rcases List.mem_append.mp ho with ho | ho
    · exact one (1, 0) (by decide) o ho
    · exact one (0, 1) (by decide) o ho
theorem found_sub {g t : G} (seam : Bool) (h : t ∈ lawFound g seam) : t ∈ lawFound g true := by
  unfold lawFound at h ⊢
  obtain ⟨i, hi, ht⟩ := List.mem_flatMap.mp h
  refine List.mem_flatMap.mpr ⟨i, hi, ?_⟩
  rcases List.mem_append.mp ht with ht | ht
  · split at ht
    · exact List.mem_append_left _ (by rw [if_pos (Or.inl rfl)]; exact ht)
    · cases ht
  · split at ht
    · exact List.mem_append_right _ (by rw [if_pos (Or.inl rfl)]; exact ht)
    · cases ht
theorem nx_ok {x : G} (h : x ∈ S0) (seam : Bool) : NxOk x seam := by
  obtain ⟨a1, a2, b1, b2, _⟩ := chk_of h
  obtain ⟨v, _⟩ := vb_iff.mp a1
  refine ⟨v, fun t ht => ?_, across_vg v, fun t ht => ?_⟩
  · have vt := (vb_iff.mp (b1 t (found_sub seam ht))).1
    exact ⟨vt, lawFirst_eq vt.two⟩
  · have vt := (vb_iff.mp (b2 t (found_sub seam ht))).1
    have va := across_vg vt
    exact ⟨vt, lawFirst_eq va.two, va⟩
theorem lawnext_in {x : G} (h : x ∈ S0) (seam : Bool) : ∀ y ∈ lawNext x seam, y ∈ S0 := by
  obtain ⟨a1, a2, b1, b2, _⟩ := chk_of h
  intro y hy
  unfold lawNext at hy
  rcases List.mem_append.mp hy with hy | hy
  · obtain ⟨t, ht, rfl⟩ := List.mem_map.mp hy
    obtain ⟨v, l5⟩ := vb_iff.mp (b1 t (found_sub seam ht))
    exact first_in v l5
  · obtain ⟨t, ht, rfl⟩ := List.mem_map.mp hy
    obtain ⟨v, l5⟩ := vb_iff.mp (b2 t (found_sub seam ht))
    exact first_in (across_vg v) (by rw [across_len]; exact l5)
theorem next_same {x : G} (h : x ∈ S0) (y : G) : y ∈ nexts x ↔ y ∈ lawNext x true := by
  obtain ⟨a1, a2, b1, b2, c1, c2⟩ := chk_of h
  have f1 : ∀ t ∈ lawFound x true, lawFirst t = some (first t) := fun t ht => lawFirst_eq (vb_iff.mp (b1 t ht)).1.two
  have f2 : ∀ t ∈ lawFound (across x) true, lawFirst (across t) = some (first (across t)) := fun t ht => lawFirst_eq (across_vg (vb_iff.mp (b2 t ht)).1).two
  have f3 : ∀ o ∈ steps x, lawFirst o = some (first o) := fun o ho => lawFirst_eq (steps_vg h o ho).1.two
  constructor
  · intro hy
    obtain ⟨o, ho, rfl⟩ := List.mem_map.mp hy
    have := c1 o ho
    rw [f3 o ho] at this
    unfold lawNext
    rcases List.mem_append.mp this with q | q
    · obtain ⟨t, ht, e⟩ := List.mem_map.mp q
      rw [f1 t ht] at e
      exact List.mem_append_left _ (List.mem_map.mpr ⟨t, ht, Option.some.inj e⟩)
    · obtain ⟨t, ht, e⟩ := List.mem_map.mp q
      rw [f2 t ht] at e
      exact List.mem_append_right _ (List.mem_map.mpr ⟨t, ht, Option.some.inj e⟩)
  · intro hy
    have hb : some y ∈ (lawFound x true).map lawFirst ++ (lawFound (across x) true).map fun t => lawFirst (across t) := by
      unfold lawNext at hy
      rcases List.mem_append.mp hy with q | q
      · obtain ⟨t, ht, e⟩ := List.mem_map.mp q
        exact List.mem_append_left _ (List.mem_map.mpr ⟨t, ht, by rw [f1 t ht, e]⟩)
      · obtain ⟨t, ht, e⟩ := List.mem_map.mp q
        exact List.mem_append_right _ (List.mem_map.mpr ⟨t, ht, by rw [f2 t ht, e]⟩)
    obtain ⟨o, ho, e⟩ := List.mem_map.mp (c2 _ hb)
    rw [f3 o ho] at e
    exact List.mem_map.mpr ⟨o, ho, Option.some.inj e⟩
theorem permR_full {g : G} (h : VG g) (hl : g.1.length ≤ 5) : ∃ m, m ≤ 100 ∧ Full m g.1 ∧ Full m g.2 := ⟨g.1.length, by omega, h.p1.full, h.p2.full⟩
theorem ch_ok {x : G} (h : x ∈ S0) : ∀ s ∈ seams, ChOk x.1.length (turned x s.1 s.2) := fun s hs => by
  obtain ⟨a1, a2, _⟩ := chk_of h
  obtain ⟨v, l5⟩ := vb_iff.mp a1
  have vt := turned_vg v s.1 s.2
  have et := turned_len x s.1 s.2
  have va := trans_vg vt
  have ea : (trans (turned x s.1 s.2)).1.length = x.1.length := by rw [trans_across vt, across_len, et]
  have v2 := v.two
  refine ⟨by omega, by omega, et ▸ vt.p1, et ▸ vt.p2, ea ▸ va.p1, ea ▸ va.p2, fun o ho => ?_⟩
  obtain ⟨vo, lo⟩ := vb_iff.mp ((a2 s hs).2 o ho)
  exact permR_full vo lo
theorem st_ok {x : G} (h : x ∈ S0) : StOk x := by
  obtain ⟨v, l5⟩ := vb_iff.mp (chk_of h).1
  have v2 := v.two
  exact ⟨by omega, by omega, v.l, ch_ok h⟩
theorem many_ok {x : G} (h : x ∈ S0) : (steps x).length ≤ 1500 := by
  obtain ⟨v, l5⟩ := vb_iff.mp (chk_of h).1
  have c := ch_ok h
  have e1 : (changes (turned x 0 0)).length ≤ 4 * x.1.length := changes_len _ (c (0, 0) (by decide))
  have e2 : (changes (turned x 1 0)).length ≤ 4 * x.1.length := changes_len _ (c (1, 0) (by decide))
  have e3 : (changes (turned x 0 1)).length ≤ 4 * x.1.length := changes_len _ (c (0, 1) (by decide))
  unfold steps
  rw [List.length_append, List.length_append]
  omega
theorem shi_ok (n : Nat) (sh : Int) (rev : Bool) (h2 : 2 ≤ n) (h5 : n ≤ 5) (h1 : 1 ≤ sh) (h3 : sh ≤ n - 1) : VG (shiftBase n sh rev) := by
  have all : ((List.range 6).all fun n => (List.range 6).all fun sh => [true, false].all fun rev => decide (n < 2) || decide (sh < 1) || decide (n ≤ sh) || vb (shiftBase n (sh : Nat) rev)) = true := by decide +kernel
  obtain ⟨k, rfl⟩ := Int.eq_ofNat_of_zero_le (show 0 ≤ sh by omega)
  have a := List.all_eq_true.mp (List.all_eq_true.mp (List.all_eq_true.mp all n (List.mem_range.mpr (by omega))) k (List.mem_range.mpr (by omega))) rev (by cases rev <;> simp)
  simp only [Bool.or_eq_true, decide_eq_true_eq] at a
  rcases a with ((a | a) | a) | a
  · omega
  · omega
  · omega
  · exact (vb_iff.mp a).1
theorem gro_ok (rev : Bool) (a b : Int) (i : Nat) (r up : Int) (a0 : 0 ≤ a) (a1 : a < 4) (b0 : 0 ≤ b) (b1 : b < 4) (i5 : i < 5) (r0 : 0 ≤ r) (r1 : r < 4) (u0 : 0 ≤ up) (u1 : up < 2) : VG (lawGrown (turned (shiftBase 4 2 rev) a b) i r up) := by
  have all : ([true, false].all fun rev => (List.range 4).all fun a => (List.range 4).all fun b => (List.range 5).all fun i => (List.range 4).all fun r => (List.range 2).all fun u => vb (lawGrown (turned (shiftBase 4 2 rev) (a : Nat) (b : Nat)) i (r : Nat) (u : Nat))) = true := by decide +kernel
  obtain ⟨a', rfl⟩ := Int.eq_ofNat_of_zero_le a0
  obtain ⟨b', rfl⟩ := Int.eq_ofNat_of_zero_le b0
  obtain ⟨r', rfl⟩ := Int.eq_ofNat_of_zero_le r0
  obtain ⟨u', rfl⟩ := Int.eq_ofNat_of_zero_le u0
  have q := List.all_eq_true.mp (List.all_eq_true.mp (List.all_eq_true.mp (List.all_eq_true.mp (List.all_eq_true.mp (List.all_eq_true.mp all rev (by cases rev <;> simp)) a' (List.mem_range.mpr (by omega))) b' (List.mem_range.mpr (by omega))) i (List.mem_range.mpr i5)) r' (List.mem_range.mpr (by omega))) u' (List.mem_range.mpr (by omega))
  exact (vb_iff.mp q).1
theorem wld : Wld S0 where
  dom := ⟨fun x hx => st_ok hx, fun x hx o ho => gok (steps_vg hx o ho).1, fun x hx => many_ok hx, fun x hx y hy => by
    obtain ⟨o, ho, rfl⟩ := List.mem_map.mp hy
    obtain ⟨v, l5⟩ := steps_vg hx o ho
    exact first_in v l5, Nat.le_trans S0_len (by decide)⟩
  dl := fun seam => ⟨fun x hx => nx_ok hx seam, fun x hx => lawnext_in hx seam, S0_len⟩
  ent := fun g h h5 => ⟨lawFirst_eq h.two, first_in h h5⟩
  same := fun x hx y => next_same hx y
  vg := fun x hx => vb_iff.mp (chk_of hx).1
  inv := fun g h _ a b => first_turned (by have := h.two; omega) a b
  tur := fun g h a b => turned_vg h a b
  shi := shi_ok
  gro := gro_ok
end
end Gk
end

section
set_option Elab.async false
set_option linter.all false
set_option maxRecDepth 100000
set_option maxHeartbeats 4000000
namespace Gk
open PySem L2
section
variable {P : Program} {w : World} {K : PySem.W.Frag} {mg : Str → Option Value} {base : Heap}
open PySem.W (mg_of mg_none_of)
theorem sq_of {H : Hp} {a : Addr} {d : Option Addr} {its : Array Value} {n : Nat} {sl : Array (Option Value)} {xs : List V} (lk : K.lookup a = some ⟨.type "tuple", d, .seq its n, sl⟩) (z : its.size ≤ sizeLine) (r : Vals xs its.toList) : SqT K H a xs := .inr ⟨_, its, n, lk, rfl, rfl, z, r⟩
theorem all_mk {l : PySem.W.OpenLaw} {w : World} {K : PySem.W.Frag} {h : Heap} {mg : Str → Option Value} {ts : List Addr} {fa CF CG cL Pt aS b0 b1 b2 f_Turned f_Trans f_Swapped f_LowRow f_Shrunk f_FirstOf f_ChBy f_ChOf f_StepsFrom f_NextPlace f_NoGoal f_LookAt f_FamInit f_OrderOf f_Places f_WholeFam f_GridPair f_FamilyF f_IsInt f_IsBelow f_IsRows f_IsPair f_GridInit f_LCell f_LDraws f_LTurned f_LShifted f_LIsInt f_LSameRow f_LSamePair f_LSamePlaces f_LAcross f_LSwapped f_LShrunk f_LGrown f_LFound f_LFirst f_LNext f_LFamily f_LPair f_LLinkish f_LSeamed f_LDrawn f_LAsked f_Law : Addr} (X : K.In h) (G : h.Ns mainGlobals mg) (hfa : mg "law" = some (.ref fa))
    {dS dS0 dS1 dS2 od_Turned an_Turned od_Trans an_Trans od_Swapped an_Swapped od_LowRow an_LowRow od_Shrunk an_Shrunk od_FirstOf an_FirstOf od_ChBy an_ChBy od_ChOf an_ChOf od_StepsFrom an_StepsFrom od_NextPlace an_NextPlace od_NoGoal an_NoGoal od_LookAt an_LookAt od_FamInit an_FamInit od_OrderOf an_OrderOf od_Places an_Places od_WholeFam an_WholeFam od_GridPair an_GridPair od_FamilyF an_FamilyF od_IsInt an_IsInt od_IsBelow an_IsBelow od_IsRows an_IsRows od_IsPair an_IsPair od_GridInit an_GridInit od_LCell an_LCell od_LDraws an_LDraws od_LTurned an_LTurned od_LShifted an_LShifted od_LIsInt an_LIsInt od_LSameRow an_LSameRow od_LSamePair an_LSamePair od_LSamePlaces an_LSamePlaces od_LAcross an_LAcross od_LSwapped an_LSwapped od_LShrunk an_LShrunk od_LGrown an_LGrown od_LFound an_LFound od_LFirst an_LFirst od_LNext an_LNext od_LFamily an_LFamily od_LPair an_LPair od_LLinkish an_LLinkish od_LSeamed an_LSeamed od_LDrawn an_LDrawn od_LAsked an_LAsked od_Law an_Law : Option Addr} {slS slS0 slS1 slS2 sl_Turned sl_Trans sl_Swapped sl_LowRow sl_Shrunk sl_FirstOf sl_ChBy sl_ChOf sl_StepsFrom sl_NextPlace sl_NoGoal sl_LookAt sl_FamInit sl_OrderOf sl_Places sl_WholeFam sl_GridPair sl_FamilyF sl_IsInt sl_IsBelow sl_IsRows sl_IsPair sl_GridInit sl_LCell sl_LDraws sl_LTurned sl_LShifted sl_LIsInt sl_LSameRow sl_LSamePair sl_LSamePlaces sl_LAcross sl_LSwapped sl_LShrunk sl_LGrown sl_LFound sl_LFirst sl_LNext sl_LFamily sl_LPair sl_LLinkish sl_LSeamed sl_LDrawn sl_LAsked sl_Law : Array (Option Value)} {nS nS0 nS1 nS2 : Nat} {oc_Turned kV_Turned dc_Turned pm_Turned ct_Turned cd_Turned oc_Trans kV_Trans dc_Trans pm_Trans ct_Trans cd_Trans oc_Swapped kV_Swapped dc_Swapped pm_Swapped ct_Swapped cd_Swapped oc_LowRow kV_LowRow dc_LowRow pm_LowRow ct_LowRow cd_LowRow oc_Shrunk kV_Shrunk dc_Shrunk pm_Shrunk ct_Shrunk cd_Shrunk oc_FirstOf kV_FirstOf dc_FirstOf pm_FirstOf ct_FirstOf cd_FirstOf oc_ChBy kV_ChBy dc_ChBy pm_ChBy ct_ChBy cd_ChBy oc_ChOf kV_ChOf dc_ChOf pm_ChOf ct_ChOf cd_ChOf oc_StepsFrom kV_StepsFrom dc_StepsFrom pm_StepsFrom ct_StepsFrom cd_StepsFrom oc_NextPlace kV_NextPlace dc_NextPlace pm_NextPlace ct_NextPlace cd_NextPlace oc_NoGoal kV_NoGoal dc_NoGoal pm_NoGoal ct_NoGoal cd_NoGoal oc_LookAt kV_LookAt dc_LookAt pm_LookAt ct_LookAt cd_LookAt oc_FamInit kV_FamInit dc_FamInit pm_FamInit ct_FamInit cd_FamInit oc_OrderOf kV_OrderOf dc_OrderOf pm_OrderOf ct_OrderOf cd_OrderOf oc_Places kV_Places dc_Places pm_Places ct_Places cd_Places oc_WholeFam kV_WholeFam dc_WholeFam pm_WholeFam ct_WholeFam cd_WholeFam oc_GridPair kV_GridPair dc_GridPair pm_GridPair ct_GridPair cd_GridPair oc_FamilyF kV_FamilyF dc_FamilyF pm_FamilyF ct_FamilyF cd_FamilyF oc_IsInt kV_IsInt dc_IsInt pm_IsInt ct_IsInt cd_IsInt oc_IsBelow kV_IsBelow dc_IsBelow pm_IsBelow ct_IsBelow cd_IsBelow oc_IsRows kV_IsRows dc_IsRows pm_IsRows ct_IsRows cd_IsRows oc_IsPair kV_IsPair dc_IsPair pm_IsPair ct_IsPair cd_IsPair oc_GridInit kV_GridInit dc_GridInit pm_GridInit ct_GridInit cd_GridInit oc_LCell kV_LCell dc_LCell pm_LCell ct_LCell cd_LCell oc_LDraws kV_LDraws dc_LDraws pm_LDraws ct_LDraws cd_LDraws oc_LTurned kV_LTurned dc_LTurned pm_LTurned ct_LTurned cd_LTurned oc_LShifted kV_LShifted dc_LShifted pm_LShifted ct_LShifted cd_LShifted oc_LIsInt kV_LIsInt dc_LIsInt pm_LIsInt ct_LIsInt cd_LIsInt oc_LSameRow kV_LSameRow dc_LSameRow pm_LSameRow ct_LSameRow cd_LSameRow oc_LSamePair kV_LSamePair dc_LSamePair pm_LSamePair ct_LSamePair cd_LSamePair oc_LSamePlaces kV_LSamePlaces dc_LSamePlaces pm_LSamePlaces ct_LSamePlaces cd_LSamePlaces oc_LAcross kV_LAcross dc_LAcross pm_LAcross ct_LAcross cd_LAcross oc_LSwapped kV_LSwapped dc_LSwapped pm_LSwapped ct_LSwapped cd_LSwapped oc_LShrunk kV_LShrunk dc_LShrunk pm_LShrunk ct_LShrunk cd_LShrunk oc_LGrown kV_LGrown dc_LGrown pm_LGrown ct_LGrown cd_LGrown oc_LFound kV_LFound dc_LFound pm_LFound ct_LFound cd_LFound oc_LFirst kV_LFirst dc_LFirst pm_LFirst ct_LFirst cd_LFirst oc_LNext kV_LNext dc_LNext pm_LNext ct_LNext cd_LNext oc_LFamily kV_LFamily dc_LFamily pm_LFamily ct_LFamily oc_LPair kV_LPair dc_LPair pm_LPair ct_LPair cd_LPair oc_LLinkish kV_LLinkish dc_LLinkish pm_LLinkish ct_LLinkish cd_LLinkish oc_LSeamed kV_LSeamed dc_LSeamed pm_LSeamed ct_LSeamed cd_LSeamed oc_LDrawn kV_LDrawn dc_LDrawn pm_LDrawn ct_LDrawn cd_LDrawn oc_LAsked kV_LAsked dc_LAsked pm_LAsked ct_LAsked cd_LAsked oc_Law kV_Law dc_Law pm_Law ct_Law cd_Law : Value} {t1 t2 t3 t4 t5 u0 v0 u1 v1 u2 v2 : Tok}
    (a_Turned : PySem.W.nsIn K mainGlobals "turned" = some (some (.ref f_Turned)))
    (l_Turned : K.lookup f_Turned = some ⟨oc_Turned, od_Turned, .func (PySem.W.fnOf "turned" "turned" (defArgs sTurned) (defBody sTurned) (defScope sTurned) .none kV_Turned dc_Turned pm_Turned an_Turned cd_Turned ct_Turned), sl_Turned⟩) (c_Turned : PySem.W.codeIn K cd_Turned "turned" = true) (k_Turned : PySem.W.keepIn K (.ref f_Turned) = true)
    (a_Trans : PySem.W.nsIn K mainGlobals "transposed" = some (some (.ref f_Trans)))
    (l_Trans : K.lookup f_Trans = some ⟨oc_Trans, od_Trans, .func (PySem.W.fnOf "transposed" "transposed" (defArgs sTrans) (defBody sTrans) (defScope sTrans) .none kV_Trans dc_Trans pm_Trans an_Trans cd_Trans ct_Trans), sl_Trans⟩) (c_Trans : PySem.W.codeIn K cd_Trans "transposed" = true) (k_Trans : PySem.W.keepIn K (.ref f_Trans) = true)
    (a_Swapped : PySem.W.nsIn K mainGlobals "swapped" = some (some (.ref f_Swapped)))
    (l_Swapped : K.lookup f_Swapped = some ⟨oc_Swapped, od_Swapped, .func (PySem.W.fnOf "swapped" "swapped" (defArgs sSwapped) (defBody sSwapped) (defScope sSwapped) .none kV_Swapped dc_Swapped pm_Swapped an_Swapped cd_Swapped ct_Swapped), sl_Swapped⟩) (c_Swapped : PySem.W.codeIn K cd_Swapped "swapped" = true) (k_Swapped : PySem.W.keepIn K (.ref f_Swapped) = true)
    (a_LowRow : PySem.W.nsIn K mainGlobals "low_row" = some (some (.ref f_LowRow)))
    (l_LowRow : K.lookup f_LowRow = some ⟨oc_LowRow, od_LowRow, .func (PySem.W.fnOf "low_row" "low_row" (defArgs sLowRow) (defBody sLowRow) (defScope sLowRow) .none kV_LowRow dc_LowRow pm_LowRow an_LowRow cd_LowRow ct_LowRow), sl_LowRow⟩) (c_LowRow : PySem.W.codeIn K cd_LowRow "low_row" = true) (k_LowRow : PySem.W.keepIn K (.ref f_LowRow) = true)
    (a_Shrunk : PySem.W.nsIn K mainGlobals "shrunk" = some (some (.ref f_Shrunk)))
    (l_Shrunk : K.lookup f_Shrunk = some ⟨oc_Shrunk, od_Shrunk, .func (PySem.W.fnOf "shrunk" "shrunk" (defArgs sShrunk) (defBody sShrunk) (defScope sShrunk) .none kV_Shrunk dc_Shrunk pm_Shrunk an_Shrunk cd_Shrunk ct_Shrunk), sl_Shrunk⟩) (c_Shrunk : PySem.W.codeIn K cd_Shrunk "shrunk" = true) (k_Shrunk : PySem.W.keepIn K (.ref f_Shrunk) = true)
    (a_FirstOf : PySem.W.nsIn K mainGlobals "first_of" = some (some (.ref f_FirstOf)))
    (l_FirstOf : K.lookup f_FirstOf = some ⟨oc_FirstOf, od_FirstOf, .func (PySem.W.fnOf "first_of" "first_of" (defArgs sFirstOf) (defBody sFirstOf) (defScope sFirstOf) .none kV_FirstOf dc_FirstOf pm_FirstOf an_FirstOf cd_FirstOf ct_FirstOf), sl_FirstOf⟩) (c_FirstOf : PySem.W.codeIn K cd_FirstOf "first_of" = true) (k_FirstOf : PySem.W.keepIn K (.ref f_FirstOf) = true)
    (a_ChBy : PySem.W.nsIn K mainGlobals "changes_by_columns" = some (some (.ref f_ChBy)))
    (l_ChBy : K.lookup f_ChBy = some ⟨oc_ChBy, od_ChBy, .func (PySem.W.fnOf "changes_by_columns" "changes_by_columns" (defArgs sChBy) (defBody sChBy) (defScope sChBy) .none kV_ChBy dc_ChBy pm_ChBy an_ChBy cd_ChBy ct_ChBy), sl_ChBy⟩) (c_ChBy : PySem.W.codeIn K cd_ChBy "changes_by_columns" = true) (k_ChBy : PySem.W.keepIn K (.ref f_ChBy) = true)
    (a_ChOf : PySem.W.nsIn K mainGlobals "changes_of" = some (some (.ref f_ChOf)))
    (l_ChOf : K.lookup f_ChOf = some ⟨oc_ChOf, od_ChOf, .func (PySem.W.fnOf "changes_of" "changes_of" (defArgs sChOf) (defBody sChOf) (defScope sChOf) .none kV_ChOf dc_ChOf pm_ChOf an_ChOf cd_ChOf ct_ChOf), sl_ChOf⟩) (c_ChOf : PySem.W.codeIn K cd_ChOf "changes_of" = true) (k_ChOf : PySem.W.keepIn K (.ref f_ChOf) = true)
    (a_StepsFrom : PySem.W.nsIn K mainGlobals "steps_from" = some (some (.ref f_StepsFrom)))
    (l_StepsFrom : K.lookup f_StepsFrom = some ⟨oc_StepsFrom, od_StepsFrom, .func (PySem.W.fnOf "steps_from" "steps_from" (defArgs sStepsFrom) (defBody sStepsFrom) (defScope sStepsFrom) .none kV_StepsFrom dc_StepsFrom pm_StepsFrom an_StepsFrom cd_StepsFrom ct_StepsFrom), sl_StepsFrom⟩) (c_StepsFrom : PySem.W.codeIn K cd_StepsFrom "steps_from" = true) (k_StepsFrom : PySem.W.keepIn K (.ref f_StepsFrom) = true)
    (a_NextPlace : PySem.W.findIn K (.ref CF) "next_place" = some (some (.ref f_NextPlace))) (i_NextPlace : PySem.W.isFn K (.ref f_NextPlace) = true)
    (l_NextPlace : K.lookup f_NextPlace = some ⟨oc_NextPlace, od_NextPlace, .func (PySem.W.fnOf "next_place" "Family.next_place" (defArgs sNextPlace) (defBody sNextPlace) (defScope sNextPlace) .none kV_NextPlace dc_NextPlace pm_NextPlace an_NextPlace cd_NextPlace ct_NextPlace), sl_NextPlace⟩) (c_NextPlace : PySem.W.codeIn K cd_NextPlace "Family.next_place" = true) (k_NextPlace : PySem.W.keepIn K (.ref f_NextPlace) = true)
    (a_NoGoal : PySem.W.nsIn K mainGlobals "no_goal" = some (some (.ref f_NoGoal)))
    (l_NoGoal : K.lookup f_NoGoal = some ⟨oc_NoGoal, od_NoGoal, .func (PySem.W.fnOf "no_goal" "no_goal" (defArgs sNoGoal) (defBody sNoGoal) (defScope sNoGoal) .none kV_NoGoal dc_NoGoal pm_NoGoal an_NoGoal cd_NoGoal ct_NoGoal), sl_NoGoal⟩) (c_NoGoal : PySem.W.codeIn K cd_NoGoal "no_goal" = true) (k_NoGoal : PySem.W.keepIn K (.ref f_NoGoal) = true)
    (a_LookAt : PySem.W.findIn K (.ref CF) "look_at" = some (some (.ref f_LookAt))) (i_LookAt : PySem.W.isFn K (.ref f_LookAt) = true)
    (l_LookAt : K.lookup f_LookAt = some ⟨oc_LookAt, od_LookAt, .func (PySem.W.fnOf "look_at" "Family.look_at" (defArgs sLookAt) (defBody sLookAt) (defScope sLookAt) .none kV_LookAt dc_LookAt pm_LookAt an_LookAt cd_LookAt ct_LookAt), sl_LookAt⟩) (c_LookAt : PySem.W.codeIn K cd_LookAt "Family.look_at" = true) (k_LookAt : PySem.W.keepIn K (.ref f_LookAt) = true)
    (a_FamInit : PySem.W.findIn K (.ref CF) "__init__" = some (some (.ref f_FamInit))) (i_FamInit : PySem.W.isFn K (.ref f_FamInit) = true)
    (l_FamInit : K.lookup f_FamInit = some ⟨oc_FamInit, od_FamInit, .func (PySem.W.fnOf "__init__" "Family.__init__" (defArgs sFamInit) (defBody sFamInit) (defScope sFamInit) .none kV_FamInit dc_FamInit pm_FamInit an_FamInit cd_FamInit ct_FamInit), sl_FamInit⟩) (c_FamInit : PySem.W.codeIn K cd_FamInit "Family.__init__" = true) (k_FamInit : PySem.W.keepIn K (.ref f_FamInit) = true)
    (a_OrderOf : PySem.W.nsIn K mainGlobals "order_of" = some (some (.ref f_OrderOf)))
    (l_OrderOf : K.lookup f_OrderOf = some ⟨oc_OrderOf, od_OrderOf, .func (PySem.W.fnOf "order_of" "order_of" (defArgs sOrderOf) (defBody sOrderOf) (defScope sOrderOf) .none kV_OrderOf dc_OrderOf pm_OrderOf an_OrderOf cd_OrderOf ct_OrderOf), sl_OrderOf⟩) (c_OrderOf : PySem.W.codeIn K cd_OrderOf "order_of" = true) (k_OrderOf : PySem.W.keepIn K (.ref f_OrderOf) = true)
    (a_Places : PySem.W.findIn K (.ref CF) "places" = some (some (.ref f_Places))) (i_Places : PySem.W.isFn K (.ref f_Places) = true)
    (l_Places : K.lookup f_Places = some ⟨oc_Places, od_Places, .func (PySem.W.fnOf "places" "Family.places" (defArgs sPlaces) (defBody sPlaces) (defScope sPlaces) .none kV_Places dc_Places pm_Places an_Places cd_Places ct_Places), sl_Places⟩) (c_Places : PySem.W.codeIn K cd_Places "Family.places" = true) (k_Places : PySem.W.keepIn K (.ref f_Places) = true)
    (a_WholeFam : PySem.W.nsIn K mainGlobals "whole_family" = some (some (.ref f_WholeFam)))
    (l_WholeFam : K.lookup f_WholeFam = some ⟨oc_WholeFam, od_WholeFam, .func (PySem.W.fnOf "whole_family" "whole_family" (defArgs sWholeFam) (defBody sWholeFam) (defScope sWholeFam) .none kV_WholeFam dc_WholeFam pm_WholeFam an_WholeFam cd_WholeFam ct_WholeFam), sl_WholeFam⟩) (c_WholeFam : PySem.W.codeIn K cd_WholeFam "whole_family" = true) (k_WholeFam : PySem.W.keepIn K (.ref f_WholeFam) = true)
    (a_GridPair : PySem.W.findIn K (.ref CG) "pair" = some (some (.ref f_GridPair))) (i_GridPair : PySem.W.isFn K (.ref f_GridPair) = true)
    (l_GridPair : K.lookup f_GridPair = some ⟨oc_GridPair, od_GridPair, .func (PySem.W.fnOf "pair" "Grid.pair" (defArgs sGridPair) (defBody sGridPair) (defScope sGridPair) .none kV_GridPair dc_GridPair pm_GridPair an_GridPair cd_GridPair ct_GridPair), sl_GridPair⟩) (c_GridPair : PySem.W.codeIn K cd_GridPair "Grid.pair" = true) (k_GridPair : PySem.W.keepIn K (.ref f_GridPair) = true)
    (a_FamilyF : PySem.W.nsIn K mainGlobals "family" = some (some (.ref f_FamilyF)))
    (l_FamilyF : K.lookup f_FamilyF = some ⟨oc_FamilyF, od_FamilyF, .func (PySem.W.fnOf "family" "family" (defArgs sFamilyF) (defBody sFamilyF) (defScope sFamilyF) .none kV_FamilyF dc_FamilyF pm_FamilyF an_FamilyF cd_FamilyF ct_FamilyF), sl_FamilyF⟩) (c_FamilyF : PySem.W.codeIn K cd_FamilyF "family" = true) (k_FamilyF : PySem.W.keepIn K (.ref f_FamilyF) = true)
    (a_IsInt : PySem.W.nsIn K mainGlobals "is_integer" = some (some (.ref f_IsInt)))
    (l_IsInt : K.lookup f_IsInt = some ⟨oc_IsInt, od_IsInt, .func (PySem.W.fnOf "is_integer" "is_integer" (defArgs sIsInt) (defBody sIsInt) (defScope sIsInt) .none kV_IsInt dc_IsInt pm_IsInt an_IsInt cd_IsInt ct_IsInt), sl_IsInt⟩) (c_IsInt : PySem.W.codeIn K cd_IsInt "is_integer" = true) (k_IsInt : PySem.W.keepIn K (.ref f_IsInt) = true)
    (a_IsBelow : PySem.W.nsIn K mainGlobals "is_place_below" = some (some (.ref f_IsBelow)))
    (l_IsBelow : K.lookup f_IsBelow = some ⟨oc_IsBelow, od_IsBelow, .func (PySem.W.fnOf "is_place_below" "is_place_below" (defArgs sIsBelow) (defBody sIsBelow) (defScope sIsBelow) .none kV_IsBelow dc_IsBelow pm_IsBelow an_IsBelow cd_IsBelow ct_IsBelow), sl_IsBelow⟩) (c_IsBelow : PySem.W.codeIn K cd_IsBelow "is_place_below" = true) (k_IsBelow : PySem.W.keepIn K (.ref f_IsBelow) = true)
    (a_IsRows : PySem.W.nsIn K mainGlobals "is_rows" = some (some (.ref f_IsRows)))
    (l_IsRows : K.lookup f_IsRows = some ⟨oc_IsRows, od_IsRows, .func (PySem.W.fnOf "is_rows" "is_rows" (defArgs sIsRows) (defBody sIsRows) (defScope sIsRows) .none kV_IsRows dc_IsRows pm_IsRows an_IsRows cd_IsRows ct_IsRows), sl_IsRows⟩) (c_IsRows : PySem.W.codeIn K cd_IsRows "is_rows" = true) (k_IsRows : PySem.W.keepIn K (.ref f_IsRows) = true)
    (a_IsPair : PySem.W.nsIn K mainGlobals "is_pair_of_grid" = some (some (.ref f_IsPair)))
    (l_IsPair : K.lookup f_IsPair = some ⟨oc_IsPair, od_IsPair, .func (PySem.W.fnOf "is_pair_of_grid" "is_pair_of_grid" (defArgs sIsPair) (defBody sIsPair) (defScope sIsPair) .none kV_IsPair dc_IsPair pm_IsPair an_IsPair cd_IsPair ct_IsPair), sl_IsPair⟩) (c_IsPair : PySem.W.codeIn K cd_IsPair "is_pair_of_grid" = true) (k_IsPair : PySem.W.keepIn K (.ref f_IsPair) = true)
    (a_GridInit : PySem.W.findIn K (.ref CG) "__init__" = some (some (.ref f_GridInit))) (i_GridInit : PySem.W.isFn K (.ref f_GridInit) = true)
    (l_GridInit : K.lookup f_GridInit = some ⟨oc_GridInit, od_GridInit, .func (PySem.W.fnOf "__init__" "Grid.__init__" (defArgs sGridInit) (defBody sGridInit) (defScope sGridInit) .none kV_GridInit dc_GridInit pm_GridInit an_GridInit cd_GridInit ct_GridInit), sl_GridInit⟩) (c_GridInit : PySem.W.codeIn K cd_GridInit "Grid.__init__" = true) (k_GridInit : PySem.W.keepIn K (.ref f_GridInit) = true)
    (a_LCell : PySem.W.nsIn K mainGlobals "_law_cell" = some (some (.ref f_LCell)))
    (l_LCell : K.lookup f_LCell = some ⟨oc_LCell, od_LCell, .func (PySem.W.fnOf "_law_cell" "_law_cell" (defArgs sLCell) (defBody sLCell) (defScope sLCell) .none kV_LCell dc_LCell pm_LCell an_LCell cd_LCell ct_LCell), sl_LCell⟩) (c_LCell : PySem.W.codeIn K cd_LCell "_law_cell" = true) (k_LCell : PySem.W.keepIn K (.ref f_LCell) = true)
    (a_LDraws : PySem.W.nsIn K mainGlobals "_law_draws" = some (some (.ref f_LDraws)))
    (l_LDraws : K.lookup f_LDraws = some ⟨oc_LDraws, od_LDraws, .func (PySem.W.fnOf "_law_draws" "_law_draws" (defArgs sLDraws) (defBody sLDraws) (defScope sLDraws) .none kV_LDraws dc_LDraws pm_LDraws an_LDraws cd_LDraws ct_LDraws), sl_LDraws⟩) (c_LDraws : PySem.W.codeIn K cd_LDraws "_law_draws" = true) (k_LDraws : PySem.W.keepIn K (.ref f_LDraws) = true)
    (a_LTurned : PySem.W.nsIn K mainGlobals "_law_turned" = some (some (.ref f_LTurned)))
    (l_LTurned : K.lookup f_LTurned = some ⟨oc_LTurned, od_LTurned, .func (PySem.W.fnOf "_law_turned" "_law_turned" (defArgs sLTurned) (defBody sLTurned) (defScope sLTurned) .none kV_LTurned dc_LTurned pm_LTurned an_LTurned cd_LTurned ct_LTurned), sl_LTurned⟩) (c_LTurned : PySem.W.codeIn K cd_LTurned "_law_turned" = true) (k_LTurned : PySem.W.keepIn K (.ref f_LTurned) = true)
    (a_LShifted : PySem.W.nsIn K mainGlobals "_law_shifted" = some (some (.ref f_LShifted)))
    (l_LShifted : K.lookup f_LShifted = some ⟨oc_LShifted, od_LShifted, .func (PySem.W.fnOf "_law_shifted" "_law_shifted" (defArgs sLShifted) (defBody sLShifted) (defScope sLShifted) .none kV_LShifted dc_LShifted pm_LShifted an_LShifted cd_LShifted ct_LShifted), sl_LShifted⟩) (c_LShifted : PySem.W.codeIn K cd_LShifted "_law_shifted" = true) (k_LShifted : PySem.W.keepIn K (.ref f_LShifted) = true)
    (a_LIsInt : PySem.W.nsIn K mainGlobals "_law_is_integer" = some (some (.ref f_LIsInt)))
    (l_LIsInt : K.lookup f_LIsInt = some ⟨oc_LIsInt, od_LIsInt, .func (PySem.W.fnOf "_law_is_integer" "_law_is_integer" (defArgs sLIsInt) (defBody sLIsInt) (defScope sLIsInt) .none kV_LIsInt dc_LIsInt pm_LIsInt an_LIsInt cd_LIsInt ct_LIsInt), sl_LIsInt⟩) (c_LIsInt : PySem.W.codeIn K cd_LIsInt "_law_is_integer" = true) (k_LIsInt : PySem.W.keepIn K (.ref f_LIsInt) = true)
    (a_LSameRow : PySem.W.nsIn K mainGlobals "_law_same_row" = some (some (.ref f_LSameRow)))
    (l_LSameRow : K.lookup f_LSameRow = some ⟨oc_LSameRow, od_LSameRow, .func (PySem.W.fnOf "_law_same_row" "_law_same_row" (defArgs sLSameRow) (defBody sLSameRow) (defScope sLSameRow) .none kV_LSameRow dc_LSameRow pm_LSameRow an_LSameRow cd_LSameRow ct_LSameRow), sl_LSameRow⟩) (c_LSameRow : PySem.W.codeIn K cd_LSameRow "_law_same_row" = true) (k_LSameRow : PySem.W.keepIn K (.ref f_LSameRow) = true)
    (a_LSamePair : PySem.W.nsIn K mainGlobals "_law_same_pair" = some (some (.ref f_LSamePair)))
    (l_LSamePair : K.lookup f_LSamePair = some ⟨oc_LSamePair, od_LSamePair, .func (PySem.W.fnOf "_law_same_pair" "_law_same_pair" (defArgs sLSamePair) (defBody sLSamePair) (defScope sLSamePair) .none kV_LSamePair dc_LSamePair pm_LSamePair an_LSamePair cd_LSamePair ct_LSamePair), sl_LSamePair⟩) (c_LSamePair : PySem.W.codeIn K cd_LSamePair "_law_same_pair" = true) (k_LSamePair : PySem.W.keepIn K (.ref f_LSamePair) = true)
    (a_LSamePlaces : PySem.W.nsIn K mainGlobals "_law_same_places" = some (some (.ref f_LSamePlaces)))
    (l_LSamePlaces : K.lookup f_LSamePlaces = some ⟨oc_LSamePlaces, od_LSamePlaces, .func (PySem.W.fnOf "_law_same_places" "_law_same_places" (defArgs sLSamePlaces) (defBody sLSamePlaces) (defScope sLSamePlaces) .none kV_LSamePlaces dc_LSamePlaces pm_LSamePlaces an_LSamePlaces cd_LSamePlaces ct_LSamePlaces), sl_LSamePlaces⟩) (c_LSamePlaces : PySem.W.codeIn K cd_LSamePlaces "_law_same_places" = true) (k_LSamePlaces : PySem.W.keepIn K (.ref f_LSamePlaces) = true)
    (a_LAcross : PySem.W.nsIn K mainGlobals "_law_across" = some (some (.ref f_LAcross)))
    (l_LAcross : K.lookup f_LAcross = some ⟨oc_LAcross, od_LAcross, .func (PySem.W.fnOf "_law_across" "_law_across" (defArgs sLAcross) (defBody sLAcross) (defScope sLAcross) .none kV_LAcross dc_LAcross pm_LAcross an_LAcross cd_LAcross ct_LAcross), sl_LAcross⟩) (c_LAcross : PySem.W.codeIn K cd_LAcross "_law_across" = true) (k_LAcross : PySem.W.keepIn K (.ref f_LAcross) = true)
    (a_LSwapped : PySem.W.nsIn K mainGlobals "_law_swapped" = some (some (.ref f_LSwapped)))
    (l_LSwapped : K.lookup f_LSwapped = some ⟨oc_LSwapped, od_LSwapped, .func (PySem.W.fnOf "_law_swapped" "_law_swapped" (defArgs sLSwapped) (defBody sLSwapped) (defScope sLSwapped) .none kV_LSwapped dc_LSwapped pm_LSwapped an_LSwapped cd_LSwapped ct_LSwapped), sl_LSwapped⟩) (c_LSwapped : PySem.W.codeIn K cd_LSwapped "_law_swapped" = true) (k_LSwapped : PySem.W.keepIn K (.ref f_LSwapped) = true)
    (a_LShrunk : PySem.W.nsIn K mainGlobals "_law_shrunk" = some (some (.ref f_LShrunk)))
    (l_LShrunk : K.lookup f_LShrunk = some ⟨oc_LShrunk, od_LShrunk, .func (PySem.W.fnOf "_law_shrunk" "_law_shrunk" (defArgs sLShrunk) (defBody sLShrunk) (defScope sLShrunk) .none kV_LShrunk dc_LShrunk pm_LShrunk an_LShrunk cd_LShrunk ct_LShrunk), sl_LShrunk⟩) (c_LShrunk : PySem.W.codeIn K cd_LShrunk "_law_shrunk" = true) (k_LShrunk : PySem.W.keepIn K (.ref f_LShrunk) = true)
    (a_LGrown : PySem.W.nsIn K mainGlobals "_law_grown" = some (some (.ref f_LGrown)))
    (l_LGrown : K.lookup f_LGrown = some ⟨oc_LGrown, od_LGrown, .func (PySem.W.fnOf "_law_grown" "_law_grown" (defArgs sLGrown) (defBody sLGrown) (defScope sLGrown) .none kV_LGrown dc_LGrown pm_LGrown an_LGrown cd_LGrown ct_LGrown), sl_LGrown⟩) (c_LGrown : PySem.W.codeIn K cd_LGrown "_law_grown" = true) (k_LGrown : PySem.W.keepIn K (.ref f_LGrown) = true)
    (a_LFound : PySem.W.nsIn K mainGlobals "_law_found" = some (some (.ref f_LFound)))
    (l_LFound : K.lookup f_LFound = some ⟨oc_LFound, od_LFound, .func (PySem.W.fnOf "_law_found" "_law_found" (defArgs sLFound) (defBody sLFound) (defScope sLFound) .none kV_LFound dc_LFound pm_LFound an_LFound cd_LFound ct_LFound), sl_LFound⟩) (c_LFound : PySem.W.codeIn K cd_LFound "_law_found" = true) (k_LFound : PySem.W.keepIn K (.ref f_LFound) = true)
    (a_LFirst : PySem.W.nsIn K mainGlobals "_law_first" = some (some (.ref f_LFirst)))
    (l_LFirst : K.lookup f_LFirst = some ⟨oc_LFirst, od_LFirst, .func (PySem.W.fnOf "_law_first" "_law_first" (defArgs sLFirst) (defBody sLFirst) (defScope sLFirst) .none kV_LFirst dc_LFirst pm_LFirst an_LFirst cd_LFirst ct_LFirst), sl_LFirst⟩) (c_LFirst : PySem.W.codeIn K cd_LFirst "_law_first" = true) (k_LFirst : PySem.W.keepIn K (.ref f_LFirst) = true)
    (a_LNext : PySem.W.nsIn K mainGlobals "_law_next" = some (some (.ref f_LNext)))
    (l_LNext : K.lookup f_LNext = some ⟨oc_LNext, od_LNext, .func (PySem.W.fnOf "_law_next" "_law_next" (defArgs sLNext) (defBody sLNext) (defScope sLNext) .none kV_LNext dc_LNext pm_LNext an_LNext cd_LNext ct_LNext), sl_LNext⟩) (c_LNext : PySem.W.codeIn K cd_LNext "_law_next" = true) (k_LNext : PySem.W.keepIn K (.ref f_LNext) = true)
    (a_LFamily : PySem.W.nsIn K mainGlobals "_law_family" = some (some (.ref f_LFamily)))
    (l_LFamily : K.lookup f_LFamily = some ⟨oc_LFamily, od_LFamily, .func (PySem.W.fnOf "_law_family" "_law_family" (defArgs sLFamily) (defBody sLFamily) (defScope sLFamily) .none kV_LFamily dc_LFamily pm_LFamily an_LFamily (.ref cL) ct_LFamily), sl_LFamily⟩) (c_LFamily : PySem.W.codeIn K (.ref cL) "_law_family" = true) (k_LFamily : PySem.W.keepIn K (.ref f_LFamily) = true)
    (a_LPair : PySem.W.nsIn K mainGlobals "_law_pair" = some (some (.ref f_LPair)))
    (l_LPair : K.lookup f_LPair = some ⟨oc_LPair, od_LPair, .func (PySem.W.fnOf "_law_pair" "_law_pair" (defArgs sLPair) (defBody sLPair) (defScope sLPair) .none kV_LPair dc_LPair pm_LPair an_LPair cd_LPair ct_LPair), sl_LPair⟩) (c_LPair : PySem.W.codeIn K cd_LPair "_law_pair" = true) (k_LPair : PySem.W.keepIn K (.ref f_LPair) = true)
    (a_LLinkish : PySem.W.nsIn K mainGlobals "_law_linkish" = some (some (.ref f_LLinkish)))
    (l_LLinkish : K.lookup f_LLinkish = some ⟨oc_LLinkish, od_LLinkish, .func (PySem.W.fnOf "_law_linkish" "_law_linkish" (defArgs sLLinkish) (defBody sLLinkish) (defScope sLLinkish) .none kV_LLinkish dc_LLinkish pm_LLinkish an_LLinkish cd_LLinkish ct_LLinkish), sl_LLinkish⟩) (c_LLinkish : PySem.W.codeIn K cd_LLinkish "_law_linkish" = true) (k_LLinkish : PySem.W.keepIn K (.ref f_LLinkish) = true)
    (a_LSeamed : PySem.W.nsIn K mainGlobals "_law_seamed" = some (some (.ref f_LSeamed)))
    (l_LSeamed : K.lookup f_LSeamed = some ⟨oc_LSeamed, od_LSeamed, .func (PySem.W.fnOf "_law_seamed" "_law_seamed" (defArgs sLSeamed) (defBody sLSeamed) (defScope sLSeamed) .none kV_LSeamed dc_LSeamed pm_LSeamed an_LSeamed cd_LSeamed ct_LSeamed), sl_LSeamed⟩) (c_LSeamed : PySem.W.codeIn K cd_LSeamed "_law_seamed" = true) (k_LSeamed : PySem.W.keepIn K (.ref f_LSeamed) = true)
    (a_LDrawn : PySem.W.nsIn K mainGlobals "_law_drawn" = some (some (.ref f_LDrawn)))
    (l_LDrawn : K.lookup f_LDrawn = some ⟨oc_LDrawn, od_LDrawn, .func (PySem.W.fnOf "_law_drawn" "_law_drawn" (defArgs sLDrawn) (defBody sLDrawn) (defScope sLDrawn) .none kV_LDrawn dc_LDrawn pm_LDrawn an_LDrawn cd_LDrawn ct_LDrawn), sl_LDrawn⟩) (c_LDrawn : PySem.W.codeIn K cd_LDrawn "_law_drawn" = true) (k_LDrawn : PySem.W.keepIn K (.ref f_LDrawn) = true)
    (a_LAsked : PySem.W.nsIn K mainGlobals "_law_asked" = some (some (.ref f_LAsked)))
    (l_LAsked : K.lookup f_LAsked = some ⟨oc_LAsked, od_LAsked, .func (PySem.W.fnOf "_law_asked" "_law_asked" (defArgs sLAsked) (defBody sLAsked) (defScope sLAsked) .none kV_LAsked dc_LAsked pm_LAsked an_LAsked cd_LAsked ct_LAsked), sl_LAsked⟩) (c_LAsked : PySem.W.codeIn K cd_LAsked "_law_asked" = true) (k_LAsked : PySem.W.keepIn K (.ref f_LAsked) = true)
    (a_Law : PySem.W.nsIn K mainGlobals "law" = some (some (.ref f_Law)))
    (l_Law : K.lookup f_Law = some ⟨oc_Law, od_Law, .func (PySem.W.fnOf "law" "law" (defArgs sLaw) (defBody sLaw) (defScope sLaw) .none kV_Law dc_Law pm_Law an_Law cd_Law ct_Law), sl_Law⟩) (c_Law : PySem.W.codeIn K cd_Law "law" = true) (k_Law : PySem.W.keepIn K (.ref f_Law) = true)
    (gCF : PySem.W.nsIn K mainGlobals "Family" = some (some (.ref CF)))
    (gCG : PySem.W.nsIn K mainGlobals "Grid" = some (some (.ref CG)))
    (pgCF : PySem.W.plainGet K CF Str.empty = true)
    (hdCF : PySem.W.hasDictIn K CF = true)
    (poCF : PySem.W.plainOver K CF = true)
    (saCF : PySem.W.findIn K (.ref CF) "__setattr__" = some (some (.builtin "object.__setattr__")))
    (mkCF : PySem.W.makesIn K CF = true)
    (kcCF : PySem.W.keepIn K (.ref CF) = true)
    (pgCG : PySem.W.plainGet K CG Str.empty = true)
    (hdCG : PySem.W.hasDictIn K CG = true)
    (poCG : PySem.W.plainOver K CG = true)
    (saCG : PySem.W.findIn K (.ref CG) "__setattr__" = some (some (.builtin "object.__setattr__")))
    (mkCG : PySem.W.makesIn K CG = true)
    (kcCG : PySem.W.keepIn K (.ref CG) = true)
    (n_origin : PySem.W.findIn K (.ref CF) "origin" = some none)
    (n_goal : PySem.W.findIn K (.ref CF) "goal" = some none)
    (n_waiting : PySem.W.findIn K (.ref CF) "waiting" = some none)
    (n_xs : PySem.W.findIn K (.ref CG) "xs" = some none)
    (n_ohs : PySem.W.findIn K (.ref CG) "ohs" = some none)
    (g1 : PySem.W.nsIn K mainGlobals "SWAP_COLUMNS" = some (some (.str "swap columns" t1)))
    (g2 : PySem.W.nsIn K mainGlobals "SWAP_ROWS" = some (some (.str "swap rows" t2)))
    (g3 : PySem.W.nsIn K mainGlobals "SHRINK_COLUMN" = some (some (.str "shrink column" t3)))
    (g4 : PySem.W.nsIn K mainGlobals "SHRINK_ROW" = some (some (.str "shrink row" t4)))
    (gL : PySem.W.nsIn K mainGlobals "LEAST_SIZE" = some (some (.int 2 t5)))
    (gS : PySem.W.nsIn K mainGlobals "SEAMS" = some (some (.ref aS)))
    (lS : K.lookup aS = some ⟨.type "tuple", dS, .seq #[.ref b0, .ref b1, .ref b2] nS, slS⟩)
    (lb0 : K.lookup b0 = some ⟨.type "tuple", dS0, .seq #[.int 0 u0, .int 0 v0] nS0, slS0⟩)
    (lb1 : K.lookup b1 = some ⟨.type "tuple", dS1, .seq #[.int 1 u1, .int 0 v1] nS1, slS1⟩)
    (lb2 : K.lookup b2 = some ⟨.type "tuple", dS2, .seq #[.int 0 u2, .int 1 v2] nS2, slS2⟩)
    (z_len : PySem.W.nsIn K mainGlobals "len" = some none)
    (z_tuple : PySem.W.nsIn K mainGlobals "tuple" = some none)
    (z_list : PySem.W.nsIn K mainGlobals "list" = some none)
    (z_range : PySem.W.nsIn K mainGlobals "range" = some none)
    (z_min : PySem.W.nsIn K mainGlobals "min" = some none)
    (z_max : PySem.W.nsIn K mainGlobals "max" = some none)
    (z_abs : PySem.W.nsIn K mainGlobals "abs" = some none)
    (z_int : PySem.W.nsIn K mainGlobals "int" = some none)
    (z_bool : PySem.W.nsIn K mainGlobals "bool" = some none)
    (z_all : PySem.W.nsIn K mainGlobals "all" = some none)
    (z_sum : PySem.W.nsIn K mainGlobals "sum" = some none)
    (z_sorted : PySem.W.nsIn K mainGlobals "sorted" = some none)
    (z_isinstance : PySem.W.nsIn K mainGlobals "isinstance" = some none)
    (z_enumerate : PySem.W.nsIn K mainGlobals "enumerate" = some none)
    (z_zip : PySem.W.nsIn K mainGlobals "zip" = some none)
    (ch : PySem.W.codeHdIn K cL Pt = true) (nP : K.lookup Pt = none) (hT8 : ∀ Q ∈ ts, h.get? Q = some (PySem.W.tabObj #[])) (ets : ts = [Pt]) :
    LamX.LawAtS l w K CX0 12 63 "_law_script" mg fa h := by
  have e := hfa.symm.trans (mg_of X G a_Law)
  cases e
  subst ets
  have B : Bl mg := ⟨mg_none_of X G z_len, mg_none_of X G z_tuple, mg_none_of X G z_list, mg_none_of X G z_range, mg_none_of X G z_min, mg_none_of X G z_max, mg_none_of X G z_abs, mg_none_of X G z_int, mg_none_of X G z_bool, mg_none_of X G z_all, mg_none_of X G z_sum, mg_none_of X G z_sorted, mg_none_of X G z_isinstance, mg_none_of X G z_enumerate, mg_none_of X G z_zip⟩
  have TF : FamTxt K CF := ⟨⟨pgCF, hdCF, poCF, saCF⟩, n_origin, n_goal, n_waiting⟩
  have TG : GridTxt K CG := ⟨⟨pgCG, hdCG, poCG, saCG⟩, n_xs, n_ohs⟩
  have hS : ∀ H, SqT K H aS [.ref b0, .ref b1, .ref b2] := fun H => sq_of lS (of_decide_eq_true rfl) (.cons rfl (.cons rfl (.cons rfl .nil)))
  have h0 : ∀ H, SqT K H b0 [.int 0, .int 0] := fun H => sq_of lb0 (of_decide_eq_true rfl) (.cons ⟨_, rfl⟩ (.cons ⟨_, rfl⟩ .nil))
  have h1 : ∀ H, SqT K H b1 [.int 1, .int 0] := fun H => sq_of lb1 (of_decide_eq_true rfl) (.cons ⟨_, rfl⟩ (.cons ⟨_, rfl⟩ .nil))
  have h2 : ∀ H, SqT K H b2 [.int 0, .int 1] := fun H => sq_of lb2 (of_decide_eq_true rfl) (.cons ⟨_, rfl⟩ (.cons ⟨_, rfl⟩ .nil))
  have F_Turned := fun_mk (st := sTurned) l_Turned c_Turned k_Turned
  have b_Turned := F_Turned.binds (ps := ["pair", "columns", "down"]) fun _ _ _ _ _ _ us hl => match us, hl with | [_, _, _], _ => rfl
  have F_Trans := fun_mk (st := sTrans) l_Trans c_Trans k_Trans
  have b_Trans := F_Trans.binds (ps := ["pair"]) fun _ _ _ _ _ _ us hl => match us, hl with | [_], _ => rfl
  have F_Swapped := fun_mk (st := sSwapped) l_Swapped c_Swapped k_Swapped
  have b_Swapped := F_Swapped.binds (ps := ["pair", "i"]) fun _ _ _ _ _ _ us hl => match us, hl with | [_, _], _ => rfl
  have F_LowRow := fun_mk (st := sLowRow) l_LowRow c_LowRow k_LowRow
  have b_LowRow := F_LowRow.binds (ps := ["pair", "i"]) fun _ _ _ _ _ _ us hl => match us, hl with | [_, _], _ => rfl
  have F_Shrunk := fun_mk (st := sShrunk) l_Shrunk c_Shrunk k_Shrunk
  have b_Shrunk := F_Shrunk.binds (ps := ["pair", "i"]) fun _ _ _ _ _ _ us hl => match us, hl with | [_, _], _ => rfl
  have F_FirstOf := fun_mk (st := sFirstOf) l_FirstOf c_FirstOf k_FirstOf
  have b_FirstOf := F_FirstOf.binds (ps := ["pair"]) fun _ _ _ _ _ _ us hl => match us, hl with | [_], _ => rfl
  have F_ChBy := fun_mk (st := sChBy) l_ChBy c_ChBy k_ChBy
  have b_ChBy := F_ChBy.binds (ps := ["pair", "swap", "shrink"]) fun _ _ _ _ _ _ us hl => match us, hl with | [_, _, _], _ => rfl
  have F_ChOf := fun_mk (st := sChOf) l_ChOf c_ChOf k_ChOf
  have b_ChOf := F_ChOf.binds (ps := ["pair"]) fun _ _ _ _ _ _ us hl => match us, hl with | [_], _ => rfl
  have F_StepsFrom := fun_mk (st := sStepsFrom) l_StepsFrom c_StepsFrom k_StepsFrom
  have b_StepsFrom := F_StepsFrom.binds (ps := ["place"]) fun _ _ _ _ _ _ us hl => match us, hl with | [_], _ => rfl
  have F_NextPlace := fun_mk (st := sNextPlace) l_NextPlace c_NextPlace k_NextPlace
  have b_NextPlace := F_NextPlace.binds (ps := ["self"]) fun _ _ _ _ _ _ us hl => match us, hl with | [_], _ => rfl
  have F_NoGoal := fun_mk (st := sNoGoal) l_NoGoal c_NoGoal k_NoGoal
  have b_NoGoal := F_NoGoal.binds (ps := ["place"]) fun _ _ _ _ _ _ us hl => match us, hl with | [_], _ => rfl
  have F_LookAt := fun_mk (st := sLookAt) l_LookAt c_LookAt k_LookAt
  have b_LookAt := F_LookAt.binds (ps := ["self", "place", "is_goal"]) fun _ _ _ _ _ _ us hl => match us, hl with | [_, _, _], _ => rfl
  have F_FamInit := fun_mk (st := sFamInit) l_FamInit c_FamInit k_FamInit
  have b_FamInit := F_FamInit.binds (ps := ["self", "pair", "is_goal"]) fun _ _ _ _ _ _ us hl => match us, hl with | [_, _, _], _ => rfl
  have F_OrderOf := fun_mk (st := sOrderOf) l_OrderOf c_OrderOf k_OrderOf
  have F_Places := fun_mk (st := sPlaces) l_Places c_Places k_Places
  have b_Places := F_Places.binds (ps := ["self"]) fun _ _ _ _ _ _ us hl => match us, hl with | [_], _ => rfl
  have F_WholeFam := fun_mk (st := sWholeFam) l_WholeFam c_WholeFam k_WholeFam
  have b_WholeFam := F_WholeFam.binds (ps := ["pair"]) fun _ _ _ _ _ _ us hl => match us, hl with | [_], _ => rfl
  have F_GridPair := fun_mk (st := sGridPair) l_GridPair c_GridPair k_GridPair
  have b_GridPair := F_GridPair.binds (ps := ["self"]) fun _ _ _ _ _ _ us hl => match us, hl with | [_], _ => rfl
  have F_FamilyF := fun_mk (st := sFamilyF) l_FamilyF c_FamilyF k_FamilyF
  have b_FamilyF := F_FamilyF.binds (ps := ["grid"]) fun _ _ _ _ _ _ us hl => match us, hl with | [_], _ => rfl
  have F_IsInt := fun_mk (st := sIsInt) l_IsInt c_IsInt k_IsInt
  have b_IsInt := F_IsInt.binds (ps := ["value"]) fun _ _ _ _ _ _ us hl => match us, hl with | [_], _ => rfl
  have F_IsBelow := fun_mk (st := sIsBelow) l_IsBelow c_IsBelow k_IsBelow
  have b_IsBelow := F_IsBelow.binds (ps := ["value", "most"]) fun _ _ _ _ _ _ us hl => match us, hl with | [_, _], _ => rfl
  have F_IsRows := fun_mk (st := sIsRows) l_IsRows c_IsRows k_IsRows
  have b_IsRows := F_IsRows.binds (ps := ["value", "n"]) fun _ _ _ _ _ _ us hl => match us, hl with | [_, _], _ => rfl
  have F_IsPair := fun_mk (st := sIsPair) l_IsPair c_IsPair k_IsPair
  have b_IsPair := F_IsPair.binds (ps := ["xs", "ohs"]) fun _ _ _ _ _ _ us hl => match us, hl with | [_, _], _ => rfl
  have F_GridInit := fun_mk (st := sGridInit) l_GridInit c_GridInit k_GridInit
  have b_GridInit := F_GridInit.binds (ps := ["self", "xs", "ohs"]) fun _ _ _ _ _ _ us hl => match us, hl with | [_, _, _], _ => rfl
  have F_LCell := fun_mk (st := sLCell) l_LCell c_LCell k_LCell
  have b_LCell := F_LCell.binds (ps := ["_law_script", "_law_k"]) fun _ _ _ _ _ _ us hl => match us, hl with | [_, _], _ => rfl
  have F_LDraws := fun_mk (st := sLDraws) l_LDraws c_LDraws k_LDraws
  have b_LDraws := F_LDraws.binds (ps := ["_law_cell_here", "_law_many", "_law_most"]) fun _ _ _ _ _ _ us hl => match us, hl with | [_, _, _], _ => rfl
  have F_LTurned := fun_mk (st := sLTurned) l_LTurned c_LTurned k_LTurned
  have b_LTurned := F_LTurned.binds (ps := ["_law_pair_here", "_law_a", "_law_b"]) fun _ _ _ _ _ _ us hl => match us, hl with | [_, _, _], _ => rfl
  have F_LShifted := fun_mk (st := sLShifted) l_LShifted c_LShifted k_LShifted
  have b_LShifted := F_LShifted.binds (ps := ["_law_n", "_law_shift", "_law_draw"]) fun _ _ _ _ _ _ us hl => match us, hl with | [_, _, _], _ => rfl
  have F_LIsInt := fun_mk (st := sLIsInt) l_LIsInt c_LIsInt k_LIsInt
  have b_LIsInt := F_LIsInt.binds (ps := ["_law_value"]) fun _ _ _ _ _ _ us hl => match us, hl with | [_], _ => rfl
  have F_LSameRow := fun_mk (st := sLSameRow) l_LSameRow c_LSameRow k_LSameRow
  have b_LSameRow := F_LSameRow.binds (ps := ["_law_told", "_law_due"]) fun _ _ _ _ _ _ us hl => match us, hl with | [_, _], _ => rfl
  have F_LSamePair := fun_mk (st := sLSamePair) l_LSamePair c_LSamePair k_LSamePair
  have b_LSamePair := F_LSamePair.binds (ps := ["_law_told", "_law_due"]) fun _ _ _ _ _ _ us hl => match us, hl with | [_, _], _ => rfl
  have F_LSamePlaces := fun_mk (st := sLSamePlaces) l_LSamePlaces c_LSamePlaces k_LSamePlaces
  have b_LSamePlaces := F_LSamePlaces.binds (ps := ["_law_told", "_law_due"]) fun _ _ _ _ _ _ us hl => match us, hl with | [_, _], _ => rfl
  have F_LAcross := fun_mk (st := sLAcross) l_LAcross c_LAcross k_LAcross
  have b_LAcross := F_LAcross.binds (ps := ["_law_pair_here"]) fun _ _ _ _ _ _ us hl => match us, hl with | [_], _ => rfl
  have F_LSwapped := fun_mk (st := sLSwapped) l_LSwapped c_LSwapped k_LSwapped
  have b_LSwapped := F_LSwapped.binds (ps := ["_law_pair_here", "_law_i", "_law_j"]) fun _ _ _ _ _ _ us hl => match us, hl with | [_, _, _], _ => rfl
  have F_LShrunk := fun_mk (st := sLShrunk) l_LShrunk c_LShrunk k_LShrunk
  have b_LShrunk := F_LShrunk.binds (ps := ["_law_pair_here", "_law_i"]) fun _ _ _ _ _ _ us hl => match us, hl with | [_, _], _ => rfl
  have F_LGrown := fun_mk (st := sLGrown) l_LGrown c_LGrown k_LGrown
  have b_LGrown := F_LGrown.binds (ps := ["_law_pair_here", "_law_i", "_law_r", "_law_up"]) fun _ _ _ _ _ _ us hl => match us, hl with | [_, _, _, _], _ => rfl
  have F_LFound := fun_mk (st := sLFound) l_LFound c_LFound k_LFound
  have b_LFound := F_LFound.binds (ps := ["_law_pair_here", "_law_seam"]) fun _ _ _ _ _ _ us hl => match us, hl with | [_, _], _ => rfl
  have F_LFirst := fun_mk (st := sLFirst) l_LFirst c_LFirst k_LFirst
  have b_LFirst := F_LFirst.binds (ps := ["_law_pair_here"]) fun _ _ _ _ _ _ us hl => match us, hl with | [_], _ => rfl
  have F_LNext := fun_mk (st := sLNext) l_LNext c_LNext k_LNext
  have b_LNext := F_LNext.binds (ps := ["_law_pair_here", "_law_seam"]) fun _ _ _ _ _ _ us hl => match us, hl with | [_, _], _ => rfl
  have F_LFamily : FunC K "_law_family" "_law_family" sLFamily f_LFamily _ cL := ⟨⟨_, _, _, _, _, _, _, _, rfl, l_LFamily, c_LFamily⟩, k_LFamily⟩
  have b_LFamily := F_LFamily.toFun.binds (ps := ["_law_pair_here", "_law_seam"]) fun _ _ _ _ _ _ us hl => match us, hl with | [_, _], _ => rfl
  have F_LPair := fun_mk (st := sLPair) l_LPair c_LPair k_LPair
  have b_LPair := F_LPair.binds (ps := ["_law_cell_here", "_law_n"]) fun _ _ _ _ _ _ us hl => match us, hl with | [_, _], _ => rfl
  have F_LLinkish := fun_mk (st := sLLinkish) l_LLinkish c_LLinkish k_LLinkish
  have b_LLinkish := F_LLinkish.binds (ps := ["_law_cell_here", "_law_parts"]) fun _ _ _ _ _ _ us hl => match us, hl with | [_, _], _ => rfl
  have F_LSeamed := fun_mk (st := sLSeamed) l_LSeamed c_LSeamed k_LSeamed
  have b_LSeamed := F_LSeamed.binds (ps := ["_law_cell_here"]) fun _ _ _ _ _ _ us hl => match us, hl with | [_], _ => rfl
  have F_LDrawn := fun_mk (st := sLDrawn) l_LDrawn c_LDrawn k_LDrawn
  have b_LDrawn := F_LDrawn.binds (ps := ["_law_cell_here", "_law_head"]) fun _ _ _ _ _ _ us hl => match us, hl with | [_, _], _ => rfl
  have F_LAsked := fun_mk (st := sLAsked) l_LAsked c_LAsked k_LAsked
  have b_LAsked := F_LAsked.binds (ps := ["_law_script"]) fun _ _ _ _ _ _ us hl => match us, hl with | [_], _ => rfl
  have F_Law := fun_mk (st := sLaw) l_Law c_Law k_Law
  refine ⟨PySem.W.fnOf "law" "law" (defArgs sLaw) (defBody sLaw) (defScope sLaw) .none kV_Law dc_Law pm_Law an_Law cd_Law ct_Law, [(cL, Pt)], spAsked K (lamT Pt), fun p hp => ?_, fun p hp => ?_, fun p hp => ?_, fun s v => .of_eq rfl, fun H a ns _ _ hH hS => ?_, fun base XB GB TBs => ?_⟩
  · rw [List.mem_singleton.mp hp]
    exact hT8 Pt (List.mem_singleton.mpr rfl)
  · rw [List.mem_singleton.mp hp]
    exact nP
  · rw [List.mem_singleton.mp hp]
    exact PySem.W.codeHd_of_K X ch
  · exact ⟨_, ns, rfl, ⟨a, rfl, hS⟩, fun p hp => by
      rw [List.mem_singleton.mp hp]
      exact LamX.TabS.nil (hH (cL, Pt) (List.mem_singleton.mpr rfl)), fun H => rfl⟩
  · have TB := TBs (cL, Pt) (List.mem_singleton.mpr rfl)
    have D_Turned : DefOk l.prog w K mg base "turned" 1 ["pair", "columns", "down"] (spTurned K) := ⟨⟨_, _, ok_turned F_Turned B, mg_of X G a_Turned, k_Turned, b_Turned⟩⟩
    have D_Trans : DefOk l.prog w K mg base "transposed" 1 ["pair"] (spTrans K) := ⟨⟨_, _, ok_trans F_Trans B, mg_of X G a_Trans, k_Trans, b_Trans⟩⟩
    have D_Swapped : DefOk l.prog w K mg base "swapped" 1 ["pair", "i"] (spSwapped K) := ⟨⟨_, _, ok_swapped F_Swapped B, mg_of X G a_Swapped, k_Swapped, b_Swapped⟩⟩
    have D_LowRow : DefOk l.prog w K mg base "low_row" 1 ["pair", "i"] (spLowRow K) := ⟨⟨_, _, ok_lowrow F_LowRow B, mg_of X G a_LowRow, k_LowRow, b_LowRow⟩⟩
    have D_Shrunk : DefOk l.prog w K mg base "shrunk" 2 ["pair", "i"] (spShrunk K) := ⟨⟨_, _, ok_shrunk F_Shrunk B D_LowRow, mg_of X G a_Shrunk, k_Shrunk, b_Shrunk⟩⟩
    have D_FirstOf : DefOk l.prog w K mg base "first_of" 2 ["pair"] (spFirst K) := ⟨⟨_, _, ok_first F_FirstOf B D_Turned, mg_of X G a_FirstOf, k_FirstOf, b_FirstOf⟩⟩
    have D_ChBy : DefOk l.prog w K mg base "changes_by_columns" 3 ["pair", "swap", "shrink"] (spChBy K) := ⟨⟨_, _, ok_chby F_ChBy B D_Swapped D_Shrunk, mg_of X G a_ChBy, k_ChBy, b_ChBy⟩⟩
    have D_ChOf : DefOk l.prog w K mg base "changes_of" 4 ["pair"] (spChOf K) := ⟨⟨_, _, ok_chof F_ChOf B (mg_of X G g1) (mg_of X G g2) (mg_of X G g3) (mg_of X G g4) D_Trans D_ChBy, mg_of X G a_ChOf, k_ChOf, b_ChOf⟩⟩
    have D_StepsFrom : DefOk l.prog w K mg base "steps_from" 5 ["place"] (spSteps K) := ⟨⟨_, _, ok_steps F_StepsFrom B (mg_of X G gS) hS h0 h1 h2 D_Turned D_ChOf, mg_of X G a_StepsFrom, k_StepsFrom, b_StepsFrom⟩⟩
    have M_NextPlace : MDef l.prog w K mg base CF "next_place" 1 ["self"] (spNext l.prog w K CF) := ⟨⟨_, _, ok_next F_NextPlace B TF, ⟨a_NextPlace, i_NextPlace, k_NextPlace⟩, b_NextPlace⟩⟩
    have D_NoGoal : DefOk l.prog w K mg base "no_goal" 1 ["place"] (spNoGoal) := ⟨⟨_, _, ok_nogoal F_NoGoal , mg_of X G a_NoGoal, k_NoGoal, b_NoGoal⟩⟩
    have M_LookAt : MDef l.prog w K mg base CF "look_at" 6 ["self", "place", "is_goal"] (spLook l.prog w K CF f_NoGoal) := ⟨⟨_, _, ok_look F_LookAt B TF (ok_nogoal F_NoGoal) k_NoGoal b_NoGoal D_FirstOf D_StepsFrom, ⟨a_LookAt, i_LookAt, k_LookAt⟩, b_LookAt⟩⟩
    have K_Family : MkOk l.prog w K mg base "Family" CF 7 ["self", "pair", "is_goal"] (spFamInit l.prog w K CF f_NoGoal S0) := ⟨⟨_, _, ok_faminit F_FamInit wld.dom B TF D_FirstOf M_NextPlace M_LookAt, ⟨mkCF, a_FamInit, i_FamInit, kcCF⟩, mg_of X G gCF, b_FamInit⟩⟩
    have M_Places : MDef l.prog w K mg base CF "places" 1 ["self"] (spPlaces l.prog w K CF) := ⟨⟨_, _, ok_places F_Places B TF F_OrderOf (mg_of X G a_OrderOf), ⟨a_Places, i_Places, k_Places⟩, b_Places⟩⟩
    have D_WholeFam : DefOk l.prog w K mg base "whole_family" 9 ["pair"] (spWhole l.prog w K CF S0) := ⟨⟨_, _, ok_whole F_WholeFam K_Family (mg_of X G a_NoGoal), mg_of X G a_WholeFam, k_WholeFam, b_WholeFam⟩⟩
    have M_GridPair : MDef l.prog w K mg base CG "pair" 1 ["self"] (spPair K CG) := ⟨⟨_, _, ok_pair F_GridPair TG, ⟨a_GridPair, i_GridPair, k_GridPair⟩, b_GridPair⟩⟩
    have D_FamilyF : DefOk l.prog w K mg base "family" 10 ["grid"] (spFamily l.prog w K CG S0) := ⟨⟨_, _, ok_family F_FamilyF TF TG M_GridPair M_Places D_WholeFam, mg_of X G a_FamilyF, k_FamilyF, b_FamilyF⟩⟩
    have D_FamilyK : DefK l.prog w K mg base "family" 10 ["grid"] ["grid"] (spFamily l.prog w K CG S0) := by
      refine ⟨⟨_, _, ok_family F_FamilyF TF TG M_GridPair M_Places D_WholeFam, mg_of X G a_FamilyF, k_FamilyF, ⟨fun s us ws _ hl => ?_, fun r1 r2 => r1.append r2⟩⟩⟩
      match us, ws, hl with
      | [], [v], _ => exact .of_eq rfl
      | [u], [], _ => exact .of_eq rfl
    have D_IsInt : DefOk l.prog w K mg base "is_integer" 1 ["value"] (spIsInt) := ⟨⟨_, _, ok_isint F_IsInt B, mg_of X G a_IsInt, k_IsInt, b_IsInt⟩⟩
    have D_IsBelow : DefOk l.prog w K mg base "is_place_below" 2 ["value", "most"] (spBelow) := ⟨⟨_, _, ok_below F_IsBelow D_IsInt, mg_of X G a_IsBelow, k_IsBelow, b_IsBelow⟩⟩
    have D_IsRows : ∀ t : Bool, DefOk l.prog w K mg base "is_rows" 3 ["value", "n"] (spIsRows K t) := fun t => ⟨⟨_, _, ok_isrows F_IsRows t B D_IsBelow, mg_of X G a_IsRows, k_IsRows, b_IsRows⟩⟩
    have D_IsPair : ∀ t : Bool, DefOk l.prog w K mg base "is_pair_of_grid" 4 ["xs", "ohs"] (spIsPair K t) := fun t => ⟨⟨_, _, ok_ispair F_IsPair t B (mg_of X G gL) (D_IsRows t), mg_of X G a_IsPair, k_IsPair, b_IsPair⟩⟩
    have K_Grid : ∀ t : Bool, MkOk l.prog w K mg base "Grid" CG 5 ["self", "xs", "ohs"] (spGridInit K CG t) := fun t => ⟨⟨_, _, ok_gridinit F_GridInit t B TG (D_IsPair t), ⟨mkCG, a_GridInit, i_GridInit, kcCG⟩, mg_of X G gCG, b_GridInit⟩⟩
    have D_LCell : DefOk l.prog w K mg base "_law_cell" 1 ["_law_script", "_law_k"] (spCell K) := ⟨⟨_, _, ok_cell F_LCell B, mg_of X G a_LCell, k_LCell, b_LCell⟩⟩
    have D_LDraws : DefOk l.prog w K mg base "_law_draws" 1 ["_law_cell_here", "_law_many", "_law_most"] (spDraws K) := ⟨⟨_, _, ok_draws F_LDraws B, mg_of X G a_LDraws, k_LDraws, b_LDraws⟩⟩
    have D_LTurned : DefOk l.prog w K mg base "_law_turned" 1 ["_law_pair_here", "_law_a", "_law_b"] (spLTurned K) := ⟨⟨_, _, ok_lturned F_LTurned B, mg_of X G a_LTurned, k_LTurned, b_LTurned⟩⟩
    have D_LShifted : DefOk l.prog w K mg base "_law_shifted" 2 ["_law_n", "_law_shift", "_law_draw"] (spLShifted K) := ⟨⟨_, _, ok_lshifted F_LShifted B D_LTurned, mg_of X G a_LShifted, k_LShifted, b_LShifted⟩⟩
    have D_LIsInt : DefOk l.prog w K mg base "_law_is_integer" 1 ["_law_value"] (spIsInt) := ⟨⟨_, _, ok_lisint F_LIsInt B, mg_of X G a_LIsInt, k_LIsInt, b_LIsInt⟩⟩
    have D_LSameRow : DefOk l.prog w K mg base "_law_same_row" 2 ["_law_told", "_law_due"] (spSameRow K) := ⟨⟨_, _, ok_samerow F_LSameRow B D_LIsInt, mg_of X G a_LSameRow, k_LSameRow, b_LSameRow⟩⟩
    have D_LSamePair : DefOk l.prog w K mg base "_law_same_pair" 3 ["_law_told", "_law_due"] (spSamePair K) := ⟨⟨_, _, ok_samepair F_LSamePair B D_LSameRow, mg_of X G a_LSamePair, k_LSamePair, b_LSamePair⟩⟩
    have D_LSamePlaces : DefOk l.prog w K mg base "_law_same_places" 4 ["_law_told", "_law_due"] (spSamePlaces K) := ⟨⟨_, _, ok_sameplaces F_LSamePlaces B D_LSamePair, mg_of X G a_LSamePlaces, k_LSamePlaces, b_LSamePlaces⟩⟩
    have D_LAcross : DefOk l.prog w K mg base "_law_across" 1 ["_law_pair_here"] (spAcross K) := ⟨⟨_, _, ok_across F_LAcross B, mg_of X G a_LAcross, k_LAcross, b_LAcross⟩⟩
    have D_LSwapped : DefOk l.prog w K mg base "_law_swapped" 1 ["_law_pair_here", "_law_i", "_law_j"] (spLSwapped K) := ⟨⟨_, _, ok_lswapped F_LSwapped B, mg_of X G a_LSwapped, k_LSwapped, b_LSwapped⟩⟩
    have D_LShrunk : DefOk l.prog w K mg base "_law_shrunk" 1 ["_law_pair_here", "_law_i"] (spLShrunk K) := ⟨⟨_, _, ok_lshrunk F_LShrunk B, mg_of X G a_LShrunk, k_LShrunk, b_LShrunk⟩⟩
    have D_LGrown : DefOk l.prog w K mg base "_law_grown" 1 ["_law_pair_here", "_law_i", "_law_r", "_law_up"] (spLGrown K) := ⟨⟨_, _, ok_lgrown F_LGrown B, mg_of X G a_LGrown, k_LGrown, b_LGrown⟩⟩
    have D_LFound : DefOk l.prog w K mg base "_law_found" 2 ["_law_pair_here", "_law_seam"] (spLFound K) := ⟨⟨_, _, ok_lfound F_LFound B D_LSwapped D_LShrunk, mg_of X G a_LFound, k_LFound, b_LFound⟩⟩
    have D_LFirst : DefOk l.prog w K mg base "_law_first" 2 ["_law_pair_here"] (spLFirst K) := ⟨⟨_, _, ok_lfirst F_LFirst B D_LTurned, mg_of X G a_LFirst, k_LFirst, b_LFirst⟩⟩
    have D_LNext : DefOk l.prog w K mg base "_law_next" 3 ["_law_pair_here", "_law_seam"] (spLNext K) := ⟨⟨_, _, ok_lnext F_LNext B D_LFound D_LFirst D_LAcross, mg_of X G a_LNext, k_LNext, b_LNext⟩⟩
    have D_LFamily : DefOk l.prog w K mg base "_law_family" 4 ["_law_pair_here", "_law_seam"] (spLFamily K (lamT Pt) S0) := ⟨⟨_, _, ok_lfamily F_LFamily S0 B TB D_LFirst D_LNext, mg_of X G a_LFamily, k_LFamily, b_LFamily⟩⟩
    have D_LPair : DefOk l.prog w K mg base "_law_pair" 2 ["_law_cell_here", "_law_n"] (spLPair K) := ⟨⟨_, _, ok_lpair F_LPair B D_LDraws, mg_of X G a_LPair, k_LPair, b_LPair⟩⟩
    have D_LLinkish : DefOk l.prog w K mg base "_law_linkish" 2 ["_law_cell_here", "_law_parts"] (spLLinkish K) := ⟨⟨_, _, ok_llinkish F_LLinkish B D_LDraws, mg_of X G a_LLinkish, k_LLinkish, b_LLinkish⟩⟩
    have D_LSeamed : DefOk l.prog w K mg base "_law_seamed" 5 ["_law_cell_here"] (spLSeamed K (lamT Pt)) := ⟨⟨_, _, ok_lseamed F_LSeamed wld B D_LDraws D_LShifted D_LGrown D_LAcross D_LFamily, mg_of X G a_LSeamed, k_LSeamed, b_LSeamed⟩⟩
    have D_LDrawn : DefOk l.prog w K mg base "_law_drawn" 6 ["_law_cell_here", "_law_head"] (spLDrawn K (lamT Pt)) := ⟨⟨_, _, ok_ldrawn F_LDrawn wld B D_LShifted D_LLinkish D_LPair D_LSeamed, mg_of X G a_LDrawn, k_LDrawn, b_LDrawn⟩⟩
    have D_LAsked : DefOk l.prog w K mg base "_law_asked" 11 ["_law_script"] (spAsked K (lamT Pt)) := ⟨⟨_, _, ok_lasked F_LAsked wld B D_LCell D_LDraws D_LDrawn D_LFamily D_LSamePlaces D_LTurned D_FamilyF D_FamilyK (K_Grid true) (K_Grid false), mg_of X G a_LAsked, k_LAsked, b_LAsked⟩⟩
    exact ok_law F_Law D_LAsked
end
end Gk
end

section
set_option Elab.async false
set_option linter.all false
open PySem PySem.W PyProof.Rows in
set_option maxRecDepth 100000 in
set_option maxHeartbeats 0 in
theorem PySem.Challenge.cw_gridknot_k41_whole_families_holds : PySem.Challenge.rw_gridknot_k41_whole_families.Holds := by
  w_on; o_law; k_head; (case hw => w_witness2)
  k_fill
  refine LamX.walk_ofTs (l := PySem.Challenge.rw_gridknot_k41_whole_families) (n := 63) (k := 12) (x := "_law_script") (CX := fun _ => L2.CX0) rfl (by decide) rfl ⟨rfl, by decide, by decide⟩ (fun w h Y => PySem.W.km_in_of Y) ?F (fun _ _ _ _ _ z => z)
  case F =>
    intro w mg fa h Y KX G hmg
    refine' Gk.all_mk KX G hmg ?a_Turned ?l_Turned ?c_Turned ?k_Turned ?a_Trans ?l_Trans ?c_Trans ?k_Trans ?a_Swapped ?l_Swapped ?c_Swapped ?k_Swapped ?a_LowRow ?l_LowRow ?c_LowRow ?k_LowRow ?a_Shrunk ?l_Shrunk ?c_Shrunk ?k_Shrunk ?a_FirstOf ?l_FirstOf ?c_FirstOf ?k_FirstOf ?a_ChBy ?l_ChBy ?c_ChBy ?k_ChBy ?a_ChOf ?l_ChOf ?c_ChOf ?k_ChOf ?a_StepsFrom ?l_StepsFrom ?c_StepsFrom ?k_StepsFrom ?a_NextPlace ?i_NextPlace ?l_NextPlace ?c_NextPlace ?k_NextPlace ?a_NoGoal ?l_NoGoal ?c_NoGoal ?k_NoGoal ?a_LookAt ?i_LookAt ?l_LookAt ?c_LookAt ?k_LookAt ?a_FamInit ?i_FamInit ?l_FamInit ?c_FamInit ?k_FamInit ?a_OrderOf ?l_OrderOf ?c_OrderOf ?k_OrderOf ?a_Places ?i_Places ?l_Places ?c_Places ?k_Places ?a_WholeFam ?l_WholeFam ?c_WholeFam ?k_WholeFam ?a_GridPair ?i_GridPair ?l_GridPair ?c_GridPair ?k_GridPair ?a_FamilyF ?l_FamilyF ?c_FamilyF ?k_FamilyF ?a_IsInt ?l_IsInt ?c_IsInt ?k_IsInt ?a_IsBelow ?l_IsBelow ?c_IsBelow ?k_IsBelow ?a_IsRows ?l_IsRows ?c_IsRows ?k_IsRows ?a_IsPair ?l_IsPair ?c_IsPair ?k_IsPair ?a_GridInit ?i_GridInit ?l_GridInit ?c_GridInit ?k_GridInit ?a_LCell ?l_LCell ?c_LCell ?k_LCell ?a_LDraws ?l_LDraws ?c_LDraws ?k_LDraws ?a_LTurned ?l_LTurned ?c_LTurned ?k_LTurned ?a_LShifted ?l_LShifted ?c_LShifted ?k_LShifted ?a_LIsInt ?l_LIsInt ?c_LIsInt ?k_LIsInt ?a_LSameRow ?l_LSameRow ?c_LSameRow ?k_LSameRow ?a_LSamePair ?l_LSamePair ?c_LSamePair ?k_LSamePair ?a_LSamePlaces ?l_LSamePlaces ?c_LSamePlaces ?k_LSamePlaces ?a_LAcross ?l_LAcross ?c_LAcross ?k_LAcross ?a_LSwapped ?l_LSwapped ?c_LSwapped ?k_LSwapped ?a_LShrunk ?l_LShrunk ?c_LShrunk ?k_LShrunk ?a_LGrown ?l_LGrown ?c_LGrown ?k_LGrown ?a_LFound ?l_LFound ?c_LFound ?k_LFound ?a_LFirst ?l_LFirst ?c_LFirst ?k_LFirst ?a_LNext ?l_LNext ?c_LNext ?k_LNext ?a_LFamily ?l_LFamily ?c_LFamily ?k_LFamily ?a_LPair ?l_LPair ?c_LPair ?k_LPair ?a_LLinkish ?l_LLinkish ?c_LLinkish ?k_LLinkish ?a_LSeamed ?l_LSeamed ?c_LSeamed ?k_LSeamed ?a_LDrawn ?l_LDrawn ?c_LDrawn ?k_LDrawn ?a_LAsked ?l_LAsked ?c_LAsked ?k_LAsked ?a_Law ?l_Law ?c_Law ?k_Law ?gCF ?gCG ?pgCF ?hdCF ?poCF ?saCF ?mkCF ?kcCF ?pgCG ?hdCG ?poCG ?saCG ?mkCG ?kcCG ?n_origin ?n_goal ?n_waiting ?n_xs ?n_ohs ?g1 ?g2 ?g3 ?g4 ?gL ?gS ?lS ?lb0 ?lb1 ?lb2 ?z_len ?z_tuple ?z_list ?z_range ?z_min ?z_max ?z_abs ?z_int ?z_bool ?z_all ?z_sum ?z_sorted ?z_isinstance ?z_enumerate ?z_zip ?ch ?nP (PySem.W.km_tabs_of Y) rfl
    (case gCF => k_is)
    (case gCG => k_is)
    (case a_Turned => k_is)
    (case l_Turned => k_is)
    (case c_Turned => k_is)
    (case k_Turned => k_is)
    (case a_Trans => k_is)
    (case l_Trans => k_is)
    (case c_Trans => k_is)
    (case k_Trans => k_is)
    (case a_Swapped => k_is)
    (case l_Swapped => k_is)
    (case c_Swapped => k_is)
    (case k_Swapped => k_is)
    (case a_LowRow => k_is)
    (case l_LowRow => k_is)
    (case c_LowRow => k_is)
    (case k_LowRow => k_is)
    (case a_Shrunk => k_is)
    (case l_Shrunk => k_is)
    (case c_Shrunk => k_is)
    (case k_Shrunk => k_is)
    (case a_FirstOf => k_is)
    (case l_FirstOf => k_is)
    (case c_FirstOf => k_is)
    (case k_FirstOf => k_is)
    (case a_ChBy => k_is)
    (case l_ChBy => k_is)
    (case c_ChBy => k_is)
    (case k_ChBy => k_is)
    (case a_ChOf => k_is)
    (case l_ChOf => k_is)
    (case c_ChOf => k_is)
    (case k_ChOf => k_is)
    (case a_StepsFrom => k_is)
    (case l_StepsFrom => k_is)
    (case c_StepsFrom => k_is)
    (case k_StepsFrom => k_is)
    (case a_NextPlace => k_is)
    (case i_NextPlace => k_is)
    (case l_NextPlace => k_is)
    (case c_NextPlace => k_is)
    (case k_NextPlace => k_is)
    (case a_NoGoal => k_is)
    (case l_NoGoal => k_is)
    (case c_NoGoal => k_is)
    (case k_NoGoal => k_is)
    (case a_LookAt => k_is)
    (case i_LookAt => k_is)
    (case l_LookAt => k_is)
    (case c_LookAt => k_is)
    (case k_LookAt => k_is)
    (case a_FamInit => k_is)
    (case i_FamInit => k_is)
    (case l_FamInit => k_is)
    (case c_FamInit => k_is)
    (case k_FamInit => k_is)
    (case a_OrderOf => k_is)
    (case l_OrderOf => k_is)
    (case c_OrderOf => k_is)
    (case k_OrderOf => k_is)
    (case a_Places => k_is)
    (case i_Places => k_is)
    (case l_Places => k_is)
    (case c_Places => k_is)
    (case k_Places => k_is)
    (case a_WholeFam => k_is)
    (case l_WholeFam => k_is)
    (case c_WholeFam => k_is)
    (case k_WholeFam => k_is)
    (case a_GridPair => k_is)
    (case i_GridPair => k_is)
    (case l_GridPair => k_is)
    (case c_GridPair => k_is)
    (case k_GridPair => k_is)
    (case a_FamilyF => k_is)
    (case l_FamilyF => k_is)
    (case c_FamilyF => k_is)
    (case k_FamilyF => k_is)
    (case a_IsInt => k_is)
    (case l_IsInt => k_is)
    (case c_IsInt => k_is)
    (case k_IsInt => k_is)
    (case a_IsBelow => k_is)
    (case l_IsBelow => k_is)
    (case c_IsBelow => k_is)
    (case k_IsBelow => k_is)
    (case a_IsRows => k_is)
    (case l_IsRows => k_is)
    (case c_IsRows => k_is)
    (case k_IsRows => k_is)
    (case a_IsPair => k_is)
    (case l_IsPair => k_is)
    (case c_IsPair => k_is)
    (case k_IsPair => k_is)
    (case a_GridInit => k_is)
    (case i_GridInit => k_is)
    (case l_GridInit => k_is)
    (case c_GridInit => k_is)
    (case k_GridInit => k_is)
    (case a_LCell => k_is)
    (case l_LCell => k_is)
    (case c_LCell => k_is)
    (case k_LCell => k_is)
    (case a_LDraws => k_is)
    (case l_LDraws => k_is)
    (case c_LDraws => k_is)
    (case k_LDraws => k_is)
    (case a_LTurned => k_is)
    (case l_LTurned => k_is)
    (case c_LTurned => k_is)
    (case k_LTurned => k_is)
    (case a_LShifted => k_is)
    (case l_LShifted => k_is)
    (case c_LShifted => k_is)
    (case k_LShifted => k_is)
    (case a_LIsInt => k_is)
    (case l_LIsInt => k_is)
    (case c_LIsInt => k_is)
    (case k_LIsInt => k_is)
    (case a_LSameRow => k_is)
    (case l_LSameRow => k_is)
    (case c_LSameRow => k_is)
    (case k_LSameRow => k_is)
    (case a_LSamePair => k_is)
    (case l_LSamePair => k_is)
    (case c_LSamePair => k_is)
    (case k_LSamePair => k_is)
    (case a_LSamePlaces => k_is)
    (case l_LSamePlaces => k_is)
    (case c_LSamePlaces => k_is)
    (case k_LSamePlaces => k_is)
    (case a_LAcross => k_is)
    (case l_LAcross => k_is)
    (case c_LAcross => k_is)
    (case k_LAcross => k_is)
    (case a_LSwapped => k_is)
    (case l_LSwapped => k_is)
    (case c_LSwapped => k_is)
    (case k_LSwapped => k_is)
    (case a_LShrunk => k_is)
    (case l_LShrunk => k_is)
    (case c_LShrunk => k_is)
    (case k_LShrunk => k_is)
    (case a_LGrown => k_is)
    (case l_LGrown => k_is)
    (case c_LGrown => k_is)
    (case k_LGrown => k_is)
    (case a_LFound => k_is)
    (case l_LFound => k_is)
    (case c_LFound => k_is)
    (case k_LFound => k_is)
    (case a_LFirst => k_is)
    (case l_LFirst => k_is)
    (case c_LFirst => k_is)
    (case k_LFirst => k_is)
    (case a_LNext => k_is)
    (case l_LNext => k_is)
    (case c_LNext => k_is)
    (case k_LNext => k_is)
    (case a_LFamily => k_is)
    (case l_LFamily => k_is)
    (case c_LFamily => k_is)
    (case k_LFamily => k_is)
    (case a_LPair => k_is)
    (case l_LPair => k_is)
    (case c_LPair => k_is)
    (case k_LPair => k_is)
    (case a_LLinkish => k_is)
    (case l_LLinkish => k_is)
    (case c_LLinkish => k_is)
    (case k_LLinkish => k_is)
    (case a_LSeamed => k_is)
    (case l_LSeamed => k_is)
    (case c_LSeamed => k_is)
    (case k_LSeamed => k_is)
    (case a_LDrawn => k_is)
    (case l_LDrawn => k_is)
    (case c_LDrawn => k_is)
    (case k_LDrawn => k_is)
    (case a_LAsked => k_is)
    (case l_LAsked => k_is)
    (case c_LAsked => k_is)
    (case k_LAsked => k_is)
    (case a_Law => k_is)
    (case l_Law => k_is)
    (case c_Law => k_is)
    (case k_Law => k_is)
    (case pgCF => k_is)
    (case hdCF => k_is)
    (case poCF => k_is)
    (case saCF => k_is)
    (case mkCF => k_is)
    (case kcCF => k_is)
    (case pgCG => k_is)
    (case hdCG => k_is)
    (case poCG => k_is)
    (case saCG => k_is)
    (case mkCG => k_is)
    (case kcCG => k_is)
    (case n_origin => k_is)
    (case n_goal => k_is)
    (case n_waiting => k_is)
    (case n_xs => k_is)
    (case n_ohs => k_is)
    (case g1 => k_is)
    (case g2 => k_is)
    (case g3 => k_is)
    (case g4 => k_is)
    (case gL => k_is)
    (case gS => k_is)
    (case lS => k_is)
    (case lb0 => k_is)
    (case lb1 => k_is)
    (case lb2 => k_is)
    (case z_len => k_is)
    (case z_tuple => k_is)
    (case z_list => k_is)
    (case z_range => k_is)
    (case z_min => k_is)
    (case z_max => k_is)
    (case z_abs => k_is)
    (case z_int => k_is)
    (case z_bool => k_is)
    (case z_all => k_is)
    (case z_sum => k_is)
    (case z_sorted => k_is)
    (case z_isinstance => k_is)
    (case z_enumerate => k_is)
    (case z_zip => k_is)
    (case ch => kernel_rfl)
    (case nP => kernel_rfl)
#print axioms PySem.Challenge.cw_gridknot_k41_whole_families_holds
end
