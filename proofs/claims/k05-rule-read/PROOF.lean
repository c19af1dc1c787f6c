import PyProof.Rows.All
import Wide.All
import OpenK.AllK
import Wide.FinOn
import HandS.ForMost
import HandS.Codes
import HandS.IsInst
import HandS.TupAny
import HandS.ClsMeth
import HandS.Defaults
import HandS.IterVal
import HandS.OwnEq
import HandS.More
import HandS.SlotsOwn
import KE.KOwnIter
import HandS.Evl
import HandS.HeadNt
import HandS.HeadEnd
import HandS.Head2
import HandS.TupLe
import HandS.Deep
import PyProof.FactsAll.object_1
import PyProof.FString5
import HandS.Exc
import HandS.ExcOwn
import HandS.ExcInit
import HandS.ExcIs
import HandS.ExcField
import HandS.Nested
import KE.KExcSuper
import KE.KSuper
import HandS.HotCalls
import HandS.TryOnly
import HandS.ExcCtx
import HandS.TryMany
import HandS.CallSlots
import HandS.Strs
import HandS.Zip
import HandS.Star
import HandS.StrMore
import HandS.SetFor
import PyProof.SeqRoads2
import PySem.Challenge.RW_rippleup_k05_rule_read
set_option Elab.async false
set_option linter.all false
set_option maxRecDepth 100000
set_option maxHeartbeats 0
/-! RpBase: formulas as plain data, what stands for them in the abstract heap, frames. -/
namespace Rp
open PySem PySem.Spec PyProof.Rows L2 SX
/-! ### formulas as plain data: a name, none to two parts -/
inductive Fm where
  | leaf (n : List Nat)
  | one (n : List Nat) (a : Fm)
  | two (n : List Nat) (a b : Fm)
  deriving DecidableEq
namespace Fm
def name : Fm → List Nat
  | leaf n => n
  | one n _ => n
  | two n _ _ => n
def parts : Fm → List Fm
  | leaf _ => []
  | one _ a => [a]
  | two _ a b => [a, b]
def size : Fm → Nat
  | leaf _ => 1
  | one _ a => 1 + a.size
  | two _ a b => 1 + (a.size + b.size)
def depth : Fm → Nat
  | leaf _ => 0
  | one _ a => a.depth + 1
  | two _ a b => max a.depth b.depth + 1
def text : Fm → List Nat
  | leaf n => n
  | one n a => n ++ 40 :: (a.text ++ [41])
  | two n a b => n ++ 40 :: (a.text ++ 44 :: 32 :: (b.text ++ [41]))
def mk (n : List Nat) : List Fm → Fm
  | [] => leaf n
  | [a] => one n a
  | a :: b :: _ => two n a b
theorem mk_name (n : List Nat) (ps : List Fm) : (mk n ps).name = n := by
  match ps with
  | [] => rfl
  | [_] => rfl
  | _ :: _ :: _ => rfl
theorem mk_parts {n : List Nat} {ps : List Fm} (h : ps.length ≤ 2) : (mk n ps).parts = ps := by
  match ps, h with
  | [], _ => rfl
  | [_], _ => rfl
  | [_, _], _ => rfl
theorem mk_eta (t : Fm) : mk t.name t.parts = t := by cases t <;> rfl
theorem parts_le (t : Fm) : t.parts.length ≤ 2 := by cases t <;> simp [parts]
theorem size_pos (t : Fm) : 0 < t.size := by cases t <;> simp [size] <;> omega
theorem size_eq (t : Fm) : t.size = 1 + (t.parts.map size).sum := by cases t <;> simp [size, parts]
theorem depth_part {t p : Fm} (h : p ∈ t.parts) : p.depth < t.depth := by
  cases t with
  | leaf n => cases h
  | one n a =>
    have e : p = a := by simpa [parts] using h
    subst e
    exact Nat.lt_succ_self _
  | two n a b =>
    have e : p = a ∨ p = b := by simpa [parts] using h
    rcases e with e | e <;> subst e <;> simp only [depth] <;> omega
theorem size_part {t p : Fm} (h : p ∈ t.parts) : p.size < t.size := by
  cases t with
  | leaf n => cases h
  | one n a =>
    have e : p = a := by simpa [parts] using h
    subst e
    simp only [size]; omega
  | two n a b =>
    have e : p = a ∨ p = b := by simpa [parts] using h
    rcases e with e | e <;> subst e <;> simp only [size] <;> omega
end Fm
/-! ### what is never changed: tuples, instances whose fields are all there -/
def kFormula : List Str := ["name", "parts", "size", "text"]
def kRule : List Str := ["left", "right", "text"]
def kRun : List Str := ["path", "frames", "rules"]
def kBook : List Str := ["operators", "constants", "rules", "text"]
def Imm : HO → Prop
  | .tup _ => True
  | .frz _ _ => True
  | .ins _ _ fs => fs.map (·.1) = kFormula ∨ fs.map (·.1) = kRule ∨ fs.map (·.1) = kRun ∨ fs.map (·.1) = kBook
  | _ => False
/-- what is never changed stands -/
def Kp (H H' : Hp) : Prop := ∀ b o, Imm o → H b = some o → H' b = some o
/-- all but the objects of S stands -/
def Fr (S : List Addr) (H H' : Hp) : Prop := ∀ b o, b ∉ S → H b = some o → H' b = some o
section
variable {H H1 H2 H' : Hp} {S : List Addr} {a b : Addr} {o u : HO}
theorem Kp.refl (H : Hp) : Kp H H := fun _ _ _ h => h
theorem Kp.trans (x : Kp H H1) (y : Kp H1 H2) : Kp H H2 := fun b o i h => y b o i (x b o i h)
theorem Kp.of_same (x : Same H H') : Kp H H' := fun b o _ h => x b o h
theorem Same.upd_new (h : H a = none) : Same H (upd H a o) := fun b u e => by rw [upd_ne (ne_of_none e h)]; exact e
theorem Kp.upd_new (h : H a = none) : Kp H (upd H a o) := .of_same (Same.upd_new h)
theorem Kp.upd_mut (h : H a = some u) (n : ¬ Imm u) : Kp H (upd H a o) := fun b v i e => by
  have d : b ≠ a := fun q => by rw [q, h] at e; cases e; exact n i
  rw [upd_ne d]; exact e
theorem Fr.refl (H : Hp) : Fr S H H := fun _ _ _ h => h
theorem Fr.trans (x : Fr S H H1) (y : Fr S H1 H2) : Fr S H H2 := fun b o i h => y b o i (x b o i h)
theorem Fr.of_same (x : Same H H') : Fr S H H' := fun b o _ h => x b o h
theorem Fr.same (x : Fr [] H H') : Same H H' := fun b o h => x b o (by simp) h
theorem Fr.upd_new (h : H a = none) : Fr S H (upd H a o) := .of_same (Same.upd_new h)
theorem Fr.upd_in (h : a ∈ S) : Fr S H (upd H a o) := fun b v i e => by
  have d : b ≠ a := fun q => i (q ▸ h)
  rw [upd_ne d]; exact e
theorem Fr.free (e : Fr S H H') (h : H' a = none) (n : a ∉ S) : H a = none := by
  cases q : H a with
  | none => rfl
  | some o => rw [e a o n q] at h; cases h
theorem Fr.kp (x : Fr S H H') (h : ∀ a ∈ S, ∀ o, H a = some o → ¬ Imm o) : Kp H H' := fun b o i e => x b o (fun hb => h b hb o e i) e
theorem Fr.kp1 (x : Fr [a] H H') (h : H a = some u) (n : ¬ Imm u) : Kp H H' := x.kp fun c hc o e => by
  have q : c = a := by simpa using hc
  rw [q, h] at e; cases e; exact n
theorem imm_lst {xs : List V} : ¬ Imm (.lst xs) := fun h => h
theorem Kp.rd (x : Kp H H') {xs : List V} (h : Rd H a (.tup xs)) : Rd H' a (.tup xs) := by
  rcases h with h | ⟨o, h⟩
  · exact .inl (x _ _ trivial h)
  · exact .inr ⟨o, x _ _ trivial h⟩
theorem Kp.sqT {K : PySem.W.Frag} (x : Kp H H') {xs : List V} (h : SqT K H a xs) : SqT K H' a xs := by
  rcases h with h | h
  · exact .inl (x.rd h)
  · exact .inr h
theorem SqT.imm_ne {xs : List V} {ys : List V} (h : H a = some (.tup xs)) (h' : H b = some (.lst ys)) : a ≠ b := ne_of h h' (by intro q; cases q)
end
/-! ### a formula as a nested tuple, (name, part, ..), part = such a tuple -/
def TupAt (K : PySem.W.Frag) (H : Hp) : Fm → Addr → Prop
  | .leaf n, a => SqT K H a [.str (S n)]
  | .one n x, a => ∃ b, SqT K H a [.str (S n), .ref b] ∧ TupAt K H x b
  | .two n x y, a => ∃ b c, SqT K H a [.str (S n), .ref b, .ref c] ∧ TupAt K H x b ∧ TupAt K H y c
theorem TupAt.mono {K : PySem.W.Frag} {H H' : Hp} (k : Kp H H') : ∀ {t : Fm} {a : Addr}, TupAt K H t a → TupAt K H' t a
  | .leaf _, _, h => k.sqT h
  | .one _ _, _, ⟨b, h, x⟩ => ⟨b, k.sqT h, TupAt.mono k x⟩
  | .two _ _ _, _, ⟨b, c, h, x, y⟩ => ⟨b, c, k.sqT h, TupAt.mono k x, TupAt.mono k y⟩
/-- several of them -/
def TupsAt (K : PySem.W.Frag) (H : Hp) : List Fm → List V → Prop := Paired fun t v => ∃ a, v = .ref a ∧ TupAt K H t a
theorem TupsAt.mono {K : PySem.W.Frag} {H H' : Hp} (k : Kp H H') {ts : List Fm} {vs : List V} (h : TupsAt K H ts vs) : TupsAt K H' ts vs := by
  induction h with
  | nil => exact .nil
  | cons r _ ih => obtain ⟨a, e, z⟩ := r; exact .cons ⟨a, e, z.mono k⟩ ih
theorem TupAt.parts {K : PySem.W.Frag} {H : Hp} {t : Fm} {a : Addr} (h : TupAt K H t a) : ∃ vs, SqT K H a (.str (S t.name) :: vs) ∧ TupsAt K H t.parts vs := by
  cases t with
  | leaf n => exact ⟨[], h, .nil⟩
  | one n x => obtain ⟨b, h, z⟩ := h; exact ⟨[.ref b], h, .cons ⟨b, rfl, z⟩ .nil⟩
  | two n x y => obtain ⟨b, c, h, z, z'⟩ := h; exact ⟨[.ref b, .ref c], h, .cons ⟨b, rfl, z⟩ (.cons ⟨c, rfl, z'⟩ .nil)⟩
theorem TupAt.of_parts {K : PySem.W.Frag} {H : Hp} {t : Fm} {a : Addr} {vs : List V} (h : SqT K H a (.str (S t.name) :: vs)) (p : TupsAt K H t.parts vs) : TupAt K H t a := by
  cases t with
  | leaf n => cases p; exact h
  | one n x =>
    cases p with
    | cons r p =>
      cases p
      obtain ⟨b, rfl, z⟩ := r
      exact ⟨b, h, z⟩
  | two n x y =>
    cases p with
    | cons r p =>
      cases p with
      | cons r' p =>
        cases p
        obtain ⟨b, rfl, z⟩ := r
        obtain ⟨c, rfl, z'⟩ := r'
        exact ⟨b, c, h, z, z'⟩
theorem TupsAt.length {K : PySem.W.Frag} {H : Hp} {ts : List Fm} {vs : List V} (h : TupsAt K H ts vs) : ts.length = vs.length := Paired.length h
/-! ### as data, for == -/
def Fm.data : Fm → PyData
  | .leaf n => .tuple [.str (S n)]
  | .one n a => .tuple [.str (S n), a.data]
  | .two n a b => .tuple [.str (S n), a.data, b.data]
theorem TupAt.dp {K : PySem.W.Frag} {H : Hp} : ∀ {t : Fm} {a : Addr}, TupAt K H t a → Dp K H (.ref a) t.data
  | .leaf _, _, h => .tup h (.cons (.str _) .nil)
  | .one _ _, _, ⟨_, h, x⟩ => .tup h (.cons (.str _) (.cons (TupAt.dp x) .nil))
  | .two _ _ _, _, ⟨_, _, h, x, y⟩ => .tup h (.cons (.str _) (.cons (TupAt.dp x) (.cons (TupAt.dp y) .nil)))
/-! ### a pool of draws: [numbers, next number, digits left, seed, turn] at p, its numbers at l -/
def PoolAt (H : Hp) (p l : Addr) : Prop :=
  ∃ (ns : List Int) (i d s t : Int), H p = some (.lst [.ref l, .int i, .int d, .int s, .int t]) ∧ H l = some (.lst (ns.map V.int)) ∧ 0 ≤ i
section
variable {H H' : Hp} {p q a l l' : Addr}
theorem PoolAt.frame (h : PoolAt H p l) (f : Same H H') : PoolAt H' p l := by
  obtain ⟨ns, i, d, s, t, h1, h2, h3⟩ := h
  exact ⟨ns, i, d, s, t, f _ _ h1, f _ _ h2, h3⟩
theorem PoolAt.ne (h : PoolAt H p l) : p ≠ l := by
  obtain ⟨ns, i, d, s, t, h1, h2, h3⟩ := h
  refine ne_of h1 h2 fun e => ?_
  cases ns with
  | nil => simp at e
  | cons a r => simp at e
/-- another list than the pool's two is changed -/
theorem PoolAt.other (h : PoolAt H p l) (f : Fr [a] H H') (np : p ≠ a) (nl : l ≠ a) : PoolAt H' p l := by
  obtain ⟨ns, i, d, s, t, h1, h2, h3⟩ := h
  exact ⟨ns, i, d, s, t, f _ _ (by simpa using np) h1, f _ _ (by simpa using nl) h2, h3⟩
theorem PoolAt.kp (h : PoolAt H p l) (f : Fr [p] H H') : Kp H H' := by
  obtain ⟨ns, i, d, s, t, h1, _⟩ := h
  exact f.kp1 h1 imm_lst
/-- another pool's turn -/
theorem PoolAt.turn (h : PoolAt H p l) (h' : PoolAt H q l') (ne : p ≠ q) (f : Fr [q] H H') : PoolAt H' p l := by
  refine h.other f ne ?_
  obtain ⟨ns, i, d, s, t, h1, h2, h3⟩ := h
  obtain ⟨ns', i', d', s', t', g1, g2, g3⟩ := h'
  refine ne_of h2 g1 fun e => ?_
  cases ns with
  | nil => simp at e
  | cons a r => simp at e
end
end Rp
/-! RpWalk: how a reading is answered: one small lemma for each form (u_..), used from the left by the words of mac.lean. -/
namespace Rp
open PySem PySem.Spec PyProof.Rows L2 SX C8
section
variable {σ : L2.St} {H H1 H2 : Hp} {Q : VK} {n b c : L2.St → Hp → Prop} {r : VK}
variable {t u : TS} {te ta tb : TE} {tt tu : TT} {g : TG} {v x y : V} {K : PySem.W.Frag}
/-! ### statements -/
theorem u_seq (h : t ⟨u ⟨n, r, b, c⟩, r, b, c⟩ σ H) : tSeq t u ⟨n, r, b, c⟩ σ H := h
theorem u_next (h : n σ H) : tNext ⟨n, r, b, c⟩ σ H := h
theorem u_asg (h : te σ H fun x H1 => g x σ H1 n) : tAsg te g ⟨n, r, b, c⟩ σ H := h
theorem u_ret (h : te σ H r) : tRet te ⟨n, r, b, c⟩ σ H := h
theorem u_retN (h : r .non H) : tRetN ⟨n, r, b, c⟩ σ H := h
theorem u_drop (h : te σ H fun _ H1 => n σ H1) : tDrop te ⟨n, r, b, c⟩ σ H := h
theorem u_ifS (h : tt σ H fun k H1 => if k = true then t ⟨n, r, b, c⟩ σ H1 else u ⟨n, r, b, c⟩ σ H1) : tIfS tt t u ⟨n, r, b, c⟩ σ H := h
theorem u_break (h : b σ H) : tBreak ⟨n, r, b, c⟩ σ H := h
theorem u_cont (h : c σ H) : tCont ⟨n, r, b, c⟩ σ H := h
theorem u_cut {Mid : L2.St → Hp → Prop} (h : t ⟨Mid, r, b, c⟩ σ H) (h2 : ∀ σ' H', Mid σ' H' → u ⟨n, r, b, c⟩ σ' H') : tCut t u ⟨n, r, b, c⟩ σ H := ⟨Mid, h, h2⟩
/-! ### names -/
variable {P : L2.St → Hp → Prop} {z z1 z2 z3 z4 z5 z6 z7 z8 z9 z10 z11 z12 z13 z14 z15 z16 z17 z18 z19 : Option V} {l : L2.St}
theorem u_v0 (h : Q v H) : tVar 0 (some v :: l) H Q := ⟨v, rfl, h⟩
theorem u_v1 (h : Q v H) : tVar 1 (z :: some v :: l) H Q := ⟨v, rfl, h⟩
theorem u_v2 (h : Q v H) : tVar 2 (z :: z1 :: some v :: l) H Q := ⟨v, rfl, h⟩
theorem u_v3 (h : Q v H) : tVar 3 (z :: z1 :: z2 :: some v :: l) H Q := ⟨v, rfl, h⟩
theorem u_v4 (h : Q v H) : tVar 4 (z :: z1 :: z2 :: z3 :: some v :: l) H Q := ⟨v, rfl, h⟩
theorem u_v5 (h : Q v H) : tVar 5 (z :: z1 :: z2 :: z3 :: z4 :: some v :: l) H Q := ⟨v, rfl, h⟩
theorem u_v6 (h : Q v H) : tVar 6 (z :: z1 :: z2 :: z3 :: z4 :: z5 :: some v :: l) H Q := ⟨v, rfl, h⟩
theorem u_v7 (h : Q v H) : tVar 7 (z :: z1 :: z2 :: z3 :: z4 :: z5 :: z6 :: some v :: l) H Q := ⟨v, rfl, h⟩
theorem u_v8 (h : Q v H) : tVar 8 (z :: z1 :: z2 :: z3 :: z4 :: z5 :: z6 :: z7 :: some v :: l) H Q := ⟨v, rfl, h⟩
theorem u_v9 (h : Q v H) : tVar 9 (z :: z1 :: z2 :: z3 :: z4 :: z5 :: z6 :: z7 :: z8 :: some v :: l) H Q := ⟨v, rfl, h⟩
theorem u_v10 (h : Q v H) : tVar 10 (z :: z1 :: z2 :: z3 :: z4 :: z5 :: z6 :: z7 :: z8 :: z9 :: some v :: l) H Q := ⟨v, rfl, h⟩
theorem u_v11 (h : Q v H) : tVar 11 (z :: z1 :: z2 :: z3 :: z4 :: z5 :: z6 :: z7 :: z8 :: z9 :: z10 :: some v :: l) H Q := ⟨v, rfl, h⟩
theorem u_v12 (h : Q v H) : tVar 12 (z :: z1 :: z2 :: z3 :: z4 :: z5 :: z6 :: z7 :: z8 :: z9 :: z10 :: z11 :: some v :: l) H Q := ⟨v, rfl, h⟩
theorem u_v13 (h : Q v H) : tVar 13 (z :: z1 :: z2 :: z3 :: z4 :: z5 :: z6 :: z7 :: z8 :: z9 :: z10 :: z11 :: z12 :: some v :: l) H Q := ⟨v, rfl, h⟩
theorem u_v14 (h : Q v H) : tVar 14 (z :: z1 :: z2 :: z3 :: z4 :: z5 :: z6 :: z7 :: z8 :: z9 :: z10 :: z11 :: z12 :: z13 :: some v :: l) H Q := ⟨v, rfl, h⟩
theorem u_v15 (h : Q v H) : tVar 15 (z :: z1 :: z2 :: z3 :: z4 :: z5 :: z6 :: z7 :: z8 :: z9 :: z10 :: z11 :: z12 :: z13 :: z14 :: some v :: l) H Q := ⟨v, rfl, h⟩
theorem u_v16 (h : Q v H) : tVar 16 (z :: z1 :: z2 :: z3 :: z4 :: z5 :: z6 :: z7 :: z8 :: z9 :: z10 :: z11 :: z12 :: z13 :: z14 :: z15 :: some v :: l) H Q := ⟨v, rfl, h⟩
theorem u_v17 (h : Q v H) : tVar 17 (z :: z1 :: z2 :: z3 :: z4 :: z5 :: z6 :: z7 :: z8 :: z9 :: z10 :: z11 :: z12 :: z13 :: z14 :: z15 :: z16 :: some v :: l) H Q := ⟨v, rfl, h⟩
theorem u_v18 (h : Q v H) : tVar 18 (z :: z1 :: z2 :: z3 :: z4 :: z5 :: z6 :: z7 :: z8 :: z9 :: z10 :: z11 :: z12 :: z13 :: z14 :: z15 :: z16 :: z17 :: some v :: l) H Q := ⟨v, rfl, h⟩
theorem u_g0 (h : P (some v :: l) H) : gName 0 v (z :: l) H P := h
theorem u_g1 (h : P (z :: some v :: l) H) : gName 1 v (z :: z1 :: l) H P := h
theorem u_g2 (h : P (z :: z1 :: some v :: l) H) : gName 2 v (z :: z1 :: z2 :: l) H P := h
theorem u_g3 (h : P (z :: z1 :: z2 :: some v :: l) H) : gName 3 v (z :: z1 :: z2 :: z3 :: l) H P := h
theorem u_g4 (h : P (z :: z1 :: z2 :: z3 :: some v :: l) H) : gName 4 v (z :: z1 :: z2 :: z3 :: z4 :: l) H P := h
theorem u_g5 (h : P (z :: z1 :: z2 :: z3 :: z4 :: some v :: l) H) : gName 5 v (z :: z1 :: z2 :: z3 :: z4 :: z5 :: l) H P := h
theorem u_g6 (h : P (z :: z1 :: z2 :: z3 :: z4 :: z5 :: some v :: l) H) : gName 6 v (z :: z1 :: z2 :: z3 :: z4 :: z5 :: z6 :: l) H P := h
theorem u_g7 (h : P (z :: z1 :: z2 :: z3 :: z4 :: z5 :: z6 :: some v :: l) H) : gName 7 v (z :: z1 :: z2 :: z3 :: z4 :: z5 :: z6 :: z7 :: l) H P := h
theorem u_g8 (h : P (z :: z1 :: z2 :: z3 :: z4 :: z5 :: z6 :: z7 :: some v :: l) H) : gName 8 v (z :: z1 :: z2 :: z3 :: z4 :: z5 :: z6 :: z7 :: z8 :: l) H P := h
theorem u_g9 (h : P (z :: z1 :: z2 :: z3 :: z4 :: z5 :: z6 :: z7 :: z8 :: some v :: l) H) : gName 9 v (z :: z1 :: z2 :: z3 :: z4 :: z5 :: z6 :: z7 :: z8 :: z9 :: l) H P := h
theorem u_g10 (h : P (z :: z1 :: z2 :: z3 :: z4 :: z5 :: z6 :: z7 :: z8 :: z9 :: some v :: l) H) : gName 10 v (z :: z1 :: z2 :: z3 :: z4 :: z5 :: z6 :: z7 :: z8 :: z9 :: z10 :: l) H P := h
theorem u_g11 (h : P (z :: z1 :: z2 :: z3 :: z4 :: z5 :: z6 :: z7 :: z8 :: z9 :: z10 :: some v :: l) H) : gName 11 v (z :: z1 :: z2 :: z3 :: z4 :: z5 :: z6 :: z7 :: z8 :: z9 :: z10 :: z11 :: l) H P := h
theorem u_g12 (h : P (z :: z1 :: z2 :: z3 :: z4 :: z5 :: z6 :: z7 :: z8 :: z9 :: z10 :: z11 :: some v :: l) H) : gName 12 v (z :: z1 :: z2 :: z3 :: z4 :: z5 :: z6 :: z7 :: z8 :: z9 :: z10 :: z11 :: z12 :: l) H P := h
theorem u_g13 (h : P (z :: z1 :: z2 :: z3 :: z4 :: z5 :: z6 :: z7 :: z8 :: z9 :: z10 :: z11 :: z12 :: some v :: l) H) : gName 13 v (z :: z1 :: z2 :: z3 :: z4 :: z5 :: z6 :: z7 :: z8 :: z9 :: z10 :: z11 :: z12 :: z13 :: l) H P := h
theorem u_g14 (h : P (z :: z1 :: z2 :: z3 :: z4 :: z5 :: z6 :: z7 :: z8 :: z9 :: z10 :: z11 :: z12 :: z13 :: some v :: l) H) : gName 14 v (z :: z1 :: z2 :: z3 :: z4 :: z5 :: z6 :: z7 :: z8 :: z9 :: z10 :: z11 :: z12 :: z13 :: z14 :: l) H P := h
theorem u_g15 (h : P (z :: z1 :: z2 :: z3 :: z4 :: z5 :: z6 :: z7 :: z8 :: z9 :: z10 :: z11 :: z12 :: z13 :: z14 :: some v :: l) H) : gName 15 v (z :: z1 :: z2 :: z3 :: z4 :: z5 :: z6 :: z7 :: z8 :: z9 :: z10 :: z11 :: z12 :: z13 :: z14 :: z15 :: l) H P := h
theorem u_g16 (h : P (z :: z1 :: z2 :: z3 :: z4 :: z5 :: z6 :: z7 :: z8 :: z9 :: z10 :: z11 :: z12 :: z13 :: z14 :: z15 :: some v :: l) H) : gName 16 v (z :: z1 :: z2 :: z3 :: z4 :: z5 :: z6 :: z7 :: z8 :: z9 :: z10 :: z11 :: z12 :: z13 :: z14 :: z15 :: z16 :: l) H P := h
theorem u_g17 (h : P (z :: z1 :: z2 :: z3 :: z4 :: z5 :: z6 :: z7 :: z8 :: z9 :: z10 :: z11 :: z12 :: z13 :: z14 :: z15 :: z16 :: some v :: l) H) : gName 17 v (z :: z1 :: z2 :: z3 :: z4 :: z5 :: z6 :: z7 :: z8 :: z9 :: z10 :: z11 :: z12 :: z13 :: z14 :: z15 :: z16 :: z17 :: l) H P := h
theorem u_g18 (h : P (z :: z1 :: z2 :: z3 :: z4 :: z5 :: z6 :: z7 :: z8 :: z9 :: z10 :: z11 :: z12 :: z13 :: z14 :: z15 :: z16 :: z17 :: some v :: l) H) : gName 18 v (z :: z1 :: z2 :: z3 :: z4 :: z5 :: z6 :: z7 :: z8 :: z9 :: z10 :: z11 :: z12 :: z13 :: z14 :: z15 :: z16 :: z17 :: z18 :: l) H P := h
theorem u_start {N : List Str} {vs : List V} {t : TS} {D : Ends} (σ : L2.St) (e : L2.start N vs = σ) (h : t D σ H) : t D (L2.start N vs) H := e ▸ h
/-! ### expressions -/
variable {R : R2} {i j : Int}
theorem u_c (h : Q v H) : tC v σ H Q := h
theorem u_op (h : ta σ H fun x H1 => tb σ H1 fun y H2 => R x y H2 Q) : tOp R ta tb σ H Q := h
theorem u_un {R : V → Hp → VK → Prop} (h : ta σ H fun x H1 => R x H1 Q) : tUn R ta σ H Q := h
theorem u_rI0 {g : Int → Int → V} (h : Q (g i j) H) : rI0 g (.int i) (.int j) H Q := ⟨i, j, rfl, rfl, h⟩
theorem u_rI {C : Int → Int → Prop} {g : Int → Int → V} (hc : C i j) (h : Q (g i j) H) : rI C g (.int i) (.int j) H Q := ⟨i, j, rfl, rfl, hc, h⟩
theorem u_rU {g : Int → V} (h : Q (g i) H) : rU g (.int i) H Q := ⟨i, rfl, h⟩
theorem u_eqI (h : Q (.bl (decide (i = j))) H) : rEq (.int i) (.int j) H Q := ⟨rfl, by
  have e : decide (V.int i = V.int j) = decide (i = j) := by by_cases q : i = j <;> simp [q]
  rw [e]; exact h⟩
theorem u_neI (h : Q (.bl (!decide (i = j))) H) : rNe (.int i) (.int j) H Q := ⟨rfl, by
  have e : decide (V.int i = V.int j) = decide (i = j) := by by_cases q : i = j <;> simp [q]
  rw [e]; exact h⟩
theorem S_eq_iff {a b : List Nat} : (V.str (S a) = V.str (S b)) ↔ a = b := ⟨fun h => S_inj (by injection h), fun h => by rw [h]⟩
theorem u_eqS {a b : List Nat} (h : Q (.bl (decide (a = b))) H) : rEq (.str (S a)) (.str (S b)) H Q := ⟨rfl, by
  have e : decide (V.str (S a) = V.str (S b)) = decide (a = b) := by by_cases q : a = b <;> simp [S_eq_iff, q]
  rw [e]; exact h⟩
theorem u_neS {a b : List Nat} (h : Q (.bl (!decide (a = b))) H) : rNe (.str (S a)) (.str (S b)) H Q := ⟨rfl, by
  have e : decide (V.str (S a) = V.str (S b)) = decide (a = b) := by by_cases q : a = b <;> simp [S_eq_iff, q]
  rw [e]; exact h⟩
/-! tests -/
theorem u_test (h : te σ H fun x H' => ∃ k, x = .bl k ∧ P2 k H') : tTest te σ H P2 := h
theorem u_tB (h : te σ H fun x H' => ∃ k, x = .bl k ∧ P2 k H') : tB te σ H P2 := h
theorem u_bl {W : Bool → Prop} {k : Bool} (h : W k) : ∃ k', V.bl k = V.bl k' ∧ W k' := ⟨k, rfl, h⟩
theorem u_and {P2 : Bool → Hp → Prop} (h : tt σ H fun k H1 => if k = true then tu σ H1 P2 else P2 false H1) : tAnd tt tu σ H P2 := h
theorem u_or {P2 : Bool → Hp → Prop} (h : tt σ H fun k H1 => if k = true then P2 true H1 else tu σ H1 P2) : tOr tt tu σ H P2 := h
theorem u_not {P2 : Bool → Hp → Prop} (h : tt σ H fun k H1 => P2 (!k) H1) : tNot tt σ H P2 := h
theorem u_andV (h : ta σ H fun x H1 => ∃ k, x = .bl k ∧ if k = true then tb σ H1 Q else Q (.bl false) H1) : tAndV ta tb σ H Q := h
theorem u_orV (h : ta σ H fun x H1 => ∃ k, x = .bl k ∧ if k = true then Q (.bl true) H1 else tb σ H1 Q) : tOrV ta tb σ H Q := h
theorem u_notV (h : ta σ H fun x H1 => ∃ k, x = .bl k ∧ Q (.bl (!k)) H1) : tNotV ta σ H Q := h
theorem u_ifE (h : tt σ H fun k H1 => if k = true then ta σ H1 Q else tb σ H1 Q) : tIf tt ta tb σ H Q := h
section
variable {A B p : Prop} [Decidable p]
theorem u_if (h1 : p → A) (h2 : ¬ p → B) : if decide p = true then A else B := by
  by_cases h : p
  · rw [if_pos (decide_eq_true h)]; exact h1 h
  · rw [if_neg (by simpa using h)]; exact h2 h
theorem u_ifn (h1 : ¬ p → A) (h2 : p → B) : if (!decide p) = true then A else B := by
  by_cases h : p
  · rw [if_neg (by simpa using h)]; exact h2 h
  · rw [if_pos (by simpa using h)]; exact h1 h
theorem u_ifb {k : Bool} (h1 : k = true → A) (h2 : k = false → B) : if k = true then A else B := by
  cases k with
  | true => rw [if_pos rfl]; exact h1 rfl
  | false => rw [if_neg (by simp)]; exact h2 rfl
theorem u_ifT (h : A) : if true = true then A else B := by rw [if_pos rfl]; exact h
theorem u_ifF (h : B) : if false = true then A else B := by rw [if_neg (by simp)]; exact h
theorem u_ifnT (h : B) : if (!true) = true then A else B := by rw [if_neg (by simp)]; exact h
theorem u_ifnF (h : A) : if (!false) = true then A else B := by rw [if_pos (by rfl)]; exact h
theorem u_yes (hp : p) (h : A) : if decide p = true then A else B := by rw [if_pos (decide_eq_true hp)]; exact h
theorem u_no (hp : ¬ p) (h : B) : if decide p = true then A else B := by rw [if_neg (by simpa using hp)]; exact h
end
/-! arguments -/
variable {pa : TA} {L : List V → Hp → Prop}
theorem u_nil (h : L [] H) : tNil σ H L := h
theorem u_cons (h : te σ H fun x H1 => pa σ H1 fun xs H2 => L (x :: xs) H2) : tCons te pa σ H L := h
theorem u_CB {R : List V → Hp → VK → Prop} (h : pa σ H fun vs H1 => R vs H1 Q) : tCB R pa σ H Q := h
theorem u_call {sp : Sp} {dvs : List V} {E : XK} (h : pa σ H fun vs H1 => sp (vs ++ dvs) H1 Q E) : tCall sp dvs E pa σ H Q := h
def TUPk (Q : VK) : List V → Hp → Prop := fun xs H1 => xs.length ≤ sizeLine ∧ ∀ p, H1 p = none → Q (.ref p) (upd H1 p (.tup xs))
def LSTk (Q : VK) : List V → Hp → Prop := fun xs H1 => xs.length ≤ sizeLine ∧ ∀ p, H1 p = none → Q (.ref p) (upd H1 p (.lst xs))
theorem u_tup (h : pa σ H (TUPk Q)) : tTup pa σ H Q := h
theorem u_lst (h : pa σ H (LSTk Q)) : tLst pa σ H Q := h
/-! ### new objects, changed objects: the heap behind is a letter, with a frame -/
variable {o : HO} {W : Addr → Hp → Prop}
theorem u_new (h : ∀ p H1, H p = none → Fr [] H H1 → Kp H H1 → H1 p = some o → W p H1) : ∀ p, H p = none → W p (upd H p o) :=
  fun p np => h p _ np (Fr.upd_new np) (Kp.upd_new np) upd_same
theorem u_tupk {xs : List V} (hl : Nat.ble xs.length 1000 = true) (h : ∀ p H1, H p = none → Fr [] H H1 → Kp H H1 → H1 p = some (.tup xs) → Q (.ref p) H1) : TUPk Q xs H :=
  ⟨Nat.le_of_lt (small1000 (Nat.le_of_ble_eq_true hl)), u_new (W := fun p H' => Q (.ref p) H') h⟩
theorem u_lstk {xs : List V} (hl : Nat.ble xs.length 1000 = true) (h : ∀ p H1, H p = none → Fr [] H H1 → Kp H H1 → H1 p = some (.lst xs) → Q (.ref p) H1) : LSTk Q xs H :=
  ⟨Nat.le_of_lt (small1000 (Nat.le_of_ble_eq_true hl)), u_new (W := fun p H' => Q (.ref p) H') h⟩
theorem u_mut {W : Hp → Prop} {a : Addr} {xs : List V} (hl : H a = some (.lst xs)) (h : ∀ H1, Fr [a] H H1 → Kp H H1 → H1 a = some o → W H1) : W (upd H a o) :=
  h _ (Fr.upd_in (by simp)) (Kp.upd_mut hl imm_lst) upd_same
/-! ### lists, tuples, texts -/
theorem u_ixL {p : Addr} {xs : List V} (hq : SqL K H p xs) (e : atI xs i = some v) (h : Q v H) : rIxL K (.ref p) (.int i) H Q := ⟨p, xs, i, v, rfl, rfl, hq, e, h⟩
theorem u_ixT {p : Addr} {xs : List V} (hq : SqT K H p xs) (e : atI xs i = some v) (h : Q v H) : rIxT K (.ref p) (.int i) H Q := ⟨p, xs, i, v, rfl, rfl, hq, e, h⟩
theorem u_ixS {a : List Nat} {d : Nat} (hl : a.length ≤ 1000000) (e : atI a i = some d) (h : Q (.str (S [d])) H) : rIxS (.str (S a)) (.int i) H Q :=
  ⟨S a, i, d, rfl, rfl, by rw [S_len, sizeLine_eq]; omega, e, h⟩
def rLen (K : PySem.W.Frag) : List V → Hp → VK → Prop := fun xs H Q => ∃ p ys, xs = [.ref p] ∧ (SqL K H p ys ∨ SqT K H p ys) ∧ Q (.int ys.length) H
theorem k_len {X : Cx} : CallR X (.builtin "len") (rLen X.K) := call_len_seq
theorem u_lenL {p : Addr} {xs : List V} (hq : SqL K H p xs) (h : Q (.int xs.length) H) : rLen K [.ref p] H Q := ⟨p, xs, rfl, .inl hq, h⟩
theorem u_lenT {p : Addr} {xs : List V} (hq : SqT K H p xs) (h : Q (.int xs.length) H) : rLen K [.ref p] H Q := ⟨p, xs, rfl, .inr hq, h⟩
def rLenS : List V → Hp → VK → Prop := fun xs H Q => ∃ a : List Nat, xs = [.str (S a)] ∧ a.length ≤ 1000000 ∧ Q (.int a.length) H
theorem k_lenS {X : Cx} : CallR X (.builtin "len") rLenS := fun pins s σ H xs us Q I r h => by
  obtain ⟨a, rfl, hl, q⟩ := h
  exact call_len pins s σ H _ us Q I r ⟨_, a.length, rfl, ⟨by rw [S_len, sizeLine_eq]; omega, by rw [S_len]⟩, q⟩
theorem u_lenS {a : List Nat} (hl : a.length ≤ 1000000) (h : Q (.int a.length) H) : rLenS [.str (S a)] H Q := ⟨a, rfl, hl, h⟩
def rInt1 : List V → Hp → VK → Prop := fun xs H Q => (∃ i, xs = [.int i] ∧ Q (.int i) H) ∨ ∃ k, xs = [.bl k] ∧ Q (.int (if k then 1 else 0)) H
theorem k_int {X : Cx} : CallR X (.type "int") rInt1 := call_int1
theorem u_int1 (h : Q (.int i) H) : rInt1 [.int i] H Q := .inl ⟨i, rfl, h⟩
theorem u_intB {k : Bool} (h : Q (.int (if k then 1 else 0)) H) : rInt1 [.bl k] H Q := .inr ⟨k, rfl, h⟩
def rListOf (K : PySem.W.Frag) : List V → Hp → VK → Prop := fun xs H Q => ∃ p ys, xs = [.ref p] ∧ (SqL K H p ys ∨ SqT K H p ys) ∧ ∀ l, H l = none → Q (.ref l) (upd H l (.lst ys))
theorem k_list {X : Cx} : CallR X (.type "list") (rListOf X.K) := call_list_of
theorem u_listL {p : Addr} {xs : List V} (hq : SqL K H p xs) (h : ∀ l H1, H l = none → Fr [] H H1 → Kp H H1 → H1 l = some (.lst xs) → Q (.ref l) H1) : rListOf K [.ref p] H Q := ⟨p, xs, rfl, .inl hq, u_new (W := fun p H' => Q (.ref p) H') h⟩
theorem u_listT {p : Addr} {xs : List V} (hq : SqT K H p xs) (h : ∀ l H1, H l = none → Fr [] H H1 → Kp H H1 → H1 l = some (.lst xs) → Q (.ref l) H1) : rListOf K [.ref p] H Q := ⟨p, xs, rfl, .inr hq, u_new (W := fun p H' => Q (.ref p) H') h⟩
def rTupleOf (K : PySem.W.Frag) : List V → Hp → VK → Prop := fun xs H Q => ∃ p ys, xs = [.ref p] ∧ ((SqL K H p ys ∧ ∀ l, H l = none → Q (.ref l) (upd H l (.tup ys))) ∨ (SqT K H p ys ∧ Q (.ref p) H))
theorem k_tuple {X : Cx} : CallR X (.type "tuple") (rTupleOf X.K) := call_tuple_of
theorem u_tupleL {p : Addr} {xs : List V} (hq : SqL K H p xs) (h : ∀ l H1, H l = none → Fr [] H H1 → Kp H H1 → H1 l = some (.tup xs) → Q (.ref l) H1) : rTupleOf K [.ref p] H Q := ⟨p, xs, rfl, .inl ⟨hq, u_new (W := fun p H' => Q (.ref p) H') h⟩⟩
theorem u_sum {p : Addr} {ns : List Int} (hq : SqL K H p (ns.map V.int)) (h : Q (.int ns.sum) H) : rSum K [.ref p] H Q := ⟨p, ns, rfl, hq, h⟩
/-- texts by their signs -/
def rAddS : R2 := fun x y H Q => ∃ a b : List Nat, x = .str (S a) ∧ y = .str (S b) ∧ a.length + b.length ≤ 1000000 ∧ Q (.str (S (a ++ b))) H
theorem o_addS {X : Cx} : OpR X (binaryOp .Add) rAddS := fun pins s σ H x y v u Q I rx ry h => by
  obtain ⟨a, b, rfl, rfl, hl, q⟩ := h
  exact op_add_str pins s σ H _ _ v u Q I rx ry ⟨S a, S b, rfl, rfl, by rw [S_len, S_len, sizeLine_eq]; omega, by rw [S_cat]; exact q⟩
theorem u_addS {a b : List Nat} (hl : a.length + b.length ≤ 1000000) (h : Q (.str (S (a ++ b))) H) : rAddS (.str (S a)) (.str (S b)) H Q := ⟨a, b, rfl, rfl, hl, h⟩
theorem pe_sS {X : Cx} {x : Str} {j pos} (a : List Nat) (e : x = S a) : PE X (.Constant (.str x) j pos) (tC (.str (S a))) := by
  subst e; exact pe_str
/-- + of tuples -/
theorem u_catA {p q : Addr} {xs ys : List V} (h1 : SqT K H p xs) (h2 : SqT K H q ys) (hl : xs.length + ys.length ≤ sizeLine)
    (h : ∀ l H1, Fr [] H H1 → Kp H H1 → SqT K H1 l (xs ++ ys) → Q (.ref l) H1) : rCatA K (.ref p) (.ref q) H Q := by
  refine ⟨p, q, xs, ys, rfl, rfl, h1, h2, hl, fun e => ?_, fun ex e => ?_, fun ex ey p np => ?_⟩
  · subst e
    exact h q H (Fr.refl H) (Kp.refl H) (by simpa using h2)
  · subst e
    exact h p H (Fr.refl H) (Kp.refl H) (by simpa using h1)
  · exact h p _ (Fr.upd_new np) (Kp.upd_new np) (SqT.of upd_same)
/-- a slice of a tuple -/
theorem u_slA {p : Addr} {xs : List V} {lo hi : Option Int} (h1 : SqT K H p xs) (h : ∀ l H1, Fr [] H H1 → Kp H H1 → SqT K H1 l (cutV xs lo hi) → Q (.ref l) H1) : rSlA K (.ref p) lo hi H Q := by
  refine ⟨p, xs, rfl, h1, fun e => ?_, fun e p np => ?_⟩
  · refine h p H (Fr.refl H) (Kp.refl H) ?_
    have z : cutV xs lo hi = xs := by
      unfold cutV
      rw [e.1, e.2]
      simp
    rw [z]; exact h1
  · exact h p _ (Fr.upd_new np) (Kp.upd_new np) (SqT.of upd_same)
variable {tl th : TO}
theorem u_sl {R : V → Option Int → Option Int → Hp → VK → Prop} (h : te σ H fun x H1 => tl σ H1 fun l H2 => th σ H2 fun u H3 => R x l u H3 Q) : tSl R te tl th σ H Q := h
variable {PO' : Option Int → Hp → Prop}
theorem u_noPart (h : PO' none H) : tNoPart σ H PO' := h
theorem u_part (h : te σ H fun x H1 => ∃ i, x = .int i ∧ PO' (some i) H1) : tPart te σ H PO' := h
theorem u_int {W : Int → Prop} (h : W i) : ∃ i', V.int i = V.int i' ∧ W i' := ⟨i, rfl, h⟩
/-- xs[i] = v -/
theorem u_sub {ti : TE} {S : TSet} {P : L2.St → Hp → Prop} (h : te σ H fun o H1 => ti σ H1 fun i H2 => S o i v H2 fun H3 => P σ H3) : gSub te ti S v σ H P := h
theorem u_setL {W : Hp → Prop} {p : Addr} {xs : List V} {j : Nat} (h1 : H p = some (.lst xs)) (hj : ixN xs.length i = some j) (h : ∀ H1, Fr [p] H H1 → Kp H H1 → H1 p = some (.lst (xs.set j v)) → W H1) : rSetL (.ref p) (.int i) v H W :=
  ⟨p, xs, i, j, rfl, rfl, h1, hj, u_mut h1 h⟩
theorem u_append {p : Addr} {xs : List V} (h1 : H p = some (.lst xs)) (hl : xs.length < sizeLine) (h : ∀ H1, Fr [p] H H1 → Kp H H1 → H1 p = some (.lst (xs ++ [y])) → Q .non H1) : rAppend (.ref p) [y] H Q :=
  ⟨p, xs, y, rfl, rfl, h1, hl, u_mut h1 h⟩
theorem u_extend {p q : Addr} {xs ys : List V} (h1 : H p = some (.lst xs)) (h2 : H q = some (.lst ys)) (hl : xs.length + ys.length ≤ sizeLine) (h : ∀ H1, Fr [p] H H1 → Kp H H1 → H1 p = some (.lst (xs ++ ys)) → Q .non H1) : rExtend (.ref p) [.ref q] H Q :=
  ⟨p, q, xs, ys, rfl, rfl, h1, h2, hl, u_mut h1 h⟩
theorem u_pop {p : Addr} {xs : List V} (h1 : H p = some (.lst (xs ++ [y]))) (h : ∀ H1, Fr [p] H H1 → Kp H H1 → H1 p = some (.lst xs) → Q y H1) : rPop (.ref p) [] H Q :=
  ⟨p, _, y, rfl, rfl, h1, by simp, by simpa using u_mut h1 (W := fun H => Q y H) h⟩
theorem u_cat {p q : Addr} {xs ys : List V} (h1 : H p = some (.lst xs)) (h2 : H q = some (.lst ys)) (hl : xs.length + ys.length ≤ sizeLine) (h : ∀ l H1, H l = none → Fr [] H H1 → Kp H H1 → H1 l = some (.lst (xs ++ ys)) → Q (.ref l) H1) : rCat (.ref p) (.ref q) H Q :=
  ⟨p, q, xs, ys, rfl, rfl, h1, h2, hl, u_new (W := fun p H' => Q (.ref p) H') h⟩
theorem u_rep {p : Addr} {v : V} (h1 : H p = some (.lst [v])) (h2 : 0 ≤ i) (h3 : i ≤ 16000000) (h : ∀ l H1, H l = none → Fr [] H H1 → Kp H H1 → H1 l = some (.lst (List.replicate i.toNat v)) → Q (.ref l) H1) : rRep (.ref p) (.int i) H Q := by
  refine ⟨p, i, [v], rfl, rfl, h1, by omega, by omega, by rw [sizeLine_eq]; simp; omega, ?_⟩
  have e : (List.replicate i.toNat [v]).flatten = List.replicate i.toNat v := by
    induction i.toNat with
    | zero => rfl
    | succ n ih => rw [List.replicate_succ, List.flatten_cons, ih, List.replicate_succ]; rfl
  rw [e]
  exact u_new (W := fun p H' => Q (.ref p) H') h
theorem u_bm {T : String} {R : V → List V → Hp → VK → Prop} (h : te σ H fun x H1 => tyV K T x H1 ∧ pa σ H1 fun xs H2 => R x xs H2 Q) : tBM K T R te pa σ H Q := h
theorem u_bm0 {T : String} {R : V → List V → Hp → VK → Prop} (h : te σ H fun x H1 => tyV K T x H1 ∧ R x [] H1 Q) : tBM0 K T R te σ H Q := h
theorem u_tyL {p : Addr} {xs : List V} {A : Prop} (h1 : SqL K H p xs) (h : A) : tyV K "list" (.ref p) H ∧ A := ⟨.inl ⟨rfl, _, h1⟩, h⟩
end
/-! ### what holds of the heap later: the chain of frames -/
theorem Fr.go {S : List Addr} {H H1 : Hp} {a : Addr} {o : HO} (f : Fr S H H1) (n : a ∉ S) (h : H a = some o) : H1 a = some o := f a o n h
theorem Fr.go0 {H H1 : Hp} {a : Addr} {o : HO} (f : Fr [] H H1) (h : H a = some o) : H1 a = some o := f a o (by simp) h
theorem Fr.sq0 {K : PySem.W.Frag} {H H1 : Hp} {a : Addr} {xs : List V} (f : Fr [] H H1) (h : SqL K H a xs) : SqL K H1 a xs := f.same.seq h
theorem Fr.sq {K : PySem.W.Frag} {S : List Addr} {H H1 : Hp} {a : Addr} {xs : List V} (f : Fr S H H1) (n : a ∉ S) (h : SqL K H a xs) : SqL K H1 a xs := by
  rcases h with (h | ⟨o, h⟩) | h
  · exact .inl (.inl (f _ _ n h))
  · exact .inl (.inr ⟨o, f _ _ n h⟩)
  · exact .inr h
theorem Fr.pool0 {H H1 : Hp} {p l : Addr} (f : Fr [] H H1) (h : PoolAt H p l) : PoolAt H1 p l := h.frame f.same
theorem nin1 {a b : Addr} (h : a ≠ b) : a ∉ [b] := by simpa using h
theorem ne_nin {a b : Addr} (h : a ∉ [b]) : a ≠ b := by simpa using h
theorem ne_new {H : Hp} {a b : Addr} {o : HO} (h' : H b = none) (h : H a = some o) : a ≠ b := ne_of_none h h'
theorem ne_new' {H : Hp} {a b : Addr} {o : HO} (h' : H a = none) (h : H b = some o) : a ≠ b := fun e => ne_of_none h h' e.symm
end Rp
namespace Rp
open PySem PySem.Spec PyProof.Rows L2 SX C8
theorem ne_pool {H : Hp} {a b l : Addr} (h' : H b = none) (h : PoolAt H a l) : a ≠ b := by
  obtain ⟨ns, i, d, s, t, h1, _⟩ := h
  exact ne_of_none h1 h'
theorem ne_pool' {H : Hp} {a b l : Addr} (h' : H a = none) (h : PoolAt H b l) : a ≠ b := fun e => ne_pool h' h e.symm
/-- a pool stands where another object is changed that was made later -/
theorem Fr.poolN {H0 H H1 : Hp} {p l a : Addr} (f : Fr [a] H H1) (n : H0 a = none) (h0 : PoolAt H0 p l) (h : PoolAt H p l) : PoolAt H1 p l := by
  obtain ⟨ns, i, d, s, t, h1, h2, h3⟩ := h0
  exact h.other f (ne_of_none h1 n) (ne_of_none h2 n)
end Rp
namespace Rp
open PySem PySem.Spec PyProof.Rows L2 SX C8
theorem atI_in {xs : List V} {i : Int} (h0 : 0 ≤ i) (h1 : i < xs.length) : ∃ v, atI xs i = some v ∧ xs[i.toNat]? = some v := by
  have hj : i.toNat < xs.length := by omega
  refine ⟨xs[i.toNat], ?_, by simp [hj]⟩
  exact at_of (j := i.toNat) (by omega) (by simp [hj])
theorem atI_ints {ns : List Int} {i : Int} (h0 : 0 ≤ i) (h1 : i < (ns.map V.int).length) : ∃ z, atI (ns.map V.int) i = some (.int z) := by
  obtain ⟨v, h, e⟩ := atI_in h0 h1
  rw [List.getElem?_map] at e
  cases q : ns[i.toNat]? with
  | none => rw [q] at e; cases e
  | some z =>
    rw [q] at e
    exact ⟨z, by rw [h, ← e]; rfl⟩
end Rp
/-! RpLoop: comprehensions and loops over ranges, tuples, lists, texts: the turn by an invariant over the list so far. -/
namespace Rp
open PySem PySem.Spec PyProof.Rows L2 SX C8
/-- what a comprehension asks of its walk -/
def LCk (g : TG) (tt : TT) (te : TE) (vs : List Nat) (σ : L2.St) (Q : VK) : It → Hp → Prop := fun J H1 => ∀ D, H1 D = none → ∃ W : Nat → Nat → Hp → Prop, (∃ m, W 0 m (upd H1 D (.lst []))) ∧ ∀ i m H, W i m H →
  (J.stop i H ∧ Q (.ref D) H) ∨ (J.go i H ∧ ∃ Nx : Hp → Prop, (∀ H', Nx H' → ∃ m', m' < m ∧ W (i + 1) m' H') ∧ ∀ x H', J.yld i H x H' → g x (wipe σ vs) H' fun σ2 H2 => wipe σ2 vs = wipe σ vs ∧ tt σ2 H2 fun b H3 =>
    if b = true then te σ2 H3 fun y H4 => ∃ acc, H4 D = some (.lst acc) ∧ acc.length < sizeLine ∧ Nx (upd H4 D (.lst (acc ++ [y]))) else Nx H3)
/-- what a for loop asks of its walk -/
def FORk (g : TG) (tb : TS) (D : Ends) (σ : L2.St) : It → Hp → Prop := fun J H1 => ∃ W : Nat → Nat → L2.St → Hp → Prop, (∃ m, W 0 m σ H1) ∧ ∀ i m σ H, W i m σ H →
  (J.stop i H ∧ D.nx σ H) ∨ (J.go i H ∧ ∃ N : L2.St → Hp → Prop, (∀ σ' H', N σ' H' → ∃ m', m' < m ∧ W (i + 1) m' σ' H') ∧ ∀ x H', J.yld i H x H' → g x σ H' fun σ2 H2 => tb { D with nx := N, ct := N, bk := D.nx } σ2 H2)
section
variable {wi : TI} {g : TG} {tt : TT} {te ta : TE} {tb : TS} {pa : TA} {vs : List Nat} {σ σ' : L2.St} {Q : VK} {H : Hp} {D : Ends} {R : It → Hp → Prop} {K : PySem.W.Frag} {n m : Int}
theorem u_lc (h : wi σ H (LCk g tt te vs σ Q)) : tLc wi g tt te vs σ H Q := h
theorem u_for (h : wi σ H (FORk g tb D σ)) : tFor wi g tb D σ H := h
def RNG1 (R : It → Hp → Prop) : List V → Hp → Prop := fun vs H1 => ∃ j : Int, vs = [.int j] ∧ -(2 ^ 62) ≤ j ∧ j < 2 ^ 62 ∧ R (Itr 0 j.toNat) H1
theorem u_rng1 (h : pa σ H (RNG1 R)) : iRng1 pa σ H R := h
theorem u_rng1' (b1 : -4000000000000000000 ≤ n) (b2 : n < 4000000000000000000) (h : R (Itr 0 n.toNat) H) : RNG1 R [.int n] H := ⟨n, rfl, by omega, by omega, h⟩
def RNG2 (R : It → Hp → Prop) : List V → Hp → Prop := fun vs H1 => ∃ i j : Int, vs = [.int i, .int j] ∧ (-(2 ^ 62) ≤ i ∧ i < 2 ^ 62 ∧ -(2 ^ 62) ≤ j ∧ j < 2 ^ 62) ∧ R (Itr i (j - i).toNat) H1
theorem u_rng2 (h : pa σ H (RNG2 R)) : iRng2 pa σ H R := h
theorem u_rng2' (b1 : -4000000000000000000 ≤ n) (b2 : n < 4000000000000000000) (b3 : -4000000000000000000 ≤ m) (b4 : m < 4000000000000000000) (h : R (Itr n (m - n).toNat) H) : RNG2 R [.int n, .int m] H :=
  ⟨n, m, rfl, ⟨by omega, by omega, by omega, by omega⟩, h⟩
def RNG3 (R : It → Hp → Prop) : List V → Hp → Prop := fun vs H1 => ∃ (i j c : Int) (n : Nat), vs = [.int i, .int j, .int c] ∧ RgC i j c n ∧ R (Itc i c n) H1
theorem u_rng3 (h : pa σ H (RNG3 R)) : iRng3 pa σ H R := h
theorem u_rng3' {i j c : Int} {n : Nat} (b : RgC i j c n) (h : R (Itc i c n) H) : RNG3 R [.int i, .int j, .int c] H := ⟨i, j, c, n, rfl, b, h⟩
def ITU (K : PySem.W.Frag) (R : It → Hp → Prop) : V → Hp → Prop := fun x H1 => ∃ a, x = .ref a ∧ (∃ xs, SqT K H1 a xs) ∧ R (Itt K a) H1
theorem u_itup (h : ta σ H (ITU K R)) : iTup K ta σ H R := h
theorem u_itup' {a : Addr} {xs : List V} (hq : SqT K H a xs) (h : R (Itt K a) H) : ITU K R (.ref a) H := ⟨a, rfl, ⟨xs, hq⟩, h⟩
def ILS (K : PySem.W.Frag) (R : It → Hp → Prop) : V → Hp → Prop := fun x H1 => ∃ a, x = .ref a ∧ (∃ xs, SqL K H1 a xs) ∧ R (Itl K a) H1
theorem u_ilist (h : ta σ H (ILS K R)) : iList K ta σ H R := h
theorem u_ilist' {a : Addr} {xs : List V} (hq : SqL K H a xs) (h : R (Itl K a) H) : ILS K R (.ref a) H := ⟨a, rfl, ⟨xs, hq⟩, h⟩
theorem u_yes_ {P2 : Bool → Hp → Prop} (h : P2 true H) : tYes σ H P2 := h
/-- what is wanted behind a turn: some list stands at D of which P holds -/
def NX (D : Addr) (P : List V → Hp → Prop) : Hp → Prop := fun H' => ∃ l, P l H' ∧ H' D = some (.lst l)
/-- one turn of a comprehension, at the item x -/
def Trn (g : TG) (tt : TT) (te : TE) (vs : List Nat) (σ' : L2.St) (D : Addr) (P : List V → Hp → Prop) (x : V) (H : Hp) : Prop :=
  g x σ' H fun σ2 H2 => wipe σ2 vs = σ' ∧ tt σ2 H2 fun b H3 => if b = true then te σ2 H3 fun y H4 => ∃ acc, H4 D = some (.lst acc) ∧ acc.length < sizeLine ∧ NX D P (upd H4 D (.lst (acc ++ [y]))) else NX D P H3
theorem u_trn {D : Addr} {P : List V → Hp → Prop} {x : V} (h : g x σ' H fun σ2 H2 => wipe σ2 vs = σ' ∧ tt σ2 H2 fun b H3 => if b = true then te σ2 H3 fun y H4 => ∃ acc, H4 D = some (.lst acc) ∧ acc.length < sizeLine ∧ NX D P (upd H4 D (.lst (acc ++ [y]))) else NX D P H3) :
    Trn g tt te vs σ' D P x H := h
theorem u_wipe {A : Prop} {σ2 : L2.St} (e : wipe σ2 vs = σ') (h : A) : wipe σ2 vs = σ' ∧ A := ⟨e, h⟩
/-- the turn's end: the item y joins the list -/
theorem u_turn {D : Addr} {P : List V → Hp → Prop} {acc : List V} {y : V} (h1 : H D = some (.lst acc)) (hl : acc.length < sizeLine) (h : ∀ H5, Fr [D] H H5 → Kp H H5 → H5 D = some (.lst (acc ++ [y])) → P (acc ++ [y]) H5) :
    ∃ acc, H D = some (.lst acc) ∧ acc.length < sizeLine ∧ NX D P (upd H D (.lst (acc ++ [y]))) :=
  ⟨acc, h1, hl, _, h _ (Fr.upd_in (by simp)) (Kp.upd_mut h1 imm_lst) upd_same, upd_same⟩
/-- .. it is left out -/
theorem u_skip {D : Addr} {P : List V → Hp → Prop} {acc : List V} (h1 : H D = some (.lst acc)) (h : P acc H) : NX D P H := ⟨acc, h, h1⟩
end
section
variable {g : TG} {tt : TT} {te : TE} {vs : List Nat} {σ : L2.St} {Q : VK} {H : Hp} {K : PySem.W.Frag}
/-- the skeleton: any walk of N items, it i x: x is the i-th; as they are yielded the heap isn't changed -/
theorem lcN (J : It) (N : Nat) (it : Nat → V → Prop) (σ' : L2.St) (e : wipe σ vs = σ') (Pv : Nat → List V → Hp → Prop)
    (hgo : ∀ i H1 D acc, i < N → H D = none → H1 D = some (.lst acc) → Pv i acc H1 → J.go i H1 ∧ ∀ x H', J.yld i H1 x H' → H' = H1 ∧ it i x)
    (hstop : ∀ H1 D acc, H D = none → H1 D = some (.lst acc) → Pv N acc H1 → J.stop N H1)
    (h0 : ∀ D H1, H D = none → Fr [] H H1 → Kp H H1 → H1 D = some (.lst []) → Pv 0 [] H1)
    (hs : ∀ D i x acc H1, H D = none → i < N → it i x → H1 D = some (.lst acc) → Pv i acc H1 → Trn g tt te vs σ' D (Pv (i + 1)) x H1)
    (hd : ∀ D acc H1, H D = none → H1 D = some (.lst acc) → Pv N acc H1 → Q (.ref D) H1) : LCk g tt te vs σ Q J H := by
  intro D hD
  refine ⟨fun i m H1 => m = N - i ∧ i ≤ N ∧ ∃ acc, Pv i acc H1 ∧ H1 D = some (.lst acc), ⟨N, by simp, Nat.zero_le _, [], h0 D _ hD (Fr.upd_new hD) (Kp.upd_new hD) upd_same, upd_same⟩, ?_⟩
  rintro i m H1 ⟨rfl, hi, acc, p, hacc⟩
  by_cases hlt : i < N
  · obtain ⟨g1, g2⟩ := hgo i H1 D acc hlt hD hacc p
    refine .inr ⟨g1, NX D (Pv (i + 1)), fun H' ⟨l, p', e'⟩ => ⟨N - (i + 1), by omega, rfl, hlt, l, p', e'⟩, fun x H' y => ?_⟩
    obtain ⟨rfl, hx⟩ := g2 x H' y
    rw [e]
    exact hs D i x acc _ hD hlt hx hacc p
  · have ei : i = N := by omega
    subst ei
    exact .inl ⟨hstop H1 D acc hD hacc p, hd D acc H1 hD hacc p⟩
theorem lcRange {lo : Int} (N : Nat) (σ' : L2.St) (e : wipe σ vs = σ') (Pv : Nat → List V → Hp → Prop)
    (h0 : ∀ D H1, H D = none → Fr [] H H1 → Kp H H1 → H1 D = some (.lst []) → Pv 0 [] H1)
    (hs : ∀ D (i : Nat) acc H1, H D = none → i < N → H1 D = some (.lst acc) → Pv i acc H1 → Trn g tt te vs σ' D (Pv (i + 1)) (.int (lo + i)) H1)
    (hd : ∀ D acc H1, H D = none → H1 D = some (.lst acc) → Pv N acc H1 → Q (.ref D) H1) : LCk g tt te vs σ Q (Itr lo N) H :=
  lcN (Itr lo N) N (fun i x => x = .int (lo + i)) σ' e Pv (fun i H1 D acc hi _ _ _ => ⟨hi, fun x H' y => y⟩) (fun _ _ _ _ _ _ => Nat.le_refl _) h0
    (fun D i x acc H1 hD hi hx hacc p => by cases hx; exact hs D i acc H1 hD hi hacc p) hd
theorem lcTup {a : Addr} {xs : List V} (hq : SqT K H a xs) (σ' : L2.St) (e : wipe σ vs = σ') (Pv : Nat → List V → Hp → Prop)
    (hk : ∀ i acc H1, Pv i acc H1 → Kp H H1)
    (h0 : ∀ D H1, H D = none → Fr [] H H1 → Kp H H1 → H1 D = some (.lst []) → Pv 0 [] H1)
    (hs : ∀ D i x acc H1, H D = none → xs[i]? = some x → H1 D = some (.lst acc) → Pv i acc H1 → Trn g tt te vs σ' D (Pv (i + 1)) x H1)
    (hd : ∀ D acc H1, H D = none → H1 D = some (.lst acc) → Pv xs.length acc H1 → Q (.ref D) H1) : LCk g tt te vs σ Q (Itt K a) H :=
  lcN (Itt K a) xs.length (fun i x => xs[i]? = some x) σ' e Pv (fun i H1 D acc hi _ _ p => ⟨⟨xs, xs[i], (hk _ _ _ p).sqT hq, by simp [hi]⟩, fun x H' y => ⟨y.1, y.2 xs ((hk _ _ _ p).sqT hq)⟩⟩)
    (fun H1 D acc _ _ p => ⟨xs, (hk _ _ _ p).sqT hq, Nat.le_refl _⟩) h0 (fun D i x acc H1 hD hi hx hacc p => hs D i x acc H1 hD hx hacc p) hd
theorem lcList {a : Addr} {xs : List V} (σ' : L2.St) (e : wipe σ vs = σ') (Pv : Nat → List V → Hp → Prop)
    (hk : ∀ i acc H1, Pv i acc H1 → SqL K H1 a xs)
    (h0 : ∀ D H1, H D = none → Fr [] H H1 → Kp H H1 → H1 D = some (.lst []) → Pv 0 [] H1)
    (hs : ∀ D i x acc H1, H D = none → xs[i]? = some x → H1 D = some (.lst acc) → Pv i acc H1 → Trn g tt te vs σ' D (Pv (i + 1)) x H1)
    (hd : ∀ D acc H1, H D = none → H1 D = some (.lst acc) → Pv xs.length acc H1 → Q (.ref D) H1) : LCk g tt te vs σ Q (Itl K a) H :=
  lcN (Itl K a) xs.length (fun i x => xs[i]? = some x) σ' e Pv (fun i H1 D acc hi _ _ p => ⟨⟨xs, xs[i], hk _ _ _ p, by simp [hi]⟩, fun x H' y => ⟨y.1, y.2 xs (hk _ _ _ p)⟩⟩)
    (fun H1 D acc _ _ p => ⟨xs, hk _ _ _ p, Nat.le_refl _⟩) h0 (fun D i x acc H1 hD hi hx hacc p => hs D i x acc H1 hD hx hacc p) hd
end
section
variable {g : TG} {tb : TS} {σ : L2.St} {H : Hp} {K : PySem.W.Frag} {n b c : L2.St → Hp → Prop} {r : VK}
/-- a for loop: the invariant over (turn, slots, heap); break goes to what follows -/
theorem forN (J : It) (N : Nat) (it : Nat → V → Prop) (Pv : Nat → L2.St → Hp → Prop)
    (hgo : ∀ i σ H1, i < N → Pv i σ H1 → J.go i H1 ∧ ∀ x H', J.yld i H1 x H' → H' = H1 ∧ it i x)
    (hstop : ∀ σ H1, Pv N σ H1 → J.stop N H1) (h0 : Pv 0 σ H)
    (hs : ∀ i x σ H1, i < N → it i x → Pv i σ H1 → g x σ H1 fun σ2 H2 => tb ⟨Pv (i + 1), r, n, Pv (i + 1)⟩ σ2 H2)
    (hd : ∀ σ H1, Pv N σ H1 → n σ H1) : FORk g tb ⟨n, r, b, c⟩ σ J H := by
  refine ⟨fun i m σ H1 => m = N - i ∧ i ≤ N ∧ Pv i σ H1, ⟨N, by simp, Nat.zero_le _, h0⟩, ?_⟩
  rintro i m σ H1 ⟨rfl, hi, p⟩
  by_cases hlt : i < N
  · obtain ⟨g1, g2⟩ := hgo i σ H1 hlt p
    refine .inr ⟨g1, Pv (i + 1), fun σ' H' p' => ⟨N - (i + 1), by omega, rfl, hlt, p'⟩, fun x H' y => ?_⟩
    obtain ⟨rfl, hx⟩ := g2 x H' y
    exact hs i x σ _ hlt hx p
  · have ei : i = N := by omega
    subst ei
    exact .inl ⟨hstop σ H1 p, hd σ H1 p⟩
theorem forRange {lo : Int} {N : Nat} (Pv : Nat → L2.St → Hp → Prop) (h0 : Pv 0 σ H)
    (hs : ∀ (i : Nat) σ H1, i < N → Pv i σ H1 → g (.int (lo + i)) σ H1 fun σ2 H2 => tb ⟨Pv (i + 1), r, n, Pv (i + 1)⟩ σ2 H2)
    (hd : ∀ σ H1, Pv N σ H1 → n σ H1) : FORk g tb ⟨n, r, b, c⟩ σ (Itr lo N) H :=
  forN (Itr lo N) N (fun i x => x = .int (lo + i)) Pv (fun i σ H1 hi _ => ⟨hi, fun x H' y => y⟩) (fun _ _ _ => Nat.le_refl _) h0 (fun i x σ H1 hi hx p => by cases hx; exact hs i σ H1 hi p) hd
theorem forTup {a : Addr} {xs : List V} (Pv : Nat → L2.St → Hp → Prop) (hk : ∀ i σ H1, Pv i σ H1 → SqT K H1 a xs) (h0 : Pv 0 σ H)
    (hs : ∀ i x σ H1, xs[i]? = some x → Pv i σ H1 → g x σ H1 fun σ2 H2 => tb ⟨Pv (i + 1), r, n, Pv (i + 1)⟩ σ2 H2)
    (hd : ∀ σ H1, Pv xs.length σ H1 → n σ H1) : FORk g tb ⟨n, r, b, c⟩ σ (Itt K a) H :=
  forN (Itt K a) xs.length (fun i x => xs[i]? = some x) Pv (fun i σ H1 hi p => ⟨⟨xs, xs[i], hk _ _ _ p, by simp [hi]⟩, fun x H' y => ⟨y.1, y.2 xs (hk _ _ _ p)⟩⟩) (fun σ H1 p => ⟨xs, hk _ _ _ p, Nat.le_refl _⟩) h0
    (fun i x σ H1 hi hx p => hs i x σ H1 hx p) hd
theorem forList {a : Addr} {xs : List V} (Pv : Nat → L2.St → Hp → Prop) (hk : ∀ i σ H1, Pv i σ H1 → SqL K H1 a xs) (h0 : Pv 0 σ H)
    (hs : ∀ i x σ H1, xs[i]? = some x → Pv i σ H1 → g x σ H1 fun σ2 H2 => tb ⟨Pv (i + 1), r, n, Pv (i + 1)⟩ σ2 H2)
    (hd : ∀ σ H1, Pv xs.length σ H1 → n σ H1) : FORk g tb ⟨n, r, b, c⟩ σ (Itl K a) H :=
  forN (Itl K a) xs.length (fun i x => xs[i]? = some x) Pv (fun i σ H1 hi p => ⟨⟨xs, xs[i], hk _ _ _ p, by simp [hi]⟩, fun x H' y => ⟨y.1, y.2 xs (hk _ _ _ p)⟩⟩) (fun σ H1 p => ⟨xs, hk _ _ _ p, Nat.le_refl _⟩) h0
    (fun i x σ H1 hi hx p => hs i x σ H1 hx p) hd
theorem forDown {hi c' : Int} {N : Nat} (Pv : Nat → L2.St → Hp → Prop) (h0 : Pv 0 σ H)
    (hs : ∀ (i : Nat) σ H1, i < N → Pv i σ H1 → g (.int (hi + i * c')) σ H1 fun σ2 H2 => tb ⟨Pv (i + 1), r, n, Pv (i + 1)⟩ σ2 H2)
    (hd : ∀ σ H1, Pv N σ H1 → n σ H1) : FORk g tb ⟨n, r, b, c⟩ σ (Itc hi c' N) H :=
  forN (Itc hi c' N) N (fun i x => x = .int (hi + i * c')) Pv (fun i σ H1 hi _ => ⟨hi, fun x H' y => y⟩) (fun _ _ _ => Nat.le_refl _) h0 (fun i x σ H1 hi hx p => by cases hx; exact hs i σ H1 hi p) hd
/-- a while loop's turn, behind a test that held -/
def WHk (tb : TS) (r : VK) (n : L2.St → Hp → Prop) (W : Nat → L2.St → Hp → Prop) (m : Nat) (σ : L2.St) (H : Hp) : Prop :=
  ∃ N : L2.St → Hp → Prop, (∀ σ' H', N σ' H' → ∃ m', m' < m ∧ W m' σ' H') ∧ tb ⟨N, r, n, N⟩ σ H
theorem u_body {W : Nat → L2.St → Hp → Prop} {m : Nat} (h : tb ⟨fun σ' H' => ∃ m', m' < m ∧ W m' σ' H', r, n, fun σ' H' => ∃ m', m' < m ∧ W m' σ' H'⟩ σ H) : WHk tb r n W m σ H := ⟨_, fun _ _ z => z, h⟩
/-- a while loop: the invariant with a measure; the test's two ways -/
theorem u_while {tt : TT} (W : Nat → L2.St → Hp → Prop) (m : Nat) (h0 : W m σ H)
    (hs : ∀ m σ H1, W m σ H1 → tt σ H1 fun k H2 => if k = true then WHk tb r n W m σ H2 else n σ H2) : tWhile tt tb ⟨n, r, b, c⟩ σ H :=
  ⟨W, ⟨m, h0⟩, hs⟩
end
end Rp
/-! RpRules: the layer's rules with the written part K told (so that they serve within a comprehension's block too), texts by their signs. -/
namespace Rp
open PySem PySem.Spec PyProof.Rows L2 SX C8
section
variable {X : Cx} {a b e o value l : Expr} {es : List Expr} {ta tb te tl tv to : TE} {t : TA} {f : Str} {pos pos' p : Pos} {tg : Expr}
theorem ix_listK (K : PySem.W.Frag) (h : X.K = K := by rfl) : IxR X (rIxL K) := by subst h; exact ix_list
theorem ix_tupK (K : PySem.W.Frag) (h : X.K = K := by rfl) : IxR X (rIxT K) := by subst h; exact ix_tup
theorem k_lenK (K : PySem.W.Frag) (h : X.K = K := by rfl) : CallR X (.builtin "len") (rLen K) := by subst h; exact k_len
theorem k_listK (K : PySem.W.Frag) (h : X.K = K := by rfl) : CallR X (.type "list") (rListOf K) := by subst h; exact k_list
theorem k_tupleK (K : PySem.W.Frag) (h : X.K = K := by rfl) : CallR X (.type "tuple") (rTupleOf K) := by subst h; exact k_tuple
theorem k_sumK (K : PySem.W.Frag) (h : X.K = K := by rfl) (hc : X.calm = true := by rfl) : CallR X (.builtin "sum") (rSum K) := by subst h; exact cr_sum hc
theorem op_catAK (K : PySem.W.Frag) (h : X.K = K := by rfl) : OpR X (binaryOp .Add) (rCatA K) := by subst h; exact op_catA
theorem sl_tupAK (K : PySem.W.Frag) (h : X.K = K := by rfl) : SlR X (rSlA K) := by subst h; exact sl_tupA
theorem sl_listK (K : PySem.W.Frag) (h : X.K = K := by rfl) : SlR X (rSlL K) := by subst h; exact sl_list
theorem op_eqDK (K : PySem.W.Frag) (hu : X.A.units + 64 < cLine) (h : X.K = K := by rfl) : OpR X (compareOp .Eq) (rEqD K) := by subst h; exact op_eqD hu
theorem op_neDK (K : PySem.W.Frag) (hu : X.A.units + 64 < cLine) (h : X.K = K := by rfl) : OpR X (compareOp .NotEq) (rNeD K) := by subst h; exact op_neD hu
theorem op_inK (K : PySem.W.Frag) (h : X.K = K := by rfl) : OpR X (compareOp .In) (rIn K false) := by subst h; exact op_in_seq
theorem op_notInK (K : PySem.W.Frag) (h : X.K = K := by rfl) : OpR X (compareOp .NotIn) (rIn K true) := by subst h; exact op_notIn_seq
theorem k_isiK (K : PySem.W.Frag) (h : X.K = K := by rfl) : CallR X (.builtin "isinstance") (rIsi K) := by subst h; exact call_isi
theorem pe_fldK (K : PySem.W.Frag) (he : PE X e te) (h : X.K = K := by rfl) (hb : attributeBase e f X.env (eval e X.env) = eval e X.env := by rfl) : PE X (.Attribute e f pos) (tFld K te f) := by subst h; exact pe_fld he hb
theorem ps_fldK (K : PySem.W.Frag) (ha : PE X o ta) (hv : PE X value tv) (h : X.K = K := by rfl) (hs : swapsWith value (some (.Attribute o f pos')) pos.line X.env = pure false := by rfl) :
    PS X (.Assign [.Attribute o f pos'] value pos) (sFld K ta tv f) := by subst h; exact ps_fld ha hv hs
theorem pi_listK (K : PySem.W.Frag) (hl : PE X l tl) (h : X.K = K := by rfl) : PI X tg l (iList K tl) := by subst h; exact pi_list hl
theorem pi_tupK (K : PySem.W.Frag) (hl : PE X l tl) (h : X.K = K := by rfl) : PI X tg l (iTup K tl) := by subst h; exact pi_tup hl
theorem pg_tupK {es : List Expr} {k : Nat} {t : TGs} {n : Nat} (K : PySem.W.Frag) (hg : PGs X es t) (h : X.K = K := by rfl) (hc : X.calm = true := by rfl) (hn : (assignEach es X.env).length = n := by rfl) (hst : (assignEach es X.env).findIdx? (·.1) = none := by rfl) :
    PG X (.Tuple es k pos) (gTup K n t) := by subst h; exact pg_tup hc hg hn hst
theorem pe_bmK {e : Expr} {es : List Expr} {name : Str} {apos cpos : Pos} {T id : String} {r : V → List V → Hp → VK → Prop} (K : PySem.W.Frag) (pa : PlainAttrs T) (slot : Slot T name id) (hty : typeOf (.builtin id) = pure (.type "method_descriptor")) (hm : MtR X id r) (ho : PE X o to) (ha : PA X (e :: es) t) (h : X.K = K := by rfl)
    (hbase : attributeBase o name X.env (eval o X.env) = eval o X.env := by rfl)
    (hfew : ((backTo cpos (starEach (e :: es) X.env)).all (fun x => !x.1) && (backToKw cpos (keywordEach [] X.env)).all (fun x => x.1.isSome)
      && decide ((e :: es).length + ([] : List Keyword).length + (if ([] : List Keyword).isEmpty then 0 else 1) < 30)) = true := by rfl)
    (hline : (apos.endLine == cpos.line) = true := by rfl) (hs : starEach (e :: es) X.env = (false, eval e X.env) :: starEach es X.env := by rfl) (hplain : (backTo cpos (starEach es X.env)).any (·.1) = false := by rfl) :
    PE X (.Call (.Attribute o name apos) (e :: es) [] cpos) (tBM K T r to t) := by subst h; exact pe_bm pa slot hty hm ho ha hbase hfew hline hs hplain
theorem pe_bm0K {name : Str} {apos cpos : Pos} {T id : String} {r : V → List V → Hp → VK → Prop} (K : PySem.W.Frag) (pa : PlainAttrs T) (slot : Slot T name id) (hty : typeOf (.builtin id) = pure (.type "method_descriptor")) (hm : MtR X id r) (ho : PE X o to) (h : X.K = K := by rfl)
    (hbase : attributeBase o name X.env (eval o X.env) = eval o X.env := by rfl) (hline : (apos.endLine == cpos.line) = true := by rfl) : PE X (.Call (.Attribute o name apos) [] [] cpos) (tBM0 K T r to) := by subst h; exact pe_bm0 pa slot hty hm ho hbase hline
/-! ### texts by their signs -/
/-- the texts of these signs -/
abbrev vS (ys : List (List Nat)) : List V := ys.map fun y => V.str (S y)
def rJoin (K : PySem.W.Frag) : V → List V → Hp → VK → Prop := fun x xs H Q => ∃ (a : List Nat) (p : Addr) (ys : List (List Nat)), x = .str (S a) ∧ xs = [.ref p] ∧ SqL K H p (vS ys) ∧ (ys.map (·.length)).sum + ys.length * a.length ≤ 1000000 ∧ Q (.str (S (TL.joinL a ys))) H
theorem tl_S (a : List Nat) : TL.tl (S a) = a := rfl
theorem join_S (a : List Nat) (ys : List (List Nat)) : Txt.join (S a) (ys.map S) = S (TL.joinL a ys) := by
  rw [TL.join_eq]
  refine TL.ext_tl ?_
  rw [TL.tl_join, map_S_tl]
theorem pe_joinK (K : PySem.W.Frag) {apos : Pos} (ho : PE X o to) (he : PE X e te) (h : X.K = K := by rfl) (hs : starEach [e] X.env = [(false, eval e X.env)] := by rfl) (hbase : attributeBase o "join" X.env (eval o X.env) = eval o X.env := by rfl) (hline : (apos.endLine == pos.line) = true := by rfl) :
    PE X (.Call (.Attribute o "join" apos) [e] [] pos) (tM1 (rJoin K) to te) := by
  subst h
  refine pe_m1 F.slot_str_join F.type_str_join (fun pins s σ H x xs v us Q I rx rs h => ?_) ho he hs hbase hline
  obtain ⟨a, p, ys, rfl, rfl, hp, hz, q⟩ := h
  refine mt_join pins s σ H _ _ v us Q I rx rs ⟨S a, p, ys.map S, rfl, rfl, .inl (by simpa [vS, Function.comp_def] using hp), ?_, by rw [join_S]; exact q⟩
  rw [lens, List.length_map, S_len]
  omega
/-- a[lo:hi] of the signs -/
def cutL (a : List Nat) (lo hi : Option Int) : List Nat := (a.drop (HT.sIx a.length 0 lo)).take (HT.sIx a.length a.length hi - HT.sIx a.length 0 lo)
theorem cutS_S (a : List Nat) (lo hi : Option Int) : cutS (S a) lo hi = S (cutL a lo hi) := by
  unfold cutS cutL
  rw [S_len]
def rSlC : V → Option Int → Option Int → Hp → VK → Prop := fun x lo hi H Q => ∃ a, x = .str (S a) ∧ a.length ≤ 1000000 ∧ Q (.str (S (cutL a lo hi))) H
theorem sl_strC : SlR X rSlC := by
  intro pins s σ H x v vl vu lo hi sl Q I rx hs pl pu h
  obtain ⟨a, rfl, hl, q⟩ := h
  exact sl_str pins s σ H _ v vl vu lo hi sl Q I rx hs pl pu ⟨S a, rfl, by rw [S_len, sizeLine_eq]; omega, by rw [cutS_S]; exact q⟩
/-- one sign in a text -/
def rInC : R2 := fun x y H Q => ∃ (c : Nat) (z : List Nat), x = .str (S [c]) ∧ y = .str (S z) ∧ Q (.bl (decide (c ∈ z))) H
theorem op_inC : OpR X (compareOp .In) rInC := fun pins s σ H x y v u Q I rx ry h => by
  obtain ⟨c, z, rfl, rfl, q⟩ := h
  exact op_in_sign pins s σ H _ _ v u Q I rx ry ⟨c, S z, rfl, rfl, q⟩
def rNotInC : R2 := fun x y H Q => ∃ (c : Nat) (z : List Nat), x = .str (S [c]) ∧ y = .str (S z) ∧ Q (.bl (!decide (c ∈ z))) H
theorem op_notInC : OpR X (compareOp .NotIn) rNotInC := fun pins s σ H x y v u Q I rx ry h => by
  obtain ⟨c, z, rfl, rfl, q⟩ := h
  exact op_notIn_sign pins s σ H _ _ v u Q I rx ry ⟨c, S z, rfl, rfl, q⟩
end
section
variable {H : Hp} {Q : VK} {K : PySem.W.Frag} {σ : L2.St} {te to : TE}
theorem u_inC {c : Nat} {z : List Nat} (h : Q (.bl (decide (c ∈ z))) H) : rInC (.str (S [c])) (.str (S z)) H Q := ⟨c, z, rfl, rfl, h⟩
theorem u_notInC {c : Nat} {z : List Nat} (h : Q (.bl (!decide (c ∈ z))) H) : rNotInC (.str (S [c])) (.str (S z)) H Q := ⟨c, z, rfl, rfl, h⟩
theorem u_slC {a : List Nat} {lo hi : Option Int} (hl : a.length ≤ 1000000) (h : Q (.str (S (cutL a lo hi))) H) : rSlC (.str (S a)) lo hi H Q := ⟨a, rfl, hl, h⟩
theorem u_slL {p : Addr} {xs : List V} {lo hi : Option Int} (h1 : SqL K H p xs) (h : ∀ q H1, H q = none → Fr [] H H1 → Kp H H1 → H1 q = some (.lst (cutV xs lo hi)) → Q (.ref q) H1) : rSlL K (.ref p) lo hi H Q := ⟨p, xs, rfl, h1, u_new (W := fun p H' => Q (.ref p) H') h⟩
theorem u_m1 {r : V → List V → Hp → VK → Prop} (h : to σ H fun x H1 => (∃ a, x = .str a) ∧ te σ H1 fun y H2 => r x [y] H2 Q) : tM1 r to te σ H Q := h
theorem u_isS {A : Prop} {z : Str} (h : A) : (∃ a, V.str z = V.str a) ∧ A := ⟨⟨z, rfl⟩, h⟩
theorem u_join {a : List Nat} {p : Addr} {ys : List (List Nat)} (h1 : SqL K H p (vS ys)) (hl : (ys.map (·.length)).sum + ys.length * a.length ≤ 1000000) (h : Q (.str (S (TL.joinL a ys))) H) : rJoin K (.str (S a)) [.ref p] H Q :=
  ⟨a, p, ys, rfl, rfl, h1, hl, h⟩
theorem u_fld {f : Str} (h : te σ H fun x H1 => ∃ a C dx fs v, x = .ref a ∧ H1 a = some (.ins C dx fs) ∧ Cls K C ∧ NoAttr K C f ∧ fs.lookup f = some v ∧ Q v H1) : tFld K te f σ H Q := h
theorem u_eqD {x y : V} {d e : PyData} (h1 : Dp K H x d) (h2 : Dp K H y e) (s1 : SeqAt.shaped d = true) (s2 : SeqAt.shaped e = true) (h : Q (.bl (PyData.eqv d e)) H) : rEqD K x y H Q := ⟨d, e, h1, h2, s1, s2, h⟩
theorem u_neD {x y : V} {d e : PyData} (h1 : Dp K H x d) (h2 : Dp K H y e) (s1 : SeqAt.shaped d = true) (s2 : SeqAt.shaped e = true) (h : Q (.bl (!PyData.eqv d e)) H) : rNeD K x y H Q := ⟨d, e, h1, h2, s1, s2, h⟩
theorem u_gtup {n : Nat} {t : TGs} {a : Addr} {xs : List V} {P : L2.St → Hp → Prop} (hq : SqT K H a xs) (hl : xs.length = n) (h : t xs σ H P) : gTup K n t (.ref a) σ H P := ⟨a, xs, rfl, hq, hl, h⟩
theorem u_gcons {t : TG} {u : TGs} {v : V} {r : List V} {P : L2.St → Hp → Prop} (h : t v σ H fun σ' H' => u r σ' H' P) : gCons t u (v :: r) σ H P := ⟨v, r, rfl, h⟩
theorem u_gnil {P : L2.St → Hp → Prop} (h : P σ H) : gNil [] σ H P := ⟨rfl, h⟩
theorem u_sumE {p : Addr} {xs : List V} {ns : List Int} (e : xs = ns.map V.int) (hq : SqL K H p xs) (h : Q (.int ns.sum) H) : rSum K [.ref p] H Q := u_sum (e ▸ hq) h
end
end Rp
namespace Rp
open PySem PySem.Spec PyProof.Rows L2 SX C8
theorem cutV_tail (x : V) (xs : List V) : cutV (x :: xs) (some 1) none = xs := by
  unfold cutV
  have h1 : HT.sIx (x :: xs).length 0 (some 1) = 1 := by
    have := HT.sIx_nat (x :: xs).length 0 1
    rw [show ((1 : Nat) : Int) = 1 from rfl] at this
    rw [this, List.length_cons]; omega
  rw [h1, HT.sIx_none]
  simp
theorem TupsAt.get {K : PySem.W.Frag} {H : Hp} : ∀ {ts : List Fm} {vs : List V} {i : Nat} {x : V}, TupsAt K H ts vs → vs[i]? = some x → ∃ t a, ts[i]? = some t ∧ x = .ref a ∧ TupAt K H t a
  | _, _, _, _, .nil, e => by simp at e
  | t :: _, _, 0, x, .cons ⟨a, e1, r⟩ _, e => by
    simp at e
    exact ⟨t, a, rfl, by rw [← e, e1], r⟩
  | _ :: ts, _, i + 1, x, .cons _ p, e => by
    obtain ⟨t, a, h1, h2, h3⟩ := TupsAt.get (i := i) (x := x) p (by simpa using e)
    exact ⟨t, a, by simpa using h1, h2, h3⟩
theorem TupsAt.append {K : PySem.W.Frag} {H : Hp} {ts us : List Fm} {vs ws : List V} (a : TupsAt K H ts vs) (b : TupsAt K H us ws) : TupsAt K H (ts ++ us) (vs ++ ws) := by
  induction a with
  | nil => exact b
  | cons r _ ih => exact .cons r ih
theorem TupsAt.one {K : PySem.W.Frag} {H : Hp} {t : Fm} {a : Addr} (h : TupAt K H t a) : TupsAt K H [t] [.ref a] := .cons ⟨a, rfl, h⟩ .nil
theorem take_succ_map {α β : Type} {f : α → β} {l : List α} {i : Nat} {x : α} (h : l[i]? = some x) : (l.take i).map f ++ [f x] = (l.take (i + 1)).map f := by
  rw [List.take_add_one, h]; simp
theorem take_all {α : Type} {l : List α} {n : Nat} (h : n = l.length) : l.take n = l := by rw [h, List.take_length]
theorem Fm.text_parts (t : Fm) (h : t.parts ≠ []) : t.text = t.name ++ (40 :: (TL.joinL [44, 32] (t.parts.map Fm.text) ++ [41])) := by
  cases t with
  | leaf n => exact absurd rfl h
  | one n a => rfl
  | two n a b => simp [Fm.text, Fm.parts, Fm.name, TL.joinL]
theorem Fm.text_leaf (t : Fm) (h : t.parts = []) : t.text = t.name := by
  cases t with
  | leaf n => rfl
  | one n a => cases h
  | two n a b => cases h
theorem Fm.text_part {t p : Fm} (h : p ∈ t.parts) : p.text.length < t.text.length := by
  cases t with
  | leaf n => cases h
  | one n a =>
    have e : p = a := by simpa [Fm.parts] using h
    subst e
    simp [Fm.text]; omega
  | two n a b =>
    have e : p = a ∨ p = b := by simpa [Fm.parts] using h
    rcases e with e | e <;> subst e <;> simp [Fm.text] <;> omega
theorem sum_take_le {l : List Nat} (n : Nat) : (l.take n).sum ≤ l.sum := by
  have h : (l.take n ++ l.drop n).sum = l.sum := by rw [List.take_append_drop]
  rw [List.sum_append] at h
  omega
end Rp
namespace Rp
open PySem PySem.Spec PyProof.Rows L2 SX C8
theorem atI0 (x : V) (xs : List V) : atI (x :: xs) 0 = some x := atI_nat (j := 0) rfl
theorem atI1 (x y : V) (xs : List V) : atI (x :: y :: xs) 1 = some y := atI_nat (j := 1) rfl
theorem atI2 (x y z : V) (xs : List V) : atI (x :: y :: z :: xs) 2 = some z := atI_nat (j := 2) rfl
end Rp
namespace Rp
open PySem PySem.Spec PyProof.Rows L2 SX C8
theorem joinL_len (a : List Nat) : ∀ ys : List (List Nat), ys ≠ [] → (ys.map (·.length)).sum + ys.length * a.length = (TL.joinL a ys).length + a.length
  | [], h => absurd rfl h
  | [p], _ => by simp [TL.joinL]
  | p :: q :: r, _ => by
    have ih := joinL_len a (q :: r) (by simp)
    simp only [List.map_cons, List.sum_cons, List.length_cons, TL.joinL, List.length_append] at ih ⊢
    have : (r.length + 1 + 1) * a.length = (r.length + 1) * a.length + a.length := by rw [Nat.succ_mul]
    omega
end Rp
namespace Rp
open PySem PySem.Spec PyProof.Rows L2 SX C8
theorem u_aug {i : Nat} {te : TE} {ti : TIp} {n b c : L2.St → Hp → Prop} {r : VK} {σ : L2.St} {H : Hp} (h : tVar i σ H fun x _ => te σ H fun y H1 => ti x y H1 fun z H2 => gName i z σ H2 n) : tAug i te ti ⟨n, r, b, c⟩ σ H := h
end Rp
namespace Rp
open PySem PySem.Spec PyProof.Rows L2 SX C8
theorem Fr.free0 {H H' : Hp} {a : Addr} (e : Fr [] H H') (h : H' a = none) : H a = none := e.free h (by simp)
end Rp
/-! RpDefs: what the walks take for granted of the module's names; the promises. -/
namespace Rp
open PySem PySem.Spec PyProof.Rows L2 SX C8
/-! ### names, written formulas -/
def isCap (c : Nat) : Prop := 65 ≤ c ∧ c ≤ 90
def isLow (c : Nat) : Prop := 97 ≤ c ∧ c ≤ 122
def isDig (c : Nat) : Prop := 48 ≤ c ∧ c ≤ 57
instance : DecidablePred isCap := fun c => by unfold isCap; infer_instance
instance : DecidablePred isLow := fun c => by unfold isLow; infer_instance
instance : DecidablePred isDig := fun c => by unfold isDig; infer_instance
structure NameOk (n : List Nat) : Prop where
  pos : 1 ≤ n.length
  six : n.length ≤ 6
  caps : ∀ c ∈ n, isCap c
def LeafOk (n : List Nat) : Prop := ∃ c, n = [c] ∧ (isLow c ∨ isDig c)
/-- a formula as the document has it -/
def Fm.Ok : Fm → Prop
  | .leaf n => LeafOk n
  | .one n a => NameOk n ∧ a.Ok
  | .two n a b => NameOk n ∧ a.Ok ∧ b.Ok
def cCAP : List Nat := [65, 66, 67, 68, 69, 70, 71, 72, 73, 74, 75, 76, 77, 78, 79, 80, 81, 82, 83, 84, 85, 86, 87, 88, 89, 90]
def cLOW : List Nat := [97, 98, 99, 100, 101, 102, 103, 104, 105, 106, 107, 108, 109, 110, 111, 112, 113, 114, 115, 116, 117, 118, 119, 120, 121, 122]
def cDIG : List Nat := [48, 49, 50, 51, 52, 53, 54, 55, 56, 57]
theorem mem_cap {c : Nat} : c ∈ cCAP ↔ isCap c := by unfold cCAP isCap; simp; omega
theorem mem_low {c : Nat} : c ∈ cLOW ↔ isLow c := by unfold cLOW isLow; simp; omega
theorem mem_dig {c : Nat} : c ∈ cDIG ↔ isDig c := by unfold cDIG isDig; simp; omega
theorem atI_inN {a : List Nat} {i : Int} (h0 : 0 ≤ i) (h1 : i < a.length) : ∃ d, atI a i = some d ∧ d ∈ a := by
  have hj : i.toNat < a.length := by omega
  refine ⟨a[i.toNat], ?_, List.getElem_mem hj⟩
  unfold atI ixN
  rw [if_pos h0, if_pos h1]
  simp [hj]
/-- the built-in names that no module name hides -/
structure Bi (mg : Str → Option Value) : Prop where
  n_len : mg "len" = none
  n_range : mg "range" = none
  n_sum : mg "sum" = none
  n_int : mg "int" = none
  n_str : mg "str" = none
  n_list : mg "list" = none
  n_tuple : mg "tuple" = none
  n_isinstance : mg "isinstance" = none
  n_bool : mg "bool" = none
  n_iter : mg "iter" = none
  gCAPITALS : ∃ u, mg "CAPITALS" = some u ∧ RelV (.str (S cCAP)) u
  gLETTERS : ∃ u, mg "LETTERS" = some u ∧ RelV (.str (S cLOW)) u
  gDIGITS : ∃ u, mg "DIGITS" = some u ∧ RelV (.str (S cDIG)) u
  gLONGEST_NAME : ∃ u, mg "LONGEST_NAME" = some u ∧ RelV (.int 6) u
/-- a def of the top -/
structure DefE (K : PySem.W.Frag) (mg : Str → Option Value) (x : Str) (st : Stmt) (ps : List Str) : Prop where
  ex : ∃ (f : Addr) (fd : FuncData), C8.Def K mg x st f fd ∧ Binds K fd ps []
/-! ### the draws -/
def spDraw : Sp := fun vs H Q _ => ∃ (p l : Addr) (m : Int), vs = [.ref p, .int m] ∧ PoolAt H p l ∧ 0 < m ∧ m < 1000000 ∧
  ∀ (r : Int) (H' : Hp), 0 ≤ r → r < m → PoolAt H' p l → Fr [p] H H' → Q (.int r) H'
theorem u_draw {H : Hp} {Q : VK} {E : XK} {p l : Addr} {m : Int} (h1 : PoolAt H p l) (h2 : 0 < m) (h3 : m < 1000000)
    (h : ∀ (r : Int) (H' : Hp), 0 ≤ r → r < m → PoolAt H' p l → Fr [p] H H' → Kp H H' → Q (.int r) H') : spDraw ([.ref p, .int m] ++ []) H Q E :=
  ⟨p, l, m, rfl, h1, h2, h3, fun r H' a b c d => h r H' a b c d (h1.kp d)⟩
def spPools (K : PySem.W.Frag) : Sp := fun vs H Q _ => ∃ (a : Addr) (ns : List Int), vs = [.ref a] ∧ SqL K H a (ns.map V.int) ∧ ns.length ≤ 63 ∧
  ∀ (q p1 l1 p2 l2 : Addr) (H' : Hp), Fr [] H H' → H' q = some (.lst [.ref p1, .ref p2]) → PoolAt H' p1 l1 → PoolAt H' p2 l2 → p1 ≠ p2 → q ≠ p1 → q ≠ p2 → Q (.ref q) H'
end Rp
namespace Rp
open PySem PySem.Spec PyProof.Rows L2 SX C8
def spName : Sp := fun vs H Q _ => ∃ (p l : Addr), vs = [.ref p] ∧ PoolAt H p l ∧ ∀ (n : List Nat) (H' : Hp), NameOk n → PoolAt H' p l → Fr [p] H H' → Q (.str (S n)) H'
theorem u_name {H : Hp} {Q : VK} {E : XK} {p l : Addr} (h1 : PoolAt H p l) (h : ∀ (n : List Nat) (H' : Hp), NameOk n → PoolAt H' p l → Fr [p] H H' → Kp H H' → Q (.str (S n)) H') : spName ([.ref p] ++ []) H Q E :=
  ⟨p, l, rfl, h1, fun n H' a b d => h n H' a b d (h1.kp d)⟩
def spAny (K : PySem.W.Frag) (k : Nat) : Sp := fun vs H Q _ => ∃ (p l : Addr) (d : Nat), vs = [.ref p, .int d] ∧ PoolAt H p l ∧ d < k ∧
  ∀ (t : Fm) (a : Addr) (H' : Hp), t.Ok → t.depth ≤ d → TupAt K H' t a → PoolAt H' p l → Fr [p] H H' → Q (.ref a) H'
theorem u_any {K : PySem.W.Frag} {k : Nat} {H : Hp} {Q : VK} {E : XK} {p l : Addr} {z : Int} (d : Nat) (e : z = d) (h1 : PoolAt H p l) (h2 : d < k)
    (h : ∀ (t : Fm) (a : Addr) (H' : Hp), t.Ok → t.depth ≤ d → TupAt K H' t a → PoolAt H' p l → Fr [p] H H' → Kp H H' → Q (.ref a) H') : spAny K k ([.ref p, .int z] ++ []) H Q E := by
  subst e
  exact ⟨p, l, d, rfl, h1, h2, fun t a H' x1 x2 x3 x4 x5 => h t a H' x1 x2 x3 x4 x5 (h1.kp x5)⟩
end Rp
namespace Rp
open PySem PySem.Spec PyProof.Rows L2 SX C8
theorem joinL_nil : ∀ ys : List (List Nat), TL.joinL [] ys = ys.flatten
  | [] => rfl
  | [p] => by simp [TL.joinL]
  | p :: q :: r => by
    show p ++ ([] ++ TL.joinL [] (q :: r)) = _
    rw [joinL_nil (q :: r)]
    rfl
theorem flat_one : ∀ ms : List Nat, (ms.map fun c => [c]).flatten = ms
  | [] => rfl
  | c :: r => by rw [List.map_cons, List.flatten_cons, flat_one r]; rfl
theorem sum_one (ms : List Nat) : ((ms.map fun c => [c]).map (·.length)).sum = ms.length := by
  induction ms with
  | nil => rfl
  | cons c r ih => simp only [List.map_cons, List.sum_cons, ih, List.length_cons, List.length_nil]; omega
end Rp
namespace Rp
open PySem PySem.Spec PyProof.Rows L2 SX C8
/-- the written form of a nested tuple, its size -/
def spText (K : PySem.W.Frag) (k : Nat) : Sp := fun vs H Q _ => ∃ (a : Addr) (t : Fm), vs = [.ref a] ∧ TupAt K H t a ∧ t.depth < k ∧ t.text.length ≤ 100000 ∧ ∀ H', Fr [] H H' → Q (.str (S t.text)) H'
theorem u_text {K : PySem.W.Frag} {k : Nat} {H : Hp} {Q : VK} {E : XK} {a : Addr} {t : Fm} (h1 : TupAt K H t a) (h2 : t.depth < k) (h3 : t.text.length ≤ 100000) (h : ∀ H', Fr [] H H' → Kp H H' → Q (.str (S t.text)) H') : spText K k ([.ref a] ++ []) H Q E :=
  ⟨a, t, rfl, h1, h2, h3, fun H' f => h H' f (.of_same f.same)⟩
def spSize (K : PySem.W.Frag) (k : Nat) : Sp := fun vs H Q _ => ∃ (a : Addr) (t : Fm), vs = [.ref a] ∧ TupAt K H t a ∧ t.depth < k ∧ ∀ H', Fr [] H H' → Q (.int t.size) H'
theorem u_size {K : PySem.W.Frag} {k : Nat} {H : Hp} {Q : VK} {E : XK} {a : Addr} {t : Fm} (h1 : TupAt K H t a) (h2 : t.depth < k) (h : ∀ H', Fr [] H H' → Kp H H' → Q (.int t.size) H') : spSize K k ([.ref a] ++ []) H Q E :=
  ⟨a, t, rfl, h1, h2, fun H' f => h H' f (.of_same f.same)⟩
end Rp
namespace Rp
open PySem PySem.Spec PyProof.Rows L2 SX C8
theorem leafOk_mem {c : Nat} (h : c ∈ cDIG ++ cLOW) : LeafOk [c] := by
  rcases List.mem_append.mp h with h | h
  · exact ⟨c, rfl, .inr (mem_dig.mp h)⟩
  · exact ⟨c, rfl, .inl (mem_low.mp h)⟩
/-- of one or two parts -/
theorem Fm.mk_ok {n : List Nat} {ps : List Fm} (hn : NameOk n) (h1 : 1 ≤ ps.length) (h2 : ps.length ≤ 2) (hp : ∀ p ∈ ps, p.Ok) : (Fm.mk n ps).Ok := by
  match ps, h1, h2 with
  | [a], _, _ => exact ⟨hn, hp a (by simp)⟩
  | [a, b], _, _ => exact ⟨hn, hp a (by simp), hp b (by simp)⟩
theorem Fm.mk_depth {n : List Nat} {ps : List Fm} {d : Nat} (hp : ∀ p ∈ ps, p.depth < d) (h : 0 < d) : (Fm.mk n ps).depth ≤ d := by
  match ps with
  | [] => exact Nat.zero_le _
  | [a] => exact hp a (by simp)
  | a :: b :: r =>
    have h1 := hp a (by simp)
    have h2 := hp b (by simp)
    simp only [Fm.mk, Fm.depth]
    omega
theorem TupAt.mk {K : PySem.W.Frag} {H : Hp} {n : List Nat} {ps : List Fm} {vs : List V} {a : Addr} (h : SqT K H a (.str (S n) :: vs)) (hv : TupsAt K H ps vs) (h2 : ps.length ≤ 2) : TupAt K H (Fm.mk n ps) a := by
  refine TupAt.of_parts (vs := vs) (by rw [Fm.mk_name]; exact h) ?_
  rw [Fm.mk_parts h2]; exact hv
end Rp
/-! RpForm: a Formula object in the heap; making one; a call of a local name that holds a class. -/
namespace Rp
open PySem PySem.Spec PyProof.Rows L2 SX C8
theorem n_np : ¬ (("name" : Str) = "parts") := by decide +kernel
theorem n_ns : ¬ (("name" : Str) = "size") := by decide +kernel
theorem n_nt : ¬ (("name" : Str) = "text") := by decide +kernel
theorem n_ps : ¬ (("parts" : Str) = "size") := by decide +kernel
theorem n_pt : ¬ (("parts" : Str) = "text") := by decide +kernel
theorem n_st : ¬ (("size" : Str) = "text") := by decide +kernel
theorem n_pn : ¬ (("parts" : Str) = "name") := by decide +kernel
theorem n_sn : ¬ (("size" : Str) = "name") := by decide +kernel
theorem n_sp : ¬ (("size" : Str) = "parts") := by decide +kernel
theorem n_tn : ¬ (("text" : Str) = "name") := by decide +kernel
theorem n_tp : ¬ (("text" : Str) = "parts") := by decide +kernel
theorem n_ts : ¬ (("text" : Str) = "size") := by decide +kernel
theorem lookup_cons_eq {f : Str} {v : V} {r : List (Str × V)} : ((f, v) :: r).lookup f = some v := by simp [List.lookup]
theorem lookup_cons_ne {f g : Str} {v : V} {r : List (Str × V)} (h : ¬ g = f) : ((f, v) :: r).lookup g = r.lookup g := by
  have e : (g == f) = false := beq_eq_false_iff_ne.mpr h
  simp [List.lookup, e]
/-- the fields of a formula -/
def fF (n : List Nat) (p : Addr) (z : Int) (x : List Nat) : List (Str × V) := [("name", .str (S n)), ("parts", .ref p), ("size", .int z), ("text", .str (S x))]
section
variable {n x y : List Nat} {p : Addr} {z : Int}
theorem fF_name : (fF n p z x).lookup ("name" : Str) = some (V.str (S n)) := lookup_cons_eq
theorem fF_parts : (fF n p z x).lookup ("parts" : Str) = some (V.ref p) := (lookup_cons_ne n_pn).trans lookup_cons_eq
theorem fF_size : (fF n p z x).lookup ("size" : Str) = some (V.int z) := (lookup_cons_ne n_sn).trans ((lookup_cons_ne n_sp).trans lookup_cons_eq)
theorem fF_text : (fF n p z x).lookup ("text" : Str) = some (V.str (S x)) := (lookup_cons_ne n_tn).trans ((lookup_cons_ne n_tp).trans ((lookup_cons_ne n_ts).trans lookup_cons_eq))
theorem fF_imm {C dx : Addr} : Imm (.ins C dx (fF n p z x)) := .inl rfl
theorem putF_ne {f g : Str} {v w : V} {r : List (Str × V)} (h : ¬ g = f) : putF f v ((g, w) :: r) = (g, w) :: putF f v r := if_neg h
theorem putF_eq {f : Str} {v w : V} {r : List (Str × V)} : putF f v ((f, w) :: r) = (f, v) :: r := if_pos rfl
theorem putF_put : putF "text" (.str (S y)) (fF n p z x) = fF n p z y := by
  unfold fF
  rw [putF_ne n_nt, putF_ne n_pt, putF_ne n_st, putF_eq]
end
/-- a Formula of the class at C -/
def FormAt (K : PySem.W.Frag) (C : Addr) (H : Hp) : Fm → Addr → Prop
  | .leaf n, a => ∃ dx p, H a = some (.ins C dx (fF n p 1 n)) ∧ SqT K H p []
  | .one n x, a => ∃ dx p b, H a = some (.ins C dx (fF n p (Fm.one n x).size (Fm.one n x).text)) ∧ SqT K H p [.ref b] ∧ FormAt K C H x b
  | .two n x y, a => ∃ dx p b c, H a = some (.ins C dx (fF n p (Fm.two n x y).size (Fm.two n x y).text)) ∧ SqT K H p [.ref b, .ref c] ∧ FormAt K C H x b ∧ FormAt K C H y c
section
variable {K : PySem.W.Frag} {C : Addr} {H H' : Hp}
theorem FormAt.mono (k : Kp H H') : ∀ {t : Fm} {a : Addr}, FormAt K C H t a → FormAt K C H' t a
  | .leaf _, _, ⟨dx, p, h, q⟩ => ⟨dx, p, k _ _ fF_imm h, k.sqT q⟩
  | .one _ _, _, ⟨dx, p, b, h, q, r⟩ => ⟨dx, p, b, k _ _ fF_imm h, k.sqT q, FormAt.mono k r⟩
  | .two _ _ _, _, ⟨dx, p, b, c, h, q, r, s⟩ => ⟨dx, p, b, c, k _ _ fF_imm h, k.sqT q, FormAt.mono k r, FormAt.mono k s⟩
def FormsAt (K : PySem.W.Frag) (C : Addr) (H : Hp) : List Fm → List V → Prop := Paired fun t v => ∃ a, v = .ref a ∧ FormAt K C H t a
theorem FormsAt.mono (k : Kp H H') {ts : List Fm} {vs : List V} (h : FormsAt K C H ts vs) : FormsAt K C H' ts vs := by
  induction h with
  | nil => exact .nil
  | cons r _ ih => obtain ⟨a, e, z⟩ := r; exact .cons ⟨a, e, z.mono k⟩ ih
theorem FormsAt.length {ts : List Fm} {vs : List V} (h : FormsAt K C H ts vs) : ts.length = vs.length := Paired.length h
theorem FormsAt.append {ts us : List Fm} {vs ws : List V} (a : FormsAt K C H ts vs) (b : FormsAt K C H us ws) : FormsAt K C H (ts ++ us) (vs ++ ws) := by
  induction a with
  | nil => exact b
  | cons r _ ih => exact .cons r ih
theorem FormsAt.one {t : Fm} {a : Addr} (h : FormAt K C H t a) : FormsAt K C H [t] [.ref a] := .cons ⟨a, rfl, h⟩ .nil
theorem FormsAt.get : ∀ {ts : List Fm} {vs : List V} {i : Nat} {x : V}, FormsAt K C H ts vs → vs[i]? = some x → ∃ t a, ts[i]? = some t ∧ x = .ref a ∧ FormAt K C H t a
  | _, _, _, _, .nil, e => by simp at e
  | t :: _, _, 0, x, .cons ⟨a, e1, r⟩ _, e => by
    simp at e
    exact ⟨t, a, rfl, by rw [← e, e1], r⟩
  | _ :: ts, _, i + 1, x, .cons _ p, e => by
    obtain ⟨t, a, h1, h2, h3⟩ := FormsAt.get (i := i) (x := x) p (by simpa using e)
    exact ⟨t, a, by simpa using h1, h2, h3⟩
/-- the object itself, its parts -/
theorem FormAt.out {t : Fm} {a : Addr} (h : FormAt K C H t a) : ∃ dx p vs, H a = some (.ins C dx (fF t.name p t.size t.text)) ∧ SqT K H p vs ∧ FormsAt K C H t.parts vs := by
  cases t with
  | leaf n => obtain ⟨dx, p, h, q⟩ := h; exact ⟨dx, p, [], h, q, .nil⟩
  | one n x => obtain ⟨dx, p, b, h, q, r⟩ := h; exact ⟨dx, p, _, h, q, .cons ⟨b, rfl, r⟩ .nil⟩
  | two n x y => obtain ⟨dx, p, b, c, h, q, r, s⟩ := h; exact ⟨dx, p, _, h, q, .cons ⟨b, rfl, r⟩ (.cons ⟨c, rfl, s⟩ .nil)⟩
theorem FormAt.into {t : Fm} {a dx p : Addr} {vs : List V} (h : H a = some (.ins C dx (fF t.name p t.size t.text))) (q : SqT K H p vs) (r : FormsAt K C H t.parts vs) : FormAt K C H t a := by
  cases t with
  | leaf n => cases r; exact ⟨dx, p, h, q⟩
  | one n x =>
    cases r with
    | cons r r' =>
      cases r'
      obtain ⟨b, rfl, z⟩ := r
      exact ⟨dx, p, b, h, q, z⟩
  | two n x y =>
    cases r with
    | cons r r' =>
      cases r' with
      | cons s s' =>
        cases s'
        obtain ⟨b, rfl, z⟩ := r
        obtain ⟨c, rfl, z'⟩ := s
        exact ⟨dx, p, b, c, h, q, z, z'⟩
end
/-- what of the text the class Formula must have -/
structure FC (K : PySem.W.Frag) (mg : Str → Option Value) (C : Addr) : Prop where
  cl : Cls K C
  nn : NoAttr K C "name"
  np : NoAttr K C "parts"
  ns : NoAttr K C "size"
  nt : NoAttr K C "text"
  gFormula : ∃ u, mg "Formula" = some u ∧ RelV (.ref C) u
section
variable {σ : L2.St} {H : Hp} {Q : VK} {te : TE} {K : PySem.W.Frag} {mg : Str → Option Value} {C : Addr} {W : V → Hp → Prop}
/-- reading a field -/
def FLDk (K : PySem.W.Frag) (f : Str) (Q : VK) : V → Hp → Prop := fun x H1 => ∃ a C dx fs v, x = .ref a ∧ H1 a = some (.ins C dx fs) ∧ Cls K C ∧ NoAttr K C f ∧ fs.lookup f = some v ∧ Q v H1
theorem u_fldk {f : Str} (h : te σ H (FLDk K f Q)) : tFld K te f σ H Q := h
theorem u_fName {t : Fm} {a : Addr} (F : FC K mg C) (h1 : FormAt K C H t a) (h : Q (.str (S t.name)) H) : FLDk K "name" Q (.ref a) H := by
  obtain ⟨dx, p, vs, h2, _, _⟩ := h1.out
  exact ⟨a, C, dx, _, _, rfl, h2, F.cl, F.nn, fF_name, h⟩
theorem u_fParts {t : Fm} {a : Addr} (F : FC K mg C) (h1 : FormAt K C H t a) (h : ∀ p vs, SqT K H p vs → FormsAt K C H t.parts vs → Q (.ref p) H) : FLDk K "parts" Q (.ref a) H := by
  obtain ⟨dx, p, vs, h2, h3, h4⟩ := h1.out
  exact ⟨a, C, dx, _, _, rfl, h2, F.cl, F.np, fF_parts, h p vs h3 h4⟩
theorem u_fSize {t : Fm} {a : Addr} (F : FC K mg C) (h1 : FormAt K C H t a) (h : Q (.int t.size) H) : FLDk K "size" Q (.ref a) H := by
  obtain ⟨dx, p, vs, h2, _, _⟩ := h1.out
  exact ⟨a, C, dx, _, _, rfl, h2, F.cl, F.ns, fF_size, h⟩
theorem u_fText {t : Fm} {a : Addr} (F : FC K mg C) (h1 : FormAt K C H t a) (h : Q (.str (S t.text)) H) : FLDk K "text" Q (.ref a) H := by
  obtain ⟨dx, p, vs, h2, _, _⟩ := h1.out
  exact ⟨a, C, dx, _, _, rfl, h2, F.cl, F.nt, fF_text, h⟩
end
/-! ### a call of a local name that holds a class -/
def tMakeL (i : Nat) (C : Addr) (sp : Sp) (dvs : List V) (E : XK) (t : TA) : TE := fun σ H Q => σ[i]? = some (some (.ref C)) ∧ tMake C sp dvs E t σ H Q
section
variable {X : Cx} {k j i : Nat} {C : Addr} {x x0 : Str} {sp : Sp} {dvs : List V} {p pos : Pos} {e : Expr} {es : List Expr} {t : TA}
theorem pe_mkL (c : Mak X.prog X.w X.K X.mg X.base k x0 C sp dvs) (hr : Room j X.A) (hk : k + 1 ≤ j) (hN : X.N[i]? = some x) (hv : Vis X.env.scope x) (ha : PA X (e :: es) t)
    (hdb : (x == ("__debug__" : Str)) = false := by decide) (hcd : (x == ("__classdict__" : Str)) = false := by decide)
    (he : starEach (e :: es) X.env = (false, eval e X.env) :: starEach es X.env := by rfl) (hpl : (backTo pos (starEach es X.env)).any (·.1) = false := by rfl) : PE X (.Call (.Name x p) (e :: es) [] pos) (tMakeL i C sp dvs C8.E0 t) := by
  obtain ⟨f, fd, ps, ds, M, F, hm, b, d⟩ := c.ex
  refine ⟨fun pins s σ H Q I h => ?_⟩
  obtain ⟨hs, ht⟩ := h
  refine wpAny_Call_Name_kw (thn ((pe_var (pos := p) hN hv hdb hcd).run pins s σ H (fun v H1 => v = .ref C ∧ H1 = H) I ⟨.ref C, hs, rfl, rfl⟩) fun u s1 ⟨v, H1, I1, r1, q1⟩ => ?_)
  obtain ⟨rfl, rfl⟩ := q1
  cases r1
  refine PySem.W.callWith_K (h₀ := X.base) I.ok.mod.kin M.kp (thn (ha.run pos pins s1 σ _ _ I1 ht) fun us s2 ⟨vs, H2, I2, r, q⟩ => ⟨I2.kIn, ?_⟩) he hpl
  exact run_make M F (hr.mono hk) b d C8.pass0 I2 r q
end
end Rp
namespace Rp
open PySem PySem.Spec PyProof.Rows L2 SX C8
section
variable {σ : L2.St} {H : Hp} {Q : VK} {ta tv te : TE} {K : PySem.W.Frag} {mg : Str → Option Value} {C : Addr} {n b c : L2.St → Hp → Prop} {r : VK}
/-- storing a field -/
def SFLk (K : PySem.W.Frag) (f : Str) (y : V) (n : L2.St → Hp → Prop) (σ : L2.St) : V → Hp → Prop := fun x H2 => ∃ a C dx fs, x = .ref a ∧ H2 a = some (.ins C dx fs) ∧ Cls K C ∧ NoAttr K C f ∧ fs.length < 1000 ∧ n σ (upd H2 a (.ins C dx (putF f y fs)))
theorem u_sfld {f : Str} (h : tv σ H fun y H1 => ta σ H1 (SFLk K f y n σ)) : sFld K ta tv f ⟨n, r, b, c⟩ σ H := h
theorem u_sflk {f : Str} {y : V} {a dx : Addr} {fs fs' : List (Str × V)} (h1 : H a = some (.ins C dx fs)) (h2 : Cls K C) (h3 : NoAttr K C f) (h4 : Nat.ble fs.length 900 = true) (e : putF f y fs = fs') (h : ∀ H1, Fr [a] H H1 → H1 a = some (.ins C dx fs') → n σ H1) :
    SFLk K f y n σ (.ref a) H := by
  subst e
  exact ⟨a, C, dx, fs, rfl, h1, h2, h3, by have := Nat.le_of_ble_eq_true h4; omega, h _ (Fr.upd_in (by simp)) upd_same⟩
theorem pf1 {v : V} : putF ("name" : Str) v [] = [(("name" : Str), v)] := rfl
theorem pf2 {v w : V} : putF ("parts" : Str) w [(("name" : Str), v)] = [(("name" : Str), v), (("parts" : Str), w)] := by rw [putF_ne n_np]; rfl
theorem pf3 {v w u : V} : putF ("size" : Str) u [(("name" : Str), v), (("parts" : Str), w)] = [(("name" : Str), v), (("parts" : Str), w), (("size" : Str), u)] := by rw [putF_ne n_ns, putF_ne n_ps]; rfl
theorem pf4 {v w u t : V} : putF ("text" : Str) t [(("name" : Str), v), (("parts" : Str), w), (("size" : Str), u)] = [(("name" : Str), v), (("parts" : Str), w), (("size" : Str), u), (("text" : Str), t)] := by rw [putF_ne n_nt, putF_ne n_pt, putF_ne n_st]; rfl
def TRUk (K : PySem.W.Frag) (P2 : Bool → Hp → Prop) : V → Hp → Prop := fun x H1 => ∃ k, TruV K x H1 k ∧ P2 k H1
def tTru (K : PySem.W.Frag) (ta : TE) : TT := fun σ H Q => ta σ H (TRUk K Q)
/-- truth of a tuple -/
theorem pt_truthK {X : Cx} {a : Expr} (K : PySem.W.Frag) (ha : PE X a ta) (h : X.K = K := by rfl) (he : ∀ whole, isTrue a X.env whole = (do let v ← whole; standAt a.pos; holding [v] (truthy v)) := by intro _; rfl) :
    PT X a (tTru K ta) := by subst h; exact pt_truth ha he
theorem u_tru {P2 : Bool → Hp → Prop} (h : ta σ H (TRUk K P2)) : tTru K ta σ H P2 := h
theorem u_truT {P2 : Bool → Hp → Prop} {p : Addr} {xs : List V} (hq : SqT K H p xs) (h : P2 (!xs.isEmpty) H) : TRUk K P2 (.ref p) H := ⟨_, .inr (.inl ⟨xs, hq, rfl⟩), h⟩
end
/-- the promise of Formula.__init__ -/
def spInit (K : PySem.W.Frag) (C : Addr) : Sp := fun vs H Q _ => ∃ (x dx p : Addr) (nm : List Nat) (ps : List Fm) (ws : List V), vs = [.ref x, .str (S nm), .ref p] ∧ H x = some (.ins C dx []) ∧ SqT K H p ws ∧ FormsAt K C H ps ws ∧ ps.length ≤ 2 ∧
  (Fm.mk nm ps).text.length ≤ 100000 ∧ ∀ H', Fr [x] H H' → FormAt K C H' (Fm.mk nm ps) x → Q .non H'
end Rp
namespace Rp
open PySem PySem.Spec PyProof.Rows L2 SX C8
theorem sum_cast (ps : List Fm) : ((1 + (ps.map Fm.size).sum : Nat) : Int) = 1 + (ps.map fun q => (q.size : Int)).sum := by
  induction ps with
  | nil => rfl
  | cons a r ih =>
    simp only [List.map_cons, List.sum_cons] at ih ⊢
    omega
theorem u_ifn' {A B : Prop} {xs : List V} (h1 : xs ≠ [] → A) (h2 : xs = [] → B) : if (!xs.isEmpty) = true then A else B := by
  cases xs with
  | nil => rw [if_neg (by simp)]; exact h2 rfl
  | cons a r => rw [if_pos (by simp)]; exact h1 (by simp)
end Rp
/-! RpLex: the words of a text, the machine that reads them; the written form of a formula is read back. Plain Lean. -/
namespace Rp
open PySem PySem.Spec PyProof.Rows L2 SX C8
/-! ### words -/
/-- how many capitals a text begins with -/
def capN : List Nat → Nat
  | [] => 0
  | c :: r => if isCap c then capN r + 1 else 0
/-- the first word of a text, its length -/
def lexOne : List Nat → Option Nat
  | [] => none
  | c :: r =>
    if isCap c then (if capN (c :: r) > 6 ∨ (c :: r)[capN (c :: r)]? ≠ some 40 then none else some (capN (c :: r) + 1))
    else if (c :: r).take 2 = [44, 32] then some 2
    else if c ∈ cLOW ++ cDIG ++ [41] then some 1
    else none
theorem lexOne_cons (c : Nat) (r : List Nat) : lexOne (c :: r) = if isCap c then (if capN (c :: r) > 6 ∨ (c :: r)[capN (c :: r)]? ≠ some 40 then none else some (capN (c :: r) + 1))
    else if (c :: r).take 2 = [44, 32] then some 2 else if c ∈ cLOW ++ cDIG ++ [41] then some 1 else none := rfl
def lexF : Nat → List Nat → Option (List (List Nat))
  | 0, _ => none
  | _ + 1, [] => some []
  | k + 1, c :: r => (lexOne (c :: r)).bind fun n => (lexF k ((c :: r).drop n)).map ((c :: r).take n :: ·)
def lex (a : List Nat) : Option (List (List Nat)) := lexF (a.length + 1) a
theorem capN_le : ∀ a : List Nat, capN a ≤ a.length
  | [] => Nat.le_refl _
  | c :: r => by
    unfold capN
    have := capN_le r
    split <;> simp <;> omega
theorem lexOne_pos {a : List Nat} {n : Nat} (h : lexOne a = some n) : 0 < n ∧ n ≤ a.length := by
  cases a with
  | nil => cases h
  | cons c r =>
    rw [lexOne_cons] at h
    by_cases h1 : isCap c
    · rw [if_pos h1] at h
      split at h
      · cases h
      · rename_i h2
        cases h
        refine ⟨by omega, ?_⟩
        have h3 : (c :: r)[capN (c :: r)]? = some 40 := Classical.byContradiction fun q => h2 (.inr q)
        exact (List.getElem?_eq_some_iff.mp h3).1
    · rw [if_neg h1] at h
      by_cases h2 : (c :: r).take 2 = [44, 32]
      · rw [if_pos h2] at h
        cases h
        have := congrArg List.length h2
        rw [List.length_take] at this
        simp only [List.length_cons, List.length_nil] at this ⊢
        omega
      · rw [if_neg h2] at h
        split at h
        · cases h; simp
        · cases h
theorem lexF_more : ∀ {k : Nat} {a : List Nat} {m : Nat}, a.length < k → a.length < m → lexF k a = lexF m a
  | 0, _, _, h, _ => absurd h (Nat.not_lt_zero _)
  | _ + 1, _, 0, _, h => absurd h (Nat.not_lt_zero _)
  | _ + 1, [], _ + 1, _, _ => rfl
  | k + 1, c :: r, m + 1, h, h' => by
    unfold lexF
    cases e : lexOne (c :: r) with
    | none => rfl
    | some n =>
      have := lexOne_pos e
      simp only [Option.bind_some]
      have hl : ((c :: r).drop n).length = (c :: r).length - n := List.length_drop
      have l1 : (c :: r).length = r.length + 1 := rfl
      rw [lexF_more (k := k) (m := m) (by omega) (by omega)]
theorem lex_nil : lex [] = some [] := rfl
theorem lex_step {a : List Nat} (h : a ≠ []) : lex a = (lexOne a).bind fun n => (lex (a.drop n)).map (a.take n :: ·) := by
  cases a with
  | nil => exact absurd rfl h
  | cons c r =>
    show lexF ((c :: r).length + 1) (c :: r) = _
    unfold lexF
    cases e : lexOne (c :: r) with
    | none => rfl
    | some n =>
      have := lexOne_pos e
      simp only [Option.bind_some]
      have hl : ((c :: r).drop n).length = (c :: r).length - n := List.length_drop
      have l1 : (c :: r).length = r.length + 1 := rfl
      rw [lexF_more (k := (c :: r).length) (m := ((c :: r).drop n).length + 1) (by omega) (by omega)]
      rfl
/-- a word at the front -/
theorem lex_app {w a : List Nat} (h : lexOne (w ++ a) = some w.length) (hw : w ≠ []) : lex (w ++ a) = (lex a).map (w :: ·) := by
  rw [lex_step (by simp [hw]), h, Option.bind_some]
  simp
/-! ### the machine -/
/-- the open operators, the innermost first, each with its parts so far; the formula that is done -/
abbrev PSt := List (List Nat × List Fm) × Option Fm
def pstep : PSt → List Nat → Option PSt
  | (fr, none), w => if w.getLast? = some 40 then some ((w.dropLast, []) :: fr, none)
      else if w.length = 1 ∧ w.all (fun c => decide (c ∈ cLOW ++ cDIG)) = true then some (fr, some (.leaf w)) else none
  | ([], some _), _ => none
  | ((n, ps) :: fr, some d), w => if w = [41] then some (fr, some (Fm.mk n (ps ++ [d])))
      else if w ≠ [44, 32] ∨ (ps ++ [d]).length = 2 then none else some ((n, ps ++ [d]) :: fr, none)
theorem pstep_none (fr : List (List Nat × List Fm)) (w : List Nat) : pstep (fr, none) w = if w.getLast? = some 40 then some ((w.dropLast, []) :: fr, none)
      else if w.length = 1 ∧ w.all (fun c => decide (c ∈ cLOW ++ cDIG)) = true then some (fr, some (.leaf w)) else none := rfl
def prun : PSt → List (List Nat) → Option PSt
  | s, [] => some s
  | s, w :: ws => (pstep s w).bind fun s' => prun s' ws
theorem prun_app (s : PSt) (ws us : List (List Nat)) : prun s (ws ++ us) = (prun s ws).bind fun s' => prun s' us := by
  induction ws generalizing s with
  | nil => rfl
  | cons w ws ih =>
    show (pstep s w).bind (fun s' => prun s' (ws ++ us)) = ((pstep s w).bind fun s' => prun s' ws).bind fun s' => prun s' us
    cases pstep s w with
    | none => rfl
    | some s' => exact ih s'
/-- what a list of words is read as -/
def parseW (ws : List (List Nat)) : Option Fm := match prun ([], none) ws with
  | some ([], some d) => some d
  | _ => none
/-- what a text is read as -/
def parse (a : List Nat) : Option Fm := parseW ((lex a).getD [])
/-! ### the words of a written form -/
def Fm.words : Fm → List (List Nat)
  | .leaf n => [n]
  | .one n a => (n ++ [40]) :: (a.words ++ [[41]])
  | .two n a b => (n ++ [40]) :: (a.words ++ [44, 32] :: (b.words ++ [[41]]))
theorem cap_not_low {c : Nat} (h : isLow c ∨ isDig c) : ¬ isCap c := by unfold isLow isDig isCap at *; omega
theorem lexOne_leaf {c : Nat} {a : List Nat} (h : isLow c ∨ isDig c) : lexOne (c :: a) = some 1 := by
  have h1 := cap_not_low h
  have h2 : ¬ (c :: a).take 2 = [44, 32] := fun q => by
    have : c = 44 := by
      have := congrArg List.head? q
      simpa using this
    subst this
    unfold isLow isDig at h
    omega
  have h3 : c ∈ cLOW ++ cDIG ++ [41] := by
    rcases h with h | h
    · simp [mem_low.mpr h]
    · simp [mem_dig.mpr h]
  rw [lexOne_cons]
  rw [if_neg h1, if_neg h2, if_pos h3]
theorem capN_app : ∀ {n : List Nat} {a : List Nat}, (∀ c ∈ n, isCap c) → capN (n ++ 40 :: a) = n.length
  | [], _, _ => by
    show (if isCap 40 then _ else 0) = 0
    rw [if_neg (by decide)]
  | c :: r, a, h => by
    show (if isCap c then capN (r ++ 40 :: a) + 1 else 0) = r.length + 1
    rw [if_pos (h c (by simp)), capN_app fun d hd => h d (by simp [hd])]
theorem lexOne_open {n a : List Nat} (h : NameOk n) : lexOne (n ++ 40 :: a) = some (n.length + 1) := by
  have hc := capN_app (a := a) h.caps
  cases n with
  | nil => exact absurd h.pos (by simp)
  | cons c r =>
    have h1 : isCap c := h.caps c (by simp)
    show lexOne (c :: (r ++ 40 :: a)) = _
    rw [lexOne_cons]
    rw [if_pos h1]
    have hc' : capN (c :: (r ++ 40 :: a)) = (c :: r).length := hc
    rw [hc', if_neg]
    intro q
    rcases q with q | q
    · exact absurd h.six (by omega)
    · refine q ?_
      show ((c :: r) ++ 40 :: a)[(c :: r).length]? = some 40
      rw [List.getElem?_append_right (Nat.le_refl _)]
      simp
theorem lexOne_close (a : List Nat) : lexOne (41 :: a) = some 1 := by
  rw [lexOne_cons]
  rw [if_neg (by decide), if_neg (by intro q; have := congrArg List.head? q; simp at this), if_pos (by decide)]
theorem lexOne_comma (a : List Nat) : lexOne (44 :: 32 :: a) = some 2 := by
  rw [lexOne_cons]
  rw [if_neg (by decide), if_pos (by rfl)]
theorem lex_text : ∀ {t : Fm} {a : List Nat}, t.Ok → lex (t.text ++ a) = (lex a).map (t.words ++ ·)
  | .leaf n, a, ⟨c, e, h⟩ => by
    subst e
    exact lex_app (w := [c]) (lexOne_leaf h) (by simp)
  | .one n x, a, ⟨hn, hx⟩ => by
    have e : (Fm.one n x).text ++ a = (n ++ [40]) ++ (x.text ++ ([41] ++ a)) := by simp [Fm.text]
    rw [e, lex_app (by rw [List.append_assoc]; simpa using lexOne_open hn) (by simp), lex_text hx, lex_app (w := [41]) (lexOne_close a) (by simp)]
    cases lex a <;> simp [Fm.words]
  | .two n x y, a, ⟨hn, hx, hy⟩ => by
    have e : (Fm.two n x y).text ++ a = (n ++ [40]) ++ (x.text ++ ([44, 32] ++ (y.text ++ ([41] ++ a)))) := by simp [Fm.text]
    rw [e, lex_app (by rw [List.append_assoc]; simpa using lexOne_open hn) (by simp), lex_text hx, lex_app (w := [44, 32]) (lexOne_comma _) (by simp), lex_text hy, lex_app (w := [41]) (lexOne_close a) (by simp)]
    cases lex a <;> simp [Fm.words]
theorem pstep_open {n : List Nat} {fr : List (List Nat × List Fm)} : pstep (fr, none) (n ++ [40]) = some ((n, []) :: fr, none) := by
  rw [pstep_none]
  rw [if_pos (by simp)]
  simp
theorem prun_words : ∀ {t : Fm} {fr : List (List Nat × List Fm)} {ws : List (List Nat)}, t.Ok → prun (fr, none) (t.words ++ ws) = prun (fr, some t) ws
  | .leaf n, fr, ws, ⟨c, e, h⟩ => by
    subst e
    show (pstep (fr, none) [c]).bind _ = _
    have h1 : pstep (fr, none) [c] = some (fr, some (.leaf [c])) := by
      rw [pstep_none]
      rw [if_neg, if_pos]
      · refine ⟨rfl, ?_⟩
        rcases h with h | h
        · simp [mem_low.mpr h]
        · simp [mem_dig.mpr h]
      · intro q
        have : c = 40 := by simpa using q
        subst this
        unfold isLow isDig at h
        omega
    rw [h1]
    rfl
  | .one n x, fr, ws, ⟨hn, hx⟩ => by
    have e : (Fm.one n x).words ++ ws = (n ++ [40]) :: (x.words ++ ([41] :: ws)) := by simp [Fm.words]
    rw [e]
    show (pstep (fr, none) (n ++ [40])).bind _ = _
    rw [pstep_open, Option.bind_some, prun_words hx]
    rfl
  | .two n x y, fr, ws, ⟨hn, hx, hy⟩ => by
    have e : (Fm.two n x y).words ++ ws = (n ++ [40]) :: (x.words ++ ([44, 32] :: (y.words ++ ([41] :: ws)))) := by simp [Fm.words]
    rw [e]
    show (pstep (fr, none) (n ++ [40])).bind _ = _
    rw [pstep_open, Option.bind_some, prun_words hx]
    show (pstep ((n, []) :: fr, some x) [44, 32]).bind _ = _
    have h1 : pstep ((n, []) :: fr, some x) [44, 32] = some ((n, [x]) :: fr, none) := rfl
    rw [h1, Option.bind_some, prun_words hy]
    rfl
/-- THE READ-BACK -/
theorem parse_text {t : Fm} (h : t.Ok) : parse t.text = some t := by
  have h1 : lex t.text = some t.words := by
    have := lex_text (a := []) h
    rw [List.append_nil, lex_nil] at this
    simpa using this
  unfold parse parseW
  rw [h1]
  have h2 := prun_words (fr := []) (ws := []) h
  rw [List.append_nil] at h2
  simp only [Option.getD_some]
  rw [h2]
  rfl
theorem lex_of_text {t : Fm} (h : t.Ok) : lex t.text = some t.words := by
  have := lex_text (a := []) h
  rw [List.append_nil, lex_nil] at this
  simpa using this
end Rp
namespace Rp
open PySem PySem.Spec PyProof.Rows L2 SX C8
def spWords : Sp := fun vs H Q _ => ∃ (a : List Nat), vs = [.str (S a)] ∧ a.length ≤ 100000 ∧ ∀ (q : Addr) (H' : Hp), Fr [] H H' → H q = none → H' q = some (.lst (vS ((lex a).getD []))) → Q (.ref q) H'
theorem u_words {H : Hp} {Q : VK} {E : XK} {a : List Nat} (h1 : a.length ≤ 100000) (h : ∀ (q : Addr) (H' : Hp), Fr [] H H' → Kp H H' → H q = none → H' q = some (.lst (vS ((lex a).getD []))) → Q (.ref q) H') : spWords ([.str (S a)] ++ []) H Q E :=
  ⟨a, rfl, h1, fun q H' f => h q H' f (.of_same f.same)⟩
theorem drop_cons {a : List Nat} {s : Nat} (h : s < a.length) : ∃ c, a[s]? = some c ∧ a.drop s = c :: a.drop (s + 1) := ⟨a[s], by simp [h], List.drop_eq_getElem_cons h⟩
theorem capN_drop_cap {a : List Nat} {s c : Nat} (h : a.drop s = c :: a.drop (s + 1)) (hc : isCap c) : capN (a.drop s) = capN (a.drop (s + 1)) + 1 := by
  rw [h]; exact if_pos hc
theorem capN_drop_not {a : List Nat} {s c : Nat} (h : a.drop s = c :: a.drop (s + 1)) (hc : ¬ isCap c) : capN (a.drop s) = 0 := by
  rw [h]; exact if_neg hc
theorem atI_natN {a : List Nat} {j c : Nat} (h : a[j]? = some c) : atI a (j : Int) = some c := atI_nat h
theorem cutL_nat (a : List Nat) (i j : Nat) : cutL a (some (i : Int)) (some (j : Int)) = (a.drop i).take (j - i) := by
  unfold cutL
  rw [HT.sIx_nat, HT.sIx_nat]
  by_cases h1 : i ≤ a.length
  · rw [Nat.min_eq_left h1]
    by_cases h2 : j ≤ a.length
    · rw [Nat.min_eq_left h2]
    · rw [Nat.min_eq_right (by omega)]
      have l1 : (a.drop i).length = a.length - i := List.length_drop
      rw [List.take_of_length_le (l := a.drop i) (i := a.length - i) (by omega), List.take_of_length_le (l := a.drop i) (i := j - i) (by omega)]
  · rw [Nat.min_eq_right (b := a.length) (a := i) (by omega), List.drop_eq_nil_of_le (as := a) (i := a.length) (by omega), List.drop_eq_nil_of_le (as := a) (i := i) (by omega)]
    simp
end Rp
namespace Rp
open PySem PySem.Spec PyProof.Rows L2 SX C8
theorem cutL_one (a : List Nat) (e : Nat) : cutL a (some (e : Int)) (some ((e : Int) + 1)) = (a[e]?).toList := by
  rw [show ((e : Int) + 1) = ((e + 1 : Nat) : Int) from rfl, cutL_nat, show e + 1 - e = 1 by omega, List.take_one, List.head?_drop]
theorem cutL_two (a : List Nat) (e : Nat) : cutL a (some (e : Int)) (some ((e : Int) + 2)) = (a.drop e).take 2 := by
  rw [show ((e : Int) + 2) = ((e + 2 : Nat) : Int) from rfl, cutL_nat, show e + 2 - e = 2 by omega]
end Rp
/-! RpLex2: what words are; sizes along the machine's run. -/
namespace Rp
open PySem PySem.Spec PyProof.Rows L2 SX C8
/-- the three kinds of words -/
def WordOk (w : List Nat) : Prop := (∃ c, w = [c] ∧ c ∈ cLOW ++ cDIG ++ [41]) ∨ w = [44, 32] ∨ ∃ n, NameOk n ∧ w = n ++ [40]
theorem capN_caps : ∀ a : List Nat, ∀ c ∈ a.take (capN a), isCap c
  | [], c, h => by simp [capN] at h
  | d :: r, c, h => by
    unfold capN at h
    by_cases hd : isCap d
    · rw [if_pos hd, List.take_succ_cons] at h
      rcases List.mem_cons.mp h with e | e
      · rw [e]; exact hd
      · exact capN_caps r c e
    · rw [if_neg hd] at h; simp at h
theorem lexOne_word {a : List Nat} {n : Nat} (h : lexOne a = some n) : WordOk (a.take n) := by
  cases a with
  | nil => cases h
  | cons c r =>
    rw [lexOne_cons] at h
    by_cases h1 : isCap c
    · rw [if_pos h1] at h
      split at h
      · cases h
      · rename_i h2
        cases h
        have h3 : (c :: r)[capN (c :: r)]? = some 40 := Classical.byContradiction fun q => h2 (.inr q)
        have h4 : capN (c :: r) ≤ 6 := Nat.le_of_not_lt fun q => h2 (.inl q)
        have h5 := (List.getElem?_eq_some_iff.mp h3).1
        refine .inr (.inr ⟨(c :: r).take (capN (c :: r)), ⟨?_, ?_, capN_caps _⟩, ?_⟩)
        · rw [List.length_take]
          have : 0 < capN (c :: r) := by unfold capN; rw [if_pos h1]; omega
          omega
        · rw [List.length_take]; omega
        · rw [List.take_add_one, h3]; rfl
    · rw [if_neg h1] at h
      by_cases h2 : (c :: r).take 2 = [44, 32]
      · rw [if_pos h2] at h
        cases h
        exact .inr (.inl h2)
      · rw [if_neg h2] at h
        split at h
        · rename_i h3
          cases h
          exact .inl ⟨c, rfl, h3⟩
        · cases h
theorem lexF_words : ∀ {k : Nat} {a : List Nat} {ws : List (List Nat)}, lexF k a = some ws → ws.flatten = a ∧ ∀ w ∈ ws, WordOk w
  | 0, _, _, h => by cases h
  | _ + 1, [], _, h => by cases h; exact ⟨rfl, by simp⟩
  | k + 1, c :: r, ws, h => by
    have h' : (lexOne (c :: r)).bind (fun n => (lexF k ((c :: r).drop n)).map ((c :: r).take n :: ·)) = some ws := h
    cases e : lexOne (c :: r) with
    | none => rw [e] at h'; cases h'
    | some n =>
      rw [e, Option.bind_some] at h'
      cases e2 : lexF k ((c :: r).drop n) with
      | none => rw [e2] at h'; cases h'
      | some us =>
        rw [e2, Option.map_some] at h'
        cases h'
        obtain ⟨f, g⟩ := lexF_words e2
        refine ⟨by rw [List.flatten_cons, f, List.take_append_drop], fun w hw => ?_⟩
        rcases List.mem_cons.mp hw with q | q
        · rw [q]; exact lexOne_word e
        · exact g w q
theorem lex_words {a : List Nat} {ws : List (List Nat)} (h : lex a = some ws) : ws.flatten = a ∧ ∀ w ∈ ws, WordOk w := lexF_words h
theorem WordOk.ne {w : List Nat} (h : WordOk w) : w ≠ [] := by
  rcases h with ⟨c, rfl, _⟩ | rfl | ⟨n, _, rfl⟩ <;> simp
/-- the signs that a state has taken -/
def frLen : List (List Nat × List Fm) → Nat
  | [] => 0
  | (n, ps) :: fr => n.length + 1 + (ps.map fun p => p.text.length + 2).sum + frLen fr
def stLen : PSt → Nat
  | (fr, none) => frLen fr
  | (fr, some d) => frLen fr + d.text.length
/-- no frame has more than one part -/
def FrOk (fr : List (List Nat × List Fm)) : Prop := ∀ f ∈ fr, f.2.length ≤ 1
theorem joinL_texts (ps : List Fm) (d : Fm) : (TL.joinL [44, 32] ((ps ++ [d]).map Fm.text)).length = (ps.map fun p => p.text.length + 2).sum + d.text.length := by
  have h := joinL_len [44, 32] ((ps ++ [d]).map Fm.text) (by simp)
  simp only [List.map_append, List.map_cons, List.map_nil, List.sum_append, List.sum_cons, List.sum_nil, List.length_append, List.length_map, List.length_cons, List.length_nil, List.map_map] at h
  have h2 : (ps.map fun p => p.text.length + 2).sum = (ps.map ((fun x => x.length) ∘ Fm.text)).sum + 2 * ps.length := by
    induction ps with
    | nil => rfl
    | cons p r ih =>
      have ih := ih (by
        have := joinL_len [44, 32] ((r ++ [d]).map Fm.text) (by simp)
        simpa only [List.map_append, List.map_cons, List.map_nil, List.sum_append, List.sum_cons, List.sum_nil, List.length_append, List.length_map, List.length_cons, List.length_nil, List.map_map] using this)
      simp only [List.map_cons, List.sum_cons, ih, List.length_cons, Function.comp]
      omega
  simp only [List.map_append, List.map_cons, List.map_nil] at h ⊢
  omega
theorem pstep_len {s s' : PSt} {w : List Nat} (ok : FrOk s.1) (h : pstep s w = some s') : stLen s' = stLen s + w.length ∧ FrOk s'.1 := by
  obtain ⟨fr, dn⟩ := s
  cases dn with
  | none =>
    rw [pstep_none] at h
    split at h
    · rename_i h1
      cases h
      have hne : w ≠ [] := by intro q; rw [q] at h1; cases h1
      have hl : w.dropLast.length = w.length - 1 := List.length_dropLast
      have : 0 < w.length := List.length_pos_iff.mpr hne
      refine ⟨?_, fun f hf => ?_⟩
      · simp only [stLen, frLen, List.map_nil, List.sum_nil]; omega
      · rcases List.mem_cons.mp hf with q | q
        · rw [q]; simp
        · exact ok f q
    · split at h
      · rename_i h2
        cases h
        exact ⟨by simp [stLen, Fm.text], ok⟩
      · cases h
  | some d =>
    cases fr with
    | nil => cases h
    | cons f fr =>
      obtain ⟨n, ps⟩ := f
      have hp : ps.length ≤ 1 := ok (n, ps) (by simp)
      have h' : (if w = [41] then some (fr, some (Fm.mk n (ps ++ [d]))) else if w ≠ [44, 32] ∨ (ps ++ [d]).length = 2 then none else some ((n, ps ++ [d]) :: fr, none)) = some s' := h
      split at h'
      · rename_i h1
        cases h'
        refine ⟨?_, fun g hg => ok g (by simp [hg])⟩
        have e := (Fm.mk n (ps ++ [d])).text_parts (by rw [Fm.mk_parts (by simp; omega)]; simp)
        rw [Fm.mk_name, Fm.mk_parts (by simp; omega)] at e
        have e2 := congrArg List.length e
        simp only [List.length_append, List.length_cons, List.length_nil, joinL_texts] at e2
        simp only [stLen, frLen, h1, List.length_cons, List.length_nil]
        omega
      · split at h'
        · cases h'
        · rename_i h1 h2
          cases h'
          have h3 : w = [44, 32] := Classical.byContradiction fun q => h2 (.inl q)
          refine ⟨?_, fun g hg => ?_⟩
          · simp only [stLen, frLen, List.map_append, List.sum_append, List.map_cons, List.map_nil, List.sum_cons, List.sum_nil, h3, List.length_cons, List.length_nil]
            omega
          · rcases List.mem_cons.mp hg with q | q
            · rw [q]
              simp only [List.length_append, List.length_cons, List.length_nil]
              have : ¬ (ps ++ [d]).length = 2 := fun q => h2 (.inr q)
              simp at this
              omega
            · exact ok g (by simp [q])
theorem prun_len : ∀ {ws : List (List Nat)} {s s' : PSt}, FrOk s.1 → prun s ws = some s' → stLen s' = stLen s + ws.flatten.length ∧ FrOk s'.1
  | [], s, s', ok, h => by cases h; exact ⟨by simp, ok⟩
  | w :: ws, s, s', ok, h => by
    have h' : (pstep s w).bind (fun s' => prun s' ws) = some s' := h
    cases e : pstep s w with
    | none => rw [e] at h'; cases h'
    | some s1 =>
      rw [e, Option.bind_some] at h'
      obtain ⟨a, b⟩ := pstep_len ok e
      obtain ⟨c, d⟩ := prun_len b h'
      refine ⟨?_, d⟩
      rw [c, a, List.flatten_cons, List.length_append]
      omega
end Rp
/-! RpRead: the open frames of Formula.read in the heap; None tests; what else read needs. -/
namespace Rp
open PySem PySem.Spec PyProof.Rows L2 SX C8
/-- the open frames, the innermost first: their tuples, their lists of parts -/
inductive FrsAt (K : PySem.W.Frag) (C : Addr) (H : Hp) : List (List Nat × List Fm) → List V → List Addr → Prop
  | nil : FrsAt K C H [] [] []
  | cons {n : List Nat} {ps : List Fm} {fr : List (List Nat × List Fm)} {a l : Addr} {ws vs : List V} {ls : List Addr} : SqT K H a [.str (S n), .ref l] → H l = some (.lst ws) → FormsAt K C H ps ws → l ∉ ls → FrsAt K C H fr vs ls → FrsAt K C H ((n, ps) :: fr) (.ref a :: vs) (l :: ls)
section
variable {K : PySem.W.Frag} {C : Addr} {H H' : Hp} {fr : List (List Nat × List Fm)} {vs : List V} {ls : List Addr}
theorem FrsAt.mono (k : Kp H H') (h : FrsAt K C H fr vs ls) (f : ∀ l ∈ ls, ∀ o, H l = some o → H' l = some o) : FrsAt K C H' fr vs ls := by
  induction h with
  | nil => exact .nil
  | cons h1 h2 h3 h4 _ ih => exact .cons (k.sqT h1) (f _ (by simp) _ h2) (h3.mono k) h4 (ih fun l hl => f l (by simp [hl]))
theorem FrsAt.there (h : FrsAt K C H fr vs ls) : ∀ l ∈ ls, ∃ ws, H l = some (.lst ws) := by
  induction h with
  | nil => intro l hl; cases hl
  | cons h1 h2 h3 h4 _ ih =>
    intro l hl
    rcases List.mem_cons.mp hl with q | q
    · rw [q]; exact ⟨_, h2⟩
    · exact ih l q
theorem FrsAt.length (h : FrsAt K C H fr vs ls) : vs.length = fr.length := by
  induction h with
  | nil => rfl
  | cons _ _ _ _ _ ih => simp [ih]
theorem FrsAt.frame0 (h : FrsAt K C H fr vs ls) (f : Fr [] H H') : FrsAt K C H' fr vs ls := h.mono (.of_same f.same) fun l _ o e => f.go0 e
/-- another object is changed -/
theorem FrsAt.frame1 {a : Addr} (h : FrsAt K C H fr vs ls) (f : Fr [a] H H') (k : Kp H H') (n : a ∉ ls) : FrsAt K C H' fr vs ls := h.mono k fun l hl o e => f.go (nin1 fun q => n (q ▸ hl)) e
theorem FrsAt.notin {a : Addr} (h : FrsAt K C H fr vs ls) (e : H a = none) : a ∉ ls := fun q => by
  obtain ⟨ws, z⟩ := h.there a q
  rw [e] at z; cases z
/-- what is done: a Formula or None -/
def DnAt (K : PySem.W.Frag) (C : Addr) (H : Hp) : Option Fm → V → Prop
  | none, v => v = .non
  | some d, v => ∃ a, v = .ref a ∧ FormAt K C H d a
theorem DnAt.mono (k : Kp H H') {d : Option Fm} {v : V} (h : DnAt K C H d v) : DnAt K C H' d v := by
  cases d with
  | none => exact h
  | some d => obtain ⟨a, e, z⟩ := h; exact ⟨a, e, z.mono k⟩
end
/-! ### is None, is not None -/
def rIsN : R2 := fun x y H Q => y = .non ∧ Q (.bl (decide (x = .non))) H
theorem o_isN {X : Cx} : OpR X (compareOp .Is) rIsN := op_isN
def rNotN : R2 := fun x y H Q => y = .non ∧ Q (.bl (!decide (x = .non))) H
theorem o_notN {X : Cx} : OpR X (compareOp .IsNot) rNotN := op_notN
section
variable {H : Hp} {Q : VK} {K : PySem.W.Frag} {C : Addr}
theorem u_isN0 (h : Q (.bl true) H) : rIsN .non .non H Q := ⟨rfl, h⟩
theorem u_isN1 {a : Addr} (h : Q (.bl false) H) : rIsN (.ref a) .non H Q := ⟨rfl, h⟩
theorem u_notN0 (h : Q (.bl false) H) : rNotN .non .non H Q := ⟨rfl, h⟩
theorem u_notN1 {a : Addr} (h : Q (.bl true) H) : rNotN (.ref a) .non H Q := ⟨rfl, h⟩
theorem u_truL {P2 : Bool → Hp → Prop} {p : Addr} {xs : List V} (hq : SqL K H p xs) (h : P2 (!xs.isEmpty) H) : TRUk K P2 (.ref p) H := ⟨_, .inl ⟨xs, hq, rfl⟩, h⟩
/-- a word in the letters and digits -/
def rInW (z : List Nat) : R2 := fun x y H Q => ∃ a, WordOk a ∧ x = .str (S a) ∧ y = .str (S z) ∧ Q (.bl (decide (a.length = 1 ∧ a.all (fun c => decide (c ∈ z)) = true))) H
theorem not_found {a z : List Nat} {c : Nat} (h1 : c ∈ a) (h2 : c ∉ z) : (!(PySem.Builtin.Str.occurrences (S z) (S a) 0 (S z).length 1).isEmpty) = false := by
  cases q : (!(PySem.Builtin.Str.occurrences (S z) (S a) 0 (S z).length 1).isEmpty) with
  | false => rfl
  | true =>
    obtain ⟨i, hi, hs⟩ := (PySem.StrLaws.found_iff (S z) (S a)).mp q
    rw [PySem.StrLaws.subAt_eq] at hs
    have e : (z.drop i).take (S a).length = a := eq_of_beq hs
    exact absurd (List.mem_of_mem_drop (List.mem_of_mem_take (e ▸ h1))) h2
end
theorem o_inW {X : Cx} (z : List Nat) (hz : 40 ∉ z) (hz2 : 32 ∉ z) : OpR X (compareOp .In) (rInW z) := fun pins s σ H x y v u Q I rx ry h => by
  obtain ⟨a, hw, rfl, rfl, q⟩ := h
  refine op_in_str pins s σ H _ _ v u Q I rx ry ⟨S a, S z, rfl, rfl, ?_⟩
  have e : (!(PySem.Builtin.Str.occurrences (S z) (S a) 0 (S z).length 1).isEmpty) = decide (a.length = 1 ∧ a.all (fun c => decide (c ∈ z)) = true) := by
    rcases hw with ⟨c, rfl, _⟩ | rfl | ⟨n, hn, rfl⟩
    · rw [show S [c] = (⟨#[c]⟩ : Str) from rfl, PySem.StrLaws.found_one]
      simp
    · rw [not_found (c := 32) (by simp) hz2]
      simp
    · rw [not_found (c := 40) (by simp) hz]
      have hp := hn.pos
      cases n with
      | nil => simp at hp
      | cons d r => simp
  rw [e]
  exact q
theorem u_inW {H : Hp} {Q : VK} {a z : List Nat} (hw : WordOk a) (h : Q (.bl (decide (a.length = 1 ∧ a.all (fun c => decide (c ∈ z)) = true))) H) : rInW z (.str (S a)) (.str (S z)) H Q := ⟨a, hw, rfl, rfl, h⟩
theorem u_mkl {i : Nat} {C : Addr} {sp : Sp} {dvs : List V} {E : XK} {t : TA} {σ : L2.St} {H : Hp} {Q : VK} (e : σ[i]? = some (some (.ref C))) (h : tMake C sp dvs E t σ H Q) : tMakeL i C sp dvs E t σ H Q := ⟨e, h⟩
/-- making a formula: behind the arguments -/
def MKk (C : Addr) (sp : Sp) (dvs : List V) (E : XK) (Q : VK) : List V → Hp → Prop := fun vs H1 => ∀ x dx, H1 x = none → H1 dx = none → dx ≠ x →
  sp (.ref x :: (vs ++ dvs)) (upd (upd H1 dx (.own x)) x (.ins C dx [])) (fun v H2 => v = .non ∧ Q (.ref x) H2) E
theorem u_mk {C : Addr} {sp : Sp} {dvs : List V} {E : XK} {t : TA} {σ : L2.St} {H : Hp} {Q : VK} (h : t σ H (MKk C sp dvs E Q)) : tMake C sp dvs E t σ H Q := h
theorem mk_frame {H H' : Hp} {x dx C : Addr} (nx : H x = none) (nd : H dx = none) (f : Fr [x] (upd (upd H dx (.own x)) x (.ins C dx [])) H') : Fr [] H H' := fun b o _ e =>
  f b o (nin1 (ne_of_none e nx)) (by rw [upd_ne (ne_of_none e nx), upd_ne (ne_of_none e nd)]; exact e)
theorem mk_start {H : Hp} {x dx C : Addr} (nx : H x = none) (nd : H dx = none) : Fr [] H (upd (upd H dx (.own x)) x (.ins C dx [])) := fun b o _ e => by
  rw [upd_ne (ne_of_none e nx), upd_ne (ne_of_none e nd)]; exact e
/-- a leaf: one argument, the parts by default -/
theorem u_mkLeaf {K : PySem.W.Frag} {C d0 : Addr} {nm : List Nat} {E : XK} {H : Hp} {Q : VK} (h0 : ∀ H, SqT K H d0 []) (hl : nm.length ≤ 100000)
    (h : ∀ x H', Fr [] H H' → Kp H H' → H x = none → FormAt K C H' (.leaf nm) x → Q (.ref x) H') : MKk C (spInit K C) [.ref d0] E Q [.str (S nm)] H := fun x dx nx nd _ =>
  ⟨x, dx, d0, nm, [], [], rfl, upd_same, h0 _, .nil, by simp, by simpa [Fm.mk, Fm.text] using hl, fun H' f z => ⟨rfl, h x H' (mk_frame nx nd f) (.of_same (mk_frame nx nd f).same) nx z⟩⟩
/-- name and parts -/
theorem u_mkNode {K : PySem.W.Frag} {C p : Addr} {nm : List Nat} {ps : List Fm} {ws : List V} {E : XK} {H : Hp} {Q : VK} (hp : SqT K H p ws) (hf : FormsAt K C H ps ws) (h2 : ps.length ≤ 2) (hl : (Fm.mk nm ps).text.length ≤ 100000)
    (h : ∀ x H', Fr [] H H' → Kp H H' → H x = none → FormAt K C H' (Fm.mk nm ps) x → Q (.ref x) H') : MKk C (spInit K C) [] E Q [.str (S nm), .ref p] H := fun x dx nx nd _ =>
  have k : Kp H (upd (upd H dx (.own x)) x (.ins C dx [])) := .of_same (mk_start nx nd).same
  ⟨x, dx, p, nm, ps, ws, rfl, upd_same, k.sqT hp, hf.mono k, h2, hl, fun H' f z => ⟨rfl, h x H' (mk_frame nx nd f) (.of_same (mk_frame nx nd f).same) nx z⟩⟩
def spRead (K : PySem.W.Frag) (C : Addr) : Sp := fun vs H Q _ => ∃ (a : List Nat) (t : Fm), vs = [.ref C, .str (S a)] ∧ a.length ≤ 100000 ∧ parse a = some t ∧ ∀ (x : Addr) (H' : Hp), Fr [] H H' → FormAt K C H' t x → Q (.ref x) H'
end Rp
namespace Rp
open PySem PySem.Spec PyProof.Rows L2 SX C8
theorem atI_neg1 {a : List Nat} {c : Nat} (h : a.getLast? = some c) : atI a (-1) = some c := by
  obtain ⟨ys, rfl⟩ := List.getLast?_eq_some_iff.mp h
  exact atI_last _ _
theorem cutL_init (a : List Nat) : cutL a none (some (-1)) = a.dropLast := by
  unfold cutL
  rw [HT.sIx_none]
  have h : HT.sIx a.length a.length (some (-1)) = a.length - 1 := by
    show (if (-1 : Int) < 0 then ((-1 : Int) + (a.length : Int)).toNat else min (-1 : Int).toNat a.length) = _
    rw [if_pos (by decide)]
    omega
  rw [h, List.drop_zero, Nat.sub_zero, List.dropLast_eq_take]
theorem getLast_some {a : List Nat} (h : a ≠ []) : ∃ c, a.getLast? = some c := by
  cases e : a.getLast? with
  | none => exact absurd (List.getLast?_eq_none_iff.mp e) h
  | some c => exact ⟨c, rfl⟩
end Rp
namespace Rp
open PySem PySem.Spec PyProof.Rows L2 SX C8
/-- the run at its i-th word -/
theorem prun_at {ws : List (List Nat)} {s s1 s2 : PSt} {i : Nat} {w : List Nat} (h : prun s ws = some s2) (h1 : prun s (ws.take i) = some s1) (hw : ws[i]? = some w) :
    ∃ s3, pstep s1 w = some s3 ∧ prun s (ws.take (i + 1)) = some s3 := by
  have e : ws = ws.take i ++ w :: ws.drop (i + 1) := by
    obtain ⟨hi, e⟩ := List.getElem?_eq_some_iff.mp hw
    have e2 := List.drop_eq_getElem_cons hi
    rw [e] at e2
    rw [← e2, List.take_append_drop]
  have h2 : prun s (ws.take i ++ w :: ws.drop (i + 1)) = some s2 := by rw [← e]; exact h
  rw [prun_app, h1, Option.bind_some] at h2
  have h3 : (pstep s1 w).bind (fun s' => prun s' (ws.drop (i + 1))) = some s2 := h2
  cases e3 : pstep s1 w with
  | none => rw [e3] at h3; cases h3
  | some s3 =>
    refine ⟨s3, rfl, ?_⟩
    rw [List.take_add_one, hw, Option.toList_some, prun_app, h1, Option.bind_some]
    show (pstep s1 w).bind (fun s' => prun s' []) = some s3
    rw [e3]
    rfl
end Rp
namespace Rp
open PySem PySem.Spec PyProof.Rows L2 SX C8
theorem fr_le_len : ∀ fr : List (List Nat × List Fm), fr.length ≤ frLen fr
  | [] => Nat.le_refl _
  | (n, ps) :: fr => by
    have := fr_le_len fr
    simp only [List.length_cons, frLen]
    omega
theorem flat_take_le {ws : List (List Nat)} (i : Nat) : (ws.take i).flatten.length ≤ ws.flatten.length := by
  have e : (ws.take i).flatten ++ (ws.drop i).flatten = ws.flatten := by rw [← List.flatten_append, List.take_append_drop]
  have := congrArg List.length e
  rw [List.length_append] at this
  omega
theorem flat_mem_le {ws : List (List Nat)} {w : List Nat} (h : w ∈ ws) : w.length ≤ ws.flatten.length := by
  induction ws with
  | nil => cases h
  | cons a r ih =>
    rw [List.flatten_cons, List.length_append]
    rcases List.mem_cons.mp h with q | q
    · rw [q]; omega
    · have := ih q; omega
end Rp
namespace Rp
open PySem PySem.Spec PyProof.Rows L2 SX C8
theorem u_nne {A B : Prop} {xs : List V} (h : xs ≠ []) (hB : B) : if (!!xs.isEmpty) = true then A else B := by
  cases xs with
  | nil => exact absurd rfl h
  | cons a r => rw [if_neg (by simp)]; exact hB
theorem u_nem {A B : Prop} {xs : List V} (h : xs = []) (hA : A) : if (!!xs.isEmpty) = true then A else B := by
  subst h
  rw [if_pos (by rfl)]; exact hA
end Rp
/-! RpOwn: ==, != and < of instances by their own defs; the walk over an instance by its own __iter__ that hands iter(a tuple) on. -/
namespace Rp
open PySem PySem.Spec PyProof.Rows L2 SX C8
/-! ### own == and <, and != by default -/
section
variable {X : Cx} {K : PySem.W.Frag} {C g : Addr} {n : Nat} {sp : Sp}
/-- the two operands of an own comparison, its promise -/
def rOwnI (C : Addr) (sp : Sp) : R2 := fun x y H Q => ∃ a dx fs b dy gs, x = .ref a ∧ y = .ref b ∧ H a = some (.ins C dx fs) ∧ H b = some (.ins C dy gs) ∧ sp [x, y] H Q C8.E0
theorem o_own {op : CmpOp} (hop : ∀ a b, compareOp op a b = richCompare op a b) (hs : PySem.W.findIn X.K (.ref C) (cmpInfo op).2.1 = some (some (.ref g))) (hf : PySem.W.isFn X.K (.ref g) = true)
    (F : FnR X.prog X.w X.K X.mg X.base C8.CX0 n g sp) (hr : Room n X.A) : OpR X (compareOp op) (rOwnI C sp) := fun pins s σ H x y v u Q I rx ry h => by
  obtain ⟨a, dx, fs, b, dy, gs, rfl, rfl, ha, hb, q⟩ := h
  cases (show v = Value.ref a from rx); cases (show u = Value.ref b from ry)
  obtain ⟨m1, O1, _⟩ := ins_get I.hok ha; obtain ⟨d1, J1, _⟩ := O1.look
  obtain ⟨m2, O2, _⟩ := ins_get I.hok hb; obtain ⟨d2, J2, _⟩ := O2.look
  obtain ⟨m, hF⟩ := I.fr
  rw [hop]
  refine PySem.W.cmp_K (tb := .ref C) hr.units0 hF I.ok.mod.kin J1 J2.type (by simp [PySem.W.notFirst]) hs hf (wpAny_mono (wpAny_call (run_fnR (us := [.ref a, .ref b]) (vs := [.ref a, .ref b]) F hr C8.pass0 I (.cons rfl (.cons rfl .nil)) q)) (fun w s' z => ?_) fun _ _ e => e)
  obtain ⟨z', H', I', rz, qz⟩ := z
  exact SlX.cmpback rz ⟨z', H', I', rz, qz⟩
/-- != of two instances whose class has an own == only -/
def rOwnNe (C : Addr) (sp : Sp) : R2 := fun x y H Q => ∃ a dx fs b dy gs, x = .ref a ∧ y = .ref b ∧ H a = some (.ins C dx fs) ∧ H b = some (.ins C dy gs) ∧ sp [x, y] H (fun z H' => ∃ k, z = .bl k ∧ Q (.bl (!k)) H') C8.E0
theorem ne_slot : Slot "object" "__ne__" "object.__ne__" := PySem.F.cmp_object.ne
theorem ifB_ne {M : Model} {A : Around} {E : Value → Shared → Prop} {s : Shared} {K : PySem.W.Frag} {x C : Addr} {ox : Obj} {od : Option Obj} {args : List Value} {Q : Option Value → Shared → Prop} (kin : K.In s.heap) (J : PySem.W.InstAt s.heap x ox C od)
    (hs : PySem.W.findIn K (.ref C) "__ne__" = some (some (.builtin "object.__ne__"))) (h : wpAny M A (call (.builtin "object.__ne__") (.ref x :: args)) (fun v => Q (some v)) E s) : wpAny M A (callSpecialIfBound? (.ref x) "__ne__" args) Q E s := by
  have tail : wpAny M A ((call (.builtin "object.__ne__") ([.ref x] ++ args)) >>= fun v => pure (some v)) Q E s := wpAny_bind (wpAny_mono h (fun _ _ q => wpAny_pure q) fun _ _ q => q)
  simp only [callSpecialIfBound?, bindSpecialIfBound?]
  refine wpAny_holding (wpAny_bind (wpAny_bind (wpAny_bind (J.type.here ((PySem.W.looks_findIn kin hs).here (wpAny_bind (wpAny_askSetting (wpAny_ite ?_))))))))
  have both := (PySem.F.cmp_object.ne.bind (.ref x) : bindSpecial (.builtin "object.__ne__") (.ref x) = _)
  split
  · exact wpAny_bind (wpAny_of_eq both (wpAny_pure tail))
  · exact wpAny_tryCatch (wpAny_bind (wpAny_of_eq both (wpAny_pure tail)))
theorem o_ownNe (hn : PySem.W.findIn X.K (.ref C) "__ne__" = some (some (.builtin "object.__ne__"))) (hm : PySem.W.mroIn X.K C (.type "object") = some true) (hs : PySem.W.findIn X.K (.ref C) "__eq__" = some (some (.ref g))) (hf : PySem.W.isFn X.K (.ref g) = true)
    (F : FnR X.prog X.w X.K X.mg X.base C8.CX0 n g sp) (hr : Room (n + 1) X.A) : OpR X (compareOp .NotEq) (rOwnNe C sp) := fun pins s σ H x y v u Q I rx ry h => by
  obtain ⟨a, dx, fs, b, dy, gs, rfl, rfl, ha, hb, q⟩ := h
  cases (show v = Value.ref a from rx); cases (show u = Value.ref b from ry)
  obtain ⟨m1, O1, _⟩ := ins_get I.hok ha; obtain ⟨d1, J1, _⟩ := O1.look
  obtain ⟨m2, O2, _⟩ := ins_get I.hok hb; obtain ⟨d2, J2, _⟩ := O2.look
  have e1 : Env0 X.prog X.w X.K X.mg X.base X.A.in1 X.stack s H := I.env0.in1
  have run : wpAny (model X.prog X.w) X.A.in1 (call (.ref g) [.ref a, .ref b]) (fun v s' => ∃ k, v = .bool k ∧ EP X pins σ Q (.bool (!k)) s') X.xe s := by
    refine wpAny_call (codeAny_mono (F X.A.in1 X.stack s H [.ref a, .ref b] [.ref a, .ref b] _ C8.E0 hr.in1 e1 (.cons rfl (.cons rfl .nil)) q) fun r s' hq => ?_)
    cases r with
    | error e => exact hq.elim
    | ok fl =>
      cases fl with
      | ret w =>
        obtain ⟨z, H', I', rz, k, ez, qz⟩ := I.after hq
        subst ez
        cases (show w = Value.bool k from rz)
        exact ⟨k, rfl, .bl (!k), H', I', rfl, qz⟩
      | next => exact hq.elim
      | brk => exact hq.elim
      | cont => exact hq.elim
  have body : wpAny (model X.prog X.w) X.A.in1 (Builtin.«object.__ne__» ⟨[.ref a, .ref b], []⟩) (fun fin s' => ∃ v, fin = .done (.ret v) ∧ v ≠ .notImplemented ∧ EP X pins σ Q v s') X.xe s := by
    unfold Builtin.«object.__ne__»
    repeat (first
      | with_reducible refine wpAny_cRoomFor hr.in1.units0 ?_
      | (refine wpAny_bind (m := callSpecialIfBound? (.ref a) (Str.ofString "__eq__") [.ref b]) (PySem.W.ifBound_K I.kIn J1 hs hf (wpAny_mono run (fun r s' hr' => ?_) fun _ _ e => e)))
      | wp_step)
    obtain ⟨k, rfl, hq⟩ := hr'
    refine wpAny_bind (m := truthy (.bool k)) (wpAny_truthy_bool ?_)
    exact wpAny_pure ⟨_, rfl, (fun e => nomatch e), hq⟩
  have one : wpAny (model X.prog X.w) X.A (tryCompare (.ref a) "__ne__" (.ref b)) (fun r s' => ∃ v, r = some v ∧ EP X pins σ Q v s') X.xe s := by
    unfold tryCompare
    refine wpAny_bind (ifB_ne I.kIn J1 hn (wpAny_call (codeAny_call_builtin PySem.F.cmp_object.ne.plain PySem.F.cmpEntry_ne (PySem.W.check_slot PySem.F.cmpKind_ne PySem.F.cmpSplit_ne (J1.type.andThen (PySem.W.looks_mroIn I.kIn hm)) (PySem.F.cmpArgs_ne _ _) (wpAny_mono body (fun fin s' hq => ?_) fun _ _ e => e)))))
    obtain ⟨v, rfl, hv, hq⟩ := hq
    show wpAny _ _ _ _ _ _
    cases v <;> first | exact absurd rfl hv | exact wpAny_pure ⟨_, rfl, hq⟩
  show wpAny (model X.prog X.w) X.A (richCompare .NotEq (.ref a) (.ref b)) (EP X pins σ Q) X.xe s
  unfold richCompare
  simp only [PySem.oneThing_ref, PySem.cmpInfo_NotEq]
  refine wpAny_holding (wpAny_bind (wpAny_cRoomFor hr.units0 (wpAny_bind (J1.type.here (wpAny_bind (J2.type.here ?_))))))
  split
  · rename_i q; simp at q
  · refine wpAny_bind (wpAny_pure ?_)
    simp only [Bool.false_eq_true, if_false]
    refine wpAny_bind (wpAny_mono one (fun r s' z => ?_) fun _ _ e => e)
    obtain ⟨v, rfl, hq⟩ := z
    exact wpAny_pure hq
end
end Rp
namespace Rp
open PySem PySem.Spec PyProof.Rows L2 SX C8
/-! ### iter(a tuple), own __iter__ -/
abbrev tiObj (l : Addr) (i : Nat) : Obj := { cls := .type "tuple_iterator", data := .fields #[.ref l, .int i 0] }
/-- at it an iterator over the tuple at l, at its start -/
def TiO (l it : Addr) : HO := .ext fun h => h.get? it = some (tiObj l 0)
theorem tiO_ok {P : Program} {w : World} {H : Hp} {h : Heap} {l it : Addr} (e : h.get? it = some (tiObj l 0)) : ObjOk P w H h it (TiO l it) := ⟨e, ⟨_, e⟩, fun _ _ q k => k _ q⟩
section
variable {prog : Program} {w : World} {A : Around} {E : Value → Shared → Prop} {s : Shared} {l : Addr} {items : Array Value}
theorem call_itT {Q : Value → Shared → Prop} (hl : s.heap.IsTuple l items) (h : Q (.ref s.heap.objs.size) { s with heap := s.heap.push (tiObj l 0) }) : wpAny (model prog w) A (call (.builtin "iter") [.ref l]) Q E s := by
  refine Calls.call_function_entry (by decide +kernel) (by decide +kernel) PySem.W.kdk_entry_iter (PySem.W.kdk_args_iter _) ?_
  unfold Builtin.«iter»
  refine wpAny_bind (m := someArgs "iter" 1 2 _) (wpAny_of_eq (a := [Value.ref l]) (by first | rfl | kernel_rfl!) ?_)
  exact wpAny_bind (m := pyIter (.ref l)) (wpAny_pyIter_tuple hl (wpAny_pure ⟨_, rfl, h⟩))
end
/-- iter(x), x a tuple; n: what was made when the body began -/
def rIterT (K : PySem.W.Frag) (n : Nat) : List V → Hp → VK → Prop := fun xs H Q => ∃ l zs, xs = [V.ref l] ∧ SqT K H l zs ∧ ∀ it, H it = none → n ≤ it → Q (.ref it) (upd H it (TiO l it))
theorem k_iterT {X : Cx} (K : PySem.W.Frag) (n : Nat) (hK : X.K = K := by rfl) (hn : X.s_0.heap.objs.size = n := by rfl) : CallR X (.builtin "iter") (rIterT K n) := by
  subst hK hn
  intro pins s σ H xs us Q I r h
  obtain ⟨l, zs, rfl, hq, q⟩ := h
  obtain ⟨u, rfl, ru⟩ := vals1 r
  cases ru
  obtain ⟨its, rv, pl, hz⟩ := I.tuple hq
  refine call_itT (show s.heap.IsTuple l its.toArray from pl) ?_
  exact ⟨.ref s.heap.objs.size, _, I.laid (t' := s.toks) (fun b u e => Heap.get?_push_of_some _ e) (Nat.le_refl _) (tiO_ok (Heap.get?_push_size _ rfl)), rfl, q _ (I.hok.fresh (Nat.le_refl _)) I.sz⟩
theorem u_iterT {K : PySem.W.Frag} {n : Nat} {H : Hp} {Q : VK} {l : Addr} {zs : List V} (hq : SqT K H l zs) (h : ∀ it, H it = none → n ≤ it → Q (.ref it) (upd H it (TiO l it))) : rIterT K n [.ref l] H Q := ⟨l, zs, rfl, hq, h⟩
/-- one run of a def from a state that is told: the promise may speak of it -/
theorem run_told {P : Program} {w : World} {K : PySem.W.Frag} {mg : Str → Option Value} {base : Heap} {k : Nat} {x qual : Str} {st : Stmt} {f : Addr} {fd : FuncData} {N ps : List Str} (F : C8.Fun K x qual st f fd) (sco : FnScope N ps (fnScope st)) (hb : Binds K fd ps [])
    {A : Around} {outer : List Env} {s : Shared} {H : Hp} {us : List Value} {vs : List V} {Q : VK} (hr : Room (k + 1) A) (e0 : Env0 P w K mg base A outer s H) (r : Vals vs us) (hl : vs.length = ps.length)
    (hbody : ∀ cdv, Room k (A.deeper (envOfC qual (fnScope st) s.heap.objs.size f cdv)) → ∃ t, PSs (cxOf C8.CX0 P w K mg base N qual (fnScope st) f cdv A outer s H C8.E0).nox (fnBody st) t ∧ t { nx := fun _ H' => Q .non H', rt := Q } (L2.start N vs) H) :
    codeAny (model P w) A (.call (.ref f) ⟨us, []⟩) (CR C8.CX0 outer P w H s Q C8.E0) s := by
  obtain ⟨oc, od, dV, kV, doc, pm, an, cdv, ct, osl, rfl, lk, hcd⟩ := F.ex
  have kin : K.In s.heap := e0.mod.kin.keeps fun b o e => (e0.bs b o e).1
  have nolim : s.heap.NoLimit := e0.mod.nolimit.keeps fun b o e => (e0.bs b o e).1
  have bnd := hb s us kin (by simpa using r.length.symm.trans hl)
  rw [List.append_nil] at bnd
  refine codeAny_call_function hr.depth (kin _ _ lk) rfl sco.co sco.gen rfl (PySem.W.codeRec_of kin hcd) (bnd _ _ _ _ (wpAny_newFunctionEnv_cells sco.kind (fun z hz => ?_) fun env he s1 x => ?_))
  · rcases sco.par z.1 (List.of_mem_zip hz).1 with q | q
    · exact Or.inl q
    · exact Or.inr ⟨q, PySem.W.cellsFrom_some _ _ _ (Or.inl q)⟩
  · subst he
    obtain ⟨t, pt, tq⟩ := hbody cdv (hr.deeper _)
    refine ⟨nolim.keeps x.toInCall.keep, codeAny_func (wpAny_mono (pt.nox.run [] s1 _ H _ (inv_start sco hr.hd e0 hl r x) tq) (fun fl s' hs => ?_) fun e s' hs => hs)⟩
    cases fl with
    | ret u => obtain ⟨v, σ', H', J, rv, q⟩ := hs; exact ⟨v, H', J.os, J.bare, J.base, J.hok, rv, q⟩
    | next => obtain ⟨σ', H', J, q⟩ := hs; exact ⟨.non, H', J.os, J.bare, J.base, J.hok, rfl, q⟩
    | brk => obtain ⟨_, _, _, q⟩ := hs; exact q.elim
    | cont => obtain ⟨_, _, _, q⟩ := hs; exact q.elim
/-- what an own __iter__ promises: an iterator over the tuple in a field, made behind the call -/
def FnIt (P : Program) (w : World) (K : PySem.W.Frag) (mg : Str → Option Value) (base : Heap) (k : Nat) (f C : Addr) (fld : Str) : Prop :=
  ∀ (A : Around) (outer : List Env) (s : Shared) (H : Hp) (a dx p : Addr) (fs : List (Str × V)) (zs : List V) (Q : VK), Room k A → Env0 P w K mg base A outer s H → H a = some (.ins C dx fs) → fs.lookup fld = some (.ref p) → SqT K H p zs →
    (∀ it, H it = none → s.heap.objs.size ≤ it → Q (.ref it) (upd H it (TiO p it))) → codeAny (model P w) A (.call (.ref f) ⟨[.ref a], []⟩) (CR C8.CX0 outer P w H s Q C8.E0) s
theorem dropH_tup {K : PySem.W.Frag} {H : Hp} {a it : Addr} {xs : List V} (h : SqT K H a xs) (n : H it = none) : SqT K (ItX.dropH (upd H it (TiO a it)) it) a xs := by
  rw [ItX.dropH_upd n]; exact h
/-- for .. in x, x an instance of the class at C -/
def iOwn (K : PySem.W.Frag) (C : Addr) (fld : Str) (te : TE) : TI := fun σ H R => te σ H fun x H1 => ∃ a dx p fs zs, x = .ref a ∧ H1 a = some (.ins C dx fs) ∧ fs.lookup fld = some (.ref p) ∧ SqT K H1 p zs ∧ R (Itt K p) H1
theorem pi_own {X : Cx} {tg e : Expr} {te : TE} {C g : Addr} {n : Nat} {fld : Str} (K : PySem.W.Frag) (hs : PySem.W.findIn X.K (.ref C) "__iter__" = some (some (.ref g))) (hf : PySem.W.isFn X.K (.ref g) = true) (F : FnIt X.prog X.w X.K X.mg X.base n g C fld) (hr : Room n X.A)
    (he : PE X e te) (hK : X.K = K := by rfl) : PI X tg e (iOwn K C fld te) := by
  subst hK
  refine ⟨fun pins s σ H R I h => thn (he.run pins s σ H _ I h) fun v s1 ⟨x, H1, I1, r1, a, dx, p, fs, zs, ex, ha, hp, hz, q⟩ => ?_⟩
  subst ex
  cases (show v = Value.ref a from r1)
  obtain ⟨m1, O1, _⟩ := ins_get I1.hok ha; obtain ⟨d1, J1, _⟩ := O1.look
  obtain ⟨m, hF⟩ := I1.fr
  refine PySem.W.owit_iter hF I1.ok.mod.kin J1 hs hf (wpAny_call (codeAny_mono (F X.A X.stack s1 H1 a dx p fs zs (fun v H' => ∃ it, v = .ref it ∧ H1 it = none ∧ s1.heap.objs.size ≤ it ∧ H' = upd H1 it (TiO p it)) hr I1.env0 ha hp hz fun it n1 n2 => ⟨it, rfl, n1, n2, rfl⟩) fun r s' hq => ?_))
  cases r with
  | error e => exact hq.elim
  | ok fl =>
    cases fl with
    | next => exact hq.elim
    | brk => exact hq.elim
    | cont => exact hq.elim
    | ret w =>
      obtain ⟨z, H', I', rz, it, ez, n1, n2, eH⟩ := I1.after hq
      subst ez eH
      cases (show w = Value.ref it from rz)
      have hti : upd H1 it (TiO p it) it = some (TiO p it) := upd_same
      have eo : s'.heap.get? it = some (tiObj p 0) := (I'.hok it _ hti).1
      have st : s'.heap.IsTupleIter it p 0 := ⟨_, eo, rfl, rfl⟩
      unfold PySem.W.OwitIt
      refine wpAny_specialOf (name := Str.ofString "__next__") (T := "tuple_iterator") ⟨_, eo, rfl⟩ slot_tupleiter_next.lookup ?_
      have hx := hti
      unfold TiO at hx
      have I2 := ItX.inv_drop I' hx
      have e2 : ItX.dropH (upd H1 it (TiO p it)) it = H1 := ItX.dropH_upd n1
      refine ⟨it, [it], _, _, _, rfl, I2, turn_tuple p it, st, fun b hb => ?_, by rw [e2]; exact q⟩
      cases (show b = it by simpa using hb)
      exact ItX.inv_fp I' hti (Nat.le_trans I1.sz n2)
end Rp
/-! RpPlain: isinstance; what the class Formula must have besides; promises of ==, __iter__; a walk over a formula's nodes level by level, in plain Lean. -/
namespace Rp
open PySem PySem.Spec PyProof.Rows L2 SX C8
/-- what of the text Formula's own comparison and walk need -/
structure FO (K : PySem.W.Frag) (C gI gE : Addr) : Prop where
  ins : InsC K C
  it : PySem.W.findIn K (.ref C) "__iter__" = some (some (.ref gI))
  itF : PySem.W.isFn K (.ref gI) = true
  eq : PySem.W.findIn K (.ref C) "__eq__" = some (some (.ref gE))
  eqF : PySem.W.isFn K (.ref gE) = true
  ne : PySem.W.findIn K (.ref C) "__ne__" = some (some (.builtin "object.__ne__"))
theorem NameOk.lt {n : List Nat} (h : NameOk n) : ∀ c ∈ n, c < 200 := fun c hc => by have := h.caps c hc; unfold isCap at this; omega
theorem Fm.Ok.lt : ∀ {t : Fm}, t.Ok → ∀ c ∈ t.text, c < 200
  | .leaf n, h, c, hc => by
    obtain ⟨d, e, h⟩ := h
    have e2 : n = [d] := e
    subst e2
    have : c = d := by simpa [Fm.text] using hc
    unfold isLow isDig at h; omega
  | .one n a, h, c, hc => by
    have hc : c ∈ n ∨ c = 40 ∨ c ∈ a.text ∨ c = 41 := by simpa [Fm.text] using hc
    rcases hc with q | q | q | q
    · exact h.1.lt c q
    · omega
    · exact Fm.Ok.lt h.2 c q
    · omega
  | .two n a b, h, c, hc => by
    have hc : c ∈ n ∨ c = 40 ∨ c ∈ a.text ∨ c = 44 ∨ c = 32 ∨ c ∈ b.text ∨ c = 41 := by simpa [Fm.text] using hc
    rcases hc with q | q | q | q | q | q | q
    · exact h.1.lt c q
    · omega
    · exact Fm.Ok.lt h.2.1 c q
    · omega
    · omega
    · exact Fm.Ok.lt h.2.2 c q
    · omega
theorem Fm.Ok.nlt {t : Fm} (h : t.Ok) : ∀ c ∈ t.name, c < 200 := by
  cases t with
  | leaf n => exact h.lt
  | one n a => exact h.1.lt
  | two n a b => exact h.1.lt
theorem strOk_S {a : List Nat} (h : ∀ c ∈ a, c < 200) : PyData.strOk (S a) = true := by
  show (a.toArray).all _ = true
  rw [List.all_toArray, List.all_eq_true]
  intro c hc
  have := h c hc
  simp; omega
theorem shaped_key {i : Int} {a : List Nat} (h : ∀ c ∈ a, c < 200) : SeqAt.shaped (.tuple [.int i, .str (S a)]) = true := by
  have e := strOk_S h
  simp [SeqAt.shaped, PyData.canLay0, PyData.canLayAll0, e, PyData.depth, PyData.depthAll]
theorem data_canLay : ∀ {t : Fm}, t.Ok → t.data.canLay0 = true
  | .leaf n, h => by simp [Fm.data, PyData.canLay0, PyData.canLayAll0, strOk_S (a := n) (Fm.Ok.nlt (t := .leaf n) h)]
  | .one n a, h => by simp [Fm.data, PyData.canLay0, PyData.canLayAll0, strOk_S h.1.lt, data_canLay h.2]
  | .two n a b, h => by simp [Fm.data, PyData.canLay0, PyData.canLayAll0, strOk_S h.1.lt, data_canLay h.2.1, data_canLay h.2.2]
theorem data_depth : ∀ (t : Fm), t.data.depth ≤ t.depth + 2
  | .leaf n => by simp [Fm.data, PyData.depth, PyData.depthAll]
  | .one n a => by
    have := data_depth a
    simp [Fm.data, PyData.depth, PyData.depthAll, Fm.depth]; omega
  | .two n a b => by
    have := data_depth a
    have := data_depth b
    simp [Fm.data, PyData.depth, PyData.depthAll, Fm.depth]; omega
theorem data_shaped {t : Fm} (h : t.Ok) (hd : t.depth ≤ 62) : SeqAt.shaped t.data = true := by
  have := data_depth t
  simp [SeqAt.shaped, data_canLay h]; omega
section
variable {K : PySem.W.Frag} {H : Hp} {Q : VK} {mg : Str → Option Value} {C gI gE : Addr}
theorem u_isiS {x : Str} (h : Q (.bl true) H) : rIsi K [.str x, .ty "str"] H Q := ⟨_, _, _, _, _, rfl, .ty _, .base (.str x), kit_ty (by decide +kernel), h⟩
theorem u_isiI {i : Int} (h : Q (.bl true) H) : rIsi K [.int i, .ty "int"] H Q := ⟨_, _, _, _, _, rfl, .ty _, .base (.int i), kit_ty (by decide +kernel), h⟩
theorem u_isiIB {i : Int} (h : Q (.bl false) H) : rIsi K [.int i, .ty "bool"] H Q := ⟨_, _, _, _, _, rfl, .ty _, .base (.int i), kit_ty (by decide +kernel), h⟩
theorem SqT.tyx {p : Addr} {xs : List V} (h : SqT K H p xs) : TyX K H (.ref p) (.type "tuple") := by
  rcases h with (h | ⟨o, h⟩) | ⟨o, its, n, h1, h2, _⟩
  · exact .base (.tup h)
  · exact .fTuple h
  · exact .kTuple h1 h2
theorem u_isiT {p : Addr} {xs : List V} (hq : SqT K H p xs) (h : Q (.bl true) H) : rIsi K [.ref p, .ty "tuple"] H Q := ⟨_, _, _, _, _, rfl, .ty _, SqT.tyx hq, kit_ty (by decide +kernel), h⟩
theorem u_isiF {a : Addr} {t : Fm} (O : InsC K C) (hf : FormAt K C H t a) (h : Q (.bl true) H) : rIsi K [.ref a, .ref C] H Q := by
  obtain ⟨dx, p, vs, e, _⟩ := hf.out
  exact ⟨_, _, _, _, _, rfl, .own C, .base (.ins e O.cl O.ha O.hn O.htk O.hm), O.me, h⟩
/-- the promise of Formula.__eq__ -/
def spEqF (K : PySem.W.Frag) (C : Addr) : Sp := fun vs H Q _ => ∃ (a b : Addr) (t u : Fm), vs = [.ref a, .ref b] ∧ FormAt K C H t a ∧ FormAt K C H u b ∧ t.Ok ∧ u.Ok ∧ ∀ H', Fr [] H H' → Q (.bl (decide (t.size = u.size ∧ t.text = u.text))) H'
theorem eqv_key (i j : Int) (a b : List Nat) : PyData.eqv (.tuple [.int i, .str (S a)]) (.tuple [.int j, .str (S b)]) = decide (i = j ∧ a = b) := by
  have e : (S a == S b) = decide (a = b) := by
    by_cases q : a = b
    · subst q; simp
    · rw [beq_eq_false_iff_ne.mpr (fun z => q (S_inj z))]; simp [q]
  have e2 : (i == j) = decide (i = j) := by by_cases q : i = j <;> simp [q]
  simp [PyData.eqv, PyData.eqvAll, e, e2]
theorem u_ownEq {X : Cx} {sp : Sp} {x y : V} {a b dx dy : Addr} {fs gs : List (Str × V)} (ha : H a = some (.ins C dx fs)) (hb : H b = some (.ins C dy gs)) (h : sp [.ref a, .ref b] H Q C8.E0) : rOwnI C sp (.ref a) (.ref b) H Q :=
  ⟨a, dx, fs, b, dy, gs, rfl, rfl, ha, hb, h⟩
theorem u_eqF {a b : Addr} {t u : Fm} (ha : FormAt K C H t a) (hb : FormAt K C H u b) (h1 : t.Ok) (h2 : u.Ok) (h : ∀ H', Fr [] H H' → Kp H H' → Q (.bl (decide (t.size = u.size ∧ t.text = u.text))) H') : rOwnI C (fun vs H Q E => spEqF K C (vs ++ []) H Q E) (.ref a) (.ref b) H Q := by
  obtain ⟨dx, p, vs, e, _⟩ := ha.out
  obtain ⟨dy, p', vs', e', _⟩ := hb.out
  exact ⟨a, dx, _, b, dy, _, rfl, rfl, e, e', a, b, t, u, rfl, ha, hb, h1, h2, fun H' f => h H' f (.of_same f.same)⟩
theorem u_neF {a b : Addr} {t u : Fm} (ha : FormAt K C H t a) (hb : FormAt K C H u b) (h1 : t.Ok) (h2 : u.Ok) (h : ∀ H', Fr [] H H' → Kp H H' → Q (.bl (!decide (t.size = u.size ∧ t.text = u.text))) H') : rOwnNe C (fun vs H Q E => spEqF K C (vs ++ []) H Q E) (.ref a) (.ref b) H Q := by
  obtain ⟨dx, p, vs, e, _⟩ := ha.out
  obtain ⟨dy, p', vs', e', _⟩ := hb.out
  exact ⟨a, dx, _, b, dy, _, rfl, rfl, e, e', a, b, t, u, rfl, ha, hb, h1, h2, fun H' f => ⟨_, rfl, h H' f (.of_same f.same)⟩⟩
/-- the walk over a formula: its parts -/
def IOWk (K : PySem.W.Frag) (C : Addr) (fld : Str) (R : It → Hp → Prop) : V → Hp → Prop := fun x H1 => ∃ a dx p fs zs, x = .ref a ∧ H1 a = some (.ins C dx fs) ∧ fs.lookup fld = some (.ref p) ∧ SqT K H1 p zs ∧ R (Itt K p) H1
theorem u_iown {te : TE} {σ : L2.St} {fld : Str} {R : It → Hp → Prop} (h : te σ H (IOWk K C fld R)) : iOwn K C fld te σ H R := h
theorem u_iownF {a : Addr} {t : Fm} {R : It → Hp → Prop} (ha : FormAt K C H t a) (h : ∀ p vs, SqT K H p vs → FormsAt K C H t.parts vs → R (Itt K p) H) : IOWk K C "parts" R (.ref a) H := by
  obtain ⟨dx, p, vs, e, q, r⟩ := ha.out
  exact ⟨a, dx, p, _, vs, rfl, e, fF_parts, q, h p vs q r⟩
end
def spNode (K : PySem.W.Frag) (C : Addr) (k : Nat) : Sp := fun vs H Q _ => ∃ (a b : Addr) (t : Fm), vs = [.ref a, .ref b] ∧ FormAt K C H t a ∧ TupAt K H t b ∧ t.Ok ∧ t.depth < k ∧ t.text.length ≤ 100000 ∧ ∀ H', Fr [] H H' → Q (.bl true) H'
theorem u_node {K : PySem.W.Frag} {C : Addr} {k : Nat} {H : Hp} {Q : VK} {E : XK} {a b : Addr} {t : Fm} (h1 : FormAt K C H t a) (h2 : TupAt K H t b) (h3 : t.Ok) (h4 : t.depth < k) (h5 : t.text.length ≤ 100000) (h : ∀ H', Fr [] H H' → Kp H H' → Q (.bl true) H') : spNode K C k ([.ref a, .ref b] ++ []) H Q E :=
  ⟨a, b, t, rfl, h1, h2, h3, h4, h5, fun H' f => h H' f (.of_same f.same)⟩
/-- two lists of the same texts are equal -/
theorem dp_strs {K : PySem.W.Frag} {H : Hp} : ∀ ys : List (List Nat), DpAll K H (vS ys) (ys.map fun y => PyData.str (S y))
  | [] => .nil
  | y :: ys => .cons (.str _) (dp_strs ys)
theorem strs_canLay : ∀ {ys : List (List Nat)}, (∀ y ∈ ys, ∀ c ∈ y, c < 200) → PyData.canLayAll0 (ys.map fun y => PyData.str (S y)) = true
  | [], _ => by simp [PyData.canLayAll0]
  | y :: ys, h => by
    have e := strs_canLay (ys := ys) fun z hz => h z (by simp [hz])
    simp [PyData.canLayAll0, PyData.canLay0, strOk_S (h y (by simp)), e]
theorem strs_depth : ∀ ys : List (List Nat), PyData.depthAll (ys.map fun y => PyData.str (S y)) ≤ 1
  | [] => by simp [PyData.depthAll]
  | y :: ys => by
    have := strs_depth ys
    simp [PyData.depthAll, PyData.depth]; omega
theorem strs_shaped {ys : List (List Nat)} (h : ∀ y ∈ ys, ∀ c ∈ y, c < 200) : SeqAt.shaped (.list (ys.map fun y => PyData.str (S y))) = true := by
  have := strs_depth ys
  simp [SeqAt.shaped, PyData.canLay0, strs_canLay h, PyData.depth]; omega
theorem strs_eqv {ys : List (List Nat)} (h : ∀ y ∈ ys, ∀ c ∈ y, c < 200) : PyData.eqv (.list (ys.map fun y => PyData.str (S y))) (.list (ys.map fun y => PyData.str (S y))) = true :=
  SeqAt.eqv_refl _ (by simp [PyData.canLay0, strs_canLay h])
theorem Fm.Ok.part {t p : Fm} (h : t.Ok) (hp : p ∈ t.parts) : p.Ok := by
  cases t with
  | leaf n => cases hp
  | one n a =>
    have e : p = a := by simpa [Fm.parts] using hp
    subst e; exact h.2
  | two n a b =>
    have e : p = a ∨ p = b := by simpa [Fm.parts] using hp
    rcases e with e | e <;> subst e
    · exact h.2.1
    · exact h.2.2
end Rp
/-! RpBfs: the nodes of a formula, level by level, in plain Lean. -/
namespace Rp
open PySem PySem.Spec PyProof.Rows L2 SX C8
/-- i nodes were looked at; st: where the parts of each begin -/
structure Bfs (t : Fm) (i : Nat) (ns : List Fm) (st : List Nat) : Prop where
  len : st.length = i
  le : i ≤ ns.length
  hd : ns[0]? = some t
  ok : ∀ (k b : Nat) (n : Fm), st[k]? = some b → ns[k]? = some n → k < b ∧ b + n.parts.length ≤ ns.length ∧ (ns.drop b).take n.parts.length = n.parts
  sz : i + ((ns.drop i).map Fm.size).sum = t.size
theorem Bfs.start (t : Fm) : Bfs t 0 [t] [] := ⟨rfl, Nat.zero_le _, rfl, fun k b n h => by simp at h, by simp⟩
theorem Bfs.step {t n : Fm} {i : Nat} {ns : List Fm} {st : List Nat} (h : Bfs t i ns st) (hn : ns[i]? = some n) : Bfs t (i + 1) (ns ++ n.parts) (st ++ [ns.length]) := by
  have hi : i < ns.length := (List.getElem?_eq_some_iff.mp hn).1
  refine ⟨by simp [h.len], by simp; omega, ?_, fun k b m hb hm => ?_, ?_⟩
  · rw [List.getElem?_append_left (by omega)]; exact h.hd
  · by_cases hk : k < i
    · rw [List.getElem?_append_left (by rw [h.len]; exact hk)] at hb
      rw [List.getElem?_append_left (by omega)] at hm
      obtain ⟨h1, h2, h3⟩ := h.ok k b m hb hm
      refine ⟨h1, by simp; omega, ?_⟩
      rw [List.drop_append_of_le_length (by omega), List.take_append_of_le_length (by rw [List.length_drop]; omega)]
      exact h3
    · have hk2 : k < (st ++ [ns.length]).length := (List.getElem?_eq_some_iff.mp hb).1
      have e : k = i := by simp [h.len] at hk2; omega
      subst e
      rw [List.getElem?_append_left hi, hn] at hm
      cases hm
      have e2 : (st ++ [ns.length])[k]? = some ns.length := by
        rw [List.getElem?_append_right (by rw [h.len]; exact Nat.le_refl _), h.len]
        simp
      rw [e2] at hb
      cases hb
      exact ⟨hi, by simp, by simp⟩
  · obtain ⟨_, e⟩ := List.getElem?_eq_some_iff.mp hn
    have e1 := h.sz
    rw [List.drop_eq_getElem_cons hi, e, List.map_cons, List.sum_cons, Fm.size_eq] at e1
    rw [List.drop_append_of_le_length (by omega), List.map_append, List.sum_append]
    omega
theorem Bfs.bound {t : Fm} {i : Nat} {ns : List Fm} {st : List Nat} (h : Bfs t i ns st) : ns.length ≤ t.size := by
  have e := h.sz
  have : ∀ l : List Fm, l.length ≤ (l.map Fm.size).sum := fun l => by
    induction l with
    | nil => simp
    | cons a r ih =>
      have := a.size_pos
      simp only [List.length_cons, List.map_cons, List.sum_cons]; omega
  have h2 := this (ns.drop i)
  rw [List.length_drop] at h2
  have := h.le
  omega
theorem cutV_nat {xs : List V} {b e : Nat} (h1 : b ≤ e) (h2 : e ≤ xs.length) : cutV xs (some (b : Int)) (some (e : Int)) = (xs.drop b).take (e - b) := by
  unfold cutV
  rw [HT.sIx_nat, HT.sIx_nat, Nat.min_eq_left h2, Nat.min_eq_left (Nat.le_trans h1 h2)]
theorem paired_drop {α β : Type} {R : α → β → Prop} {xs : List α} {ys : List β} (h : Paired R xs ys) : ∀ n, Paired R (xs.drop n) (ys.drop n) := by
  induction h with
  | nil => intro n; simp; exact .nil
  | cons r p ih =>
    intro n
    cases n with
    | zero => exact .cons r p
    | succ n => exact ih n
theorem paired_take {α β : Type} {R : α → β → Prop} {xs : List α} {ys : List β} (h : Paired R xs ys) : ∀ n, Paired R (xs.take n) (ys.take n) := by
  induction h with
  | nil => intro n; simp; exact .nil
  | cons r p ih =>
    intro n
    cases n with
    | zero => exact .nil
    | succ n => exact .cons r (ih n)
theorem drop_set {α : Type} {l : List α} {k : Nat} {v : α} (h : k < l.length) : (l.set k v).drop k = v :: l.drop (k + 1) := by
  rw [List.drop_eq_getElem_cons (by simpa using h)]
  simp [List.drop_set]
/-- what the second loop knows of the nodes from j on -/
structure Up (K : PySem.W.Frag) (H : Hp) (ns : List Fm) (j : Nat) (ms : List V) (zs : List Int) : Prop where
  lm : ms.length = ns.length
  lz : zs.length = ns.length
  tup : TupsAt K H (ns.drop j) (ms.drop j)
  siz : zs.drop j = (ns.drop j).map fun n => (n.size : Int)
theorem Up.mono {K : PySem.W.Frag} {H H' : Hp} {ns : List Fm} {j : Nat} {ms : List V} {zs : List Int} (h : Up K H ns j ms zs) (k : Kp H H') : Up K H' ns j ms zs := ⟨h.lm, h.lz, h.tup.mono k, h.siz⟩
/-- the slices below a node -/
theorem Up.cut {K : PySem.W.Frag} {H : Hp} {ns : List Fm} {j b m : Nat} {ms : List V} {zs : List Int} (h : Up K H ns j ms zs) (hb : j ≤ b) : TupsAt K H ((ns.drop b).take m) ((ms.drop b).take m) ∧ (zs.drop b).take m = ((ns.drop b).take m).map fun n => (n.size : Int) := by
  obtain ⟨d, rfl⟩ := Nat.exists_eq_add_of_le hb
  have e1 : ns.drop (j + d) = (ns.drop j).drop d := by rw [List.drop_drop]
  have e2 : ms.drop (j + d) = (ms.drop j).drop d := by rw [List.drop_drop]
  have e3 : zs.drop (j + d) = (zs.drop j).drop d := by rw [List.drop_drop]
  rw [e1, e2, e3, h.siz]
  exact ⟨paired_take (paired_drop h.tup d) m, by rw [← List.map_drop, ← List.map_take]⟩
theorem Up.set {K : PySem.W.Frag} {H : Hp} {ns : List Fm} {j : Nat} {ms : List V} {zs : List Int} {n : Fm} {a : Addr} (h : Up K H ns (j + 1) ms zs) (hn : ns[j]? = some n) (ha : TupAt K H n a) : Up K H ns j (ms.set j (.ref a)) (zs.set j (n.size : Int)) := by
  obtain ⟨hj, e⟩ := List.getElem?_eq_some_iff.mp hn
  refine ⟨by simp [h.lm], by simp [h.lz], ?_, ?_⟩
  · rw [List.drop_eq_getElem_cons hj, e, drop_set (by rw [h.lm]; exact hj)]
    exact .cons ⟨a, rfl, ha⟩ h.tup
  · rw [List.drop_eq_getElem_cons hj, e, drop_set (by rw [h.lz]; exact hj), List.map_cons, h.siz]
def spPlain (K : PySem.W.Frag) (C : Addr) : Sp := fun vs H Q _ => ∃ (a : Addr) (t : Fm), vs = [.ref a] ∧ FormAt K C H t a ∧ t.size ≤ 20000 ∧ ∀ (b : Addr) (H' : Hp), Fr [] H H' → TupAt K H' t b → Q (.ref b) H'
theorem u_plain {K : PySem.W.Frag} {C : Addr} {H : Hp} {Q : VK} {E : XK} {a : Addr} {t : Fm} (h1 : FormAt K C H t a) (h2 : t.size ≤ 20000) (h : ∀ (b : Addr) (H' : Hp), Fr [] H H' → Kp H H' → TupAt K H' t b → Q (.ref b) H') : spPlain K C ([.ref a] ++ []) H Q E :=
  ⟨a, t, rfl, h1, h2, fun b H' f z => h b H' f (.of_same f.same) z⟩
end Rp
/-! RpLaw: what the laws' own bodies need: reading by the class, bounds of drawn formulas, picks from displays. -/
namespace Rp
open PySem PySem.Spec PyProof.Rows L2 SX C8
/-- Formula.read as it is found on the class -/
structure FRd (K : PySem.W.Frag) (C : Addr) (mc : Value) (p g : Addr) : Prop where
  cr : ClX.CRead K C mc
  cm : ClX.CMet K C mc "read" p g
section
variable {K : PySem.W.Frag} {C : Addr} {H : Hp} {Q : VK} {E : XK} {σ : L2.St}
theorem u_cmeth {sp : Sp} {t : TA} (h : t σ H fun vs H2 => sp (.ref C :: vs) H2 Q E) : ClX.tCMeth C sp E (tC (.ref C)) t σ H Q := ⟨rfl, h⟩
theorem u_read {t : Fm} (hl : t.text.length ≤ 100000) (ho : t.Ok) (h : ∀ (x : Addr) (H' : Hp), Fr [] H H' → Kp H H' → FormAt K C H' t x → Q (.ref x) H') : (fun vs H Q E => spRead K C (vs ++ []) H Q E) [.ref C, .str (S t.text)] H Q E :=
  ⟨t.text, t, rfl, hl, parse_text ho, fun x H' f z => h x H' f (.of_same f.same) z⟩
theorem u_pools {a : Addr} {ns : List Int} (h1 : SqL K H a (ns.map V.int)) (h2 : ns.length ≤ 63)
    (h : ∀ (q p1 l1 p2 l2 : Addr) (H' : Hp), Fr [] H H' → Kp H H' → H' q = some (.lst [.ref p1, .ref p2]) → PoolAt H' p1 l1 → PoolAt H' p2 l2 → p1 ≠ p2 → q ≠ p1 → q ≠ p2 → Q (.ref q) H') : spPools K ([.ref a] ++ []) H Q E :=
  ⟨a, ns, rfl, h1, h2, fun q p1 l1 p2 l2 H' f => h q p1 l1 p2 l2 H' f (.of_same f.same)⟩
end
theorem Fm.size_depth : ∀ t : Fm, t.size + 1 ≤ 2 ^ (t.depth + 1)
  | .leaf n => by simp [Fm.size, Fm.depth]
  | .one n a => by
    have := Fm.size_depth a
    simp only [Fm.size, Fm.depth, Nat.pow_succ] at this ⊢
    omega
  | .two n a b => by
    have h1 := Fm.size_depth a
    have h2 := Fm.size_depth b
    have m1 : 2 ^ (a.depth + 1) ≤ 2 ^ (max a.depth b.depth + 1) := Nat.pow_le_pow_right (by decide) (by omega)
    have m2 : 2 ^ (b.depth + 1) ≤ 2 ^ (max a.depth b.depth + 1) := Nat.pow_le_pow_right (by decide) (by omega)
    rw [Fm.size, Fm.depth, Nat.pow_succ]
    omega
theorem Fm.size_small {t : Fm} {d : Nat} (h : t.depth ≤ d) : t.size + 1 ≤ 2 ^ (d + 1) := Nat.le_trans t.size_depth (Nat.pow_le_pow_right (by decide) (by omega))
theorem Fm.Ok.text_le : ∀ {t : Fm}, t.Ok → t.text.length ≤ 10 * t.size
  | .leaf n, h => by
    obtain ⟨c, e, _⟩ := h
    simp [Fm.text, Fm.size, e]
  | .one n a, h => by
    have := h.1.six
    have := Fm.Ok.text_le h.2
    simp [Fm.text, Fm.size]; omega
  | .two n a b, h => by
    have := h.1.six
    have := Fm.Ok.text_le h.2.1
    have := Fm.Ok.text_le h.2.2
    simp [Fm.text, Fm.size]; omega
theorem Fm.depth0 {t : Fm} (h : t.depth ≤ 0) : ∃ n, t = .leaf n := by
  cases t with
  | leaf n => exact ⟨n, rfl⟩
  | one n a => simp [Fm.depth] at h
  | two n a b => simp [Fm.depth] at h
theorem pick5 {r : Int} (h0 : 0 ≤ r) (h1 : r < 5) : ∃ d : Nat, d ≤ 4 ∧ atI [V.int 4, V.int 3, V.int 1, V.int 2, V.int 0] r = some (.int (d : Int)) := by
  have h : r = 0 ∨ r = 1 ∨ r = 2 ∨ r = 3 ∨ r = 4 := by omega
  rcases h with rfl | rfl | rfl | rfl | rfl
  · exact ⟨4, by omega, rfl⟩
  · exact ⟨3, by omega, rfl⟩
  · exact ⟨1, by omega, rfl⟩
  · exact ⟨2, by omega, rfl⟩
  · exact ⟨0, by omega, rfl⟩
theorem pick3 {r : Int} {x y z : V} (h0 : 0 ≤ r) (h1 : r < 3) : ∃ v, atI [x, y, z] r = some v ∧ (v = x ∨ v = y ∨ v = z) := by
  have h : r = 0 ∨ r = 1 ∨ r = 2 := by omega
  rcases h with rfl | rfl | rfl
  · exact ⟨x, rfl, .inl rfl⟩
  · exact ⟨y, rfl, .inr (.inl rfl)⟩
  · exact ⟨z, rfl, .inr (.inr rfl)⟩
theorem Bfs.mem {t : Fm} {P : Fm → Prop} {ns : List Fm} {n : Fm} {i : Nat} (h : ∀ n ∈ ns, P n) (hp : ∀ n p, P n → p ∈ n.parts → P p) (hn : ns[i]? = some n) : ∀ m ∈ ns ++ n.parts, P m := fun m hm => by
  rcases List.mem_append.mp hm with q | q
  · exact h m q
  · exact hp n m (h n (List.mem_of_getElem? hn)) q
/-- the law's own promise: it answers True -/
def spLaw (K : PySem.W.Frag) : Sp := fun vs H Q _ => ∃ (a : Addr) (ns : List Int), vs = [.ref a] ∧ SqL K H a (ns.map V.int) ∧ ns.length ≤ 63 ∧ ∀ H', Q (.bl true) H'
end Rp
/-! RpHead: what the head tells of the written part: facts by names, function objects, one more look (ex). -/
namespace Rp
open PySem PySem.Spec PyProof.Rows L2 SX C8
open He5 (DefA obsA valA asA wrapB wf fnA)
def obsR (fa : List He.Fa) (fn : List DefA) (ex : PySem.W.Frag → Bool) (K : PySem.W.Frag) : He.AlD := (ex K && (obsA fa fn K).1, (obsA fa fn K).2)
def SaysR (fa : List He.Fa) (fn : List DefA) (ex : PySem.W.Frag → Bool) (K : PySem.W.Frag) : Prop := obsR fa fn ex K = valA fn
def obsRG (n : Nat) (fa : List He.Fa) (fn : List DefA) (ex : PySem.W.Frag → Bool) (g : Addr → Option Obj) : He.AlD := obsR fa fn ex (He.frG g (asA g n))
def hookR (n : Nat) (fa : List He.Fa) (fn : List DefA) (ex : PySem.W.Frag → Bool) : PySem.W.Hook :=
  { α := He.AlD, obs := fun s => obsRG n fa fn ex s.heap.get?, val := fun _ => valA fn, says := fun _ h => ∃ K : PySem.W.Frag, K.In h ∧ SaysR fa fn ex K, of := fun _ _ e => ⟨_, He.frG_in, e⟩, keeps := fun _ _ _ z k => by obtain ⟨K, hK, c⟩ := z; exact ⟨K, PySem.W.Frag.In.keeps hK k, c⟩ }
theorem obsRG_eq {n : Nat} {fa : List He.Fa} {fn : List DefA} {ex : PySem.W.Frag → Bool} {g : Addr → Option Obj} {s : Shared} (h : ∀ a, g a = s.heap.get? a) : obsRG n fa fn ex g = (hookR n fa fn ex).obs s := by
  cases (funext h : g = s.heap.get?)
  rfl
section
variable {fa : List He.Fa} {fn : List DefA} {ex : PySem.W.Frag → Bool} {K : PySem.W.Frag}
theorem SaysR.more (c : SaysR fa fn ex K) : ex K = true := by
  have e : (ex K && (obsA fa fn K).1) = true := congrArg (fun z : He.AlD => z.1) (show obsR fa fn ex K = valA fn from c)
  cases q : ex K with
  | true => rfl
  | false => rw [q] at e; cases e
theorem SaysR.says (c : SaysR fa fn ex K) : He5.SaysA fa fn K := by
  have e : (ex K && (obsA fa fn K).1) = true := congrArg (fun z : He.AlD => z.1) (show obsR fa fn ex K = valA fn from c)
  have e2 := congrArg (fun z : He.AlD => z.2) (show obsR fa fn ex K = valA fn from c)
  rw [c.more, Bool.true_and] at e
  show obsA fa fn K = valA fn
  exact Prod.ext e e2
end
/-- what the classes' look must answer -/
def insB (K : PySem.W.Frag) (C : Addr) : Bool := He.eqO (PySem.W.findIn K (.ref C) "__class__") (some (some (.builtin "object.__class__"))) && (He.eqO (PySem.W.specialIn K (.builtin "object.__class__") "__get__") (some (some (.builtin "getset_descriptor.__get__"))) &&
  (decide (PySem.W.takesIn K (.builtin "object.__class__") = some true) && (decide (PySem.W.mroIn K C (.type "object") = some true) && decide (PySem.W.kitOne K (.ref C) (.ref C) = some true))))
def neB (K : PySem.W.Frag) (C : Addr) : Bool := He.eqO (PySem.W.findIn K (.ref C) "__ne__") (some (some (.builtin "object.__ne__")))
def gtB (K : PySem.W.Frag) (C : Addr) : Bool := He.eqO (PySem.W.findIn K (.ref C) "__gt__") (some (some (.builtin "object.__gt__")))
def cmB (K : PySem.W.Frag) (C : Addr) (m : Str) : Bool := PySem.W.readsIn K C (.type "type") && (He.eqO (PySem.W.specialIn K (.ref C) "__getattribute__") (some (some (.builtin "type.__getattribute__"))) && (wrapB K C "classmethod" "classmethod.__get__" m && PySem.W.fnIn K (wf K C "classmethod" m)))
def tup0B (K : PySem.W.Frag) (a : Addr) : Bool := match K.lookup a with
  | some ⟨.type c, _, .seq its _, _⟩ => decide (c = "tuple") && decide (its.toList = [])
  | _ => false
section
variable {K : PySem.W.Frag} {C : Addr} {mg : Str → Option Value} {h : Heap}
theorem insB_ok (c : Cls K C) (b : insB K C = true) : InsC K C := by
  obtain ⟨b1, b⟩ := He.ba b
  obtain ⟨b2, b⟩ := He.ba b
  obtain ⟨b3, b⟩ := He.ba b
  obtain ⟨b4, b5⟩ := He.ba b
  exact ⟨c, He.eqO_ok b1, He.eqO_ok b2, of_decide_eq_true b3, of_decide_eq_true b4, of_decide_eq_true b5⟩
theorem cmB_ok {m : Str} (b : cmB K C m = true) : ClX.CRead K C (.type "type") ∧ ClX.CMet K C (.type "type") m (He.ma K C m) (wf K C "classmethod" m) := by
  obtain ⟨b1, b⟩ := He.ba b
  obtain ⟨b2, b⟩ := He.ba b
  obtain ⟨b3, b4⟩ := He.ba b
  exact ⟨⟨b1, He.eqO_ok b2⟩, He5.cmet_of b3 b4⟩
theorem tup0B_ok {a : Addr} (b : tup0B K a = true) (H : Hp) : SqT K H a [] := by
  unfold tup0B at b
  split at b
  · rename_i c d its n sl q
    obtain ⟨b1, b2⟩ := He.ba b
    have e1 := of_decide_eq_true b1
    have e2 := of_decide_eq_true b2
    subst e1
    have hz : its.size ≤ sizeLine := by rw [← Array.length_toList, e2]; exact Nat.zero_le _
    exact .inr ⟨_, its, n, q, rfl, rfl, hz, by rw [e2]; exact .nil⟩
  · cases b
theorem fun8 {x qual : Str} {st : Stmt} {f : Addr} {fd : FuncData} {dvs : List V} {kws : List (Str × V)} (F : FunD K x qual (fnArgs st) (fnBody st) (fnScope st) dvs kws f fd) : C8.Fun K x qual st f fd := by
  obtain ⟨oc, od, dV, kV, doc, pm, an, cdv, ct, osl, e, lk, hc, _, _⟩ := F.ex
  exact ⟨⟨oc, od, dV, kV, doc, pm, an, cdv, ct, osl, e, lk, hc⟩⟩
theorem defE {x : Str} {st : Stmt} {ps : List Str} {f : Addr} {fd : FuncData} (F : FunD K x x (fnArgs st) (fnBody st) (fnScope st) [] [] f fd) (hm : mg x = some (.ref f))
    (b : ∀ (kV doc pm : Value) (an : Option Addr) (cdv ct : Value) (us : List Value), us.length = ps.length → bindArgs (PySem.W.fnOf x x (fnArgs st) (fnBody st) (fnScope st) .none kV doc pm an cdv ct) ⟨us, []⟩ = pure (ps.zip us)) : DefE K mg x st ps :=
  ⟨f, fd, ⟨fun8 F, hm, F.kp⟩, F.bindsN b⟩
theorem gtxt {x z : Str} {a : List Nat} (hz : z = S a) (h : ∃ t, mg x = some (.str z t)) : ∃ u, mg x = some u ∧ RelV (.str (S a)) u := by
  obtain ⟨t, e⟩ := h
  exact ⟨_, e, t, by rw [hz]⟩
theorem gint {x : Str} {i : Int} (h : ∃ t, mg x = some (.int i t)) : ∃ u, mg x = some u ∧ RelV (.int i) u := by
  obtain ⟨t, e⟩ := h
  exact ⟨_, e, t, rfl⟩
end
end Rp
/-! RpOrd: order of (number, text) tuples; own <, own > by the other's <, own in. -/
namespace Rp
open PySem PySem.Spec PyProof.Rows L2 SX C8
def ltKey (i j : Int) (a b : List Nat) : Bool := if i = j then (if a = b then false else decide (a < b)) else decide (i < j)
section
variable {X : Cx} {C g : Addr} {n : Nat} {sp : Sp}
def rLtK (K : PySem.W.Frag) : R2 := fun x y H Q => ∃ p q i j a b, x = .ref p ∧ y = .ref q ∧ SqT K H p [.int i, .str (S a)] ∧ SqT K H q [.int j, .str (S b)] ∧ Q (.bl (ltKey i j a b)) H
def rGtK (K : PySem.W.Frag) : R2 := fun x y H Q => ∃ p q i j a b, x = .ref p ∧ y = .ref q ∧ SqT K H p [.int i, .str (S a)] ∧ SqT K H q [.int j, .str (S b)] ∧ Q (.bl (ltKey j i b a)) H
theorem two_vals {x y : V} {us : List Value} (r : Vals [x, y] us) : ∃ u v, us = [u, v] ∧ RelV x u ∧ RelV y v := vals2 r
/-- the first two unequal ones decide -/
theorem lex_two (e r : Nat → Bool) : Ob.lexAt e r false 0 2 = if e 0 = true then (if e 1 = true then false else r 1) else r 0 := rfl
theorem o_ltK (hu : X.A.units < cLine) : OpR X (compareOp .Lt) (rLtK X.K) := fun pins s σ H x y v u Q I rx ry h => by
  obtain ⟨p, q, i, j, a, b, rfl, rfl, hp, hq, k⟩ := h
  cases (show v = Value.ref p from rx); cases (show u = Value.ref q from ry)
  obtain ⟨us, r1, t1, _⟩ := I.tuple hp
  obtain ⟨vs, r2, t2, _⟩ := I.tuple hq
  obtain ⟨u0, u1, rfl, s0, s1⟩ := two_vals r1
  obtain ⟨v0, v1, rfl, w0, w1⟩ := two_vals r2
  obtain ⟨_, rfl⟩ := s0; obtain ⟨_, rfl⟩ := s1; obtain ⟨_, rfl⟩ := w0; obtain ⟨_, rfl⟩ := w1
  refine Ob.RcOp.tuples_lt (A := X.A) (s := s) (e := fun m => if m = 0 then (i == j) else (S a == S b)) (r := fun m => if m = 0 then decide (i < j) else decide (a < b)) t1 t2 hu (fun m h1 h2 => ?_) (fun m h1 h2 hn => ?_) X.prog X.w X.xe _ ?_
  · match m, h1 with
    | 0, _ => exact eqAt_V (y := .int i) (x := .int j) ⟨_, rfl⟩ ⟨_, rfl⟩ rfl rfl
    | 1, _ => exact eqAt_V (y := .str (S a)) (x := .str (S b)) ⟨_, rfl⟩ ⟨_, rfl⟩ rfl rfl
  · match m, h1 with
    | 0, _ => exact Ob.RcOp.lt_int _ _ _ _
    | 1, _ => exact fun _ _ _ _ z => PyProof.Rows.lt_str z
  · refine ⟨.bl (ltKey i j a b), H, I, ?_, k⟩
    show Value.bool _ = Value.bool _
    congr 1
    show Ob.lexAt _ _ false 0 2 = _
    rw [lex_two]
    unfold ltKey
    by_cases h1 : i = j
    · by_cases h2 : a = b
      · simp [h1, h2]
      · have h3 : (S a == S b) = false := beq_eq_false_iff_ne.mpr fun z => h2 (S_inj z)
        simp [h1, h2, h3]
    · simp [h1]
theorem o_gtK (hu : X.A.units < cLine) : OpR X (compareOp .Gt) (rGtK X.K) := fun pins s σ H x y v u Q I rx ry h => by
  obtain ⟨p, q, i, j, a, b, rfl, rfl, hp, hq, k⟩ := h
  cases (show v = Value.ref p from rx); cases (show u = Value.ref q from ry)
  obtain ⟨us, r1, t1, _⟩ := I.tuple hp
  obtain ⟨vs, r2, t2, _⟩ := I.tuple hq
  obtain ⟨u0, u1, rfl, s0, s1⟩ := two_vals r1
  obtain ⟨v0, v1, rfl, w0, w1⟩ := two_vals r2
  obtain ⟨_, rfl⟩ := s0; obtain ⟨_, rfl⟩ := s1; obtain ⟨_, rfl⟩ := w0; obtain ⟨_, rfl⟩ := w1
  refine Ob.RcOp.tuples_gt (A := X.A) (s := s) (e := fun m => if m = 0 then (i == j) else (S a == S b)) (r := fun m => if m = 0 then decide (j < i) else decide (b < a)) t1 t2 hu (fun m h1 h2 => ?_) (fun m h1 h2 hn => ?_) X.prog X.w X.xe _ ?_
  · match m, h1 with
    | 0, _ => exact eqAt_V (y := .int i) (x := .int j) ⟨_, rfl⟩ ⟨_, rfl⟩ rfl rfl
    | 1, _ => exact eqAt_V (y := .str (S a)) (x := .str (S b)) ⟨_, rfl⟩ ⟨_, rfl⟩ rfl rfl
  · match m, h1 with
    | 0, _ => exact Ob.RcOp.gt_int _ _ _ _
    | 1, _ => exact fun _ _ _ _ z => PySem.P.gt_str z
  · refine ⟨.bl (ltKey j i b a), H, I, ?_, k⟩
    show Value.bool _ = Value.bool _
    congr 1
    show Ob.lexAt _ _ false 0 2 = _
    rw [lex_two]
    unfold ltKey
    by_cases h1 : i = j
    · by_cases h2 : a = b
      · simp [h1, h2]
      · have h3 : (S a == S b) = false := beq_eq_false_iff_ne.mpr fun z => h2 (S_inj z)
        have h4 : ¬ b = a := fun z => h2 z.symm
        simp [h1, h3, h4]
    · have h4 : ¬ j = i := fun z => h1 z.symm
      simp [h1, h4]
/-- x in y, y an instance with an own __contains__ -/
def rOwnIn (C : Addr) (sp : Sp) : R2 := fun x y H Q => ∃ b dx fs, y = .ref b ∧ H b = some (.ins C dx fs) ∧ sp [y, x] H (fun z H' => ∃ k, z = .bl k ∧ Q (.bl k) H') C8.E0
theorem o_ownIn (hs : PySem.W.findIn X.K (.ref C) "__contains__" = some (some (.ref g))) (hf : PySem.W.isFn X.K (.ref g) = true) (F : FnR X.prog X.w X.K X.mg X.base C8.CX0 n g sp) (hr : Room n X.A) : OpR X (compareOp .In) (rOwnIn C sp) := fun pins s σ H x y v u Q I rx ry h => by
  obtain ⟨b, dx, fs, rfl, hb, q⟩ := h
  cases (show u = Value.ref b from ry)
  obtain ⟨m1, O1, _⟩ := ins_get I.hok hb; obtain ⟨d1, J1, _⟩ := O1.look
  obtain ⟨m, hF⟩ := I.fr
  refine PySem.W.in_K hF I.ok.mod.kin J1 hs hf (wpAny_mono (wpAny_call (run_fnR (us := [.ref b, v]) (vs := [.ref b, x]) F hr C8.pass0 I (.cons rfl (.cons rx .nil)) q)) (fun w s' z => ?_) fun _ _ e => e)
  obtain ⟨z', H', I', rz, k, ez, qz⟩ := z
  subst ez
  cases (show w = Value.bool k from rz)
  exact wpAny_truthy_bool ⟨.bl k, H', I', rfl, qz⟩
/-- x > y of two instances whose class has an own < only -/
def rOwnGt (C : Addr) (sp : Sp) : R2 := fun x y H Q => ∃ a dx fs b dy gs, x = .ref a ∧ y = .ref b ∧ H a = some (.ins C dx fs) ∧ H b = some (.ins C dy gs) ∧ sp [y, x] H (fun z H' => ∃ k, z = .bl k ∧ Q (.bl k) H') C8.E0
theorem ifB_gt {M : Model} {A : Around} {E : Value → Shared → Prop} {s : Shared} {K : PySem.W.Frag} {x C : Addr} {ox : Obj} {od : Option Obj} {args : List Value} {Q : Option Value → Shared → Prop} (kin : K.In s.heap) (J : PySem.W.InstAt s.heap x ox C od)
    (hs : PySem.W.findIn K (.ref C) "__gt__" = some (some (.builtin "object.__gt__"))) (h : wpAny M A (call (.builtin "object.__gt__") (.ref x :: args)) (fun v => Q (some v)) E s) : wpAny M A (callSpecialIfBound? (.ref x) "__gt__" args) Q E s := by
  have tail : wpAny M A ((call (.builtin "object.__gt__") ([.ref x] ++ args)) >>= fun v => pure (some v)) Q E s := wpAny_bind (wpAny_mono h (fun _ _ q => wpAny_pure q) fun _ _ q => q)
  simp only [callSpecialIfBound?, bindSpecialIfBound?]
  refine wpAny_holding (wpAny_bind (wpAny_bind (wpAny_bind (J.type.here ((PySem.W.looks_findIn kin hs).here (wpAny_bind (wpAny_askSetting (wpAny_ite ?_))))))))
  have both := (PySem.F.slot_object_gt.bind (.ref x) : bindSpecial (.builtin "object.__gt__") (.ref x) = _)
  split
  · exact wpAny_bind (wpAny_of_eq both (wpAny_pure tail))
  · exact wpAny_tryCatch (wpAny_bind (wpAny_of_eq both (wpAny_pure tail)))
theorem gt_kind : builtinKind "object.__gt__" = some .slot := by decide +kernel
theorem gt_split : splitId "object.__gt__" = some ("object", "__gt__") := by decide +kernel
theorem o_ownGt (hgt : PySem.W.findIn X.K (.ref C) "__gt__" = some (some (.builtin "object.__gt__"))) (hm : PySem.W.mroIn X.K C (.type "object") = some true) (hs : PySem.W.findIn X.K (.ref C) "__lt__" = some (some (.ref g))) (hf : PySem.W.isFn X.K (.ref g) = true)
    (F : FnR X.prog X.w X.K X.mg X.base C8.CX0 n g sp) (hr : Room n X.A) : OpR X (compareOp .Gt) (rOwnGt C sp) := fun pins s σ H x y v u Q I rx ry h => by
  obtain ⟨a, dx, fs, b, dy, gs, rfl, rfl, ha, hb, q⟩ := h
  cases (show v = Value.ref a from rx); cases (show u = Value.ref b from ry)
  obtain ⟨m1, O1, _⟩ := ins_get I.hok ha; obtain ⟨d1, J1, _⟩ := O1.look
  obtain ⟨m2, O2, _⟩ := ins_get I.hok hb; obtain ⟨d2, J2, _⟩ := O2.look
  have body : wpAny (model X.prog X.w) X.A.in1 (Builtin.«object.__gt__» ⟨[.ref a, .ref b], []⟩) (fun fin s' => fin = .done (.ret .notImplemented) ∧ s' = s) X.xe s := by
    refine wpAny_of_eq (a := .done (.ret .notImplemented)) (by kernel_rfl) ⟨rfl, rfl⟩
  have one : wpAny (model X.prog X.w) X.A (tryCompare (.ref a) "__gt__" (.ref b)) (fun r s' => r = none ∧ s' = s) X.xe s := by
    unfold tryCompare
    refine wpAny_bind (ifB_gt I.kIn J1 hgt (wpAny_call (codeAny_call_builtin PySem.F.slot_object_gt.plain PySem.F.entry_object_gt (PySem.W.check_slot gt_kind gt_split (J1.type.andThen (PySem.W.looks_mroIn I.kIn hm)) (PySem.F.args_object_gt_2 _ _) (wpAny_mono body (fun fin s' hq => ?_) fun _ _ e => e)))))
    obtain ⟨rfl, rfl⟩ := hq
    exact wpAny_pure ⟨rfl, rfl⟩
  have two : wpAny (model X.prog X.w) X.A (tryCompare (.ref b) "__lt__" (.ref a)) (fun r s' => ∃ v, r = some v ∧ EP X pins σ Q v s') X.xe s := by
    unfold tryCompare
    refine wpAny_bind (PySem.W.ifBound_K I.kIn J2 hs hf (wpAny_mono (wpAny_call (run_fnR (us := [.ref b, .ref a]) (vs := [.ref b, .ref a]) F hr C8.pass0 I (.cons rfl (.cons rfl .nil)) q)) (fun w s' z => ?_) fun _ _ e => e))
    obtain ⟨z', H', I', rz, k, ez, qz⟩ := z
    subst ez
    cases (show w = Value.bool k from rz)
    exact wpAny_pure ⟨_, rfl, .bl k, H', I', rfl, qz⟩
  show wpAny (model X.prog X.w) X.A (richCompare .Gt (.ref a) (.ref b)) (EP X pins σ Q) X.xe s
  unfold richCompare
  simp only [PySem.oneThing_ref, cmpInfo]
  refine wpAny_holding (wpAny_bind (wpAny_cRoomFor hr.units0 (wpAny_bind (J1.type.here (wpAny_bind (J2.type.here ?_))))))
  split
  · rename_i q; simp at q
  · refine wpAny_bind (wpAny_pure ?_)
    simp only [Bool.false_eq_true, if_false]
    refine wpAny_bind (wpAny_mono one (fun r s' z => ?_) fun _ _ e => e)
    obtain ⟨rfl, rfl⟩ := z
    simp only [Bool.not_false, if_true]
    refine wpAny_bind (wpAny_mono two (fun r s' z => ?_) fun _ _ e => e)
    obtain ⟨v, rfl, hq⟩ := z
    exact wpAny_pure hq
end
end Rp
/-! RpPath: parts by paths, the formula with a part exchanged, all nodes; in plain Lean; the promises of at, with_part, in, <. -/
namespace Rp
open PySem PySem.Spec PyProof.Rows L2 SX C8
namespace Fm
/-- the part at an index -/
def pt (t : Fm) (i : Int) : Option Fm := if 0 ≤ i then t.parts[i.toNat]? else none
def atp : Fm → List Int → Option Fm
  | t, [] => some t
  | t, i :: is => (t.pt i).bind fun p => p.atp is
def put : Fm → List Int → Fm → Fm
  | _, [], u => u
  | t, i :: is, u => match t.pt i with
    | some p => mk t.name (t.parts.set i.toNat (p.put is u))
    | none => t
def nodes : Fm → List Fm
  | leaf n => [leaf n]
  | one n a => one n a :: a.nodes
  | two n a b => two n a b :: (a.nodes ++ b.nodes)
end Fm
theorem Fm.pt_mem {t p : Fm} {i : Int} (h : t.pt i = some p) : p ∈ t.parts ∧ 0 ≤ i ∧ i < t.parts.length ∧ t.parts[i.toNat]? = some p := by
  unfold Fm.pt at h
  split at h
  · rename_i h0
    have := (List.getElem?_eq_some_iff.mp h).1
    exact ⟨List.mem_of_getElem? h, h0, by omega, h⟩
  · cases h
theorem Fm.pt_some {t : Fm} {i : Int} (h0 : 0 ≤ i) (h1 : i < t.parts.length) : ∃ p, t.pt i = some p := by
  unfold Fm.pt
  rw [if_pos h0]
  exact ⟨_, List.getElem?_eq_getElem (by omega)⟩
theorem Fm.pt_none {t : Fm} {i : Int} (h : ¬ (0 ≤ i ∧ i < t.parts.length)) : t.pt i = none := by
  unfold Fm.pt
  split
  · exact List.getElem?_eq_none (by omega)
  · rfl
theorem Fm.atp_append (t : Fm) (xs ys : List Int) : t.atp (xs ++ ys) = (t.atp xs).bind fun p => p.atp ys := by
  induction xs generalizing t with
  | nil => rfl
  | cons i is ih =>
    show (t.pt i).bind (fun p => p.atp (is ++ ys)) = ((t.pt i).bind fun p => p.atp is).bind _
    cases t.pt i with
    | none => rfl
    | some p => exact ih p
/-- the way along a path, cut in two -/
theorem Fm.atp_take {t s : Fm} {is : List Int} (h : t.atp is = some s) (k : Nat) : ∃ p, t.atp (is.take k) = some p ∧ p.atp (is.drop k) = some s := by
  have e : is.take k ++ is.drop k = is := List.take_append_drop k is
  rw [← e, Fm.atp_append] at h
  cases q : t.atp (is.take k) with
  | none => rw [q] at h; cases h
  | some p => exact ⟨p, rfl, by rw [q] at h; exact h⟩
theorem Fm.mk_text_set {t p q : Fm} {j : Nat} (h : t.parts[j]? = some p) : (Fm.mk t.name (t.parts.set j q)).text.length + p.text.length = t.text.length + q.text.length := by
  cases t with
  | leaf n => simp [Fm.parts] at h
  | one n a =>
    match j, h with
    | 0, h =>
      have e : a = p := by simpa [Fm.parts] using h
      subst e
      simp [Fm.parts, Fm.mk, Fm.name, Fm.text]; omega
  | two n a b =>
    match j, h with
    | 0, h =>
      have e : a = p := by simpa [Fm.parts] using h
      subst e
      simp [Fm.parts, Fm.mk, Fm.name, Fm.text]; omega
    | 1, h =>
      have e : b = p := by simpa [Fm.parts] using h
      subst e
      simp [Fm.parts, Fm.mk, Fm.name, Fm.text]; omega
theorem Fm.put_text (u : Fm) : ∀ (is : List Int) (t s : Fm), t.atp is = some s → (t.put is u).text.length ≤ t.text.length + u.text.length
  | [], t, s, _ => by simp [Fm.put]
  | i :: is, t, s, h => by
    have h2 : (t.pt i).bind (fun p => p.atp is) = some s := h
    cases q : t.pt i with
    | none => rw [q] at h2; cases h2
    | some p =>
      rw [q] at h2
      have e := Fm.mk_text_set (q := p.put is u) (Fm.pt_mem q).2.2.2
      have ih := Fm.put_text u is p s h2
      have h3 : t.put (i :: is) u = Fm.mk t.name (t.parts.set i.toNat (p.put is u)) := by rw [Fm.put, q]
      rw [h3]; omega
theorem Fm.put_cons {t p u : Fm} {i : Int} {is : List Int} (q : t.pt i = some p) : t.put (i :: is) u = Fm.mk t.name (t.parts.set i.toNat (p.put is u)) := by rw [Fm.put, q]
theorem Fm.atp_text : ∀ (is : List Int) (t s : Fm), t.atp is = some s → s.text.length ≤ t.text.length
  | [], t, s, h => by cases h; exact Nat.le_refl _
  | i :: is, t, s, h => by
    have h2 : (t.pt i).bind (fun p => p.atp is) = some s := h
    cases q : t.pt i with
    | none => rw [q] at h2; cases h2
    | some p =>
      rw [q] at h2
      have := Fm.atp_text is p s h2
      have := Fm.text_part (Fm.pt_mem q).1
      omega
theorem Fm.self_mem : ∀ t : Fm, t ∈ t.nodes
  | .leaf n => by simp [Fm.nodes]
  | .one n a => by simp [Fm.nodes]
  | .two n a b => by simp [Fm.nodes]
theorem Fm.nodes_len : ∀ t : Fm, t.nodes.length = t.size
  | .leaf n => rfl
  | .one n a => by simp [Fm.nodes, Fm.size, Fm.nodes_len a]; omega
  | .two n a b => by simp [Fm.nodes, Fm.size, Fm.nodes_len a, Fm.nodes_len b]; omega
theorem Fm.nodes_all {P : Fm → Prop} (hp : ∀ n p, P n → p ∈ n.parts → P p) : ∀ {t : Fm}, P t → ∀ n ∈ t.nodes, P n
  | .leaf m, h, n, hn => by
    have e : n = .leaf m := by simpa [Fm.nodes] using hn
    rw [e]; exact h
  | .one m a, h, n, hn => by
    rcases List.mem_cons.mp hn with e | e
    · rw [e]; exact h
    · exact Fm.nodes_all hp (hp _ a h (by simp [Fm.parts])) n e
  | .two m a b, h, n, hn => by
    rcases List.mem_cons.mp hn with e | e
    · rw [e]; exact h
    · rcases List.mem_append.mp e with e | e
      · exact Fm.nodes_all hp (hp _ a h (by simp [Fm.parts])) n e
      · exact Fm.nodes_all hp (hp _ b h (by simp [Fm.parts])) n e
/-- some node has this text -/
def Fm.has (t : Fm) (x : List Nat) : Bool := t.nodes.any fun n => decide (n.text = x)
theorem Fm.has_eq (t : Fm) (x : List Nat) : t.has x = (decide (t.text = x) || t.parts.any fun p => p.has x) := by
  cases t with
  | leaf n => simp [Fm.has, Fm.nodes, Fm.parts]
  | one n a => simp [Fm.has, Fm.nodes, Fm.parts]
  | two n a b => simp [Fm.has, Fm.nodes, Fm.parts]
/-! ### promises -/
section
variable {K : PySem.W.Frag} {C : Addr} {H : Hp} {Q : VK} {E : XK}
def spAt (K : PySem.W.Frag) (C : Addr) : Sp := fun vs H Q _ => ∃ (a p : Addr) (t s : Fm) (is : List Int), vs = [.ref a, .ref p] ∧ FormAt K C H t a ∧ SqT K H p (is.map V.int) ∧ is.length ≤ 1000 ∧ t.atp is = some s ∧ ∀ (x : Addr) (H' : Hp), Fr [] H H' → FormAt K C H' s x → Q (.ref x) H'
theorem u_at {a p : Addr} {t s : Fm} {is : List Int} (h1 : FormAt K C H t a) (h2 : SqT K H p (is.map V.int)) (h3 : is.length ≤ 1000) (h4 : t.atp is = some s) (h : ∀ (x : Addr) (H' : Hp), Fr [] H H' → Kp H H' → FormAt K C H' s x → Q (.ref x) H') : spAt K C [.ref a, .ref p] H Q E :=
  ⟨a, p, t, s, is, rfl, h1, h2, h3, h4, fun x H' f z => h x H' f (.of_same f.same) z⟩
def spWith (K : PySem.W.Frag) (C : Addr) : Sp := fun vs H Q _ => ∃ (a p b : Addr) (t u s : Fm) (is : List Int), vs = [.ref a, .ref p, .ref b] ∧ FormAt K C H t a ∧ SqT K H p (is.map V.int) ∧ FormAt K C H u b ∧ is.length ≤ 1000 ∧ t.atp is = some s ∧ t.text.length ≤ 50000 ∧ u.text.length ≤ 50000 ∧
  ∀ (x : Addr) (H' : Hp), Fr [] H H' → FormAt K C H' (t.put is u) x → Q (.ref x) H'
theorem u_with {a p b : Addr} {t u s : Fm} {is : List Int} (h1 : FormAt K C H t a) (h2 : SqT K H p (is.map V.int)) (h3 : FormAt K C H u b) (h4 : is.length ≤ 1000) (h5 : t.atp is = some s) (h6 : t.text.length ≤ 50000) (h7 : u.text.length ≤ 50000)
    (h : ∀ (x : Addr) (H' : Hp), Fr [] H H' → Kp H H' → FormAt K C H' (t.put is u) x → Q (.ref x) H') : spWith K C [.ref a, .ref p, .ref b] H Q E :=
  ⟨a, p, b, t, u, s, is, rfl, h1, h2, h3, h4, h5, h6, h7, fun x H' f z => h x H' f (.of_same f.same) z⟩
def spHas (K : PySem.W.Frag) (C : Addr) : Sp := fun vs H Q _ => ∃ (a b : Addr) (t u : Fm), vs = [.ref a, .ref b] ∧ FormAt K C H t a ∧ FormAt K C H u b ∧ t.size ≤ 100000 ∧ ∀ H', Fr [] H H' → Q (.bl (t.has u.text)) H'
def spLtF (K : PySem.W.Frag) (C : Addr) : Sp := fun vs H Q _ => ∃ (a b : Addr) (t u : Fm), vs = [.ref a, .ref b] ∧ FormAt K C H t a ∧ FormAt K C H u b ∧ ∀ H', Fr [] H H' → Q (.bl (ltKey t.size u.size t.text u.text)) H'
theorem u_ltF {a b : Addr} {t u : Fm} (ha : FormAt K C H t a) (hb : FormAt K C H u b) (h : ∀ H', Fr [] H H' → Kp H H' → Q (.bl (ltKey t.size u.size t.text u.text)) H') : rOwnI C (fun vs H Q E => spLtF K C (vs ++ []) H Q E) (.ref a) (.ref b) H Q := by
  obtain ⟨dx, p, vs, e, _⟩ := ha.out
  obtain ⟨dy, p', vs', e', _⟩ := hb.out
  exact ⟨a, dx, _, b, dy, _, rfl, rfl, e, e', a, b, t, u, rfl, ha, hb, fun H' f => h H' f (.of_same f.same)⟩
theorem u_gtF {a b : Addr} {t u : Fm} (ha : FormAt K C H t a) (hb : FormAt K C H u b) (h : ∀ H', Fr [] H H' → Kp H H' → Q (.bl (ltKey u.size t.size u.text t.text)) H') : rOwnGt C (fun vs H Q E => spLtF K C (vs ++ []) H Q E) (.ref a) (.ref b) H Q := by
  obtain ⟨dx, p, vs, e, _⟩ := ha.out
  obtain ⟨dy, p', vs', e', _⟩ := hb.out
  exact ⟨a, dx, _, b, dy, _, rfl, rfl, e, e', b, a, u, t, rfl, hb, ha, fun H' f => ⟨_, rfl, h H' f (.of_same f.same)⟩⟩
theorem u_inF {a b : Addr} {t u : Fm} (ha : FormAt K C H t a) (hb : FormAt K C H u b) (hz : t.size ≤ 100000) (h : ∀ H', Fr [] H H' → Kp H H' → Q (.bl (t.has u.text)) H') : rOwnIn C (fun vs H Q E => spHas K C (vs ++ []) H Q E) (.ref b) (.ref a) H Q := by
  obtain ⟨dx, p, vs, e, _⟩ := ha.out
  exact ⟨a, dx, _, rfl, e, a, b, t, u, rfl, ha, hb, hz, fun H' f => ⟨_, rfl, h H' f (.of_same f.same)⟩⟩
theorem u_chain {r r' : R2} {ta tb tc : TE} {σ : L2.St} (h : ta σ H fun x H1 => tb σ H1 fun y H2 => r x y H2 fun z H3 => ∃ k, z = .bl k ∧ (if k = true then tc σ H3 fun w' H4 => r' y w' H4 Q else Q (.bl false) H3)) : tChain r r' ta tb tc σ H Q := h
theorem u_ltK {p q : Addr} {i j : Int} {a b : List Nat} (h1 : SqT K H p [.int i, .str (S a)]) (h2 : SqT K H q [.int j, .str (S b)]) (h : Q (.bl (ltKey i j a b)) H) : rLtK K (.ref p) (.ref q) H Q := ⟨p, q, i, j, a, b, rfl, rfl, h1, h2, h⟩
theorem u_gtK {p q : Addr} {i j : Int} {a b : List Nat} (h1 : SqT K H p [.int i, .str (S a)]) (h2 : SqT K H q [.int j, .str (S b)]) (h : Q (.bl (ltKey j i b a)) H) : rGtK K (.ref p) (.ref q) H Q := ⟨p, q, i, j, a, b, rfl, rfl, h1, h2, h⟩
end
section
variable {X : Cx} {σ : L2.St} {H : Hp} {Q : VK} {E : XK} {ta : TE} {t : TA}
theorem o_ltA (K : PySem.W.Frag) (hu : X.A.units < cLine) (h : X.K = K := by rfl) : OpR X (compareOp .Lt) (rLtK K) := by subst h; exact o_ltK hu
theorem o_gtA (K : PySem.W.Frag) (hu : X.A.units < cLine) (h : X.K = K := by rfl) : OpR X (compareOp .Gt) (rGtK K) := by subst h; exact o_gtK hu
end
/-- a method of a formula: behind the receiver -/
def MTk (C : Addr) (m : Str) (sp : Sp) (dvs : List V) (E : XK) (t : TA) (σ : L2.St) (Q : VK) : V → Hp → Prop := fun x H1 => ∃ a dx fs, x = .ref a ∧ H1 a = some (.ins C dx fs) ∧ fs.lookup m = none ∧ t σ H1 fun vs H2 => sp (x :: (vs ++ dvs)) H2 Q E
theorem n_an : ¬ (("at" : Str) = "name") := by decide +kernel
theorem n_ap : ¬ (("at" : Str) = "parts") := by decide +kernel
theorem n_as : ¬ (("at" : Str) = "size") := by decide +kernel
theorem n_at' : ¬ (("at" : Str) = "text") := by decide +kernel
theorem n_wn : ¬ (("with_part" : Str) = "name") := by decide +kernel
theorem n_wp : ¬ (("with_part" : Str) = "parts") := by decide +kernel
theorem n_ws : ¬ (("with_part" : Str) = "size") := by decide +kernel
theorem n_wt : ¬ (("with_part" : Str) = "text") := by decide +kernel
section
variable {K : PySem.W.Frag} {C : Addr} {σ : L2.St} {H : Hp} {Q : VK} {E : XK} {ta : TE} {t : TA} {sp : Sp} {dvs : List V} {m : Str}
theorem fF_no {f : Str} (h1 : ¬ f = "name") (h2 : ¬ f = "parts") (h3 : ¬ f = "size") (h4 : ¬ f = "text") : ∀ n p z x, (fF n p z x).lookup f = none := fun n p z x => (lookup_cons_ne h1).trans ((lookup_cons_ne h2).trans ((lookup_cons_ne h3).trans ((lookup_cons_ne h4).trans rfl)))
theorem fF_at : ∀ (n : List Nat) (p : Addr) (z : Int) (x : List Nat), (fF n p z x).lookup ("at" : Str) = none := fF_no n_an n_ap n_as n_at'
theorem fF_with : ∀ (n : List Nat) (p : Addr) (z : Int) (x : List Nat), (fF n p z x).lookup ("with_part" : Str) = none := fF_no n_wn n_wp n_ws n_wt
theorem u_meth (h : ta σ H (MTk C m sp dvs E t σ Q)) : tMeth C m sp dvs E ta t σ H Q := h
theorem u_mF {u : Fm} {a : Addr} (hn : ∀ n p z x, (fF n p z x).lookup m = none) (ha : FormAt K C H u a) (h : t σ H fun vs H2 => sp (.ref a :: (vs ++ dvs)) H2 Q E) : MTk C m sp dvs E t σ Q (.ref a) H := by
  obtain ⟨dx, p, vs, e, _⟩ := ha.out
  exact ⟨a, dx, _, rfl, e, hn _ _ _ _, h⟩
end
/-- the last of several -/
theorem FormsAt.last {K : PySem.W.Frag} {C : Addr} {H : Hp} : ∀ {ss : List Fm} {ys : List V} {y : V}, FormsAt K C H ss (ys ++ [y]) → ∃ ss' s a, ss = ss' ++ [s] ∧ FormsAt K C H ss' ys ∧ y = .ref a ∧ FormAt K C H s a
  | _, [], y, h => by
    cases h with
    | cons r p =>
      cases p
      obtain ⟨a, e, z⟩ := r
      exact ⟨[], _, a, rfl, .nil, e, z⟩
  | _, x :: ys, y, h => by
    cases h with
    | cons r p =>
      obtain ⟨ss', s, a, e, h1, h2, h3⟩ := FormsAt.last (ys := ys) p
      exact ⟨_ :: ss', s, a, by rw [e]; rfl, .cons r h1, h2, h3⟩
theorem cutV_take {xs : List V} {n : Nat} (h : n ≤ xs.length) : cutV xs none (some (n : Int)) = xs.take n := by
  unfold cutV
  rw [HT.sIx_none, HT.sIx_nat, Nat.min_eq_left h, List.drop_zero, Nat.sub_zero]
theorem cutV_drop {xs : List V} {n : Nat} (h : n ≤ xs.length) : cutV xs (some (n : Int)) none = xs.drop n := by
  unfold cutV
  rw [HT.sIx_nat, HT.sIx_none, Nat.min_eq_left h]
  exact List.take_of_length_le (by simp)
theorem FormsAt.set {K : PySem.W.Frag} {C : Addr} {H : Hp} : ∀ {ts : List Fm} {vs : List V} {j : Nat} {t : Fm} {a : Addr}, FormsAt K C H ts vs → FormAt K C H t a → FormsAt K C H (ts.set j t) (vs.set j (.ref a))
  | [], _, _, _, _, h, _ => by cases h; exact .nil
  | _ :: _, _, 0, _, a, h, z => by
    cases h with
    | cons r p => exact .cons ⟨a, rfl, z⟩ p
  | _ :: ts, _, j + 1, _, _, h, z => by
    cases h with
    | cons r p => exact .cons r (FormsAt.set (j := j) p z)
end Rp
/-! RpK03: order and equality of formulas against their tuples, in plain Lean; promises of the law's helpers. -/
namespace Rp
open PySem PySem.Spec PyProof.Rows L2 SX C8
/-- every node is either looked at or below one that is left -/
def BfsAny (t : Fm) (i : Nat) (ns : List Fm) : Prop := ∀ p : Fm → Bool, t.nodes.any p = ((ns.take i).any p || (ns.drop i).any fun n => n.nodes.any p)
theorem Fm.nodes_any (t : Fm) (p : Fm → Bool) : t.nodes.any p = (p t || t.parts.any fun q => q.nodes.any p) := by
  cases t with
  | leaf n => simp [Fm.nodes, Fm.parts]
  | one n a => simp [Fm.nodes, Fm.parts]
  | two n a b => simp [Fm.nodes, Fm.parts]
theorem BfsAny.start (t : Fm) : BfsAny t 0 [t] := fun p => by simp
theorem BfsAny.step {t n : Fm} {i : Nat} {ns : List Fm} (h : BfsAny t i ns) (hn : ns[i]? = some n) : BfsAny t (i + 1) (ns ++ n.parts) := fun p => by
  obtain ⟨hi, e⟩ := List.getElem?_eq_some_iff.mp hn
  rw [h p, List.drop_eq_getElem_cons hi, e, List.any_cons, n.nodes_any, List.take_append_of_le_length (by omega), List.drop_append_of_le_length (by omega), List.any_append, List.take_add_one, hn, List.any_append]
  simp only [Option.toList_some, List.any_cons, List.any_nil, Bool.or_false]
  cases (List.take i ns).any p <;> cases p n <;> cases (n.parts.any fun q => q.nodes.any p) <;> simp
theorem BfsAny.done {t : Fm} {ns : List Fm} (h : BfsAny t ns.length ns) (p : Fm → Bool) : t.nodes.any p = ns.any p := by
  rw [h p, List.take_length, List.drop_length]; simp
/-- what the written form tells -/
theorem Fm.text_inj {t u : Fm} (h1 : t.Ok) (h2 : u.Ok) (e : t.text = u.text) : t = u := by
  have a := parse_text h1
  rw [e, parse_text h2] at a
  exact (Option.some.inj a).symm
theorem key_eq {t u : Fm} (h1 : t.Ok) (h2 : u.Ok) : decide (t.size = u.size ∧ t.text = u.text) = decide (t = u) := by
  by_cases h : t = u
  · subst h; simp
  · have : ¬ t.text = u.text := fun e => h (Fm.text_inj h1 h2 e)
    simp [h, this]
theorem S_beq (a b : List Nat) : (S a == S b) = decide (a = b) := by
  by_cases q : a = b
  · subst q; simp
  · rw [beq_eq_false_iff_ne.mpr fun z => q (S_inj z)]; simp [q]
theorem data_eqv : ∀ t u : Fm, PyData.eqv t.data u.data = decide (t = u)
  | .leaf n, .leaf m => by simp [Fm.data, PyData.eqv, PyData.eqvAll, S_beq]
  | .leaf n, .one m a => by simp [Fm.data, PyData.eqv, PyData.eqvAll]
  | .leaf n, .two m a b => by simp [Fm.data, PyData.eqv, PyData.eqvAll]
  | .one n x, .leaf m => by simp [Fm.data, PyData.eqv, PyData.eqvAll]
  | .one n x, .one m a => by simp [Fm.data, PyData.eqv, PyData.eqvAll, S_beq, data_eqv x a]
  | .one n x, .two m a b => by simp [Fm.data, PyData.eqv, PyData.eqvAll]
  | .two n x y, .leaf m => by simp [Fm.data, PyData.eqv, PyData.eqvAll]
  | .two n x y, .one m a => by simp [Fm.data, PyData.eqv, PyData.eqvAll]
  | .two n x y, .two m a b => by simp [Fm.data, PyData.eqv, PyData.eqvAll, S_beq, data_eqv x a, data_eqv y b]
theorem Fm.nodes_ok {t : Fm} (h : t.Ok) : ∀ n ∈ t.nodes, n.Ok := Fm.nodes_all (fun n p hn hp => hn.part hp) h
theorem has_eqv {t u : Fm} (h1 : t.Ok) (h2 : u.Ok) : t.has u.text = t.nodes.any fun n => PyData.eqv n.data u.data := by
  unfold Fm.has
  rw [Bool.eq_iff_iff, List.any_eq_true, List.any_eq_true]
  constructor
  · rintro ⟨n, hn, e⟩
    exact ⟨n, hn, by rw [data_eqv]; exact decide_eq_true (Fm.text_inj (Fm.nodes_ok h1 n hn) h2 (of_decide_eq_true e))⟩
  · rintro ⟨n, hn, e⟩
    rw [data_eqv] at e
    exact ⟨n, hn, by rw [of_decide_eq_true e]; simp⟩
theorem tups_dp {K : PySem.W.Frag} {H : Hp} {ns : List Fm} {vs : List V} (h : TupsAt K H ns vs) : DpAll K H vs (ns.map Fm.data) := by
  induction h with
  | nil => exact .nil
  | cons r _ ih => obtain ⟨a, e, z⟩ := r; subst e; exact .cons z.dp ih
theorem tups_canLay : ∀ {ns : List Fm}, (∀ n ∈ ns, n.Ok) → PyData.canLayAll0 (ns.map Fm.data) = true
  | [], _ => by simp [PyData.canLayAll0]
  | n :: ns, h => by
    have e := tups_canLay (ns := ns) fun m hm => h m (by simp [hm])
    simp [PyData.canLayAll0, data_canLay (h n (by simp)), e]
theorem tups_depth {d : Nat} : ∀ {ns : List Fm}, (∀ n ∈ ns, n.depth ≤ d) → PyData.depthAll (ns.map Fm.data) ≤ d + 2
  | [], _ => by simp [PyData.depthAll]
  | n :: ns, h => by
    have e := tups_depth (ns := ns) fun m hm => h m (by simp [hm])
    have e1 := data_depth n
    have e2 := h n (by simp)
    simp [PyData.depthAll]; omega
theorem tups_shaped {ns : List Fm} (h : ∀ n ∈ ns, n.Ok) (hd : ∀ n ∈ ns, n.depth ≤ 20) : SeqAt.shaped (.list (ns.map Fm.data)) = true := by
  have := tups_depth hd
  simp [SeqAt.shaped, PyData.canLay0, tups_canLay h, PyData.depth]; omega
theorem any_map_data (ns : List Fm) (u : Fm) : ((ns.map Fm.data).any fun z => PyData.eqv z u.data) = ns.any fun n => PyData.eqv n.data u.data := by rw [List.any_map]; rfl
section
variable {K : PySem.W.Frag} {C : Addr} {H : Hp} {Q : VK} {E : XK}
def spNodes (K : PySem.W.Frag) : Sp := fun vs H Q _ => ∃ (a : Addr) (t : Fm), vs = [.ref a] ∧ TupAt K H t a ∧ t.Ok ∧ t.depth ≤ 20 ∧ t.size ≤ 20000 ∧
  ∀ (q : Addr) (ns : List Fm) (ws : List V) (H' : Hp), Fr [] H H' → H q = none → H' q = some (.lst ws) → TupsAt K H' ns ws → ns.length = t.size → (∀ n ∈ ns, n.Ok ∧ n.depth ≤ t.depth ∧ n.size ≤ t.size) → (∀ p, t.nodes.any p = ns.any p) → Q (.ref q) H'
theorem u_nodes {a : Addr} {t : Fm} (h1 : TupAt K H t a) (h2 : t.Ok) (h3 : t.depth ≤ 20) (h4 : t.size ≤ 20000)
    (h : ∀ (q : Addr) (ns : List Fm) (ws : List V) (H' : Hp), Fr [] H H' → Kp H H' → H q = none → H' q = some (.lst ws) → TupsAt K H' ns ws → ns.length = t.size → (∀ n ∈ ns, n.Ok ∧ n.depth ≤ t.depth ∧ n.size ≤ t.size) → (∀ p, t.nodes.any p = ns.any p) → Q (.ref q) H') : spNodes K ([.ref a] ++ []) H Q E :=
  ⟨a, t, rfl, h1, h2, h3, h4, fun q ns ws H' f => h q ns ws H' f (.of_same f.same)⟩
def spChg (K : PySem.W.Frag) (k : Nat) : Sp := fun vs H Q _ => ∃ (a l : Addr) (z : Int) (t : Fm) (ln : List Nat), vs = [.ref a, .ref l, .int z] ∧ TupAt K H t a ∧ TupAt K H (.leaf ln) l ∧ (Fm.leaf ln).Ok ∧ t.Ok ∧ t.depth < k ∧ k ≤ 20 ∧ t.size ≤ 20000 ∧
  ∀ (t' : Fm) (b : Addr) (H' : Hp), t'.Ok → t'.depth ≤ t.depth → t'.size ≤ t.size → TupAt K H' t' b → Fr [] H H' → Q (.ref b) H'
theorem u_chg {k : Nat} {a l : Addr} {z : Int} {t : Fm} {ln : List Nat} (h1 : TupAt K H t a) (h2 : TupAt K H (.leaf ln) l) (h3 : (Fm.leaf ln).Ok) (h4 : t.Ok) (h5 : t.depth < k) (h5' : k ≤ 20) (h6 : t.size ≤ 20000)
    (h : ∀ (t' : Fm) (b : Addr) (H' : Hp), t'.Ok → t'.depth ≤ t.depth → t'.size ≤ t.size → TupAt K H' t' b → Fr [] H H' → Kp H H' → Q (.ref b) H') : spChg K k ([.ref a, .ref l, .int z] ++ []) H Q E :=
  ⟨a, l, z, t, ln, rfl, h1, h2, h3, h4, h5, h5', h6, fun t' b H' x1 x2 x3 x4 f => h t' b H' x1 x2 x3 x4 f (.of_same f.same)⟩
def spPair (K : PySem.W.Frag) (C : Addr) : Sp := fun vs H Q _ => ∃ (af ag ta ua : Addr) (t u : Fm), vs = [.ref af, .ref ag, .ref ta, .ref ua] ∧ FormAt K C H t af ∧ FormAt K C H u ag ∧ TupAt K H t ta ∧ TupAt K H u ua ∧ t.Ok ∧ u.Ok ∧ t.depth ≤ 9 ∧ u.depth ≤ 9 ∧ ∀ H', Fr [] H H' → Q (.bl true) H'
theorem u_pair {af ag ta ua : Addr} {t u : Fm} (h1 : FormAt K C H t af) (h2 : FormAt K C H u ag) (h3 : TupAt K H t ta) (h4 : TupAt K H u ua) (h5 : t.Ok) (h6 : u.Ok) (h7 : t.depth ≤ 9) (h8 : u.depth ≤ 9) (h : ∀ H', Fr [] H H' → Kp H H' → Q (.bl true) H') :
    spPair K C ([.ref af, .ref ag, .ref ta, .ref ua] ++ []) H Q E := ⟨af, ag, ta, ua, t, u, rfl, h1, h2, h3, h4, h5, h6, h7, h8, fun H' f => h H' f (.of_same f.same)⟩
theorem u_isiBB {k : Bool} (h : Q (.bl true) H) : rIsi K [.bl k, .ty "bool"] H Q := ⟨_, _, _, _, _, rfl, .ty _, .base (.bl k), kit_ty (by decide +kernel), h⟩
theorem u_neB {a b : Bool} (h : Q (.bl (!decide (a = b))) H) : rNe (.bl a) (.bl b) H Q := ⟨rfl, by
  have e : decide (V.bl a = V.bl b) = decide (a = b) := by by_cases q : a = b <;> simp [q]
  rw [e]; exact h⟩
theorem u_inD {x y : V} {d : PyData} {ds : List PyData} (h1 : Dp K H x d) (h2 : Dp K H y (.list ds)) (h3 : SeqAt.shaped d = true) (h4 : SeqAt.shaped (.list ds) = true) (h : Q (.bl (ds.any fun z => PyData.eqv z d)) H) : rInD K x y H Q := ⟨d, ds, h1, h2, h3, h4, h⟩
theorem o_inD {X : Cx} (K : PySem.W.Frag) (hu : X.A.units + 65 < cLine) (h : X.K = K := by rfl) : OpR X (compareOp .In) (rInD K) := by subst h; exact op_inD hu
end
/-- what of the text Formula's <, > and in need -/
structure FO2 (K : PySem.W.Frag) (C gL gC : Addr) : Prop where
  lt : PySem.W.findIn K (.ref C) "__lt__" = some (some (.ref gL))
  ltF : PySem.W.isFn K (.ref gL) = true
  gt : PySem.W.findIn K (.ref C) "__gt__" = some (some (.builtin "object.__gt__"))
  con : PySem.W.findIn K (.ref C) "__contains__" = some (some (.ref gC))
  conF : PySem.W.isFn K (.ref gC) = true
theorem room65 {k : Nat} {A : Around} (r : Room k A) : A.units + 65 < cLine := by
  have := r.un
  omega
theorem pick5b {b0 b1 b2 b3 b4 : Bool} {i : Nat} (h : i < 5) : ∃ b, atI [V.bl b0, V.bl b1, V.bl b2, V.bl b3, V.bl b4] ((0 : Int) + (i : Int)) = some (V.bl b) := by
  have h : i = 0 ∨ i = 1 ∨ i = 2 ∨ i = 3 ∨ i = 4 := by omega
  rcases h with rfl | rfl | rfl | rfl | rfl
  · exact ⟨b0, rfl⟩
  · exact ⟨b1, rfl⟩
  · exact ⟨b2, rfl⟩
  · exact ⟨b3, rfl⟩
  · exact ⟨b4, rfl⟩
theorem Fm.mk_size {n : List Nat} {ps : List Fm} (h : ps.length ≤ 2) : (Fm.mk n ps).size = 1 + (ps.map Fm.size).sum := by rw [Fm.size_eq, Fm.mk_parts h]
/-- the same name over as many other parts -/
theorem Fm.Ok.remake {t : Fm} {ps : List Fm} (h : t.Ok) (hl : ps.length = t.parts.length) (hp : ∀ p ∈ ps, p.Ok) : (Fm.mk t.name ps).Ok := by
  cases t with
  | leaf n =>
    have e : ps = [] := List.eq_nil_of_length_eq_zero hl
    subst e; exact h
  | one n a => exact Fm.mk_ok h.1 (by rw [hl]; simp [Fm.parts]) (by rw [hl]; simp [Fm.parts]) hp
  | two n a b => exact Fm.mk_ok h.1 (by rw [hl]; simp [Fm.parts]) (by rw [hl]; simp [Fm.parts]) hp
theorem Fm.remake_depth {t : Fm} {ps : List Fm} (hl : ps.length = t.parts.length) (hp : ∀ p ∈ ps, p.depth < t.depth) : (Fm.mk t.name ps).depth ≤ t.depth := by
  cases t with
  | leaf n =>
    have e : ps = [] := List.eq_nil_of_length_eq_zero hl
    subst e; exact Nat.le_refl _
  | one n a => exact Fm.mk_depth hp (by simp [Fm.depth])
  | two n a b => exact Fm.mk_depth hp (by simp [Fm.depth])
theorem sum_take_succ {l : List Fm} {i : Nat} {p : Fm} (h : l[i]? = some p) : ((l.take (i + 1)).map Fm.size).sum = ((l.take i).map Fm.size).sum + p.size := by
  rw [List.take_add_one, h]; simp
theorem shaped_four {i j : Int} {a b : List Nat} (h : ∀ c ∈ a, c < 200) (h' : ∀ c ∈ b, c < 200) : SeqAt.shaped (.tuple [.str (S a), .str (S b), .int i, .int j]) = true := by
  simp [SeqAt.shaped, PyData.canLay0, PyData.canLayAll0, strOk_S h, strOk_S h', PyData.depth, PyData.depthAll]
theorem atp_zero {t p : Fm} {rest : List Fm} (h : t.parts = p :: rest) : t.atp [0] = some p := by
  show (t.pt 0).bind _ = _
  have e : t.pt 0 = some p := by unfold Fm.pt; rw [if_pos (by decide), h]; rfl
  rw [e]; rfl
theorem put_zero {t p u : Fm} {rest : List Fm} (h : t.parts = p :: rest) : t.put [0] u = Fm.mk t.name (u :: rest) := by
  have e : t.pt 0 = some p := by unfold Fm.pt; rw [if_pos (by decide), h]; rfl
  rw [Fm.put_cons e, h]; rfl
end Rp
/-! RpExc: an own exception's __init__ that says super().__init__(a text) first: its def has the cell of __class__; the statement is walked by the kit's super rules, all else by the hand layer. -/
namespace Rp
open PySem PySem.Spec PyProof.Rows L2 SX C8
/-- what of the text such an __init__ and its class need -/
structure SupF (K : PySem.W.Frag) (P : Program) (mg : Str → Option Value) (C f cc cda : Addr) : Prop where
  oex : OexC K C
  cls : ∃ cd, PySem.W.clsIn K C = some cd
  self : PySem.W.mroIn K C (.ref C) = some true
  sup : PySem.W.ks_superIn K C C "__init__" = some (some (.builtin "ValueError.__init__"))
  ve : PySem.W.subIn K (.ref C) (.type "ValueError") = some true
  opq : PySem.W.nsIn K PySem.cStatics "thirdparty.any" = some none
  cell : ∃ cl cld csl, K.lookup cc = some ⟨cl, cld, .cell (some (.ref C)), csl⟩
  code : ∃ ccl cdd vs ccs file tf, K.lookup cda = some ⟨ccl, cdd, .fields vs, ccs⟩ ∧ vs[2]? = some (.str file tf) ∧ ((P.main.file : Str) == file) = true
  nsup : mg "super" = none
  top : (P.main.scope.names.lookup ("super" : Str)).isSome = false
section
variable {X : Cx} {pins : List (Addr × Obj)} {σ : L2.St} {H : Hp} {s : Shared} {a C f cc cda : Addr} {x0 : Str}
/-- a parameter's value by its name -/
theorem ld_param {i : Nat} {v : V} {Q : Value → Shared → Prop} {E : Value → Shared → Prop} (I : Inv X pins σ H s) (hN : X.N[i]? = some x0) (hs : σ[i]? = some (some v)) (hk : X.env.kindOf x0 = some .local) (hk2 : X.env.scope.kind = .function) (hl : X.env.scope.names.lookup x0 = some .local)
    (h : ∀ u, RelV v u → Q u s) : wpAny (model X.prog X.w) X.A (loadName X.env x0) Q E s := by
  obtain ⟨m, hn, hv⟩ := I.loc
  obtain ⟨u, ru, lk⟩ := hv i x0 v hN hs (.inl hl)
  rcases lk with ⟨_, e⟩ | ⟨k, _⟩
  · exact wpAny_loadName_local hk2 hk hn e (h u ru)
  · rw [hk] at k
    rcases k with k | k <;> cases k
/-- super(), in the body of such an __init__ -/
theorem sup_base {body : List Stmt} {p0 p1 : Pos} {attr : Str} {whole : Sem Value} {fd : FuncData} {ar : Arg} {Q : Value → Shared → Prop} {E : Value → Shared → Prop} {oc : Value} {od : Option Addr} {osl : Array (Option Value)}
    (F : SupF X.K X.prog X.mg C f cc cda) (I : Inv X pins σ H s) (ha : H a = some (exo a C none)) (hks : X.env.kindOf "super" = some .globalImplicit) (hkc : X.env.kindOf "__class__" = some .free) (hcl : X.env.cells.lookup ("__class__" : Str) = some cc) (hfu : X.env.func = some f) (hco : X.env.code = .ref cda)
    (hf : X.K.lookup f = some ⟨oc, od, .func fd, osl⟩) (hp : (fd.params.posonlyargs ++ fd.params.args).head? = some ar) (hN : X.N[0]? = some ar.arg) (hs : σ[0]? = some (some (.ref a))) (hka : X.env.kindOf ar.arg = some .local) (hla : X.env.scope.names.lookup ar.arg = some .local) (hat : (attr == ("__class__" : Str)) = false)
    (h : ∀ so s', s'.heap.get? so = some (PySem.W.ks_superObj C a C) → Inv X pins σ H s' → Q (.ref so) s') :
    PySem.wpAt (model X.prog X.w) X.A (.func body X.env) (attributeBase (.Call (.Name "super" p0) [] [] p1) attr X.env whole) Q E s := by
  obtain ⟨cd, hcd⟩ := F.cls
  obtain ⟨cl, cld, csl, hcell⟩ := F.cell
  obtain ⟨ccl, cdd, vs, ccs, file, tf, hcode, hvs, hfile⟩ := F.code
  have kin := I.kIn
  obtain ⟨t1, hx⟩ := exo_at I.hok ha
  obtain ⟨oD, hD1, hD2⟩ : ∃ oD, s.heap.get? C = some oD ∧ oD.data = .cls cd := by
    unfold PySem.W.clsIn at hcd
    split at hcd
    · rename_i c d cd' sl ho
      cases hcd
      exact ⟨_, kin _ _ ho, rfl⟩
    · cases hcd
  refine PySem.ks_wpAt_super_base (env := X.env) hks hkc hat hfu (kin _ _ hf) rfl hp hco (kin _ _ hcode) rfl hvs hfile F.top ?_
  obtain ⟨mb, b1, b2⟩ := I.mod.blt
  refine PySem.W.ks_loadName_global I.ok.kind hks (Calls.loadGlobal_builtin (by rw [I.ok.glob]; exact I.mod.glob.keeps I.bk) F.nsup (by rw [I.ok.blt]; exact b1.keeps I.bk) ((b2 "super" (by decide +kernel)).trans (by decide +kernel : bootBuiltins "super" = some (.type "super"))) ⟨rfl, ?_⟩)
  refine wpAny_loadName_free I.ok.kind hkc hcl ⟨_, kin _ _ hcell, rfl⟩ ?_
  refine ld_param I hN hs hka I.ok.kind hla (fun u ru => ?_)
  cases (show u = Value.ref a from ru)
  obtain ⟨hh, g, d, t, os⟩ := s
  refine PySem.ks_wpAny_isType_cls hD1 hD2 ⟨rfl, ?_⟩
  refine PySem.ks_wpAny_call_super hD1 hD2 hx rfl (fun c e => nomatch e) (PySem.W.looks_mroIn kin F.self) (fun h' e k => ?_)
  exact h _ _ e (I.kept (t' := t) k)
/-- the bound built-in __init__ called: nothing of it is told -/
theorem call_mw {u : Addr} {us : List Value} {Q : Value → Shared → Prop} {A : Around} {E : Value → Shared → Prop} (T : OexC X.K C) (I : Inv X pins σ H s) (ha : H a = some (exo a C none)) (hu : s.heap.get? u = some (PySem.W.kxs_mw "ValueError.__init__" a)) (hl : us.length ≤ sizeLine)
    (h : ∀ s', Inv X pins σ H s' → Q .none s') : wpAny (model X.prog X.w) A (call (.ref u) us) Q E s := by
  obtain ⟨nm, q, N, bs, bm, sn, sub, ab, col, dd, k0, k1, k2, k3, k5, hC, hbm⟩ := T.cls
  obtain ⟨t1, ho⟩ := exo_at I.hok ha
  obtain ⟨hp, g, d, t, os⟩ := s
  refine wpAny_call (codeAny_of_tree ?_)
  show wpAny _ A.in1 (callAny (.ref u) ⟨us, []⟩) _ _ _
  simp only [callAny]
  refine wpAny_bind (wpAny_load hu ?_)
  simp only [PySem.W.kxs_mw, show (Value.type "method-wrapper" == Value.type "method" || Value.type "method-wrapper" == Value.type "builtin_function_or_method" || Value.type "method-wrapper" == Value.type "method-wrapper") = true by decide, if_true]
  refine PySem.W.KFB.if_so (by decide) (wpAny_bind (PySem.W.check_bound_init F.excBase_ValueError.toExcCallFacts (I.kIn _ _ hC) ho rfl (wpAny_bind (wpAny_pure (wpAny_pure ⟨plainId_quiet F.excBase_ValueError.init.plain _, codeAny_builtin F.excBase_ValueError.initEntry ?_⟩)))))
  refine PySem.W.exc_init_tree (cls := .ref C) (t0 := t1) (dv := none) (c2 := .none) (c3 := .none) (b4 := .bool false) ho hl (fun h' k hx _ => ?_)
  have J := I.write (t' := t) (x := a) (e := a) (o := exo a C none) (by rw [ha]; exact True.intro) (.inl rfl) k ⟨_, hx⟩ (exo_ok hx)
  have eu : upd H a (exo a C none) = H := by
    funext b
    unfold upd
    split
    · rename_i e; rw [e, ha]
    · rfl
  rw [eu] at J
  exact h _ J
/-- super().__init__(e) as a statement -/
theorem sup_stmt {body : List Stmt} {p0 p1 apos pos epos : Pos} {e : Expr} {fd : FuncData} {ar : Arg} {oc : Value} {od : Option Addr} {osl : Array (Option Value)}
    (F : SupF X.K X.prog X.mg C f cc cda) (I : Inv X pins σ H s) (ha : H a = some (exo a C none)) (hks : X.env.kindOf "super" = some .globalImplicit) (hkc : X.env.kindOf "__class__" = some .free) (hcl : X.env.cells.lookup ("__class__" : Str) = some cc) (hfu : X.env.func = some f) (hco : X.env.code = .ref cda)
    (hf : X.K.lookup f = some ⟨oc, od, .func fd, osl⟩) (hp : (fd.params.posonlyargs ++ fd.params.args).head? = some ar) (hN : X.N[0]? = some ar.arg) (hs : σ[0]? = some (some (.ref a))) (hka : X.env.kindOf ar.arg = some .local) (hla : X.env.scope.names.lookup ar.arg = some .local)
    {pl : Sem Bool} {ta : TA} (he : PA X [e] ta) (hq : ta σ H fun vs H' => vs.length ≤ 1000 ∧ H' = H) (hin : interactive X.env = false := by rfl) (hsw : swapsWith (.Call (.Attribute (.Call (.Name "super" p0) [] [] p1) "__init__" apos) [e] [] pos) none epos.line X.env = pure false := by rfl)
    (hst : starEach [e] X.env = [(false, eval e X.env)] := by rfl)
    (ht : eval (.Call (.Attribute (.Call (.Name "super" p0) [] [] p1) "__init__" apos) [e] [] pos) X.env = (do
      let ov ← attributeBase (.Call (.Name "super" p0) [] [] p1) "__init__" X.env (eval (.Call (.Name "super" p0) [] [] p1) X.env)
      standAt apos.atName
      let (f, first) ← holding [ov] (getMethod ov "__init__" pl)
      callWith pos f first (backTo pos (starEach [e] X.env)) []) := by rfl) :
    PySem.wpAt (model X.prog X.w) X.A (.func body X.env) (exec (.Expr (.Call (.Attribute (.Call (.Name "super" p0) [] [] p1) "__init__" apos) [e] [] pos) epos) X.env) (fun fl s' => fl = .next ∧ Inv X pins σ H s') X.xe s := by
  obtain ⟨cd, hcd⟩ := F.cls
  refine PySem.ks_wpAt_Expr_any (PySem.ks_wpAt_MethodCall (sup_base F I ha hks hkc hcl hfu hco hf hp hN hs hka hla (by decide) (fun so s1 hso I1 => ?_)) ht) hin hsw
  have hsup := F.sup
  unfold PySem.W.ks_superIn at hsup
  rw [hcd, Option.bind_some] at hsup
  obtain ⟨t1, hx⟩ := exo_at I1.hok ha
  have kin := I1.kIn
  have J : PySem.W.InstAt s1.heap a _ C none := ⟨hx, rfl, rfl, trivial⟩
  obtain ⟨hh, g, d, t, os⟩ := s1
  refine PySem.W.kxs_getMethod PySem.W.kxs_ValueError hso (PySem.W.looks_opaque kin F.opq) (l₀ := cd.mro) ?_ rfl kin hsup (J.type.andThen (PySem.W.looks_subIn kin F.ve)) (PySem.W.ks_ne kin J hcd) (by decide) ?_
  · exact fun A Q E s k q => wpAny_bind ((PySem.W.looks_clsIn kin hcd) A _ E s k (wpAny_pure q))
  have hm : (hh.push (PySem.W.kxs_mw "ValueError.__init__" a)).get? hh.objs.size = some (PySem.W.kxs_mw "ValueError.__init__" a) := Heap.get?_push_size _ rfl
  have I2 : Inv X ((hh.objs.size, PySem.W.kxs_mw "ValueError.__init__" a) :: pins) σ H { heap := hh.push (PySem.W.kxs_mw "ValueError.__init__" a), gens := g, drawn := d, toks := t + 1, os := os } :=
    ClX.pin_new I1 (fun b o e => Heap.get?_push_of_some _ e) (Nat.le_refl _) hm (fun v z => nomatch z)
  have run := he.run pos _ _ σ H _ I2 hq
  rw [hst] at run ⊢
  refine PySem.W.kxs_callWith (i := "ValueError.__init__") (x := a) rfl (PySem.Calls.evalArgs_plain (thn run fun us s3 ⟨vs, H3, I3, r3, hl3, eH⟩ => ?_))
  subst eH
  have hl : us.length ≤ sizeLine := by rw [← r3.length, sizeLine_eq]; omega
  refine ⟨ClX.pin_at I3, call_mw F.oex I3 ha (ClX.pin_at I3) hl (fun s4 I4 => ⟨rfl, ClX.unpin I4⟩)⟩
end
/-! ### a def with the cell of __class__ -/
def cxS (CX : CXT) (P : Program) (w : World) (K : PySem.W.Frag) (mg : Str → Option Value) (base : Heap) (N : List Str) (qual : Str) (scope : Scope) (f : Addr) (cd : Value) (cc : Addr) (A : Around) (outer : List Env) (s : Shared) (H : Hp) (E : XK) : Cx :=
  { prog := P, w := w, K := K, mg := mg, base := base, A := A.deeper (PySem.W.ksEnv qual scope s.heap.objs.size f cd cc), N := N, s_0 := s, H_0 := H, env := PySem.W.ksEnv qual scope s.heap.objs.size f cd cc, outer := outer,
    stack := PySem.W.ksEnv qual scope s.heap.objs.size f cd cc :: outer, ex := [], calm := true, fn := fun _ => false, pn := [],
    xe := fun e s' => wpAny (model P w) (A.deeper (PySem.W.ksEnv qual scope s.heap.objs.size f cd cc)) (leaving (PySem.W.ksEnv qual scope s.heap.objs.size f cd cc) e) (fun _ s'' => CX outer H s E e s'') (fun e' s'' => CX outer H s E e' s'') s' }
structure FnScopeS (N ps : List Str) (sc : Scope) : Prop where
  kind : sc.kind = .function
  co : sc.isCoroutine = false
  gen : sc.isGenerator = false
  nd : N.Nodup
  pre : N.take ps.length = ps
  par : ∀ x ∈ ps, sc.names.lookup x = some .local
  nocell : ∀ y ∈ sc.names, y.2 ≠ .cell
  free : ∀ y ∈ sc.names, y.2 = .free → y.1 = ("__class__" : Str)
section
variable {CX : CXT} {P : Program} {w : World} {K : PySem.W.Frag} {mg : Str → Option Value} {base : Heap} {N ps : List Str} {qual name : Str} {scope : Scope} {f cc : Addr} {cd : Value}
theorem inv_startS {A : Around} {outer : List Env} {s : Shared} {H : Hp} {E : XK} {us : List Value} {vs : List V} {h1 : Heap} {tk : Nat} (sco : FnScopeS N ps scope) (hd : A.handled = none) (e0 : Env0 P w K mg base A outer s H) (hl : vs.length = ps.length) (r : Vals vs us)
    (hcell : ∃ cl cld csl v, K.lookup cc = some ⟨cl, cld, .cell v, csl⟩) (hns : h1.Ns s.heap.objs.size fun x => (ps.zip us).reverse.lookup x) (hk : ∀ b o, s.heap.get? b = some o → h1.get? b = some o) :
    Inv (cxS CX P w K mg base N qual scope f cd cc A outer s H E) [] (L2.start N vs) H { s with heap := h1, toks := tk } := by
  have hus := r.length
  have cellsE : ∀ x c, (cxS CX P w K mg base N qual scope f cd cc A outer s H E).env.cells.lookup x = some c → x = ("__class__" : Str) ∧ c = cc := fun x c h => by
    have h2 : ([(("__class__" : Str), cc)] : List (Str × Addr)).lookup x = some c := h
    by_cases q : x = ("__class__" : Str)
    · subst q; simp [List.lookup] at h2; exact ⟨rfl, h2.symm⟩
    · have d : (x == ("__class__" : Str)) = false := beq_eq_false_iff_ne.mpr q
      simp [List.lookup, d] at h2
  obtain ⟨cl, cld, csl, cv, hc⟩ := hcell
  have hcb := e0.mod.kin _ _ hc
  have hpl : ps.length ≤ N.length := by have := congrArg List.length sco.pre; rw [List.length_take] at this; omega
  refine { ok := ⟨e0.mod, sco.kind, rfl, rfl, Nat.le_refl _, fun y z c q1 q2 => ?_, fun y hy => ?_, fun y c q => ?_, fun _ => hd, Around.frames_deeper e0.frames, .inr ⟨rfl, rfl⟩, fun b z => ?_, e0.bs, e0.bsz, fun b _ _ z => ?_, fun b z => ?_, e0.funs, e0.frf⟩, os := rfl, bare := e0.bare, base := Un.kept hk, loc := ⟨_, hns, fun i y v q1 q2 q3 => ?_⟩, cell := fun x c q => ?_, free := e0.hok.fresh (Nat.le_refl _), freeC := fun x c q => ?_, pin := fun p z => ?_, hok := e0.hok.kept hk, len := ?_ }
  · rw [(cellsE _ _ q1).1, (cellsE _ _ q2).1]
  · refine ⟨cc, ?_⟩
    have hy2 : scope.names.lookup y = some .cell ∨ scope.names.lookup y = some .free := hy
    have e : y = ("__class__" : Str) := by
      rcases hy2 with q | q
      · exact absurd rfl (sco.nocell _ (PySem.mem_of_lookup q))
      · exact sco.free _ (PySem.mem_of_lookup q) rfl
    subst e
    show ([(("__class__" : Str), cc)] : List (Str × Addr)).lookup _ = _
    simp [List.lookup]
  · exact absurd q (by simp [cxS])
  · exact absurd (show b ∈ ([] : List Addr) from z) (by simp)
  · exact absurd (show b ∈ ([] : List Addr) from z) (by simp)
  · exact absurd (show b ∈ ([] : List Addr) from z) (by simp)
  · have hi : i < vs.length := by
      unfold L2.start at q2
      by_cases hi : i < vs.length
      · exact hi
      · rw [List.getElem?_append_right (by simpa using hi), List.getElem?_replicate] at q2
        split at q2 <;> cases q2
    have ha : vs[i]? = some v := by
      unfold L2.start at q2
      rw [List.getElem?_append_left (by simpa using hi), List.getElem?_map] at q2
      cases e : vs[i]? with
      | none => rw [e] at q2; cases q2
      | some a => rw [e] at q2; cases q2; rfl
    obtain ⟨u, hu, rv⟩ := r.get ha
    have hp : ps[i]? = some y := by rw [← sco.pre, List.getElem?_take_of_lt (by omega)]; exact q1
    have ndP : ps.Nodup := by rw [← sco.pre]; exact sco.nd.sublist (List.take_sublist _ _)
    exact ⟨u, rv, .inl ⟨sco.par y (List.mem_of_getElem? hp), NdefX.zip_look ndP hp hu⟩⟩
  · obtain ⟨_, rfl⟩ := cellsE _ _ q
    exact ⟨cv, _, hk _ _ ((e0.bs _ _ hcb).1), rfl⟩
  · obtain ⟨_, rfl⟩ := cellsE _ _ q
    exact (e0.bs _ _ hcb).2
  · exact absurd (show p ∈ ([] : List (Addr × Obj)) from z) (by simp)
  · show (L2.start N vs).length = N.length
    unfold L2.start
    rw [List.length_append, List.length_map, List.length_replicate]; omega
end
/-- such a def by its body: the first statement as it is walked (W), then the rest -/
theorem fn_sup {CX : CXT} {P : Program} {w : World} {K : PySem.W.Frag} {mg : Str → Option Value} {base : Heap} {N ps : List Str} {qual name : Str} {params : Arguments} {scope : Scope} {f cc : Addr} {cd : Value} {k : Nat} {sp : Sp} {st : Stmt} {rest : List Stmt} {dV kV doc pm ct oc : Value} {an od : Option Addr} {osl : Array (Option Value)}
    (lk : K.lookup f = some ⟨oc, od, .func (PySem.W.ksFn name qual params (st :: rest) scope dV kV doc pm an cd ct cc), osl⟩) (hcd : PySem.W.codeIn K cd qual = true) (sco : FnScopeS N ps scope) (hcell : ∃ cl cld csl v, K.lookup cc = some ⟨cl, cld, .cell v, csl⟩)
    (len : ∀ vs H Q E, sp vs H Q E → vs.length = ps.length)
    (hbody : ∀ (A : Around) (outer : List Env) (s : Shared) (H : Hp) (vs : List V) (Q : VK) (E : XK), Room k (A.deeper (PySem.W.ksEnv qual scope s.heap.objs.size f cd cc)) → sp vs H Q E →
      (∀ s1, Inv (cxS CX P w K mg base N qual scope f cd cc A outer s H E) [] (L2.start N vs) H s1 →
        PySem.wpAt (model P w) (A.deeper (PySem.W.ksEnv qual scope s.heap.objs.size f cd cc)) (.func (st :: rest) (PySem.W.ksEnv qual scope s.heap.objs.size f cd cc)) (exec st (PySem.W.ksEnv qual scope s.heap.objs.size f cd cc)) (fun fl s' => fl = .next ∧ Inv (cxS CX P w K mg base N qual scope f cd cc A outer s H E) [] (L2.start N vs) H s') (cxS CX P w K mg base N qual scope f cd cc A outer s H E).xe s1) ∧
      ∃ t, PSs (cxS CX P w K mg base N qual scope f cd cc A outer s H E) rest t ∧ t { nx := fun _ H' => Q .non H', rt := Q } (L2.start N vs) H) :
    FnOk P w K mg base CX (k + 1) f (PySem.W.ksFn name qual params (st :: rest) scope dV kV doc pm an cd ct cc) ps sp := by
  refine ⟨len, fun A outer s H args us vs Q E hr e0 hb r hsp => ?_⟩
  have hl := len _ _ _ _ hsp
  have kin : K.In s.heap := e0.mod.kin.keeps fun b o e => (e0.bs b o e).1
  have nolim : s.heap.NoLimit := e0.mod.nolimit.keeps fun b o e => (e0.bs b o e).1
  refine PySem.ks_codeAny_call_defAt (fd := PySem.W.ksFn name qual params (st :: rest) scope dV kV doc pm an cd ct cc) (body := st :: rest) (binds := ps.zip us) hr.depth (kin _ _ lk) rfl nolim (PySem.W.codeRec_of kin hcd) rfl hb sco.nocell (fun z hz => sco.par z.1 (List.of_mem_zip hz).1) (fun h1 hns hk => ?_) sco.co sco.gen sco.kind
  have I : Inv (cxS CX P w K mg base N qual scope f cd cc A outer s H E) [] (L2.start N vs) H { s with heap := h1, toks := s.toks + (ps.zip us).length } := inv_startS sco hr.hd e0 hl r hcell hns hk
  obtain ⟨hst, t, pt, tq⟩ := hbody A outer s H vs Q E (hr.deeper _) hsp
  refine PySem.ks_wpAt_execs_cons (PySem.ks_wpAt_mono (hst _ I) (fun fl s' hz => ?_) fun e s' hz => hz)
  obtain ⟨rfl, I'⟩ := hz
  refine PySem.wpAt_of_wpAny (wpAny_mono (pt.run [] s' _ H _ I' tq) (fun fl s'' hs => ?_) fun e s'' hs => hs)
  cases fl with
  | ret u => obtain ⟨v, σ', H', J, rv, q⟩ := hs; exact ⟨v, H', J.os, J.bare, J.base, J.hok, rv, q⟩
  | next => obtain ⟨σ', H', J, q⟩ := hs; exact ⟨.non, H', J.os, J.bare, J.base, J.hok, rfl, q⟩
  | brk => obtain ⟨_, _, _, q⟩ := hs; exact q.elim
  | cont => obtain ⟨_, _, _, q⟩ := hs; exact q.elim
/-- a look at the names of such a def's scope -/
def scS (N ps : List Str) (sc : Scope) : Bool := [decide (sc.kind = .function), !sc.isCoroutine, !sc.isGenerator, decide N.Nodup, decide (N.take ps.length = ps), ps.all fun x => decide (sc.names.lookup x = some .local), sc.names.all fun y => !decide (y.2 = .cell), sc.names.all fun y => !decide (y.2 = .free) || decide (y.1 = ("__class__" : Str))].all id
theorem fnScopeS_by {N ps : List Str} {sc : Scope} (h : scS N ps sc = true) : FnScopeS N ps sc := by
  unfold scS at h
  simp only [List.all_cons, List.all_nil, id, Bool.and_true, Bool.and_eq_true, decide_eq_true_eq, Bool.not_eq_true', List.all_eq_true, decide_eq_false_iff_not, Bool.or_eq_true] at h
  obtain ⟨h1, h2, h3, h4, h5, h6, h7, h8⟩ := h
  exact ⟨h1, h2, h3, h4, h5, h6, h7, fun y hy e => (h8 y hy).resolve_left fun z => z e⟩
/-- the promise of an exception's __init__ that keeps one value -/
def spX1 (C : Addr) (fld : Str) : Sp := fun vs H Q _ => ∃ (a : Addr) (v : V), vs = [.ref a, v] ∧ H a = some (exo a C none) ∧ ∀ dx, H dx = none → dx ≠ a → Q .non (upd (upd H dx (exd dx [(fld, v)])) a (exo a C (some dx)))
theorem u_raise1 {C : Addr} {fld : Str} {ta : TA} {σ : L2.St} {H : Hp} {Q : XK} (h : ta σ H fun vs H1 => ∃ v, vs = [v] ∧ ∀ d, H1 d = none → Q (.ref C) (some d) (upd H1 d (.xd [(fld, v)]))) (hm : ∀ {R R' : List V → Hp → Prop}, (∀ vs H, R vs H → R' vs H) → ta σ H R → ta σ H R') : tMkO C (spX1 C fld) [] ta σ H Q := by
  refine hm (fun vs H1 hq => ?_) h
  obtain ⟨v, rfl, q⟩ := hq
  refine ⟨by simp, fun a ha => ⟨a, v, rfl, upd_same, fun dx hd hne => ?_⟩⟩
  have hd1 : H1 dx = none := by rw [upd_ne hne] at hd; exact hd
  refine ⟨rfl, dx, [(fld, v)], upd_same, by rw [upd_ne hne]; exact upd_same, hd1, ?_⟩
  have e : upd (del (upd (upd (upd H1 a (exo a C none)) dx (exd dx [(fld, v)])) a (exo a C (some dx))) a) dx (.xd [(fld, v)]) = upd H1 dx (.xd [(fld, v)]) := by
    funext b
    by_cases h1 : b = dx
    · rw [h1, upd_same, upd_same]
    · rw [upd_ne h1, upd_ne h1]
      by_cases h2 : b = a
      · rw [h2, del_same, ha]
      · rw [del_ne h2, upd_ne h2, upd_ne h1, upd_ne h2]
  rw [e]
  exact q dx hd1
/-- a def that may raise, by its body -/
theorem fnX {P : Program} {w : World} {K : PySem.W.Frag} {mg : Str → Option Value} {base : Heap} {x qual : Str} {st : Stmt} {f : Addr} {fd : FuncData} {N ps : List Str} {k : Nat} {sp : Sp} (D : C8.Fun K x qual st f fd) (sco : FnScope N ps (fnScope st)) (len : ∀ vs H Q E, sp vs H Q E → vs.length = ps.length)
    (hbody : ∀ (cdv : Value) (A : Around) (outer : List Env) (s : Shared) (H : Hp) (vs : List V) (Q : VK) (E : XK), Room k (A.deeper (envOfC qual (fnScope st) s.heap.objs.size f cdv)) → sp vs H Q E →
      ∃ t, PSs (cxOf (L2.CX P w) P w K mg base N qual (fnScope st) f cdv A outer s H E) (fnBody st) t ∧ t { nx := fun _ H' => Q .non H', rt := Q } (L2.start N vs) H) : FnOk P w K mg base (L2.CX P w) (k + 1) f fd ps sp := by
  obtain ⟨oc, od, dV, kV, doc, pm, an, cdv, ct, osl, rfl, lk, hcd⟩ := D.ex
  exact fn_of lk hcd sco len fun A outer s H vs Q E hr hsp => hbody cdv A outer s H vs Q E hr hsp
/-- an exception class of one kept value, under its name -/
structure RzX (P : Program) (w : World) (K : PySem.W.Frag) (mg : Str → Option Value) (base : Heap) (x : Str) (C : Addr) (fld : Str) : Prop where
  ex : ∃ (fI : Addr) (fd : FuncData) (ps : List Str), OexC K C ∧ PySem.W.findIn K (.ref C) "__init__" = some (some (.ref fI)) ∧ PySem.W.typeIn K (.ref fI) = some (.type "function") ∧ FnOk P w K mg base C8.CX0 1 fI fd ps (spX1 C fld) ∧ Binds K fd ps [] ∧ mg x = some (.ref C)
theorem ps_raiseX1 {X : Cx} {W : WX} {x fld : Str} {C : Addr} {j : Nat} {e : Expr} {ta : TA} {p pos pos2 : Pos} (Z : RzX X.prog X.w X.K X.mg X.base x C fld) (hr : Room j X.A) (hj : 2 ≤ j) (tk : Takes X W) (hg : Gl X x) (ha : PA X [e] ta) (hc : X.calm = true := by rfl)
    (hdb : (x == ("__debug__" : Str)) = false := by decide) (he : starEach [e] X.env = (false, eval e X.env) :: starEach [] X.env := by rfl) (hpl : (backTo pos (starEach [] X.env)).any (·.1) = false := by rfl) :
    PS X (.Raise (some (.Call (.Name x p) [e] [] pos)) none pos2) (fun _ σ H => tMkO C (spX1 C fld) [] ta σ H fun cls d H' => W cls d σ H') := by
  obtain ⟨fI, fd, ps, o, iC, tI, F, b, hm⟩ := Z.ex
  exact ps_raise hc tk (pmk_oex o iC tI F (hr.mono (by omega)) b .nil C8.pass0 hg hm ha hdb he hpl)
/-- at, with its two ends -/
def spAtX (K : PySem.W.Frag) (C CN : Addr) : Sp := fun vs H Q E => ∃ (a p : Addr) (t : Fm) (is : List Int), vs = [.ref a, .ref p] ∧ FormAt K C H t a ∧ SqT K H p (is.map V.int) ∧ is.length ≤ 1000 ∧ (∀ (s : Fm) (x : Addr), t.atp is = some s → FormAt K C H s x → Q (.ref x) H) ∧
  (t.atp is = none → ∀ d, H d = none → E (.ref CN) (some d) (upd H d (.xd [("path", .ref p)])))
/-- a method that may raise -/
structure MetX (P : Program) (w : World) (K : PySem.W.Frag) (mg : Str → Option Value) (base : Heap) (k : Nat) (C : Addr) (m : Str) (sp : Sp) : Prop where
  ex : ∃ (f : Addr) (fd : FuncData) (ps : List Str), Cls K C ∧ Meth K C m f ∧ FnOk P w K mg base (L2.CX P w) k f fd ps sp ∧ Binds K fd ps []
theorem pe_mtX {X : Cx} {k j : Nat} {C : Addr} {m : Str} {sp : Sp} {E : XK} {o e : Expr} {es : List Expr} {apos pos : Pos} {to : TE} {t : TA} {pl : Sem Bool} (c : MetX X.prog X.w X.K X.mg X.base k C m sp) (hr : Room j X.A) (hk : k ≤ j) (hx : Passes (L2.CX X.prog X.w) X E) (ho : PE X o to) (ha : PA X (e :: es) t)
    (hst : starEach (e :: es) X.env = (false, eval e X.env) :: starEach es X.env := by rfl) (hpl : (backTo pos (starEach es X.env)).any (·.1) = false := by rfl)
    (ht : eval (.Call (.Attribute o m apos) (e :: es) [] pos) X.env = (do
      let ov ← eval o X.env
      standAt apos.atName
      let (f, first) ← holding [ov] (getMethod ov m pl)
      callWith pos f first (backTo pos (starEach (e :: es) X.env)) (backToKw pos (keywordEach [] X.env))) := by rfl) :
    PE X (.Call (.Attribute o m apos) (e :: es) [] pos) (tMeth C m sp [] E to t) := by
  obtain ⟨f, fd, ps, hc, hm, F, b⟩ := c.ex
  exact pe_meth (pl := pl) ho hc hm F (hr.mono hk) b .nil hx ha hst hpl ht
/-- what a def's own wish takes, its callees' exceptions may be -/
theorem pass_own {X : Cx} {E : XK} (tk : Takes X (fun cls d _ H => E cls d H)) : Passes (L2.CX X.prog X.w) X E := passes_call tk fun _ _ _ _ h => h
theorem pass_never {X : Cx} : Passes (L2.CX X.prog X.w) X C8.E0 := fun _ _ _ _ _ _ _ c => by
  obtain ⟨a, B, H', cls, d, _, _, _, _, _, _, _, hE⟩ := c
  exact hE.elim
theorem u_atX {K : PySem.W.Frag} {C CN a p : Addr} {t : Fm} {is : List Int} {H : Hp} {Q : VK} {E : XK} (h1 : FormAt K C H t a) (h2 : SqT K H p (is.map V.int)) (h3 : is.length ≤ 1000) (h4 : ∀ (s : Fm) (x : Addr), t.atp is = some s → FormAt K C H s x → Q (.ref x) H)
    (h5 : t.atp is = none → ∀ d, H d = none → E (.ref CN) (some d) (upd H d (.xd [("path", .ref p)]))) : spAtX K C CN [.ref a, .ref p] H Q E := ⟨a, p, t, is, rfl, h1, h2, h3, h4, h5⟩
def spWithX (K : PySem.W.Frag) (C CN : Addr) : Sp := fun vs H Q E => ∃ (a p b : Addr) (t u : Fm) (is : List Int), vs = [.ref a, .ref p, .ref b] ∧ FormAt K C H t a ∧ SqT K H p (is.map V.int) ∧ FormAt K C H u b ∧ is.length ≤ 1000 ∧ t.text.length ≤ 50000 ∧ u.text.length ≤ 50000 ∧
  (∀ (s : Fm) (x : Addr) (H' : Hp), t.atp is = some s → Fr [] H H' → FormAt K C H' (t.put is u) x → Q (.ref x) H') ∧ (t.atp is = none → ∀ d, H d = none → E (.ref CN) (some d) (upd H d (.xd [("path", .ref p)])))
end Rp
/-! RpK04: promises of law k04's helpers. -/
namespace Rp
open PySem PySem.Spec PyProof.Rows L2 SX C8
section
variable {K : PySem.W.Frag} {H : Hp} {Q : VK} {E : XK}
/-- the place of a part in the nested tuple -/
theorem TupAt.child {t r : Fm} {b : Addr} {j : Int} (h : TupAt K H t b) (hj : t.pt j = some r) : ∃ vs b', SqT K H b (.str (S t.name) :: vs) ∧ vs.length = t.parts.length ∧ atI (V.str (S t.name) :: vs) (1 + j) = some (.ref b') ∧ TupAt K H r b' := by
  obtain ⟨hm, j0, j1, hget⟩ := Fm.pt_mem hj
  obtain ⟨vs, hq, hv⟩ := h.parts
  have lv := hv.length
  obtain ⟨v, hy⟩ : ∃ v, vs[j.toNat]? = some v := ⟨_, List.getElem?_eq_getElem (by omega)⟩
  obtain ⟨r2, b', hr2, rfl, hb'⟩ := hv.get hy
  rw [hget] at hr2
  cases hr2
  exact ⟨vs, b', hq, lv.symm, at_of (j := j.toNat + 1) (by omega) (by simpa using hy), hb'⟩
def spLeads (K : PySem.W.Frag) : Sp := fun vs H Q _ => ∃ (b p : Addr) (t : Fm) (is : List Int), vs = [.ref b, .ref p] ∧ TupAt K H t b ∧ SqT K H p (is.map V.int) ∧ Q (.bl (t.atp is).isSome) H
theorem u_leads {b p : Addr} {t : Fm} {is : List Int} (h1 : TupAt K H t b) (h2 : SqT K H p (is.map V.int)) (h : Q (.bl (t.atp is).isSome) H) : spLeads K ([.ref b, .ref p] ++ []) H Q E := ⟨b, p, t, is, rfl, h1, h2, h⟩
def spPath (K : PySem.W.Frag) : Sp := fun vs H Q _ => ∃ (p l b : Addr) (t : Fm), vs = [.ref p, .ref b] ∧ PoolAt H p l ∧ TupAt K H t b ∧ ∀ (q : Addr) (is : List Int) (H' : Hp), is.length ≤ 5 → SqT K H' q (is.map V.int) → PoolAt H' p l → Fr [p] H H' → Q (.ref q) H'
theorem u_path {p l b : Addr} {t : Fm} (h1 : PoolAt H p l) (h2 : TupAt K H t b) (h : ∀ (q : Addr) (is : List Int) (H' : Hp), is.length ≤ 5 → SqT K H' q (is.map V.int) → PoolAt H' p l → Fr [p] H H' → Kp H H' → Q (.ref q) H') : spPath K ([.ref p, .ref b] ++ []) H Q E :=
  ⟨p, l, b, t, rfl, h1, h2, fun q is H' a1 a2 a3 f => h q is H' a1 a2 a3 f (h1.kp f)⟩
def spPut (K : PySem.W.Frag) : Sp := fun vs H Q _ => ∃ (a p b : Addr) (t u s : Fm) (is : List Int), vs = [.ref a, .ref p, .ref b] ∧ TupAt K H t a ∧ SqT K H p (is.map V.int) ∧ TupAt K H u b ∧ is.length ≤ 1000 ∧ t.atp is = some s ∧ ∀ (x : Addr) (H' : Hp), Fr [] H H' → TupAt K H' (t.put is u) x → Q (.ref x) H'
theorem u_put {a p b : Addr} {t u s : Fm} {is : List Int} (h1 : TupAt K H t a) (h2 : SqT K H p (is.map V.int)) (h3 : TupAt K H u b) (h4 : is.length ≤ 1000) (h5 : t.atp is = some s) (h : ∀ (x : Addr) (H' : Hp), Fr [] H H' → Kp H H' → TupAt K H' (t.put is u) x → Q (.ref x) H') : spPut K ([.ref a, .ref p, .ref b] ++ []) H Q E :=
  ⟨a, p, b, t, u, s, is, rfl, h1, h2, h3, h4, h5, fun x H' f => h x H' f (.of_same f.same)⟩
end
theorem Fm.put_nil (t u : Fm) : t.put [] u = u := by cases t <;> rfl
theorem sum_set_le {l : List Fm} {j : Nat} {q : Fm} : ((l.set j q).map Fm.size).sum ≤ (l.map Fm.size).sum + q.size := by
  induction l generalizing j with
  | nil => simp
  | cons a r ih =>
    cases j with
    | zero => simp; omega
    | succ j => have := ih (j := j); simp at this ⊢; omega
theorem sum_set_lt {l : List Fm} {j : Nat} {p q : Fm} (h : l[j]? = some p) : ((l.set j q).map Fm.size).sum + p.size = (l.map Fm.size).sum + q.size := by
  induction l generalizing j with
  | nil => simp at h
  | cons a r ih =>
    cases j with
    | zero => simp at h; subst h; simp; omega
    | succ j => have := ih (j := j) (by simpa using h); simp at this ⊢; omega
theorem Fm.put_size (u : Fm) : ∀ (is : List Int) (t s : Fm), t.atp is = some s → (t.put is u).size ≤ t.size + u.size
  | [], t, s, h => by rw [Fm.put_nil]; omega
  | i :: is, t, s, h => by
    have h2 : (t.pt i).bind (fun p => p.atp is) = some s := h
    cases q : t.pt i with
    | none => rw [q] at h2; cases h2
    | some p =>
      rw [q] at h2
      obtain ⟨hm, j0, j1, hget⟩ := Fm.pt_mem q
      have ih := Fm.put_size u is p s h2
      have e := sum_set_lt (q := p.put is u) hget
      have hl := t.parts_le
      have e1 : (Fm.mk t.name (t.parts.set i.toNat (p.put is u))).parts = t.parts.set i.toNat (p.put is u) := Fm.mk_parts (by simp; omega)
      rw [Fm.put_cons q, Fm.size_eq, e1, Fm.size_eq t]; omega
theorem Fm.put_ok {u : Fm} (hu : u.Ok) : ∀ (is : List Int) (t s : Fm), t.Ok → t.atp is = some s → (t.put is u).Ok
  | [], t, s, ht, h => by rw [Fm.put_nil]; exact hu
  | i :: is, t, s, ht, h => by
    have h2 : (t.pt i).bind (fun p => p.atp is) = some s := h
    cases q : t.pt i with
    | none => rw [q] at h2; cases h2
    | some p =>
      rw [q] at h2
      obtain ⟨hm, j0, j1, hget⟩ := Fm.pt_mem q
      have ih := Fm.put_ok hu is p s (ht.part hm) h2
      rw [Fm.put_cons q]
      exact ht.remake (by simp) fun r hr => (List.mem_or_eq_of_mem_set hr).elim (fun z => ht.part z) (fun z => z ▸ ih)
theorem Fm.depth_mk {n : List Nat} {ps : List Fm} {d : Nat} (hp : ∀ p ∈ ps, p.depth ≤ d) : (Fm.mk n ps).depth ≤ d + 1 := Fm.mk_depth (fun p h => Nat.lt_succ_of_le (hp p h)) (Nat.succ_pos d)
theorem Fm.put_depth (u : Fm) : ∀ (is : List Int) (t s : Fm), t.atp is = some s → (t.put is u).depth ≤ t.depth + u.depth
  | [], t, s, h => by rw [Fm.put_nil]; omega
  | i :: is, t, s, h => by
    have h2 : (t.pt i).bind (fun p => p.atp is) = some s := h
    cases q : t.pt i with
    | none => rw [q] at h2; cases h2
    | some p =>
      rw [q] at h2
      obtain ⟨hm, j0, j1, hget⟩ := Fm.pt_mem q
      have ih := Fm.put_depth u is p s h2
      have hd := Fm.depth_part hm
      rw [Fm.put_cons q]
      refine Fm.mk_depth (fun r hr => ?_) (by omega)
      rcases List.mem_or_eq_of_mem_set hr with z | z
      · have := Fm.depth_part z; omega
      · rw [z]; omega
theorem Fm.atp_ok : ∀ (is : List Int) (t s : Fm), t.Ok → t.atp is = some s → s.Ok ∧ s.depth ≤ t.depth ∧ s.size ≤ t.size
  | [], t, s, ht, h => by cases h; exact ⟨ht, Nat.le_refl _, Nat.le_refl _⟩
  | i :: is, t, s, ht, h => by
    have h2 : (t.pt i).bind (fun p => p.atp is) = some s := h
    cases q : t.pt i with
    | none => rw [q] at h2; cases h2
    | some p =>
      rw [q] at h2
      obtain ⟨hm, _⟩ := Fm.pt_mem q
      obtain ⟨x1, x2, x3⟩ := Fm.atp_ok is p s (ht.part hm) h2
      have := Fm.depth_part hm
      have := Fm.size_part hm
      exact ⟨x1, by omega, by omega⟩
theorem pick7 {r x : Int} (h0 : 0 ≤ r) (h1 : r < 7) : ∃ d : Int, atI [V.int 0, V.int 1, V.int 2, V.int 3, V.int (-1), V.int (-2), V.int x] r = some (.int d) := by
  have h : r = 0 ∨ r = 1 ∨ r = 2 ∨ r = 3 ∨ r = 4 ∨ r = 5 ∨ r = 6 := by omega
  rcases h with rfl | rfl | rfl | rfl | rfl | rfl | rfl <;> exact ⟨_, rfl⟩
end Rp
/-! RpHot: a def that is called in an except suite with the exception as its argument. -/
namespace Rp
open PySem PySem.Spec PySem.W PySem.Calls PyProof.Rows
section
variable {prog : Program} {w : World} {A : Around} {E : Value → Shared → Prop} {s : Shared} {K : Frag} {x D : Addr} {ox od : Obj}
/-- e.__class__ as isinstance asks it, e an exception with a dict of its own -/
theorem cls_excD {Q : Option Value → Shared → Prop} (C : L2.ExcC K D) (kin : K.In s.heap) (J : InstAt s.heap x ox D (some od)) (h : Q (some (.ref D)) { s with toks := s.toks + 1 }) : wpAny (model prog w) A (getAttr? (.ref x) "__class__") Q E s := by
  have isc : (clsIn K D).isSome = true := by obtain ⟨cd, hc, _⟩ := any_some C.hd; rw [hc]; rfl
  have found := looks_find (M := model prog w) kin J (findObj_data (od := od) isc C.ha C.hn C.ht)
  obtain ⟨hp, g, d, t, os⟩ := s
  have ty := J.type (M := model prog w)
  have isb : Looks (model prog w) hp (isInstance (.ref x) (.type "BaseException")) true := ty.andThen (looks_subIn kin C.hs)
  have nob : (Value.builtin "BaseException.__getattribute__" == Value.builtin "object.__getattribute__") = false := by decide +kernel
  unfold getAttr? getAttrBy? getAttrBy
  refine wpAny_bind (wpAny_mkText (wpAny_bind (wpAny_attempt (wpAny_holding (wpAny_bind (ty.at (wpAny_bind ((looks_findIn (M := model prog w) kin C.hg).at ?_))))))))
  show wpAny _ _ (if (onTheHeap (Value.ref D) && Value.builtin "BaseException.__getattribute__" == Value.builtin "object.__getattribute__") = true then _ else _) _ _ _
  rw [if_neg (by rw [nob]; simp)]
  unfold getAttrByItsOwn hookBefore
  refine wpAny_bind ?_
  have up : onTheHeap (Value.ref D) = true := rfl
  rw [if_pos up]
  refine (looks_findIn (M := model prog w) kin C.hk).at (wpAny_bind (wpAny_attempt (wpAny_holding ?_)))
  unfold callGetattribute
  have low : (false && onTheHeap (Value.builtin "BaseException.__getattribute__")) = false := rfl
  rw [low, if_neg Bool.false_ne_true]
  unfold boundAndCalled
  rw [PySem.F.excAttr_ValueError.ga.bind (.ref x)]
  refine wpAny_bind (wpAny_pure (wpAny_call (codeAny_call_builtin PySem.F.excAttr_ValueError.ga.plain PySem.F.entry_bexc_ga (@check_slot (model prog w) _ _ ⟨hp, g, d, t + 1, os⟩ "BaseException.__getattribute__" "BaseException" "__getattribute__" (.ref x) [.str "__class__" t] [] _ (by decide +kernel) (by decide +kernel) isb (PySem.F.args_bexc_ga (.ref x) (.str "__class__" t)) ?_))))
  unfold Builtin.«object.__getattribute__»
  refine wpAny_bind (wpAny_of_eq (a := ((Value.ref x : Value), [Value.str "__class__" t])) (by first | rfl | (simp only [slotArgs]; rfl)) (wpAny_bind (wpAny_pure (wpAny_bind (ty.at (wpAny_bind (found.at ?_)))))))
  show wpAny _ _ (holding [Value.builtin "object.__class__"] (call (.builtin "getset_descriptor.__get__") [.builtin "object.__class__", .ref x, .ref D]) >>= ret) _ _ _
  refine wpAny_bind (wpAny_holding (wpAny_call (class_get (s := ⟨hp, g, d, t + 1, os⟩) (ox := ox) (od := some od) kin J C.hm (wpAny_pure ?_))))
  show wpAny _ _ (handedOut (.ref D)) _ _ _
  rw [handedOut_of (v := .ref D) rfl]
  first
    | exact wpAny_pure (wpAny_pure h)
    | exact wpAny_pure h
    | exact wpAny_pure (wpAny_bind (wpAny_pure (wpAny_pure h)))
theorem cls_obj (C : L2.ExcC K D) : ∃ c d cd sl, K.lookup D = some ⟨c, d, .cls cd, sl⟩ := by
  obtain ⟨cd, hc, _⟩ := any_some C.hd
  unfold clsIn at hc
  split at hc
  · rename_i c d cd2 sl e
    exact ⟨c, d, cd2, sl, e⟩
  · cases hc
theorem kit_excD (C : L2.ExcC K D) : KitX K (.ref x) (.ref D) (fun h => InstAt h x ox D (some od)) :=
  { ty := fun _ _ _ I => I.type
    it := fun _ _ kin _ => by
      obtain ⟨c, d, cd, sl, e⟩ := cls_obj C
      intro A1 Q1 E1 s1 keep q1
      unfold isType loadHead
      refine wpAny_bind (wpAny_loadPart (keep _ _ (kin _ _ e)) (wpAny_pure q1))
    ne := fun h tp dd its n sl kin htp => by
      obtain ⟨c, d, cd, sl2, e⟩ := cls_obj C
      refine Bool.eq_false_iff.mpr fun z => ?_
      cases Value.ref.inj (beq_iff_eq.mp z)
      cases (kin _ _ e).symm.trans htp
    ca := fun kin J k => cls_excD C kin J k }
end
end Rp
namespace Rp
open PySem PySem.Spec PyProof.Rows L2 SX C8
section
variable {X : Cx} {a D dx : Addr} {oe : Obj}
/-- isinstance of an exception that the context has pinned; its dict is one that is known -/
theorem call_isPin (C : ExcC X.K D) (hp : (a, oe) ∈ X.pn) (hz : Zc (.ref D) (some dx) oe) (hf : ∃ vs, oe.data = .fields vs) : CallR X (.builtin "isinstance") (fun xs H Q => (∃ fs, H dx = some (.xd fs)) ∧ rIsE X.K D a xs H Q) := fun pins s σ H xs us Q I r h => by
  obtain ⟨⟨fs, hd⟩, c, cv, b, rfl, hcv, e, q⟩ := h
  obtain ⟨u1, u2, rfl, r1, r2⟩ := vals2 r
  cases (show u1 = Value.ref a from r1)
  cases hcv _ r2
  have hget := (I.pin (a, oe) (List.mem_append_left _ hp)).1
  obtain ⟨vs, hv⟩ := hf
  obtain ⟨od, hod⟩ : ∃ od, s.heap.get? dx = some od := L2.objOk_get (I.hok dx _ hd)
  have J : PySem.W.InstAt s.heap a oe D (some od) := by
    obtain ⟨oc, odd, oda, osl⟩ := oe
    obtain ⟨h1, h2⟩ := hz
    dsimp only at h1 h2 hv
    subst h1 h2 hv
    exact ⟨hget, rfl, rfl, hod⟩
  exact PySem.W.kia_one (kit_excD C) I.kIn J e (fun z => nomatch z) fun tk => ⟨.bl b, H, I.kept (t' := tk) fun _ _ z => z, rfl, q⟩
end
end Rp
/-! RpHotLc: a comprehension in a def that is called in an except suite: the handled exception stays pinned through the block. -/
namespace Rp
open PySem PySem.Spec PyProof.Rows L2 SX
section
variable {X : Cx} {p : Addr × Obj}
theorem pe_lcHot {elt tg iter : Expr} {ifs : List Expr} {scope : Scope} {own : List (Str × Nat)} {pos : Pos} {wi : TI} {g : TG} {tt : TT} {te : TE} (hot : L2H.Hot1 X.A p) (hpn : p ∈ X.pn) (hN : X.N.Nodup) (hi : L2H.PIH X tg iter wi) (ok : BlkOk X.N X.env.scope scope own)
    (hg : ∀ (s : Shared) (H : Hp) (C : Addr) (cl : List (Str × Addr)) (fp : List Addr), PG (X.blk s H scope (compEnvC scope cl C X.env) fp) tg g) (ht : ∀ (s : Shared) (H : Hp) (C : Addr) (cl : List (Str × Addr)) (fp : List Addr), PTs (X.blk s H scope (compEnvC scope cl C X.env) fp) ifs tt)
    (he : ∀ (s : Shared) (H : Hp) (C : Addr) (cl : List (Str × Addr)) (fp : List Addr), PE (X.blk s H scope (compEnvC scope cl C X.env) fp) elt te) (hs : ∀ x, foldedSetIterable iter X.env x = pure x := by intro _; rfl) :
    PE X (.ListComp elt [⟨tg, iter, ifs, 0⟩] scope pos) (tLc wi g tt te (own.map (·.2))) := by
  refine ⟨fun pins s σ H Q I h => ?_⟩
  rw [eval_ListComp]
  have free : ∀ y ∈ scope.names, y.2 = .free → ∃ c, X.env.cells.lookup y.1 = some c := fun y hy e => (ok.free y hy e).elim (fun k => I.ok.has _ (.inl k)) fun k => I.ok.has _ (.inr k)
  refine wpAny_comprehension_free (use := none) rfl hs (closure_ok free) ok.kind (fun y hy e => by rw [ok.uniq y hy, e]) (thn (hi.run pins s σ H _ I h) fun xv s1 hx => thn hx fun itv s2 h2 => ?_)
  obtain ⟨it, fp, tn, J, H2, e, I2, T, st2, f2, q⟩ := h2
  subst e
  refine wpAny_newObj_type (newEnv_comp ?_) (by show 0 ≤ sizeLine; decide)
  generalize hD : s2.heap.objs.size = D
  have nD : H2 D = none := I2.hok.fresh (Nat.le_of_eq hD)
  obtain ⟨W, ⟨m0, w0⟩, turn⟩ := q D nD
  generalize e3 : ({ s2 with heap := s2.heap.push { cls := .type "list", data := .seq ([] : List Value).toArray } } : Shared) = s3
  have hp3 : s3.heap = s2.heap.push { cls := .type "list", data := .seq ([] : List Value).toArray } := by rw [← e3]
  have I3 : Inv X pins σ (upd H2 D (.lst [])) s3 := by
    rw [← e3]
    exact I2.laid (t' := s2.toks) (fun b o e => Heap.get?_push_of_some _ e) (Nat.le_of_eq hD) ⟨Nat.zero_le _, [], 0, .nil, by rw [← hD]; exact Heap.get?_push_size _ rfl⟩
  have f3 : ∀ b ∈ fp, FpOk X pins (upd H2 D (.lst [])) b ∧ b < s3.heap.objs.size := fun b hb => by
    obtain ⟨o, e, _⟩ := T.obj _ _ st2 b hb
    have lt := Heap.lt_size e
    exact ⟨⟨by rw [upd_ne (by rw [← hD]; exact Nat.ne_of_lt lt)]; exact (f2 b hb).1, (f2 b hb).2⟩, by rw [hp3, Heap.size_push]; exact Nat.lt_succ_of_lt lt⟩
  have st3 : tn 0 s3.heap := T.keep _ _ _ st2 fun b _ o e => by rw [hp3]; exact Heap.get?_push_of_some _ e
  have I4 := block_start I3 ok hN f3
  have pg := hg s3 (upd H2 D (.lst [])) s3.heap.objs.size (cellsFrom (s3.heap.objs.size + 1) scope.names (cloFrom X.env.cells scope.names [])) fp
  have pt := ht s3 (upd H2 D (.lst [])) s3.heap.objs.size (cellsFrom (s3.heap.objs.size + 1) scope.names (cloFrom X.env.cells scope.names [])) fp
  have pe := he s3 (upd H2 D (.lst [])) s3.heap.objs.size (cellsFrom (s3.heap.objs.size + 1) scope.names (cloFrom X.env.cells scope.names [])) fp
  have pin3 := I3.pin p (List.mem_append_left _ hpn)
  show codeAny _ _ (.compStart _ 0 (.ref it) (.ref D) (compEnvC scope (cellsFrom (s3.heap.objs.size + 1) scope.names (cloFrom X.env.cells scope.names [])) s3.heap.objs.size X.env)) _ { s3 with heap := pushCells (s3.heap.push { cls := .type "dict", data := .dict #[] }) scope.names }
  have nfp : ∀ b ∈ fp, (upd H2 D (.lst [])) b = none := fun b hb => (f3 b hb).1.1
  have pfp : ∀ b ∈ fp, p.1 ≠ b := fun b hb => (f3 b hb).1.2.2.2.2.2 p (List.mem_append_left _ hpn)
  generalize hce : compEnvC scope (cellsFrom (s3.heap.objs.size + 1) scope.names (cloFrom X.env.cells scope.names [])) s3.heap.objs.size X.env = ce at I4 pg pt pe ⊢
  have cL : ce.locals = s3.heap.objs.size := by subst hce; rfl
  generalize hH3 : upd H2 D (.lst []) = H3 at I3 I4 pg pt pe w0 nfp f3 pin3
  generalize hs4 : ({ s3 with heap := pushCells (s3.heap.push { cls := .type "dict", data := .dict #[] }) scope.names } : Shared) = s4 at I4 ⊢
  have keep34 : ∀ b o, s3.heap.get? b = some o → s4.heap.get? b = some o := fun b o e => by rw [← hs4]; exact pushCells_keeps _ _ _ _ (Heap.get?_push_of_some _ e)
  have st4 : tn 0 s4.heap := T.keep _ _ _ st3 fun b _ o e => keep34 b o e
  have plt : p.1 < s3.heap.objs.size := Heap.lt_size pin3.1
  have J4 : Inv (X.blk s3 H3 scope ce fp) [p] (wipe σ (own.map (·.2))) H3 s4 := I4.pins_of fun r hr => by
    cases List.mem_singleton.mp hr
    exact ⟨keep34 _ _ pin3.1, pin3.2.1, fun z => by
      have z2 : p.1 = ce.locals := z
      rw [cL] at z2
      exact absurd plt (by rw [z2]; exact Nat.lt_irrefl _), fun z => (List.mem_cons.mp (I3.stkSub p.1 z)).elim pin3.2.2.1 pin3.2.2.2.1, pin3.2.2.2.2⟩
  have hotc : ∀ xe, L2H.HotC ((X.blk s3 H3 scope ce fp).tr ((X.blk s3 H3 scope ce fp).pn ++ [p]) xe) := fun xe => ⟨p, hot, List.mem_append_right _ (List.mem_singleton.mpr rfl)⟩
  have apart : ∀ {σ' : L2.St} {H' : Hp} {s' : Shared}, Inv (X.blk s3 H3 scope ce fp) [p] σ' H' s' → (∀ b ∈ fp, H' b = none) → ∀ b ∈ fp, FpOk (X.blk s3 H3 scope ce fp) [p] H' b := fun {σ' H' s'} I' hn b hb =>
    ⟨hn b hb, (I'.ok.exf b hb).1, I'.ok.exfs b hb, .inl hb, fun x c e => (I'.ok.exf b hb).2 x c e, fun r hr => by
      have hr2 : r ∈ ([] : List (Addr × Obj)) ++ [p] := hr
      cases List.mem_singleton.mp hr2
      exact pfp b hb⟩
  have apartT : ∀ {xe : Value → Shared → Prop} {H' : Hp}, (∀ b ∈ fp, FpOk (X.blk s3 H3 scope ce fp) [p] H' b) → ∀ b ∈ fp, FpOk ((X.blk s3 H3 scope ce fp).tr ((X.blk s3 H3 scope ce fp).pn ++ [p]) xe) [] H' b := fun {xe H'} k b hb => by
    obtain ⟨a1, a2, a3, a4, a5, a6⟩ := k b hb
    exact ⟨a1, a2, a3, a4, a5, fun r hr => a6 r (by simpa using hr)⟩
  have loop : codeAny (model X.prog X.w) X.A (.compLoop (.ListComp elt [⟨tg, iter, ifs, 0⟩] scope pos) 0 (.ref it) (.ref D) ce) (compPost (model X.prog X.w) X.A X.xe none (EP X pins σ Q) (.ref D) s3.heap.objs.size) s4 := by
    refine compLoop_any (fun n s' => ∃ i H', Inv (X.blk s3 H3 scope ce fp) [p] (wipe σ (own.map (·.2))) H' s' ∧ tn i s'.heap ∧ (∀ b ∈ fp, H' b = none) ∧ W i n H') ?_ m0 ⟨0, H3, J4, st4, nfp, w0⟩
    rintro n s5 ⟨i, H5, I5, st5, n5, w5⟩
    rcases turn i n H5 w5 with ⟨stop, qq⟩ | ⟨go, Nx, hNx, step⟩
    · refine thnF (T.done ((X.blk s3 H3 scope ce fp).tr ((X.blk s3 H3 scope ce fp).pn ++ [p]) (fun _ _ => False)) rfl rfl rfl (hotc _) i [] s5 _ H5 (fun _ _ => False) (I5.toTry _) (apartT (apart I5 n5)) st5 stop) fun r s6 hr6 => ?_
      obtain ⟨hr, I6t⟩ := hr6
      subst hr
      have I6 : Inv (X.blk s3 H3 scope ce fp) [p] (wipe σ (own.map (·.2))) H5 s6 := Inv.ofTry I6t I5.ok
      have I7 : Inv X pins σ H5 s6 := I3.call' (ch := fp) I6.os I6.base I6.hok I6.bare fun b hb => ⟨(f3 b hb).1.2.2.2.1, (f3 b hb).1.2.1, (f3 b hb).1.2.2.2.2.1, (f3 b hb).1.2.2.2.2.2⟩
      have nC : H5 s3.heap.objs.size = none := cL ▸ (I6.free : H5 ce.locals = none)
      obtain ⟨m, hn, _⟩ := I6.loc
      have hn : s6.heap.Ns s3.heap.objs.size m := cL ▸ (hn : s6.heap.Ns ce.locals m)
      obtain ⟨c0, c1, c2, c3, c4, c5⟩ := I3.fpOk (Nat.le_refl _) nC
      exact ⟨m, hn, fun h'' sb => ⟨.ref D, H5, I7.turned (t' := s6.toks) (fun b o hb e => (sb.2 b hb).trans e) c0 c1 c3 c4 c5, rfl, qq⟩⟩
    · refine thnF (T.item ((X.blk s3 H3 scope ce fp).tr ((X.blk s3 H3 scope ce fp).pn ++ [p]) (fun _ _ => False)) rfl rfl rfl (hotc _) i [] s5 _ H5 (fun _ _ => False) (I5.toTry _) (apartT (apart I5 n5)) st5 go) fun r s6 hr6 => ?_
      obtain ⟨u, hr, h6⟩ := hr6
      subst hr
      refine thnF h6 fun _ s7 hs7 => ?_
      obtain ⟨x, H7, I7t, r7, y7, st7, n7⟩ := hs7
      have I7 : Inv (X.blk s3 H3 scope ce fp) [p] (wipe σ (own.map (·.2))) H7 s7 := Inv.ofTry I7t I5.ok
      refine thnF (pg.run _ s7 _ H7 x u _ (I7.pinned (apart I7 n7) (T.obj _ _ st7)) r7 (step x H7 y7)) fun _ s8 hs8 => ?_
      obtain ⟨σ8, H8, I8, hw8, q8⟩ := hs8
      refine thnF (pt.run _ s8 σ8 H8 _ I8 q8) fun b s9 hs9 => ?_
      obtain ⟨H9, I9, q9⟩ := hs9
      have fin : ∀ {s' : Shared} {H' : Hp}, Inv (X.blk s3 H3 scope ce fp) ([p] ++ pinsAt fp s7.heap) σ8 H' s' → Nx H' → ∃ m, m < n ∧ ∃ i H', Inv (X.blk s3 H3 scope ce fp) [p] (wipe σ (own.map (·.2))) H' s' ∧ tn i s'.heap ∧ (∀ b ∈ fp, H' b = none) ∧ W i m H' := fun {s' H'} I' nx => by
        obtain ⟨m', hm, w'⟩ := hNx H' nx
        have still : ∀ b ∈ fp, ∀ o, s7.heap.get? b = some o → s'.heap.get? b = some o ∧ H' b = none := fun b hb o e => by
          have z := I'.pin (b, o) (List.mem_append_right _ (List.mem_append_right _ (mem_pinsAt hb e)))
          exact ⟨z.1, z.2.1⟩
        refine ⟨m', hm, i + 1, H', (I'.unpinned (pins := [p])).weak (by rw [← hw8, wipe_length]) (fun j v e => ?_), T.keep _ _ _ st7 fun b hb o e => (still b hb o e).1, fun b hb => ?_, w'⟩
        · rw [← hw8] at e
          exact (wipe_some e).1
        · obtain ⟨o, e, _⟩ := T.obj _ _ st7 b hb
          exact (still b hb o e).2
      cases b with
      | false =>
        simp only [Bool.false_eq_true, if_false] at q9 ⊢
        exact fin I9 q9
      | true =>
        simp only [if_true] at q9 ⊢
        refine thnF (pe.run _ s9 σ8 H9 _ I9 q9) fun z s10 hs10 => ?_
        obtain ⟨yv, H10, I10, r10, acc, hD10, hz10, nx⟩ := hs10
        exact app_ok (X := X.blk s3 H3 scope ce fp) I10 hD10 hz10 r10 fun s11 I11 => fin I11 nx
  exact codeAny_compStart_list loop (T.self X.A 0 _ _ _ st4 loop)
end
end Rp
namespace Rp
open PySem PySem.Spec PyProof.Rows L2 SX C8
/-- one run of a def in an except suite, the handled exception p told -/
theorem run_toldH {CX : CXT} {P : Program} {w : World} {K : PySem.W.Frag} {mg : Str → Option Value} {base : Heap} {k : Nat} {x qual : Str} {st : Stmt} {f : Addr} {fd : FuncData} {N ps : List Str} (D : C8.Fun K x qual st f fd) (sco : FnScope N ps (fnScope st)) (hb : Binds K fd ps [])
    {A : Around} {outer : List Env} {s : Shared} {H : Hp} {us : List Value} {vs : List V} {Q : VK} {E : XK} {p : Addr × Obj} (hr : L2H.RoomH (k + 1) A) (hp : L2H.PinOk outer H s p) (e0 : Env0 P w K mg base A outer s H) (r : Vals vs us) (hl : vs.length = ps.length)
    (hbody : ∀ cdv, L2H.RoomH k (A.deeper (envOfC qual (fnScope st) s.heap.objs.size f cdv)) → ∃ t, PSs (L2H.cxH CX P w K mg base N qual (fnScope st) f cdv A outer s H E p) (fnBody st) t ∧ t { nx := fun _ H' => Q .non H', rt := Q } (L2.start N vs) H) :
    codeAny (model P w) A (.call (.ref f) ⟨us, []⟩) (CR CX outer P w H s Q E) s := by
  obtain ⟨oc, od, dV, kV, doc, pm, an, cdv, ct, osl, rfl, lk, hcd⟩ := D.ex
  have kin : K.In s.heap := e0.mod.kin.keeps fun b o e => (e0.bs b o e).1
  have nolim : s.heap.NoLimit := e0.mod.nolimit.keeps fun b o e => (e0.bs b o e).1
  have bnd := hb s us kin (by simpa using r.length.symm.trans hl)
  rw [List.append_nil] at bnd
  refine codeAny_call_function hr.depth (kin _ _ lk) rfl sco.co sco.gen rfl (PySem.W.codeRec_of kin hcd) (bnd _ _ _ _ (wpAny_newFunctionEnv_cells sco.kind (fun z hz => ?_) fun env he s1 x => ?_))
  · rcases sco.par z.1 (List.of_mem_zip hz).1 with q | q
    · exact Or.inl q
    · exact Or.inr ⟨q, PySem.W.cellsFrom_some _ _ _ (Or.inl q)⟩
  · subst he
    obtain ⟨t, pt, tq⟩ := hbody cdv (hr.deeper _)
    refine ⟨nolim.keeps x.toInCall.keep, codeAny_func (wpAny_mono (pt.run [] s1 _ H _ (L2H.inv_startH sco hp e0 hl r x) tq) (fun fl s' hs => ?_) fun e s' hs => hs)⟩
    cases fl with
    | ret u => obtain ⟨v, σ', H', J, rv, q⟩ := hs; exact ⟨v, H', J.os, J.bare, J.base, J.hok, rv, q⟩
    | next => obtain ⟨σ', H', J, q⟩ := hs; exact ⟨.non, H', J.os, J.bare, J.base, J.hok, rfl, q⟩
    | brk => obtain ⟨_, _, _, q⟩ := hs; exact q.elim
    | cont => obtain ⟨_, _, _, q⟩ := hs; exact q.elim
/-- a def's promise where p is the exception that is handled -/
def FnPin (P : Program) (w : World) (K : PySem.W.Frag) (mg : Str → Option Value) (base : Heap) (k : Nat) (f : Addr) (p : Addr × Obj) (sp : Sp) : Prop :=
  ∀ (A : Around) (outer : List Env) (s : Shared) (H : Hp) (us : List Value) (vs : List V) (Q : VK), L2H.RoomH k A → L2H.Hot1 A p → L2H.PinOk outer H s p → Env0 P w K mg base A outer s H → Vals vs us → sp vs H Q C8.E0 → codeAny (model P w) A (.call (.ref f) ⟨us, []⟩) (CR C8.CX0 outer P w H s Q C8.E0) s
theorem pe_callPin {X : Cx} {x : Str} {f : Addr} {p : Addr × Obj} {sp : Sp} {k : Nat} {e : Expr} {es : List Expr} {t : TA} {q pos : Pos} (F : FnPin X.prog X.w X.K X.mg X.base k f p sp) (hr : L2H.RoomH k X.A) (hot : L2H.Hot1 X.A p) (hp : p ∈ X.pn) (hg : Gl X x) (hm : X.mg x = some (.ref f)) (hk : PySem.W.keepIn X.K (.ref f) = true)
    (ha : PA X (e :: es) t) (hdb : (x == ("__debug__" : Str)) = false := by decide) (he : starEach (e :: es) X.env = (false, eval e X.env) :: starEach es X.env := by rfl) (hpl : (backTo pos (starEach es X.env)).any (·.1) = false := by rfl) :
    PE X (.Call (.Name x q) (e :: es) [] pos) (tCall sp [] C8.E0 t) := by
  refine ⟨fun pins s σ H Q I h => wpAny_Call_Name_kw (ld_glob I hg hm (PySem.W.callWith_K (h₀ := X.base) I.ok.mod.kin hk (thn (ha.run pos pins s σ H _ I h) fun us s1 hz => ?_) he hpl) hdb)⟩
  obtain ⟨vs, H1, I1, r, qq⟩ := hz
  rw [List.append_nil] at qq
  have P1 := I1.pin p (List.mem_append_left _ hp)
  refine ⟨I1.kIn, wpAny_call (codeAny_mono (F X.A X.stack s1 H1 us vs Q hr hot ⟨P1.1, P1.2.1, fun z => (List.mem_cons.mp (I1.stkSub p.1 z)).elim P1.2.2.1 P1.2.2.2.1, P1.2.2.2.2⟩ I1.env0 r qq) fun r s' hq => ?_)⟩
  cases r with
  | error e => exact hq.elim
  | ok fl =>
    cases fl with
    | ret u => exact I1.after hq
    | next => exact hq.elim
    | brk => exact hq.elim
    | cont => exact hq.elim
end Rp
/-! RpExcN: the raising forms of RpExc in the layer that keeps that the exception's context is None. -/
namespace Rp
open PySem PySem.Spec PyProof.Rows L2 SX C8
/-- an own exception made where nothing is handled: its context is None -/
theorem pmk_oexN {X : Cx} {CX : CXT} {x : Str} {e : Expr} {es : List Expr} {ta : TA} {p pos : Pos} {C fI : Addr} {k : Nat} {fd : FuncData} {ps : List Str} {sp : Sp} {ds : List Value} {dvs : List V} (T : OexC X.K C) (iC : PySem.W.findIn X.K (.ref C) "__init__" = some (some (.ref fI))) (tI : PySem.W.typeIn X.K (.ref fI) = some (.type "function"))
    (F1 : FnOk X.prog X.w X.K X.mg X.base CX k fI fd ps sp) (hr : Room (k + 1) X.A) (hb : Binds X.K fd ps ds) (hd : Vals dvs ds) (hx : Passes CX X (fun _ _ _ => False)) (hg : Gl X x) (hm : X.mg x = some (.ref C)) (ha : PA X (e :: es) ta)
    (hdb : (x == ("__debug__" : Str)) = false := by decide) (he : starEach (e :: es) X.env = (false, eval e X.env) :: starEach es X.env := by rfl) (hpl : (backTo pos (starEach es X.env)).any (·.1) = false := by rfl) :
    L2N.PMk X (.Call (.Name x p) (e :: es) [] pos) (tMkO C sp dvs ta) := by
  intro pins s σ H Q I h
  obtain ⟨nm, q, N, bs, bm, sn, sub, ab, col, dd, k0, k1, k2, k3, k5, hC, hbm⟩ := T.cls
  refine wpAny_Call_Name_kw (ld_glob I hg hm ?_ hdb)
  refine PySem.W.callWith_K (h₀ := X.base) I.ok.mod.kin T.kC (thn (ha.run pos pins s σ H _ I h) fun us s1 ⟨vs, H1, I1, r1, hz, q1⟩ => ⟨I1.kIn, ?_⟩) he hpl
  show wpAny _ _ (call (.ref C) us) _ _ _
  obtain ⟨hp, g, dr, tk, os⟩ := s1
  have hsz : hp.objs.size ≤ hp.objs.size + 1 := Nat.le_succ _
  have hn : H1 (hp.objs.size + 1) = none := I1.hok.fresh hsz
  have hq := q1 (hp.objs.size + 1) hn
  have kk : ∀ b o, hp.get? b = some o → ((hp.push (PySem.W.kdv_tup us)).push (PySem.HandSPX.excO C hp.objs.size)).get? b = some o := fun b o e => Heap.get?_push_of_some _ (Heap.get?_push_of_some _ e)
  have hget : ((hp.push (PySem.W.kdv_tup us)).push (PySem.HandSPX.excO C hp.objs.size)).get? (hp.objs.size + 1) = some (PySem.HandSPX.excO C hp.objs.size) := by heap_get
  have I2 : Inv X pins σ (upd H1 (hp.objs.size + 1) (exo (hp.objs.size + 1) C none)) ⟨(hp.push (PySem.W.kdv_tup us)).push (PySem.HandSPX.excO C hp.objs.size), g, dr, tk, os⟩ :=
    I1.laid (t' := tk) (a := hp.objs.size + 1) (o := exo (hp.objs.size + 1) C none) (h' := (hp.push (PySem.W.kdv_tup us)).push (PySem.HandSPX.excO C hp.objs.size)) kk hsz (exo_ok hget)
  have r2 : Vals (V.ref (hp.objs.size + 1) :: (vs ++ dvs)) (Value.ref (hp.objs.size + 1) :: (us ++ ds)) := .cons rfl (r1.append hd)
  have hl : (Value.ref (hp.objs.size + 1) :: us ++ ds).length = ps.length := by
    have e := r2.length
    rw [F1.len _ _ _ _ hq] at e
    exact e.symm
  have hus : us.length ≤ sizeLine := by
    rw [← Paired.length r1, sizeLine_eq]
    omega
  refine wpAny_call (PySem.HandSPX.call_own F.excBase_ValueError (fun Y => PySem.HandSPX.refsVE_contains Y bm hbm) (I1.kIn _ _ hC) (PySem.W.looks_findIn I1.kIn iC) (fun self => PySem.W.bind_fn I1.kIn self tI) hus
    (codeAny_mono (F1.run _ X.stack _ _ ⟨Value.ref (hp.objs.size + 1) :: us, []⟩ (Value.ref (hp.objs.size + 1) :: (us ++ ds)) _ _ (fun _ _ _ => False) (hr.make C us []) (I2.env0.make C us []) (hb _ (Value.ref (hp.objs.size + 1) :: us) I2.kIn hl) r2 hq) fun r s' hq' => ?_))
  cases r with
  | error er => exact hx pins σ _ _ er s' I2 hq'
  | ok fl =>
    cases fl with
    | ret u =>
      obtain ⟨v, H2, os2, bare2, un2, hok2, rv, ev, d, fs, ea, ed, hd1, q2⟩ := hq'
      subst ev
      obtain ⟨h2, g2, d2, t2, os'⟩ := s'
      obtain ⟨t0, G, J, kG, ge, hoe, na⟩ := mk_end0 (d2 := d2) (t2 := t2) I1 hsz kk un2 hok2 os2 bare2 ea ed hd1
      refine ⟨rv, hp.objs.size + 1, _, _, ⟨G, g2, d2, t2, os'⟩, _, .ref C, some d, rfl, J, kG, ge, hoe, ⟨rfl, rfl, fun vs hv => ?_⟩, rfl, rfl, na, rfl, bare2, raises_own T.exC T.tyC, q2⟩
      cases hv
      rfl
    | next => exact False.elim hq'
    | brk => exact False.elim hq'
    | cont => exact False.elim hq'
/-- a def that may raise, by its body -/
theorem fnXN {P : Program} {w : World} {K : PySem.W.Frag} {mg : Str → Option Value} {base : Heap} {x qual : Str} {st : Stmt} {f : Addr} {fd : FuncData} {N ps : List Str} {k : Nat} {sp : Sp} (D : C8.Fun K x qual st f fd) (sco : FnScope N ps (fnScope st)) (len : ∀ vs H Q E, sp vs H Q E → vs.length = ps.length)
    (hbody : ∀ (cdv : Value) (A : Around) (outer : List Env) (s : Shared) (H : Hp) (vs : List V) (Q : VK) (E : XK), Room k (A.deeper (envOfC qual (fnScope st) s.heap.objs.size f cdv)) → sp vs H Q E →
      ∃ t, PSs (cxOf (L2N.CX P w) P w K mg base N qual (fnScope st) f cdv A outer s H E) (fnBody st) t ∧ t { nx := fun _ H' => Q .non H', rt := Q } (L2.start N vs) H) : FnOk P w K mg base (L2N.CX P w) (k + 1) f fd ps sp := by
  obtain ⟨oc, od, dV, kV, doc, pm, an, cdv, ct, osl, rfl, lk, hcd⟩ := D.ex
  exact fn_of lk hcd sco len fun A outer s H vs Q E hr hsp => hbody cdv A outer s H vs Q E hr hsp
theorem ps_raiseX1N {X : Cx} {W : WX} {x fld : Str} {C : Addr} {j : Nat} {e : Expr} {ta : TA} {p pos pos2 : Pos} (Z : RzX X.prog X.w X.K X.mg X.base x C fld) (hr : Room j X.A) (hj : 2 ≤ j) (tk : L2N.Takes X W) (hg : Gl X x) (ha : PA X [e] ta) (hc : X.calm = true := by rfl)
    (hdb : (x == ("__debug__" : Str)) = false := by decide) (he : starEach [e] X.env = (false, eval e X.env) :: starEach [] X.env := by rfl) (hpl : (backTo pos (starEach [] X.env)).any (·.1) = false := by rfl) :
    PS X (.Raise (some (.Call (.Name x p) [e] [] pos)) none pos2) (fun _ σ H => tMkO C (spX1 C fld) [] ta σ H fun cls d H' => W cls d σ H') := by
  obtain ⟨fI, fd, ps, o, iC, tI, F, b, hm⟩ := Z.ex
  exact L2N.ps_raise hc tk (pmk_oexN o iC tI F (hr.mono (by omega)) b .nil C8.pass0 hg hm ha hdb he hpl)
/-- a method that may raise -/
structure MetN (P : Program) (w : World) (K : PySem.W.Frag) (mg : Str → Option Value) (base : Heap) (k : Nat) (C : Addr) (m : Str) (sp : Sp) : Prop where
  ex : ∃ (f : Addr) (fd : FuncData) (ps : List Str), Cls K C ∧ Meth K C m f ∧ FnOk P w K mg base (L2N.CX P w) k f fd ps sp ∧ Binds K fd ps []
theorem pe_mtXN {X : Cx} {k j : Nat} {C : Addr} {m : Str} {sp : Sp} {E : XK} {o e : Expr} {es : List Expr} {apos pos : Pos} {to : TE} {t : TA} {pl : Sem Bool} (c : MetN X.prog X.w X.K X.mg X.base k C m sp) (hr : Room j X.A) (hk : k ≤ j) (hx : Passes (L2N.CX X.prog X.w) X E) (ho : PE X o to) (ha : PA X (e :: es) t)
    (hst : starEach (e :: es) X.env = (false, eval e X.env) :: starEach es X.env := by rfl) (hpl : (backTo pos (starEach es X.env)).any (·.1) = false := by rfl)
    (ht : eval (.Call (.Attribute o m apos) (e :: es) [] pos) X.env = (do
      let ov ← eval o X.env
      standAt apos.atName
      let (f, first) ← holding [ov] (getMethod ov m pl)
      callWith pos f first (backTo pos (starEach (e :: es) X.env)) (backToKw pos (keywordEach [] X.env))) := by rfl) :
    PE X (.Call (.Attribute o m apos) (e :: es) [] pos) (tMeth C m sp [] E to t) := by
  obtain ⟨f, fd, ps, hc, hm, F, b⟩ := c.ex
  exact pe_meth (pl := pl) ho hc hm F (hr.mono hk) b .nil hx ha hst hpl ht
theorem pass_ownN {X : Cx} {E : XK} (tk : L2N.Takes X (fun cls d _ H => E cls d H)) : Passes (L2N.CX X.prog X.w) X E := L2N.passes_call tk fun _ _ _ _ h => h
theorem pass_neverN {X : Cx} : Passes (L2N.CX X.prog X.w) X C8.E0 := fun _ _ _ _ _ _ _ c => by
  obtain ⟨a, B, H', cls, d, _, _, _, _, _, _, _, hE⟩ := c
  exact hE.elim
end Rp
/-! RpTry: calls of methods and classmethods in a try's body (what they raise is wished for at the caller's slots); calls in the suite with the handled exception. -/
namespace Rp
open PySem PySem.Spec PyProof.Rows L2 SX C8
theorem takes0N {X : Cx} : L2N.Takes X (fun _ _ _ _ => False) := fun _ _ x => by
  obtain ⟨_, _, _, _, _, _, _, _, _, _, _, _, _, _, _, _, z⟩ := x
  exact z.elim
/-- o.m(..) in a try's body -/
def tMethS (C : Addr) (m : Str) (sp : Sp) (E : L2.St → XK) (ta : TE) (t : TA) : TE := fun σ H Q => ta σ H fun x H1 => ∃ a dx fs, x = .ref a ∧ H1 a = some (.ins C dx fs) ∧ fs.lookup m = none ∧ t σ H1 fun vs H2 => sp (x :: vs) H2 Q (E σ)
theorem pe_mtSN {X : Cx} {k j : Nat} {C : Addr} {m : Str} {sp : Sp} {W : WX} {o e : Expr} {es : List Expr} {apos pos : Pos} {to : TE} {t : TA} {pl : Sem Bool} (c : MetN X.prog X.w X.K X.mg X.base k C m sp) (hr : Room j X.A) (hk : k ≤ j) (tk : L2N.Takes X W) (ho : PE X o to) (ha : PA X (e :: es) t)
    (hst : starEach (e :: es) X.env = (false, eval e X.env) :: starEach es X.env := by rfl) (hpl : (backTo pos (starEach es X.env)).any (·.1) = false := by rfl)
    (ht : eval (.Call (.Attribute o m apos) (e :: es) [] pos) X.env = (do
      let ov ← eval o X.env
      standAt apos.atName
      let (f, first) ← holding [ov] (getMethod ov m pl)
      callWith pos f first (backTo pos (starEach (e :: es) X.env)) (backToKw pos (keywordEach [] X.env))) := by rfl) :
    PE X (.Call (.Attribute o m apos) (e :: es) [] pos) (tMethS C m sp (WE W) to t) := by
  obtain ⟨f, fd, ps, hc, hm, F, b⟩ := c.ex
  refine ⟨fun pins s σ H Q I h => ?_⟩
  refine PySem.W.methodCall_KW (pl := pl) (thn (ho.run pins s σ H _ I h) fun u s1 ⟨x, H1, I1, rx, a, dx, fs, ex, ea, l, q⟩ => ?_) ht
  subst ex
  obtain rfl : u = Value.ref a := rx
  refine getmeth_ok I1 ea hc hm l ?_
  refine PySem.W.callWith_K (first := [.ref a]) (h₀ := X.base) I.ok.mod.kin hm.kp (thn (ha.run pos pins s1 σ H1 _ I1 q) fun us s2 ⟨vs, H2, I2, r, q2⟩ => ⟨I2.kIn, ?_⟩) hst hpl
  exact run_fnS (us := .ref a :: us) (vs := .ref a :: vs) F (hr.mono hk) b (L2N.passAt tk σ) I2 (.cons rfl r) q2
section
variable {X : Cx} {m : Str} {C : Addr} {sp : Sp} {W : WX} {t : TA} {Q : VK} {σ : L2.St} {H : Hp}
/-- the question of such a call -/
def MSk (C : Addr) (m : Str) (sp : Sp) (E : L2.St → XK) (t : TA) (σ : L2.St) (Q : VK) : VK := fun x H1 => ∃ a dx fs, x = .ref a ∧ H1 a = some (.ins C dx fs) ∧ fs.lookup m = none ∧ t σ H1 fun vs H2 => sp (x :: vs) H2 Q (E σ)
theorem u_methS {E : L2.St → XK} {ta : TE} (h : ta σ H (MSk C m sp E t σ Q)) : tMethS C m sp E ta t σ H Q := h
theorem u_mFS {K : PySem.W.Frag} {E : L2.St → XK} {u : Fm} {a : Addr} (hn : ∀ n p z x, (fF n p z x).lookup m = none) (ha : FormAt K C H u a) (h : t σ H fun vs H2 => sp (.ref a :: vs) H2 Q (E σ)) : MSk C m sp E t σ Q (.ref a) H := by
  obtain ⟨dx, p, vs, e, _⟩ := ha.out
  exact ⟨a, dx, _, rfl, e, hn _ _ _ _, h⟩
end
/-! ### the classes of an exception, by their numbers -/
/-- what isinstance answers of instances of D for the module's class x -/
def IsX (K : PySem.W.Frag) (mg : Str → Option Value) (D : Addr) (x : Str) (b : Bool) : Prop := ∃ C : Addr, mg x = some (.ref C) ∧ PySem.W.kitOne K (.ref D) (.ref C) = some b
def marksL (bs : List Bool) (i : Nat) : List V := ((List.range i).filter fun k => bs.getD k false).map fun (k : Nat) => V.int (k : Int)
theorem marksL_yes {bs : List Bool} {i : Nat} (h : bs.getD i false = true) : marksL bs (i + 1) = marksL bs i ++ [V.int (i : Int)] := by
  unfold marksL
  rw [List.range_succ, List.filter_append, List.map_append]
  congr 1
  rw [List.filter_cons, if_pos h]; rfl
theorem marksL_no {bs : List Bool} {i : Nat} (h : bs.getD i false = false) : marksL bs (i + 1) = marksL bs i := by
  unfold marksL
  rw [List.range_succ, List.filter_append, List.map_append]
  rw [List.filter_cons, if_neg (by rw [h]; simp)]; simp
theorem marksL_len {bs : List Bool} {i : Nat} : (marksL bs i).length ≤ i := by
  unfold marksL
  rw [List.length_map]
  exact Nat.le_trans (List.length_filter_le _ _) (by simp)
def spKinds (a d : Addr) (bs : List Bool) : Sp := fun vs H Q _ => vs = [.ref a] ∧ (∃ fs, H d = some (.xd fs)) ∧ ∀ (q : Addr) (H' : Hp), Fr [] H H' → H' q = some (.lst (marksL bs 7)) → Q (.ref q) H'
def spRefused (K : PySem.W.Frag) (C : Addr) : Sp := fun vs H Q _ => ∃ (af p ag : Addr) (door : Int) (t u : Fm) (is : List Int), vs = [.ref af, .ref p, .ref ag, .int door] ∧ FormAt K C H t af ∧ SqT K H p (is.map V.int) ∧ FormAt K C H u ag ∧ is.length ≤ 1000 ∧ t.text.length ≤ 50000 ∧ u.text.length ≤ 50000 ∧ t.atp is = none ∧ ∀ H', Fr [] H H' → Q (.bl true) H'
theorem u_refused {K : PySem.W.Frag} {C af p ag : Addr} {door : Int} {t u : Fm} {is : List Int} {H : Hp} {Q : VK} {E : XK} (h1 : FormAt K C H t af) (h2 : SqT K H p (is.map V.int)) (h3 : FormAt K C H u ag) (h4 : is.length ≤ 1000) (h5 : t.text.length ≤ 50000) (h6 : u.text.length ≤ 50000) (h7 : t.atp is = none) (h : ∀ H', Fr [] H H' → Kp H H' → Q (.bl true) H') : spRefused K C ([.ref af, .ref p, .ref ag, .int door] ++ []) H Q E :=
  ⟨af, p, ag, door, t, u, is, rfl, h1, h2, h3, h4, h5, h6, h7, fun H' f => h H' f (.of_same f.same)⟩
section
variable {K : PySem.W.Frag} {H : Hp} {Q : VK} {t u : Fm} {a b : Addr}
theorem u_eqT (h1 : TupAt K H t a) (h2 : TupAt K H u b) (o1 : t.Ok) (o2 : u.Ok) (d1 : t.depth ≤ 62) (d2 : u.depth ≤ 62) (h : Q (.bl (decide (t = u))) H) : rEqD K (.ref a) (.ref b) H Q := u_eqD h1.dp h2.dp (data_shaped o1 d1) (data_shaped o2 d2) (by rw [data_eqv]; exact h)
theorem u_neT (h1 : TupAt K H t a) (h2 : TupAt K H u b) (o1 : t.Ok) (o2 : u.Ok) (d1 : t.depth ≤ 62) (d2 : u.depth ≤ 62) (h : Q (.bl (!decide (t = u))) H) : rNeD K (.ref a) (.ref b) H Q := u_neD h1.dp h2.dp (data_shaped o1 d1) (data_shaped o2 d2) (by rw [data_eqv]; exact h)
theorem u_eqT1 (h1 : TupAt K H t a) (h2 : TupAt K H t b) (o1 : t.Ok) (d1 : t.depth ≤ 62) (h : Q (.bl true) H) : rEqD K (.ref a) (.ref b) H Q := u_eqT h1 h2 o1 o1 d1 d1 (by simpa using h)
theorem u_neT1 (h1 : TupAt K H t a) (h2 : TupAt K H t b) (o1 : t.Ok) (d1 : t.depth ≤ 62) (h : Q (.bl false) H) : rNeD K (.ref a) (.ref b) H Q := u_neT h1 h2 o1 o1 d1 d1 (by simpa using h)
theorem u_eqS1 {x : List Nat} (h : Q (.bl true) H) : rEq (.str (S x)) (.str (S x)) H Q := u_eqS (by simpa using h)
theorem u_neS1 {x : List Nat} (h : Q (.bl false) H) : rNe (.str (S x)) (.str (S x)) H Q := u_neS (by simpa using h)
end
/-! ### the class of the handled exception is known -/
/-- a def called with the handled exception -/
def tPinC (cls : Value) (d : Option Addr) (D : Addr) (sp : Addr → Sp) (t : TA) : TE := fun σ H Q => t σ H fun vs H1 => cls = .ref D ∧ ∃ dd, d = some dd ∧ sp dd vs H1 Q C8.E0
theorem pe_callPinC {X : Cx} {x : Str} {f a D : Addr} {oe : Obj} {cls : Value} {d : Option Addr} {sp : Addr → Sp} {k : Nat} {e : Expr} {es : List Expr} {t : TA} {q pos : Pos} (F : ∀ dd, Zc (.ref D) (some dd) oe → FnPin X.prog X.w X.K X.mg X.base k f (a, oe) (sp dd)) (hz : Zc cls d oe) (hr : L2H.RoomH k X.A) (hot : L2H.Hot1 X.A (a, oe)) (hp : (a, oe) ∈ X.pn) (hg : Gl X x) (hm : X.mg x = some (.ref f)) (hk : PySem.W.keepIn X.K (.ref f) = true)
    (ha : PA X (e :: es) t) (hdb : (x == ("__debug__" : Str)) = false := by decide) (he : starEach (e :: es) X.env = (false, eval e X.env) :: starEach es X.env := by rfl) (hpl : (backTo pos (starEach es X.env)).any (·.1) = false := by rfl) :
    PE X (.Call (.Name x q) (e :: es) [] pos) (tPinC cls d D sp t) := by
  refine ⟨fun pins s σ H Q I h => wpAny_Call_Name_kw (ld_glob I hg hm (PySem.W.callWith_K (h₀ := X.base) I.ok.mod.kin hk (thn (ha.run pos pins s σ H _ I h) fun us s1 hz' => ?_) he hpl) hdb)⟩
  obtain ⟨vs, H1, I1, r, ec, dd, ed, qq⟩ := hz'
  subst ec ed
  have P1 := I1.pin (a, oe) (List.mem_append_left _ hp)
  refine ⟨I1.kIn, wpAny_call (codeAny_mono (F dd hz X.A X.stack s1 H1 us vs Q hr hot ⟨P1.1, P1.2.1, fun z => (List.mem_cons.mp (I1.stkSub a z)).elim P1.2.2.1 P1.2.2.2.1, P1.2.2.2.2⟩ I1.env0 r qq) fun r s' hq => ?_)⟩
  cases r with
  | error e => exact hq.elim
  | ok fl =>
    cases fl with
    | ret u => exact I1.after hq
    | next => exact hq.elim
    | brk => exact hq.elim
    | cont => exact hq.elim
section
variable {C D a dd : Addr} {cls : Value} {d : Option Addr} {sp : Addr → Sp} {t : TA} {te : TE} {σ : L2.St} {H : Hp} {Q : VK} {f : Str} {v : V} {fs : List (Str × V)} {vs : List V}
theorem dp_ints {K : PySem.W.Frag} {H : Hp} : ∀ is : List Int, DpAll K H (is.map V.int) (is.map PyData.int)
  | [] => .nil
  | i :: is => .cons (.int i) (dp_ints is)
theorem ints_canLay : ∀ is : List Int, PyData.canLayAll0 (is.map PyData.int) = true
  | [] => by simp [PyData.canLayAll0]
  | i :: is => by simp [PyData.canLayAll0, PyData.canLay0, ints_canLay is]
theorem ints_depth : ∀ is : List Int, PyData.depthAll (is.map PyData.int) ≤ 1
  | [] => by simp [PyData.depthAll]
  | i :: is => by
    have := ints_depth is
    simp [PyData.depthAll, PyData.depth]; omega
theorem ints_shaped (is : List Int) : SeqAt.shaped (.tuple (is.map PyData.int)) = true := by
  have := ints_depth is
  simp [SeqAt.shaped, PyData.canLay0, ints_canLay is, PyData.depth]; omega
theorem ints_eqv (is : List Int) : PyData.eqv (.tuple (is.map PyData.int)) (.tuple (is.map PyData.int)) = true := SeqAt.eqv_refl _ (by simp [PyData.canLay0, ints_canLay])
/-- the questions of such a call, of a field of the handled exception -/
def PINk (cls : Value) (d : Option Addr) (D : Addr) (sp : Addr → Sp) (Q : VK) : List V → Hp → Prop := fun vs H1 => cls = .ref D ∧ ∃ dd, d = some dd ∧ sp dd vs H1 Q C8.E0
theorem u_pinC (h : t σ H (PINk cls d D sp Q)) : tPinC cls d D sp t σ H Q := h
theorem u_pinK (h : sp dd vs H Q C8.E0) : PINk (.ref D) (some dd) D sp Q vs H := ⟨rfl, dd, rfl, h⟩
def XFk (a : Addr) (cls : Value) (d : Option Addr) (C : Addr) (f : Str) (Q : VK) : VK := fun x H1 => x = .ref a ∧ cls = .ref C ∧ ∃ (dd : Addr) (fs : List (Str × V)) (v : V), d = some dd ∧ H1 dd = some (.xd fs) ∧ fs.lookup f = some v ∧ Q v H1
theorem u_xf (h : te σ H (XFk a cls d C f Q)) : tXf a cls d C f te σ H Q := h
theorem u_xfK (e : H dd = some (.xd fs)) (l : fs.lookup f = some v) (h : Q v H) : XFk a (.ref C) (some dd) C f Q (.ref a) H := ⟨rfl, rfl, dd, fs, v, rfl, e, l, h⟩
theorem u_kinds {bs : List Bool} {E : XK} (e : H dd = some (.xd fs)) (h : ∀ (q : Addr) (H' : Hp), Fr [] H H' → Kp H H' → H' q = some (.lst (marksL bs 7)) → Q (.ref q) H') : spKinds a dd bs [.ref a] H Q E := ⟨rfl, ⟨fs, e⟩, fun q H' f => h q H' f (.of_same f.same)⟩
end
theorem roomS {k j : Nat} {A : Around} {x : Option Value} (hr : Room k A) (h : j ≤ k) : L2H.RoomH j (A.mark x) := ⟨by have := hr.dp; show A.depth + 3 * j + 5 < _; omega, by have := hr.un; show A.units + 16 * j + 200 < _; omega⟩
/-- the context's handled exception in a suite -/
theorem hot_suite {X : Cx} {a : Addr} {oe : Obj} {cls : Value} {d : Option Addr} {pn : List (Addr × Obj)} (hz : L2N.Zn cls d oe) (hf : ∃ vs, oe.data = .fields vs) : L2H.Hot1 (X.suite a ((a, oe) :: pn)).A (a, oe) := by
  obtain ⟨vs, e⟩ := hf
  exact ⟨rfl, vs, e, hz.2.2 vs e⟩
end Rp
/-! RpHead2: what the head tells of exception classes and of defs with the cell of __class__. -/
namespace Rp
open PySem PySem.Spec PyProof.Rows L2 SX C8
open He5 (DefA obsA valA asA wrapB wf fnA)
theorem codeRef {K : PySem.W.Frag} {cd : Value} {q : Str} (h : PySem.W.codeIn K cd q = true) : ∃ c, cd = .ref c := by
  cases cd with
  | ref c => exact ⟨c, rfl⟩
  | _ => cases h
/-- a def with one free name: its closure's address left out -/
def fnS (K : PySem.W.Frag) (a : Addr) : He.FnW := match K.lookup a with
  | some ⟨_, _, .func fd, _⟩ => some (fd.name, fd.qualname, fd.params, fd.body, fd.scope, fd.globals, fd.closure.map fun q => (q.1, 0), fd.builtins)
  | _ => none
def valS (d : DefA) : He.FnW := some (d.name, d.qual, d.params, .stmts d.body, d.scope, mainGlobals, [("__class__", 0)], builtinsNs)
/-- such a def: its record, the class its cell holds by name, the program's file -/
structure DefS where
  d : DefA
  cls : Str
def cellB (K : PySem.W.Frag) (C : Addr) : List (Str × Addr) → Bool
  | [(_, cc)] => (match K.lookup cc with
    | some ⟨_, _, .cell (some (.ref D)), _⟩ => D == C
    | _ => false)
  | _ => false
def fileB (K : PySem.W.Frag) (file : Str) : Value → Bool
  | .ref cda => (match K.lookup cda with
    | some ⟨_, _, .fields vs, _⟩ => (match (vs[2]? : Option Value) with
      | some (.str z _) => file == z
      | _ => false)
    | _ => false)
  | _ => false
def DefS.ok (file : Str) (K : PySem.W.Frag) (q : DefS) : Bool := PySem.W.keepIn K (.ref (q.d.at_ K)) && (match K.lookup (q.d.at_ K) with
  | some ⟨_, _, .func fd, _⟩ => PySem.W.codeIn K fd.code q.d.qual && (He.dflB K fd.defaults (q.d.dvs K) && (He.kwdB K fd.kwdefaults [] && (cellB K (He.ga K q.cls) fd.closure && fileB K file fd.code)))
  | _ => false)
/-- what is known then -/
structure FunS (K : PySem.W.Frag) (file : Str) (x qual : Str) (st : Stmt) (dvs : List V) (C f : Addr) (fd : FuncData) : Prop where
  ex : ∃ (oc : Value) (od : Option Addr) (dV kV doc pm : Value) (an : Option Addr) (cda cc : Addr) (ct : Value) (osl : Array (Option Value)),
    fd = PySem.W.ksFn x qual (fnArgs st) (fnBody st) (fnScope st) dV kV doc pm an (.ref cda) ct cc ∧ K.lookup f = some ⟨oc, od, .func fd, osl⟩ ∧ PySem.W.codeIn K (.ref cda) qual = true ∧ DflV K dV dvs ∧
    (∃ cl cld csl, K.lookup cc = some ⟨cl, cld, .cell (some (.ref C)), csl⟩) ∧ ∃ ccl cdd vs ccs z tf, K.lookup cda = some ⟨ccl, cdd, .fields vs, ccs⟩ ∧ vs[2]? = some (.str z tf) ∧ (file == z) = true
  kp : PySem.W.keepIn K (.ref f) = true
theorem DefS.funS {K : PySem.W.Frag} {file : Str} {q : DefS} {st : Stmt} (hp : q.d.params = fnArgs st) (hb : q.d.body = fnBody st) (hs : q.d.scope = fnScope st) (e : fnS K (q.d.at_ K) = valS q.d) (c : q.ok file K = true) : ∃ fd, FunS K file q.d.name q.d.qual st (q.d.dvs K) (He.ga K q.cls) (q.d.at_ K) fd := by
  obtain ⟨kp, c2⟩ := He.ba c
  unfold fnS at e
  cases hq : K.lookup (q.d.at_ K) with
  | none => rw [hq] at c2; cases c2
  | some o =>
    obtain ⟨oc, od, dt, osl⟩ := o
    rw [hq] at c2 e
    cases dt with
    | func fd =>
      obtain ⟨n1, n2, n3, n4, n5, n6, n7, n8, n9, n10, n11, n12, n13, n14, n15⟩ := fd
      have e2 : (some (n1, n2, n3, n4, n5, n6, (n7.map fun q => (q.1, (0 : Addr))), n15) : He.FnW) = valS q.d := e
      unfold valS at e2
      simp only [Option.some.injEq, Prod.mk.injEq] at e2
      obtain ⟨h1, h2, h3, h4, h5, h6, h7, h8⟩ := e2
      subst h1 h2 h3 h4 h5 h6 h8
      have c3 : (PySem.W.codeIn K n13 q.d.qual && (He.dflB K n8 (q.d.dvs K) && (He.kwdB K n9 [] && (cellB K (He.ga K q.cls) n7 && fileB K file n13)))) = true := c2
      obtain ⟨k1, k2⟩ := He.ba c3
      obtain ⟨k3, k4⟩ := He.ba k2
      obtain ⟨k5, k6⟩ := He.ba k4
      obtain ⟨k7, k8⟩ := He.ba k6
      obtain ⟨⟨y, cc⟩, rfl⟩ : ∃ q, n7 = [q] := by
        cases n7 with
        | nil => cases h7
        | cons a r =>
          cases r with
          | nil => exact ⟨a, rfl⟩
          | cons b r => simp at h7
      simp at h7
      subst h7
      have k7' : (match K.lookup cc with
        | some ⟨_, _, .cell (some (.ref D)), _⟩ => D == He.ga K q.cls
        | _ => false) = true := k7
      have cell : ∃ cl cld csl, K.lookup cc = some ⟨cl, cld, .cell (some (.ref (He.ga K q.cls))), csl⟩ := by
        split at k7'
        · rename_i cl cld C csl lk
          rw [beq_iff_eq.mp k7'] at lk
          exact ⟨_, _, _, lk⟩
        · cases k7'
      obtain ⟨cda, rfl⟩ := codeRef k1
      have k8' : (match K.lookup cda with
          | some ⟨_, _, .fields vs, _⟩ => (match (vs[2]? : Option Value) with
            | some (.str z _) => file == z
            | _ => false)
          | _ => false) = true := k8
      have code : ∃ ccl cdd vs ccs z tf, K.lookup cda = some ⟨ccl, cdd, .fields vs, ccs⟩ ∧ vs[2]? = some (.str z tf) ∧ (file == z) = true := by
        split at k8'
        · rename_i ccl cdd vs ccs lk
          split at k8'
          · rename_i z tf hv
            exact ⟨_, _, _, _, _, _, lk, hv, k8'⟩
          · cases k8'
        · cases k8'
      refine ⟨_, ⟨oc, od, n8, n9, n10, n11, n12, cda, cc, n14, osl, ?_, hq, k1, He.dflB_ok k3, cell, code⟩, kp⟩
      rw [hp, hb, hs]
    | _ => cases c2
/-- every parameter is given -/
theorem FunS.bindsN {K : PySem.W.Frag} {file x qual : Str} {st : Stmt} {C f : Addr} {fd : FuncData} {ps : List Str} (F : FunS K file x qual st [] C f fd)
    (h : ∀ (kV doc pm : Value) (an : Option Addr) (cdv ct : Value) (cc : Addr) (us : List Value), us.length = ps.length → bindArgs (PySem.W.ksFn x qual (fnArgs st) (fnBody st) (fnScope st) .none kV doc pm an cdv ct cc) ⟨us, []⟩ = pure (ps.zip us)) : Binds K fd ps [] := by
  obtain ⟨oc, od, dV, kV, doc, pm, an, cda, cc, ct, osl, rfl, lk, hcd, hD, _, _⟩ := F.ex
  rcases hD with ⟨_, rfl⟩ | ⟨e, _⟩
  · exact .all (h kV doc pm an _ ct cc)
  · exact absurd rfl e
/-- the first values are written, the defaults fill up -/
theorem FunS.binds1 {K : PySem.W.Frag} {file x qual : Str} {st : Stmt} {dvs : List V} {C f : Addr} {fd : FuncData} {ps : List Str} (F : FunS K file x qual st dvs C f fd) (n j : Nat) (hd : dvs ≠ []) (hn : n + (dvs.length - j) = ps.length)
    (h : ∀ (T : Addr) (kV doc pm : Value) (an : Option Addr) (cdv ct : Value) (cc : Addr) (us its : List Value), us.length = n → its.length = dvs.length →
      ∃ k, bindArgs (PySem.W.ksFn x qual (fnArgs st) (fnBody st) (fnScope st) (.ref T) kV doc pm an cdv ct cc) ⟨us, []⟩ = seqItems? (.ref T) >>= k ∧ k (some its.toArray) = pure (ps.zip (us ++ its.drop j))) : ∃ ds, Vals (dvs.drop j) ds ∧ Binds K fd ps ds := by
  obtain ⟨oc, od, dV, kV, doc, pm, an, cda, cc, ct, osl, rfl, lk, hcd, hD, _, _⟩ := F.ex
  rcases hD with ⟨e, _⟩ | ⟨_, T, o, its, m, rfl, lT, oT, rT⟩
  · exact absurd e hd
  · refine ⟨its.drop j, rT.drop j, fun s us X hlen => ?_⟩
    have l1 : its.length = dvs.length := rT.length.symm
    have l2 : us.length = n := by
      have l3 : us.length + (its.length - j) = ps.length := by rw [← hlen, List.length_append, List.length_drop]
      omega
    obtain ⟨k, e1, e2⟩ := h T kV doc pm an _ ct cc us its l2 l1
    exact BindsTo.of_looks fun M => e1 ▸ looks_items X lT oT (.of_pure e2)
/-! ### the observation -/
def obsT (fa : List He.Fa) (fn : List DefA) (fs : List DefS) (file : Str) (ex : PySem.W.Frag → Bool) (K : PySem.W.Frag) : He.AlD := ((ex K && fs.all fun q => q.ok file K) && (obsA fa fn K).1, (obsA fa fn K).2 ++ fs.map fun q => fnS K (q.d.at_ K))
def valT (fn : List DefA) (fs : List DefS) : He.AlD := (true, (valA fn).2 ++ fs.map fun q => valS q.d)
def SaysT (fa : List He.Fa) (fn : List DefA) (fs : List DefS) (file : Str) (ex : PySem.W.Frag → Bool) (K : PySem.W.Frag) : Prop := obsT fa fn fs file ex K = valT fn fs
def obsTG (n : Nat) (fa : List He.Fa) (fn : List DefA) (fs : List DefS) (file : Str) (ex : PySem.W.Frag → Bool) (g : Addr → Option Obj) : He.AlD := obsT fa fn fs file ex (He.frG g (asA g n))
def hookT (n : Nat) (fa : List He.Fa) (fn : List DefA) (fs : List DefS) (file : Str) (ex : PySem.W.Frag → Bool) : PySem.W.Hook :=
  { α := He.AlD, obs := fun s => obsTG n fa fn fs file ex s.heap.get?, val := fun _ => valT fn fs, says := fun _ h => ∃ K : PySem.W.Frag, K.In h ∧ SaysT fa fn fs file ex K, of := fun _ _ e => ⟨_, He.frG_in, e⟩, keeps := fun _ _ _ z k => by obtain ⟨K, hK, c⟩ := z; exact ⟨K, PySem.W.Frag.In.keeps hK k, c⟩ }
theorem obsTG_eq {n : Nat} {fa : List He.Fa} {fn : List DefA} {fs : List DefS} {file : Str} {ex : PySem.W.Frag → Bool} {g : Addr → Option Obj} {s : Shared} (h : ∀ a, g a = s.heap.get? a) : obsTG n fa fn fs file ex g = (hookT n fa fn fs file ex).obs s := by
  cases (funext h : g = s.heap.get?)
  rfl
section
variable {fa : List He.Fa} {fn : List DefA} {fs : List DefS} {file : Str} {ex : PySem.W.Frag → Bool} {K : PySem.W.Frag}
theorem SaysT.two (c : SaysT fa fn fs file ex K) : ((ex K && fs.all fun q => q.ok file K) && (obsA fa fn K).1) = true := congrArg (fun z : He.AlD => z.1) (show obsT fa fn fs file ex K = valT fn fs from c)
theorem SaysT.more (c : SaysT fa fn fs file ex K) : ex K = true := (He.ba (He.ba c.two).1).1
theorem SaysT.snd (c : SaysT fa fn fs file ex K) : (obsA fa fn K).2 = (valA fn).2 ∧ (fs.map fun q => fnS K (q.d.at_ K)) = fs.map fun q => valS q.d := by
  have e2 : (obsA fa fn K).2 ++ (fs.map fun q => fnS K (q.d.at_ K)) = (valA fn).2 ++ fs.map fun q => valS q.d := congrArg (fun z : He.AlD => z.2) (show obsT fa fn fs file ex K = valT fn fs from c)
  exact List.append_inj e2 (by simp [obsA, valA])
theorem SaysT.says (c : SaysT fa fn fs file ex K) : He5.SaysA fa fn K := by
  show obsA fa fn K = valA fn
  exact Prod.ext (He.ba c.two).2 c.snd.1
theorem SaysT.def_ (c : SaysT fa fn fs file ex K) (i : Nat) {q : DefS} {st : Stmt} (h : fs[i]? = some q := by rfl) (hp : q.d.params = fnArgs st := by rfl) (hb : q.d.body = fnBody st := by rfl) (hs : q.d.scope = fnScope st := by rfl) : ∃ fd, FunS K file q.d.name q.d.qual st (q.d.dvs K) (He.ga K q.cls) (q.d.at_ K) fd := by
  have e2 : (fs.map fun q => fnS K (q.d.at_ K))[i]? = (fs.map fun q => valS q.d)[i]? := by rw [c.snd.2]
  rw [List.getElem?_map, List.getElem?_map, h] at e2
  exact DefS.funS hp hb hs (Option.some.inj e2) (List.all_eq_true.mp (He.ba (He.ba c.two).1).2 q (List.mem_of_getElem? h))
end
/-! ### exception classes -/
/-- the class object of an own exception over ValueError -/
def oexB (K : PySem.W.Frag) (C : Addr) : Bool := match K.lookup C with
  | some ⟨.type "type", _, .cls cd, sl⟩ => (match cd.mro, sl.toList with
    | .ref C' :: bm, [_, _, _, _, some (.builtin n), _] => C' == C && (n == "ValueError.__new__" && (!cd.hasDel && (cd.hasDict && PySem.HandSPX.refsVE bm)))
    | _, _ => false)
  | _ => false
theorem oexB_ok {K : PySem.W.Frag} {C : Addr} (h : oexB K C = true) : ∃ nm q N bs bm sn sub ab col dd k0 k1 k2 k3 k5, K.lookup C = some (excClassObj nm q C N bs bm true sn sub ab col dd k0 k1 k2 k3 k5 "ValueError.__new__") ∧ PySem.HandSPX.refsVE bm = true := by
  unfold oexB at h
  split at h
  · rename_i dd cd sl ho
    split at h
    · rename_i C' bm k0 k1 k2 k3 n k5 hm hs
      obtain ⟨h1, h⟩ := He.ba h
      obtain ⟨h2, h⟩ := He.ba h
      obtain ⟨h3, h⟩ := He.ba h
      obtain ⟨h4, h5⟩ := He.ba h
      cases beq_iff_eq.mp h1
      cases beq_iff_eq.mp h2
      obtain ⟨nm, bs, mro, ns, qn, hd, sn, sub, ab, col, del⟩ := cd
      dsimp only at hm h3 h4
      subst hm h4
      have h3' : del = false := by simpa using h3
      subst h3'
      have hsl : sl = #[k0, k1, k2, k3, some (.builtin "ValueError.__new__"), k5] := by
        obtain ⟨l⟩ := sl
        simp only at hs
        rw [hs]
      subst hsl
      exact ⟨nm, qn, ns, bs, bm, sn, sub, ab, col, dd, k0, k1, k2, k3, k5, ho, h5⟩
    · cases h
  · cases h
/-- all that is asked of such a class, one Bool -/
def excB (K : PySem.W.Frag) (C : Addr) : Bool := oexB K C && (He.eqO (PySem.W.findIn K (.ref C) "__setattr__") (some (some (.builtin "object.__setattr__"))) && (decide (PySem.W.subIn K (.ref C) (.type "BaseException") = some true) && (decide (PySem.W.typeIn K (.ref C) = some (.type "type")) && (PySem.W.keepIn K (.ref C) &&
  (xfB K C && (He.eqO (PySem.W.findIn K (.ref C) "__class__") (some (some (.builtin "object.__class__"))) && (He.eqO (PySem.W.specialIn K (.builtin "object.__class__") "__get__") (some (some (.builtin "getset_descriptor.__get__"))) && (decide (PySem.W.takesIn K (.builtin "object.__class__") = some true) &&
  (decide (PySem.W.mroIn K C (.type "object") = some true) && (decide (PySem.W.exmOne K (.ref C) (.ref C) = some true) && decide (PySem.W.kitOne K (.ref C) (.type "ValueError") = some true)))))))))))
structure ExcAll (K : PySem.W.Frag) (C : Addr) : Prop where
  oex : OexC K C
  xf : XfC K C
  exc : ExcC K C
  me : PySem.W.exmOne K (.ref C) (.ref C) = some true
  kve : PySem.W.kitOne K (.ref C) (.type "ValueError") = some true
theorem excB_ok {K : PySem.W.Frag} {C : Addr} (h : excB K C = true) : ExcAll K C := by
  obtain ⟨h1, h⟩ := He.ba h
  obtain ⟨h2, h⟩ := He.ba h
  obtain ⟨h3, h⟩ := He.ba h
  obtain ⟨h4, h⟩ := He.ba h
  obtain ⟨h5, h⟩ := He.ba h
  obtain ⟨h6, h⟩ := He.ba h
  obtain ⟨h7, h⟩ := He.ba h
  obtain ⟨h8, h⟩ := He.ba h
  obtain ⟨h9, h⟩ := He.ba h
  obtain ⟨h10, h⟩ := He.ba h
  obtain ⟨h11, h12⟩ := He.ba h
  have x := xfB_ok h6
  exact ⟨⟨oexB_ok h1, He.eqO_ok h2, of_decide_eq_true h3, of_decide_eq_true h4, h5⟩, x, ⟨x.ga, x.gg, x.exC, x.hdC, He.eqO_ok h7, He.eqO_ok h8, of_decide_eq_true h9, of_decide_eq_true h10⟩, of_decide_eq_true h11, of_decide_eq_true h12⟩
/-- what super().__init__ needs -/
def supB (K : PySem.W.Frag) (C : Addr) : Bool := (PySem.W.clsIn K C).isSome && (decide (PySem.W.mroIn K C (.ref C) = some true) && (He.eqO (PySem.W.ks_superIn K C C "__init__") (some (some (.builtin "ValueError.__init__"))) && (decide (PySem.W.subIn K (.ref C) (.type "ValueError") = some true) && (He.eqO (PySem.W.nsIn K PySem.cStatics "thirdparty.any") (some none) &&
  (He.eqO (PySem.W.findIn K (.ref C) "__init__") (some (some (.ref (He.ma K C "__init__")))) && decide (PySem.W.typeIn K (.ref (He.ma K C "__init__")) = some (.type "function")))))))
theorem supB_ok {K : PySem.W.Frag} {P : Program} {mg : Str → Option Value} {x qual : Str} {st : Stmt} {dvs : List V} {C f : Addr} {fd : FuncData} (h : supB K C = true) (A : ExcAll K C) (F : FunS K P.main.file x qual st dvs C f fd) (h1 : mg "super" = none) (h2 : (P.main.scope.names.lookup ("super" : Str)).isSome = false) :
    PySem.W.findIn K (.ref C) "__init__" = some (some (.ref (He.ma K C "__init__"))) ∧ PySem.W.typeIn K (.ref (He.ma K C "__init__")) = some (.type "function") ∧
    ∃ (oc : Value) (od : Option Addr) (dV kV doc pm : Value) (an : Option Addr) (cda cc : Addr) (ct : Value) (osl : Array (Option Value)), fd = PySem.W.ksFn x qual (fnArgs st) (fnBody st) (fnScope st) dV kV doc pm an (.ref cda) ct cc ∧ K.lookup f = some ⟨oc, od, .func fd, osl⟩ ∧ PySem.W.codeIn K (.ref cda) qual = true ∧ SupF K P mg C f cc cda := by
  obtain ⟨k1, h⟩ := He.ba h
  obtain ⟨k2, h⟩ := He.ba h
  obtain ⟨k3, h⟩ := He.ba h
  obtain ⟨k4, h⟩ := He.ba h
  obtain ⟨k5, h⟩ := He.ba h
  obtain ⟨k6, k7⟩ := He.ba h
  obtain ⟨oc, od, dV, kV, doc, pm, an, cda, cc, ct, osl, e, lk, hcd, _, cell, code⟩ := F.ex
  refine ⟨He.eqO_ok k6, of_decide_eq_true k7, oc, od, dV, kV, doc, pm, an, cda, cc, ct, osl, e, lk, hcd, ⟨A.oex, ?_, of_decide_eq_true k2, He.eqO_ok k3, of_decide_eq_true k4, He.eqO_ok k5, cell, code, h1, h2⟩⟩
  cases q : PySem.W.clsIn K C with
  | none => rw [q] at k1; cases k1
  | some cd => exact ⟨cd, rfl⟩
/-- isinstance's answers for instances of x -/
def kindsB (K : PySem.W.Frag) (x : Str) (bs : List (Str × Bool)) : Bool := bs.all fun q => decide (PySem.W.kitOne K (.ref (He.ga K x)) (.ref (He.ga K q.1)) = some q.2)
theorem kindsB_ok {K : PySem.W.Frag} {mg : Str → Option Value} {x y : Str} {b : Bool} {bs : List (Str × Bool)} (h : kindsB K x bs = true) (i : Nat) (hm : mg y = some (.ref (He.ga K y))) (hi : bs[i]? = some (y, b) := by rfl) : IsX K mg (He.ga K x) y b :=
  ⟨_, hm, of_decide_eq_true (List.all_eq_true.mp h _ (List.mem_of_getElem? hi))⟩
end Rp
/-! RpExcF: own exceptions with any fields, with defaults: made and raised where nothing is handled. -/
namespace Rp
open PySem PySem.Spec PyProof.Rows L2 SX C8
/-- the promise of an exception's __init__: its dict becomes g of the arguments -/
def spXf (C : Addr) (pre : List V → Prop) (g : List V → List (Str × V)) : Sp := fun vs H Q _ => ∃ (a : Addr) (ws : List V), vs = .ref a :: ws ∧ pre ws ∧ H a = some (exo a C none) ∧ ∀ dx, H dx = none → dx ≠ a → Q .non (upd (upd H dx (exd dx (g ws))) a (exo a C (some dx)))
def MKOk (C : Addr) (sp : Sp) (dvs : List V) (Q : XK) : List V → Hp → Prop := fun vs H1 => vs.length ≤ 1000 ∧ ∀ a, H1 a = none → sp (.ref a :: (vs ++ dvs)) (upd H1 a (exo a C none))
  (fun v H2 => v = .non ∧ ∃ (d : Addr) (fs : List (Str × V)), H2 a = some (exo a C (some d)) ∧ H2 d = some (exd d fs) ∧ H1 d = none ∧ Q (.ref C) (some d) (upd (del H2 a) d (.xd fs))) (fun _ _ _ => False)
theorem u_mko {C : Addr} {sp : Sp} {dvs : List V} {ta : TA} {σ : L2.St} {H : Hp} {Q : XK} (h : ta σ H (MKOk C sp dvs Q)) : tMkO C sp dvs ta σ H Q := h
theorem u_mkoF {C : Addr} {pre : List V → Prop} {g : List V → List (Str × V)} {dvs vs : List V} {H1 : Hp} {Q : XK} (hl : Nat.ble vs.length 900 = true) (hp : pre (vs ++ dvs)) (h : ∀ d, H1 d = none → Q (.ref C) (some d) (upd H1 d (.xd (g (vs ++ dvs))))) : MKOk C (spXf C pre g) dvs Q vs H1 := by
  refine ⟨by have := Nat.le_of_ble_eq_true hl; omega, fun a ha => ⟨a, vs ++ dvs, rfl, hp, upd_same, fun dx hd hne => ?_⟩⟩
  have hd1 : H1 dx = none := by rw [upd_ne hne] at hd; exact hd
  refine ⟨rfl, dx, g (vs ++ dvs), upd_same, by rw [upd_ne hne]; exact upd_same, hd1, ?_⟩
  have e : upd (del (upd (upd (upd H1 a (exo a C none)) dx (exd dx (g (vs ++ dvs)))) a (exo a C (some dx))) a) dx (.xd (g (vs ++ dvs))) = upd H1 dx (.xd (g (vs ++ dvs))) := by
    funext b
    by_cases h1 : b = dx
    · rw [h1, upd_same, upd_same]
    · rw [upd_ne h1, upd_ne h1]
      by_cases h2 : b = a
      · rw [h2, del_same, ha]
      · rw [del_ne h2, upd_ne h2, upd_ne h1, upd_ne h2]
  rw [e]
  exact h dx hd1
/-- an exception class, under its name, made with these defaults -/
structure RzF (P : Program) (w : World) (K : PySem.W.Frag) (mg : Str → Option Value) (base : Heap) (x : Str) (C : Addr) (pre : List V → Prop) (g : List V → List (Str × V)) (dvs : List V) : Prop where
  ex : ∃ (fI : Addr) (fd : FuncData) (ps : List Str) (ds : List Value), OexC K C ∧ PySem.W.findIn K (.ref C) "__init__" = some (some (.ref fI)) ∧ PySem.W.typeIn K (.ref fI) = some (.type "function") ∧ FnOk P w K mg base C8.CX0 1 fI fd ps (spXf C pre g) ∧ Binds K fd ps ds ∧ Vals dvs ds ∧ mg x = some (.ref C)
/-- the same without arguments: the defaults alone -/
theorem pmk_oexN0 {X : Cx} {CX : CXT} {x : Str} {p pos : Pos} {C fI : Addr} {k : Nat} {fd : FuncData} {ps : List Str} {sp : Sp} {ds : List Value} {dvs : List V} (T : OexC X.K C) (iC : PySem.W.findIn X.K (.ref C) "__init__" = some (some (.ref fI))) (tI : PySem.W.typeIn X.K (.ref fI) = some (.type "function"))
    (F1 : FnOk X.prog X.w X.K X.mg X.base CX k fI fd ps sp) (hr : Room (k + 1) X.A) (hb : Binds X.K fd ps ds) (hd : Vals dvs ds) (hx : Passes CX X (fun _ _ _ => False)) (hg : Gl X x) (hm : X.mg x = some (.ref C))
    (hdb : (x == ("__debug__" : Str)) = false := by decide) : L2N.PMk X (.Call (.Name x p) [] [] pos) (tMkO C sp dvs tNil) := by
  intro pins s σ H Q I h
  obtain ⟨nm, q, N, bs, bm, sn, sub, ab, col, dd, k0, k1, k2, k3, k5, hC, hbm⟩ := T.cls
  refine wpAny_Call_Name_kw (ld_glob I hg hm ?_ hdb)
  refine PySem.W.callWith_K0 I.kIn T.kC ?_
  obtain ⟨hz, q1⟩ := h
  show wpAny _ _ (call (.ref C) []) _ _ _
  obtain ⟨hp, g, dr, tk, os⟩ := s
  have hsz : hp.objs.size ≤ hp.objs.size + 1 := Nat.le_succ _
  have hn : H (hp.objs.size + 1) = none := I.hok.fresh hsz
  have hq := q1 (hp.objs.size + 1) hn
  have kk : ∀ b o, hp.get? b = some o → ((hp.push (PySem.W.kdv_tup [])).push (PySem.HandSPX.excO C hp.objs.size)).get? b = some o := fun b o e => Heap.get?_push_of_some _ (Heap.get?_push_of_some _ e)
  have hget : ((hp.push (PySem.W.kdv_tup [])).push (PySem.HandSPX.excO C hp.objs.size)).get? (hp.objs.size + 1) = some (PySem.HandSPX.excO C hp.objs.size) := by heap_get
  have I2 : Inv X pins σ (upd H (hp.objs.size + 1) (exo (hp.objs.size + 1) C none)) ⟨(hp.push (PySem.W.kdv_tup [])).push (PySem.HandSPX.excO C hp.objs.size), g, dr, tk, os⟩ :=
    I.laid (t' := tk) (a := hp.objs.size + 1) (o := exo (hp.objs.size + 1) C none) (h' := (hp.push (PySem.W.kdv_tup [])).push (PySem.HandSPX.excO C hp.objs.size)) kk hsz (exo_ok hget)
  have r2 : Vals (V.ref (hp.objs.size + 1) :: dvs) (Value.ref (hp.objs.size + 1) :: ds) := .cons rfl hd
  have hl : (Value.ref (hp.objs.size + 1) :: ds).length = ps.length := by
    exact r2.length.symm.trans (F1.len _ _ _ _ hq)
  refine wpAny_call (PySem.HandSPX.call_own F.excBase_ValueError (fun Y => PySem.HandSPX.refsVE_contains Y bm hbm) (I.kIn _ _ hC) (PySem.W.looks_findIn I.kIn iC) (fun self => PySem.W.bind_fn I.kIn self tI) (by rw [sizeLine_eq]; simp)
    (codeAny_mono (F1.run _ X.stack _ _ ⟨Value.ref (hp.objs.size + 1) :: [], []⟩ (Value.ref (hp.objs.size + 1) :: ds) (V.ref (hp.objs.size + 1) :: dvs) _ (fun _ _ _ => False) (hr.make C [] []) (I2.env0.make C [] []) (hb _ (Value.ref (hp.objs.size + 1) :: []) I2.kIn hl) r2 hq) fun r s' hq' => ?_))
  cases r with
  | error er => exact hx pins σ _ _ er s' I2 hq'
  | ok fl =>
    cases fl with
    | ret u =>
      obtain ⟨v, H2, os2, bare2, un2, hok2, rv, ev, d, fs, ea, ed, hd1, q2⟩ := hq'
      subst ev
      obtain ⟨h2, g2, d2, t2, os'⟩ := s'
      obtain ⟨t0, G, J, kG, ge, hoe, na⟩ := mk_end0 (d2 := d2) (t2 := t2) I hsz kk un2 hok2 os2 bare2 ea ed hd1
      refine ⟨rv, hp.objs.size + 1, _, _, ⟨G, g2, d2, t2, os'⟩, _, .ref C, some d, rfl, J, kG, ge, hoe, ⟨rfl, rfl, fun vs hv => ?_⟩, rfl, rfl, na, rfl, bare2, raises_own T.exC T.tyC, q2⟩
      cases hv
      rfl
    | next => exact False.elim hq'
    | brk => exact False.elim hq'
    | cont => exact False.elim hq'
section
variable {X : Cx} {W : WX} {x : Str} {C : Addr} {pre : List V → Prop} {g : List V → List (Str × V)} {dvs : List V} {j : Nat} {e : Expr} {es : List Expr} {ta : TA} {p pos pos2 : Pos}
theorem ps_raiseFN (Z : RzF X.prog X.w X.K X.mg X.base x C pre g dvs) (hr : Room j X.A) (hj : 2 ≤ j) (tk : L2N.Takes X W) (hg : Gl X x) (ha : PA X (e :: es) ta) (hc : X.calm = true := by rfl)
    (hdb : (x == ("__debug__" : Str)) = false := by decide) (he : starEach (e :: es) X.env = (false, eval e X.env) :: starEach es X.env := by rfl) (hpl : (backTo pos (starEach es X.env)).any (·.1) = false := by rfl) :
    PS X (.Raise (some (.Call (.Name x p) (e :: es) [] pos)) none pos2) (fun _ σ H => tMkO C (spXf C pre g) dvs ta σ H fun cls d H' => W cls d σ H') := by
  obtain ⟨fI, fd, ps, ds, o, iC, tI, F, b, d, hm⟩ := Z.ex
  exact L2N.ps_raise hc tk (pmk_oexN o iC tI F (hr.mono (by omega)) b d C8.pass0 hg hm ha hdb he hpl)
theorem ps_raiseF0N (Z : RzF X.prog X.w X.K X.mg X.base x C pre g dvs) (hr : Room j X.A) (hj : 2 ≤ j) (tk : L2N.Takes X W) (hg : Gl X x) (hc : X.calm = true := by rfl) (hdb : (x == ("__debug__" : Str)) = false := by decide) :
    PS X (.Raise (some (.Call (.Name x p) [] [] pos)) none pos2) (fun _ σ H => tMkO C (spXf C pre g) dvs tNil σ H fun cls d H' => W cls d σ H') := by
  obtain ⟨fI, fd, ps, ds, o, iC, tI, F, b, d, hm⟩ := Z.ex
  exact L2N.ps_raise hc tk (pmk_oexN0 o iC tI F (hr.mono (by omega)) b d C8.pass0 hg hm hdb)
end
/-- a class's own function, raising allowed, found on the class -/
theorem run_fnRS {X : Cx} {CX : CXT} {pins : List (Addr × Obj)} {σ : L2.St} {H : Hp} {s : Shared} : True := trivial
end Rp
/-! RpTry2: classmethods that may raise, also in a try's body; defs of the module that may raise. -/
namespace Rp
open PySem PySem.Spec PyProof.Rows L2 SX C8
/-- C.m(..), a classmethod, in a try's body -/
def tCMethS (C : Addr) (sp : Sp) (E : L2.St → XK) (ta : TE) (t : TA) : TE := fun σ H Q => ta σ H fun x H1 => x = .ref C ∧ t σ H1 fun vs H2 => sp (.ref C :: vs) H2 Q (E σ)
section
variable {X : Cx} {CX : CXT} {k j : Nat} {C p g : Addr} {mc : Value} {sp : Sp} {E : XK} {W : WX} {o e : Expr} {es : List Expr} {x m : Str} {pos apos q : Pos} {ta : TE} {t : TA} {pl : Sem Bool}
theorem pe_cmSN (he : PE X o ta) (r : ClX.CRead X.K C mc) (c : ClX.CMet X.K C mc m p g) (F : FnR X.prog X.w X.K X.mg X.base (L2N.CX X.prog X.w) k g sp) (hr : Room k X.A) (tk : L2N.Takes X W) (ha : PA X (e :: es) t)
    (hst : starEach (e :: es) X.env = (false, eval e X.env) :: starEach es X.env := by rfl) (hpl : (backTo pos (starEach es X.env)).any (·.1) = false := by rfl)
    (ht : eval (.Call (.Attribute o m apos) (e :: es) [] pos) X.env = (do
      let ov ← eval o X.env
      standAt apos.atName
      let (f, first) ← holding [ov] (getMethod ov m pl)
      callWith pos f first (backTo pos (starEach (e :: es) X.env)) (backToKw pos (keywordEach [] X.env))) := by rfl) : PE X (.Call (.Attribute o m apos) (e :: es) [] pos) (tCMethS C sp (WE W) ta t) := by
  refine ⟨fun pins s σ H Q I h => ?_⟩
  refine PySem.W.methodCall_KW (pl := pl) (thn (he.run pins s σ H _ I h) fun u s1 ⟨x, H1, I1, rx, ex, q⟩ => ?_) ht
  subst ex
  obtain rfl : u = Value.ref C := rx
  refine ClX.getmethcm_ok I1 r c fun s2 I2 => ?_
  refine ClX.callwith_cm I2 (ClX.base_none I1 (Nat.le_refl _)) c.fi (thn (ha.run pos _ s2 σ H1 _ I2 q) fun us s3 ⟨vs, H2, I3, rv, q2⟩ => ⟨⟨ClX.pin_at I3, I3.kIn⟩, ?_⟩) hst hpl
  have z := wpAny_call (PySem.W.method_call (ClX.pin_at I3) (codeAny_mono (F X.A X.stack s3 H2 (.ref C :: us) (.ref C :: vs) Q (WE W σ) hr I3.env0 (.cons rfl rv) q2) fun r s' hq => by
    cases r with
    | error e => exact L2N.passAt tk σ _ _ _ e s' I3 hq
    | ok fl =>
      cases fl with
      | ret u => exact I3.after hq
      | next => exact hq.elim
      | brk => exact hq.elim
      | cont => exact hq.elim))
  exact thn z fun _ _ y => ClX.unpinE y
/-- a def of the module that may raise -/
structure CalN (P : Program) (w : World) (K : PySem.W.Frag) (mg : Str → Option Value) (base : Heap) (k : Nat) (x : Str) (sp : Sp) (dvs : List V) : Prop where
  ex : ∃ (f : Addr) (fd : FuncData) (ps : List Str) (ds : List Value), FnOk P w K mg base (L2N.CX P w) k f fd ps sp ∧ mg x = some (.ref f) ∧ PySem.W.keepIn K (.ref f) = true ∧ Binds K fd ps ds ∧ Vals dvs ds
theorem pe_cN {dvs : List V} (c : CalN X.prog X.w X.K X.mg X.base k x sp dvs) (hr : Room j X.A) (hk : k ≤ j) (hx : Passes (L2N.CX X.prog X.w) X E) (hg : Gl X x) (ha : PA X (e :: es) t)
    (hdb : (x == ("__debug__" : Str)) = false := by decide) (he : starEach (e :: es) X.env = (false, eval e X.env) :: starEach es X.env := by rfl) (hpl : (backTo pos (starEach es X.env)).any (·.1) = false := by rfl) : PE X (.Call (.Name x q) (e :: es) [] pos) (tCall sp dvs E t) := by
  obtain ⟨f, fd, ps, ds, F, hm, kp, b, d⟩ := c.ex
  exact pe_call F (hr.mono hk) hg hm kp b d hx ha hdb he hpl
theorem pe_cSN {dvs : List V} (c : CalN X.prog X.w X.K X.mg X.base k x sp dvs) (hr : Room j X.A) (hk : k ≤ j) (tk : L2N.Takes X W) (hg : Gl X x) (ha : PA X (e :: es) t)
    (hdb : (x == ("__debug__" : Str)) = false := by decide) (he : starEach (e :: es) X.env = (false, eval e X.env) :: starEach es X.env := by rfl) (hpl : (backTo pos (starEach es X.env)).any (·.1) = false := by rfl) : PE X (.Call (.Name x q) (e :: es) [] pos) (tCallSD sp dvs (WE W) t) := by
  obtain ⟨f, fd, ps, ds, F, hm, kp, b, d⟩ := c.ex
  exact pe_callSD F (hr.mono hk) hg hm kp b d (fun σ => L2N.passAt tk σ) ha hdb he hpl
end
section
variable {K : PySem.W.Frag} {C : Addr} {H : Hp} {Q : VK} {E : XK} {σ : L2.St}
theorem u_cmethS {sp : Sp} {t : TA} {E : L2.St → XK} (h : t σ H fun vs H2 => sp (.ref C :: vs) H2 Q (E σ)) : tCMethS C sp E (tC (.ref C)) t σ H Q := ⟨rfl, h⟩
theorem u_callSD {sp : Sp} {dvs : List V} {t : TA} {E : L2.St → XK} (h : t σ H fun vs H2 => sp (vs ++ dvs) H2 Q (E σ)) : tCallSD sp dvs E t σ H Q := h
/-- Formula.read, with its two ends -/
def spReadX (K : PySem.W.Frag) (C CG : Addr) : Sp := fun vs H Q E => ∃ (a : List Nat), vs = [.ref C, .str (S a)] ∧ a.length ≤ 100000 ∧ (∀ (t : Fm) (x : Addr) (H' : Hp), parse a = some t → Fr [] H H' → FormAt K C H' t x → Q (.ref x) H') ∧
  (parse a = none → ∀ (d : Addr) (H' : Hp), Fr [] H H' → H' d = some (.xd [("line", .int 0)]) → E (.ref CG) (some d) H')
theorem u_readX {CG : Addr} {a : List Nat} (hl : a.length ≤ 100000) (h : ∀ (t : Fm) (x : Addr) (H' : Hp), parse a = some t → Fr [] H H' → Kp H H' → FormAt K C H' t x → Q (.ref x) H')
    (hx : parse a = none → ∀ (d : Addr) (H' : Hp), Fr [] H H' → Kp H H' → H' d = some (.xd [("line", .int 0)]) → E (.ref CG) (some d) H') : (fun vs H Q E => spReadX K C CG (vs ++ []) H Q E) [.ref C, .str (S a)] H Q E :=
  ⟨a, rfl, hl, fun t x H' hp f => h t x H' hp f (.of_same f.same), fun hp d H' f => hx hp d H' f (.of_same f.same)⟩
/-- the promise of an exception's __init__ of one field -/
def one1 : List V → Prop := fun ws => ∃ v, ws = [v]
def gOne (f : Str) : List V → List (Str × V) := fun ws => [(f, ws.headD .non)]
end
end Rp
/-! RpStr: walks over a text; what a formula's text tells, in plain Lean. -/
namespace Rp
open PySem PySem.Spec PyProof.Rows L2 SX C8
section
variable {g : TG} {tb : TS} {tt : TT} {te : TE} {σ : L2.St} {H : Hp} {n b c : L2.St → Hp → Prop} {r : VK} {Q : VK} {vs : List Nat} {a : List Nat}
def ISTk (R : It → Hp → Prop) : V → Hp → Prop := fun v H1 => ∃ x, v = .str x ∧ R (Its x) H1
theorem u_istr {R : It → Hp → Prop} (h : te σ H (ISTk R)) : iStr te σ H R := h
theorem u_istrK {R : It → Hp → Prop} (h : R (Its (S a)) H) : ISTk R (.str (S a)) H := ⟨S a, rfl, h⟩
theorem its_yld {i : Nat} {H H' : Hp} {x : V} (y : (Its (S a)).yld i H x H') : H' = H ∧ ∃ d, a[i]? = some d ∧ x = .str (S [d]) := by
  obtain ⟨e, d, hd, rfl⟩ := y
  exact ⟨e, d, by simpa [S] using hd, rfl⟩
theorem its_go {i : Nat} {H : Hp} (h : i < a.length) : (Its (S a)).go i H := by
  show i < (S a).cps.size
  simpa [S] using h
theorem its_stop {H : Hp} : (Its (S a)).stop a.length H := by
  show (S a).cps.size ≤ a.length
  simp [S]
theorem forStr (Pv : Nat → L2.St → Hp → Prop) (h0 : Pv 0 σ H)
    (hs : ∀ i d σ H1, a[i]? = some d → Pv i σ H1 → g (.str (S [d])) σ H1 fun σ2 H2 => tb ⟨Pv (i + 1), r, n, Pv (i + 1)⟩ σ2 H2)
    (hd : ∀ σ H1, Pv a.length σ H1 → n σ H1) : FORk g tb ⟨n, r, b, c⟩ σ (Its (S a)) H :=
  forN (Its (S a)) a.length (fun i x => ∃ d, a[i]? = some d ∧ x = .str (S [d])) Pv (fun i σ H1 hi p => ⟨its_go hi, fun x H' y => its_yld y⟩) (fun σ H1 p => its_stop) h0
    (fun i x σ H1 hi hx p => by obtain ⟨d, e, rfl⟩ := hx; exact hs i d σ H1 e p) hd
theorem lcStr (σ' : L2.St) (e : wipe σ vs = σ') (Pv : Nat → List V → Hp → Prop)
    (h0 : ∀ D H1, H D = none → Fr [] H H1 → Kp H H1 → H1 D = some (.lst []) → Pv 0 [] H1)
    (hs : ∀ D i d acc H1, H D = none → a[i]? = some d → H1 D = some (.lst acc) → Pv i acc H1 → Trn g tt te vs σ' D (Pv (i + 1)) (.str (S [d])) H1)
    (hd : ∀ D acc H1, H D = none → H1 D = some (.lst acc) → Pv a.length acc H1 → Q (.ref D) H1) : LCk g tt te vs σ Q (Its (S a)) H :=
  lcN (Its (S a)) a.length (fun i x => ∃ d, a[i]? = some d ∧ x = .str (S [d])) σ' e Pv (fun i H1 D acc hi _ _ p => ⟨its_go hi, fun x H' y => its_yld y⟩)
    (fun H1 D acc _ _ p => its_stop) h0 (fun D i x acc H1 hD hi hx hacc p => by obtain ⟨d, e, rfl⟩ := hx; exact hs D i d acc H1 hD e hacc p) hd
end
/-! ### what is read back -/
def frText (f : List Nat × List Fm) : List Nat := f.1 ++ 40 :: (f.2.map fun p => p.text ++ [44, 32]).flatten
def stText (s : PSt) : List Nat := (s.1.reverse.map frText).flatten ++ (s.2.map Fm.text).getD []
structure StOk (s : PSt) : Prop where
  fr : ∀ f ∈ s.1, NameOk f.1 ∧ f.2.length ≤ 1 ∧ ∀ p ∈ f.2, p.Ok
  dn : ∀ d, s.2 = some d → d.Ok
theorem last_open {n : List Nat} : (n ++ [40]).getLast? = some 40 := by simp
theorem pstep_text {s s' : PSt} {w : List Nat} (hw : WordOk w) (ok : StOk s) (h : pstep s w = some s') : StOk s' ∧ stText s' = stText s ++ w := by
  obtain ⟨fr, dn⟩ := s
  cases dn with
  | none =>
    rw [pstep_none] at h
    by_cases h1 : w.getLast? = some 40
    · rw [if_pos h1] at h
      cases h
      obtain ⟨n, hn, rfl⟩ : ∃ n, NameOk n ∧ w = n ++ [40] := by
        rcases hw with ⟨c, rfl, hc⟩ | rfl | hx
        · have : c = 40 := by simpa using h1
          subst this
          exact absurd hc (by decide)
        · exact absurd h1 (by decide)
        · exact hx
      refine ⟨⟨fun f hf => ?_, fun d z => nomatch z⟩, ?_⟩
      · rcases List.mem_cons.mp hf with e | e
        · rw [e]; exact ⟨by simpa using hn, by simp, by simp⟩
        · exact ok.fr f e
      · simp [stText, frText]
    · rw [if_neg h1] at h
      split at h
      · rename_i h2
        cases h
        obtain ⟨c, rfl⟩ := List.length_eq_one_iff.mp h2.1
        have hc : c ∈ cLOW ++ cDIG := by simpa using h2.2
        refine ⟨⟨ok.fr, fun d z => ?_⟩, by simp [stText, Fm.text]⟩
        cases z
        rcases List.mem_append.mp hc with q | q
        · exact ⟨c, rfl, .inl (mem_low.mp q)⟩
        · exact ⟨c, rfl, .inr (mem_dig.mp q)⟩
      · cases h
  | some d =>
    cases fr with
    | nil => cases h
    | cons f fr =>
      obtain ⟨n, ps⟩ := f
      have hst : pstep ((n, ps) :: fr, some d) w = (if w = [41] then some (fr, some (Fm.mk n (ps ++ [d]))) else if w ≠ [44, 32] ∨ (ps ++ [d]).length = 2 then none else some ((n, ps ++ [d]) :: fr, none)) := rfl
      rw [hst] at h
      obtain ⟨o1, o2, o3⟩ := ok.fr (n, ps) (by simp)
      have od := ok.dn d rfl
      have o2 : ps.length ≤ 1 := o2
      by_cases h1 : w = [41]
      · rw [if_pos h1] at h
        cases h
        subst h1
        refine ⟨⟨fun f hf => ok.fr f (by simp [hf]), fun d' z => ?_⟩, ?_⟩
        · cases z
          exact Fm.mk_ok o1 (by simp) (by simp; omega) fun p hp => by
            rcases List.mem_append.mp hp with q | q
            · exact o3 p q
            · rw [List.mem_singleton.mp q]; exact od
        · match ps, o2 with
          | [], _ => simp [stText, frText, Fm.mk, Fm.text]
          | [p], _ => simp [stText, frText, Fm.mk, Fm.text]
      · rw [if_neg h1] at h
        split at h
        · cases h
        · rename_i h2
          cases h
          have h3 : w = [44, 32] := Classical.byContradiction fun q => h2 (.inl q)
          have h4 : ps = [] := by
            cases ps with
            | nil => rfl
            | cons p r => exact absurd (.inr (by simp at o2 ⊢; exact o2)) h2
          subst h3 h4
          refine ⟨⟨fun f hf => ?_, fun d z => nomatch z⟩, by simp [stText, frText]⟩
          rcases List.mem_cons.mp hf with e | e
          · rw [e]; exact ⟨o1, by simp, fun p hp => by
            have hp2 : p = d := by simpa using hp
            rw [hp2]; exact od⟩
          · exact ok.fr f (by simp [e])
theorem prun_text : ∀ {ws : List (List Nat)} {s s' : PSt}, (∀ w ∈ ws, WordOk w) → StOk s → prun s ws = some s' → StOk s' ∧ stText s' = stText s ++ ws.flatten
  | [], s, s', _, ok, h => by cases h; exact ⟨ok, by simp⟩
  | w :: ws, s, s', hw, ok, h => by
    have h2 : (pstep s w).bind (fun z => prun z ws) = some s' := h
    cases e : pstep s w with
    | none => rw [e] at h2; cases h2
    | some z =>
      rw [e] at h2
      obtain ⟨k1, k2⟩ := pstep_text (hw w (by simp)) ok e
      obtain ⟨k3, k4⟩ := prun_text (fun u hu => hw u (by simp [hu])) k1 h2
      exact ⟨k3, by rw [k4, k2]; simp⟩
theorem stOk0 : StOk ([], none) := ⟨fun f hf => absurd hf (by simp), fun d z => absurd z (by simp)⟩
/-- what parses is a written form -/
theorem parse_back {a : List Nat} {t : Fm} (h : parse a = some t) : t.Ok ∧ t.text = a := by
  unfold parse at h
  cases e : lex a with
  | none => rw [e] at h; cases h
  | some ws =>
    rw [e, Option.getD_some] at h
    obtain ⟨h1, h2⟩ := lex_words e
    unfold parseW at h
    split at h
    · rename_i d hd
      cases h
      obtain ⟨k1, k2⟩ := prun_text h2 stOk0 hd
      exact ⟨k1.dn t rfl, by rw [← h1]; simpa [stText] using k2⟩
    · cases h
/-! ### reading a text from the left, word by word -/
structure WrInv (a : List Nat) (at_ : Nat) (s : PSt) : Prop where
  le : at_ ≤ a.length
  ex : ∃ ws, lex a = (lex (a.drop at_)).map (ws ++ ·) ∧ prun ([], none) ws = some s
def wstep (s : PSt) (r : List Nat) : Option (Nat × PSt) := (lexOne r).bind fun n => (pstep s (r.take n)).map fun z => (n, z)
theorem WrInv.start (a : List Nat) : WrInv a 0 ([], none) := ⟨Nat.zero_le _, [], by simp, rfl⟩
theorem WrInv.step {a : List Nat} {i n : Nat} {s z : PSt} (h : WrInv a i s) (hw : wstep s (a.drop i) = some (n, z)) : WrInv a (i + n) z ∧ 0 < n := by
  obtain ⟨hle, ws, e1, e2⟩ := h
  unfold wstep at hw
  cases q : lexOne (a.drop i) with
  | none => rw [q] at hw; cases hw
  | some m =>
    rw [q, Option.bind_some] at hw
    cases q2 : pstep s ((a.drop i).take m) with
    | none => rw [q2] at hw; cases hw
    | some y =>
      rw [q2] at hw
      cases hw
      obtain ⟨p1, p2⟩ := lexOne_pos q
      rw [List.length_drop] at p2
      refine ⟨⟨by omega, ws ++ [(a.drop i).take n], ?_, ?_⟩, p1⟩
      · rw [e1, lex_step (fun z => by rw [z] at q; cases q), q, Option.bind_some, List.drop_drop]
        cases lex (a.drop (i + n)) <;> simp
      · rw [prun_app, e2]
        show (pstep s _).bind _ = _
        rw [q2]; rfl
theorem parse_of {a : List Nat} {ws : List (List Nat)} (h : lex a = some ws) (hp : prun ([], none) ws = none) : parse a = none := by
  unfold parse parseW
  rw [h, Option.getD_some, hp]
theorem WrInv.fail {a : List Nat} {i : Nat} {s : PSt} (h : WrInv a i s) (hi : i < a.length) (hw : wstep s (a.drop i) = none) : parse a = none := by
  obtain ⟨hle, ws, e1, e2⟩ := h
  have hne : a.drop i ≠ [] := fun z => by have := congrArg List.length z; simp at this; omega
  have bad : lex a = none → parse a = none := fun e => by unfold parse; rw [e]; rfl
  unfold wstep at hw
  rw [lex_step hne] at e1
  cases q : lexOne (a.drop i) with
  | none => rw [q] at e1; exact bad e1
  | some m =>
    rw [q, Option.bind_some] at hw e1
    cases q2 : pstep s ((a.drop i).take m) with
    | some y => rw [q2] at hw; cases hw
    | none =>
      cases q3 : lex ((a.drop i).drop m) with
      | none => rw [q3] at e1; exact bad e1
      | some vs =>
        rw [q3] at e1
        refine parse_of (ws := ws ++ (a.drop i).take m :: vs) e1 ?_
        rw [prun_app, e2]
        show (pstep s _).bind _ = none
        rw [q2]; rfl
def stDone : PSt → Option Fm
  | ([], some d) => some d
  | _ => none
theorem WrInv.done {a : List Nat} {s : PSt} (h : WrInv a a.length s) : parse a = stDone s := by
  obtain ⟨hle, ws, e1, e2⟩ := h
  rw [List.drop_length, lex_nil] at e1
  unfold parse parseW
  rw [e1]
  simp only [Option.map_some, List.append_nil, Option.getD_some, e2]
  obtain ⟨fr, dn⟩ := s
  cases fr <;> cases dn <;> rfl
/-! the steps, by what stands there -/
theorem wstep_open {fr : List (List Nat × List Fm)} {r : List Nat} (h0 : 0 < capN r) (h6 : capN r ≤ 6) (h : r[capN r]? = some 40) : wstep (fr, none) r = some (capN r + 1, ((r.take (capN r), []) :: fr, none)) := by
  have e1 : lexOne r = some (capN r + 1) := by
    cases r with
    | nil => simp [capN] at h0
    | cons c r' =>
      have hc : isCap c := Classical.byContradiction fun q => by unfold capN at h0; rw [if_neg q] at h0; omega
      rw [lexOne_cons, if_pos hc, if_neg (by rintro (q | q); omega; exact q h)]
  have e2 : r.take (capN r + 1) = r.take (capN r) ++ [40] := by rw [List.take_add_one, h]; rfl
  unfold wstep
  rw [e1, Option.bind_some, e2, pstep_none, if_pos last_open]
  simp
theorem wstep_leaf {fr : List (List Nat × List Fm)} {c : Nat} {r : List Nat} (h : c ∈ cDIG ++ cLOW) : wstep (fr, none) (c :: r) = some (1, (fr, some (.leaf [c]))) := by
  have hc : isLow c ∨ isDig c := (List.mem_append.mp h).elim (fun z => .inr (mem_dig.mp z)) fun z => .inl (mem_low.mp z)
  have hm : c ∈ cLOW ++ cDIG := by rw [List.mem_append] at h ⊢; exact h.symm
  have hne : c ≠ 40 := fun z => by subst z; exact absurd h (by decide)
  unfold wstep
  rw [lexOne_leaf hc, Option.bind_some]
  show (pstep (fr, none) [c]).map _ = _
  rw [pstep_none, if_neg (by simpa using hne), if_pos ⟨rfl, by simpa using hm⟩]; rfl
theorem wstep_close {n : List Nat} {ps : List Fm} {fr : List (List Nat × List Fm)} {d : Fm} {r : List Nat} : wstep ((n, ps) :: fr, some d) (41 :: r) = some (1, (fr, some (Fm.mk n (ps ++ [d])))) := by
  unfold wstep
  rw [lexOne_close, Option.bind_some]
  rfl
theorem wstep_comma {n : List Nat} {fr : List (List Nat × List Fm)} {d : Fm} {r : List Nat} : wstep ((n, []) :: fr, some d) (44 :: 32 :: r) = some (2, ((n, [d]) :: fr, none)) := by
  unfold wstep
  rw [lexOne_comma, Option.bind_some]
  rfl
theorem wstep_none {fr : List (List Nat × List Fm)} {c : Nat} {r : List Nat} (h1 : ¬ (0 < capN (c :: r) ∧ capN (c :: r) ≤ 6 ∧ (c :: r)[capN (c :: r)]? = some 40)) (h2 : c ∉ cDIG ++ cLOW) : wstep (fr, none) (c :: r) = none := by
  unfold wstep
  rw [lexOne_cons]
  by_cases hc : isCap c
  · have hp : 0 < capN (c :: r) := by unfold capN; rw [if_pos hc]; omega
    rw [if_pos hc, if_pos]
    · rfl
    · by_cases q : capN (c :: r) > 6
      · exact .inl q
      · exact .inr fun z => h1 ⟨hp, by omega, z⟩
  · rw [if_neg hc]
    split
    · rename_i q
      rw [Option.bind_some, q, pstep_none, if_neg (by decide), if_neg (by decide)]; rfl
    · split
      · rename_i q
        have hc41 : c = 41 := by
          simp only [List.mem_append] at q h2
          rcases q with (q | q) | q
          · exact absurd (.inr q) h2
          · exact absurd (.inl q) h2
          · exact List.mem_singleton.mp q
        subst hc41
        rw [Option.bind_some]
        show (pstep (fr, none) [41]).map _ = _
        rw [pstep_none, if_neg (by decide), if_neg (by decide)]; rfl
      · rfl
theorem wstep_some_nil {d : Fm} {r : List Nat} : wstep ([], some d) r = none := by
  unfold wstep
  cases lexOne r with
  | none => rfl
  | some n => rfl
theorem wstep_some {n : List Nat} {ps : List Fm} {fr : List (List Nat × List Fm)} {d : Fm} {c : Nat} {r : List Nat} (h1 : c ≠ 41) (h2 : ¬ (ps = [] ∧ (c :: r).take 2 = [44, 32])) (h3 : ps.length ≤ 1) : wstep ((n, ps) :: fr, some d) (c :: r) = none := by
  unfold wstep
  cases q : lexOne (c :: r) with
  | none => rfl
  | some m =>
    rw [Option.bind_some]
    have hst : pstep ((n, ps) :: fr, some d) ((c :: r).take m) = (if (c :: r).take m = [41] then some (fr, some (Fm.mk n (ps ++ [d]))) else if (c :: r).take m ≠ [44, 32] ∨ (ps ++ [d]).length = 2 then none else some ((n, ps ++ [d]) :: fr, none)) := rfl
    have hp := (lexOne_pos q).1
    obtain ⟨k, rfl⟩ : ∃ k, m = k + 1 := ⟨m - 1, by omega⟩
    rw [hst, if_neg (by rw [List.take_succ_cons]; intro z; exact h1 (List.cons.inj z).1), if_pos]
    · rfl
    · by_cases z : (c :: r).take (k + 1) = [44, 32]
      · refine .inr ?_
        cases ps with
        | nil =>
          refine absurd ⟨rfl, ?_⟩ h2
          have hk : k = 1 ∨ k ≠ 1 := by omega
          rcases hk with rfl | hk
          · exact z
          · have hl := congrArg List.length z
            rw [List.length_take] at hl
            have hl2 := congrArg (List.take 2) z
            rw [List.take_take] at hl2
            rw [show min 2 (k + 1) = 2 from by simp at hl; omega] at hl2
            exact hl2
        | cons p ps' => simp at h3 ⊢; exact h3
      · exact .inl z
/-! ### capitals at the front -/
theorem capN_lt : ∀ {r : List Nat} {j : Nat}, j < capN r → ∃ d, r[j]? = some d ∧ isCap d
  | [], j, h => by simp [capN] at h
  | c :: r, j, h => by
    unfold capN at h
    by_cases hc : isCap c
    · rw [if_pos hc] at h
      cases j with
      | zero => exact ⟨c, rfl, hc⟩
      | succ j => simpa using capN_lt (r := r) (j := j) (by omega)
    · rw [if_neg hc] at h; omega
theorem capN_at : ∀ {r : List Nat} {d : Nat}, r[capN r]? = some d → ¬ isCap d
  | [], d, h => by simp at h
  | c :: r, d, h => by
    by_cases hc : isCap c
    · have e : capN (c :: r) = capN r + 1 := by rw [show capN (c :: r) = if isCap c then capN r + 1 else 0 from rfl, if_pos hc]
      rw [e] at h
      exact capN_at (r := r) (by simpa using h)
    · have e : capN (c :: r) = 0 := by rw [show capN (c :: r) = if isCap c then capN r + 1 else 0 from rfl, if_neg hc]
      rw [e] at h
      have : c = d := by simpa using h
      subst this; exact hc
theorem capN_more {r : List Nat} {i d : Nat} (h : i ≤ capN r) (hd : r[i]? = some d) (hc : isCap d) : i + 1 ≤ capN r := by
  rcases Nat.lt_or_eq_of_le h with q | q
  · exact q
  · subst q; exact absurd hc (capN_at hd)
theorem capN_stop {r : List Nat} {i d : Nat} (h : i ≤ capN r) (hd : r[i]? = some d) (hc : ¬ isCap d) : capN r = i := by
  rcases Nat.lt_or_eq_of_le h with q | q
  · obtain ⟨d', h1, h2⟩ := capN_lt q
    rw [hd] at h1
    cases h1
    exact absurd h2 hc
  · exact q.symm
def cnts (fr : List (List Nat × List Fm)) : List Int := (fr.map fun f => (f.2.length : Int) + 1).reverse
def spWritten : Sp := fun vs H Q _ => ∃ (a : List Nat), vs = [.str (S a)] ∧ a.length ≤ 100000 ∧ ∀ H', Fr [] H H' → Q (.bl (parse a).isSome) H'
theorem u_written {H : Hp} {Q : VK} {E : XK} {a : List Nat} (h1 : a.length ≤ 100000) (h : ∀ H', Fr [] H H' → Kp H H' → Q (.bl (parse a).isSome) H') : spWritten ([.str (S a)] ++ []) H Q E := ⟨a, rfl, h1, fun H' f => h H' f (.of_same f.same)⟩
def spChar : Sp := fun vs H Q _ => ∃ (p l : Addr), vs = [.ref p] ∧ PoolAt H p l ∧ ∀ (c : Nat) (H' : Hp), PoolAt H' p l → Fr [p] H H' → Q (.str (S [c])) H'
theorem u_char {H : Hp} {Q : VK} {E : XK} {p l : Addr} (h1 : PoolAt H p l) (h : ∀ (c : Nat) (H' : Hp), PoolAt H' p l → Fr [p] H H' → Kp H H' → Q (.str (S [c])) H') : spChar ([.ref p] ++ []) H Q E := ⟨p, l, rfl, h1, fun c H' a f => h c H' a f (h1.kp f)⟩
def spSpoilt : Sp := fun vs H Q _ => ∃ (p l : Addr) (a : List Nat), vs = [.ref p, .str (S a)] ∧ PoolAt H p l ∧ a.length ≤ 10000 ∧ ∀ (b : List Nat) (H' : Hp), b.length ≤ 3 * a.length + 30 → b.count 40 ≤ 3 * a.count 40 + 12 → PoolAt H' p l → Fr [p] H H' → Q (.str (S b)) H'
theorem u_spoilt {H : Hp} {Q : VK} {E : XK} {p l : Addr} {a : List Nat} (h1 : PoolAt H p l) (h2 : a.length ≤ 10000) (h : ∀ (b : List Nat) (H' : Hp), b.length ≤ 3 * a.length + 30 → b.count 40 ≤ 3 * a.count 40 + 12 → PoolAt H' p l → Fr [p] H H' → Kp H H' → Q (.str (S b)) H') : spSpoilt ([.ref p, .str (S a)] ++ []) H Q E := ⟨p, l, a, rfl, h1, h2, fun b H' x y a f => h b H' x y a f (h1.kp f)⟩
theorem cutL_len (a : List Nat) (lo hi : Option Int) : (cutL a lo hi).length ≤ a.length := by
  unfold cutL
  rw [List.length_take, List.length_drop]
  omega
theorem cutL_seven (a : List Nat) (e : Nat) : cutL a (some (e : Int)) (some ((e : Int) + 7)) = (a.drop e).take 7 := by
  rw [show ((e : Int) + 7) = ((e + 7 : Nat) : Int) by omega, cutL_nat, show e + 7 - e = 7 by omega]
theorem cutL_onez (a : List Nat) (e z : Nat) : cutL a (some ((e : Int) + (z : Int))) (some ((e : Int) + (z : Int) + 1)) = ((a.drop e)[z]?).toList := by
  rw [show ((e : Int) + (z : Int)) = ((e + z : Nat) : Int) by omega, cutL_one, List.getElem?_drop]
theorem toList_eq {o : Option Nat} {c : Nat} : (o.toList = [c]) ↔ o = some c := by cases o <;> simp
theorem ints_shapedL (is : List Int) : SeqAt.shaped (.list (is.map PyData.int)) = true := by
  have := ints_depth is
  simp [SeqAt.shaped, PyData.canLay0, ints_canLay is, PyData.depth]; omega
theorem ints_eqv_nil (is : List Int) : PyData.eqv (.list (is.map PyData.int)) (.list []) = decide (is = []) := by cases is <;> simp [PyData.eqv, PyData.eqvAll]
section
variable {K : PySem.W.Frag} {H : Hp} {Q : VK} {p q : Addr} {is : List Int}
theorem u_neNil (h1 : SqL K H p (is.map V.int)) (h2 : SqL K H q []) (h : Q (.bl (!decide (is = []))) H) : rNeD K (.ref p) (.ref q) H Q :=
  u_neD (.lst h1 (dp_ints is)) (.lst h2 .nil) (ints_shapedL is) (by decide +kernel) (by rw [ints_eqv_nil]; exact h)
theorem u_eqNil (h1 : SqL K H p (is.map V.int)) (h2 : SqL K H q []) (h : Q (.bl (decide (is = []))) H) : rEqD K (.ref p) (.ref q) H Q :=
  u_eqD (.lst h1 (dp_ints is)) (.lst h2 .nil) (ints_shapedL is) (by decide +kernel) (by rw [ints_eqv_nil]; exact h)
end
theorem cnts_cons (n : List Nat) (ps : List Fm) (fr : List (List Nat × List Fm)) : cnts ((n, ps) :: fr) = cnts fr ++ [(ps.length : Int) + 1] := by simp [cnts]
theorem cnts_len (fr : List (List Nat × List Fm)) : (cnts fr).length = fr.length := by simp [cnts]
theorem ixN_last {α : Type} (xs : List α) (y : α) : ixN (xs ++ [y]).length (-1) = some xs.length := by
  unfold ixN
  simp
  omega
theorem cutL_count (a : List Nat) (lo hi : Option Int) (c : Nat) : (cutL a lo hi).count c ≤ a.count c := by
  unfold cutL
  exact ((List.take_sublist _ _).trans (List.drop_sublist _ _)).count_le c
theorem Fm.depth_count : ∀ t : Fm, t.depth ≤ t.text.count 40
  | .leaf n => Nat.zero_le _
  | .one n a => by
    have := Fm.depth_count a
    simp [Fm.depth, Fm.text, List.count_cons]; omega
  | .two n a b => by
    have := Fm.depth_count a
    have := Fm.depth_count b
    simp [Fm.depth, Fm.text, List.count_cons]; omega
theorem NameOk.count {n : List Nat} (h : NameOk n) : n.count 40 = 0 := List.count_eq_zero.mpr fun hm => by have := h.caps 40 hm; unfold isCap at this; omega
theorem Fm.Ok.count_le : ∀ {t : Fm}, t.Ok → t.text.count 40 ≤ t.size
  | .leaf n, h => by
    obtain ⟨c, rfl, hc⟩ := h
    exact Nat.le_trans List.count_le_length (by simp [Fm.text, Fm.size])
  | .one n a, h => by
    have := h.1.count
    have := Fm.Ok.count_le h.2
    simp [Fm.text, Fm.size, List.count_cons]; omega
  | .two n a b, h => by
    have := h.1.count
    have := Fm.Ok.count_le h.2.1
    have := Fm.Ok.count_le h.2.2
    simp [Fm.text, Fm.size, List.count_cons]; omega
theorem Fm.Ok.size_le : ∀ {t : Fm}, t.Ok → t.size ≤ t.text.length
  | .leaf n, h => by obtain ⟨c, rfl, hc⟩ := h; simp [Fm.text, Fm.size]
  | .one n a, h => by
    have := Fm.Ok.size_le h.2
    simp [Fm.text, Fm.size]; omega
  | .two n a b, h => by
    have := Fm.Ok.size_le h.2.1
    have := Fm.Ok.size_le h.2.2
    simp [Fm.text, Fm.size]; omega
theorem Fm.data_ne_nil (t : Fm) : PyData.eqv t.data (.tuple []) = false := by cases t <;> simp [Fm.data, PyData.eqv, PyData.eqvAll]
theorem u_nem' {A B : Prop} {xs : List V} (hA : xs = [] → A) (hB : xs ≠ [] → B) : if (!!xs.isEmpty) = true then A else B := by
  cases xs with
  | nil => rw [if_pos (by simp)]; exact hA rfl
  | cons a r => rw [if_neg (by simp)]; exact hB (by simp)
end Rp
/-! RpSet: len(set(a list of texts)) of any length below 1000: how many different ones. -/
namespace Rp
open PySem PySem.Spec PyProof.Rows
def stepF (acc : List Str) (x : Str) : List Str := if acc.any (· == x) = true then acc else acc ++ [x]
def firsts (xs : List Str) : List Str := xs.foldl stepF []
theorem snoc_ind {α : Type} {P : List α → Prop} (h0 : P []) (h1 : ∀ l x, P l → P (l ++ [x])) (l : List α) : P l := by
  have h : ∀ r : List α, P r.reverse := fun r => by
    induction r with
    | nil => exact h0
    | cons a r ih => rw [List.reverse_cons]; exact h1 _ _ ih
  have h2 := h l.reverse
  rwa [List.reverse_reverse] at h2
theorem firsts_snoc (xs : List Str) (x : Str) : firsts (xs ++ [x]) = stepF (firsts xs) x := by simp [firsts, List.foldl_append]
theorem stepF_any (acc : List Str) (x k : Str) : (stepF acc x).any (· == k) = (acc.any (· == k) || decide (k = x)) := by
  unfold stepF
  by_cases h : acc.any (· == x) = true
  · rw [if_pos h]
    by_cases e : k = x
    · subst e; rw [h]; simp
    · simp [e]
  · rw [if_neg h, List.any_append]
    by_cases e : k = x
    · subst e; simp
    · have hb : (x == k) = false := beq_eq_false_iff_ne.mpr fun z => e z.symm
      simp [hb, e]
theorem firsts_any (xs : List Str) (k : Str) : (firsts xs).any (· == k) = xs.any (· == k) := by
  induction xs using snoc_ind with
  | h0 => rfl
  | h1 l x ih =>
    rw [firsts_snoc, stepF_any, ih, List.any_append]
    by_cases e : k = x
    · subst e; simp
    · have hb : (x == k) = false := beq_eq_false_iff_ne.mpr fun z => e z.symm
      simp [hb, e]
theorem firsts_le (xs : List Str) : (firsts xs).length ≤ xs.length := by
  induction xs using snoc_ind with
  | h0 => exact Nat.le_refl _
  | h1 l x ih =>
    rw [firsts_snoc]
    unfold stepF
    split
    · rw [List.length_append]; omega
    · rw [List.length_append, List.length_append]; simpa using ih
theorem firsts_nodup {xs : List Str} : (firsts xs).length = xs.length ↔ xs.Nodup := by
  induction xs using snoc_ind with
  | h0 => simp [firsts]
  | h1 l x ih =>
    have hl := firsts_le l
    have ha := firsts_any l x
    rw [firsts_snoc]
    unfold stepF
    by_cases h : (firsts l).any (· == x) = true
    · rw [if_pos h, List.length_append]
      rw [h] at ha
      constructor
      · intro e; simp at e; omega
      · intro e
        rw [List.nodup_append] at e
        obtain ⟨y, hy, q⟩ := List.any_eq_true.mp ha.symm
        exact absurd (beq_iff_eq.mp q) (e.2.2 y hy x (by simp))
    · rw [if_neg h, List.length_append, List.length_append]
      have hx : x ∉ l := fun hm => h (by rw [ha]; exact List.any_eq_true.mpr ⟨x, hm, by simp⟩)
      constructor
      · intro e
        have e2 : (firsts l).length = l.length := by simpa using e
        exact List.nodup_append.mpr ⟨ih.mp e2, by simp, fun y hy z hz q => hx (by simp at hz; rw [← hz, ← q]; exact hy)⟩
      · intro e
        rw [ih.mpr (List.nodup_append.mp e).1]
section
variable {prog : Program} {w : World} {A : Around} {R : Result → Shared → Prop} {I : Addr} {fp wr : List Addr} {G : Array GenState → Array GenState → Prop} {n : Nat} {P : Nat → Value → Prop} {St : Nat → Shared → Prop}
/-- the set's loop over an iterator of texts -/
theorem loopTexts (W : WalksS prog w A.in1 I fp wr G n P St) (Z : Addr) (hZ : Z ∉ fp) (xs : List Str) (hsz : xs.length = n) (hn1 : n ≤ 1000) (hval : ∀ i v, P i v → ∃ t, v = .str (xs.getD i Str.empty) t) :
    ∀ (k i : Nat) (s : Shared), n - i = k → i ≤ n → St i s → s.heap.SetOf (PySem.strKind prog w) Z (fun k' => (firsts (xs.take i)).any (· == k')) (firsts (xs.take i)).length →
      (∀ s', Moved (Z :: wr) G s s' → s'.heap.SetOf (PySem.strKind prog w) Z (fun k' => (firsts xs).any (· == k')) (firsts xs).length → R (.ok (.ret .none)) s') → codeAny (model prog w) A (.builtin "set.update.loop" ⟨[.ref Z, .ref I], []⟩) R s := by
  have notw : Z ∉ wr := fun h => hZ (W.sub _ h)
  have inl : ∀ b ∈ wr, b ∈ Z :: wr := fun b hb => List.mem_cons_of_mem _ hb
  intro k
  induction k with
  | zero =>
    intro i s hk hi hst hS hR
    obtain rfl : i = n := by omega
    refine codeAny_builtin PyProof.Rows.F.entry_set_update_loop ?_
    rw [Around.under_plainId PyProof.Rows.F.plain_set_update_loop _]
    refine wpAny_bind (m := pyNext (.ref I)) (W.done s _ _ hst fun s' hm => wpAny_pure (hR s' (hm.mono inl) ?_))
    obtain ⟨o, es, ep, t, ho, rest⟩ := hS
    have rest2 := rest
    rw [List.take_of_length_le (by omega)] at rest2
    exact ⟨o, es, ep, t, hm.heap Z _ notw ho, rest2⟩
  | succ k ih =>
    intro i s hk hi hst hS hR
    have hlt : i < n := by omega
    have hcount := firsts_le (xs.take i)
    rw [List.length_take] at hcount
    refine codeAny_builtin PyProof.Rows.F.entry_set_update_loop ?_
    rw [Around.under_plainId PyProof.Rows.F.plain_set_update_loop _]
    refine wpAny_bind (m := pyNext (.ref I)) (W.item i s _ _ hlt hst fun v s' hP hst' hm => ?_)
    obtain ⟨t, rfl⟩ := hval i v hP
    have hS1 : s'.heap.SetOf (PySem.strKind prog w) Z (fun k' => (firsts (xs.take i)).any (· == k')) (firsts (xs.take i)).length := by
      obtain ⟨o, es, ep, tb, ho, rest⟩ := hS
      exact ⟨o, es, ep, tb, hm.heap Z _ notw ho, rest⟩
    refine wpAny_bind (m := holding [Value.str (xs.getD i Str.empty) t] (setAdd Z (.str (xs.getD i Str.empty) t))) (wpAny_holding ?_)
    unfold setAdd
    refine wpAny_holding (wpAny_bind ((PySem.strKind prog w).pyHash (k := xs.getD i Str.empty) (strKind_is _ _ _ _) ?_))
    refine wpAny_setAddHashed_of (knd := PySem.strKind prog w) (s := { s' with toks := s'.toks + 1 }) (strKind_is _ _ _ _) rfl hS1 (by unfold scanBound; omega) fun h' hsb hS2 => ?_
    have hget : xs[i]? = some (xs.getD i Str.empty) := by rw [List.getD_eq_getElem?_getD, List.getElem?_eq_getElem (by omega)]; rfl
    have htk : xs.take (i + 1) = xs.take i ++ [xs.getD i Str.empty] := by rw [List.take_add_one, hget]; rfl
    have hS3 : h'.SetOf (PySem.strKind prog w) Z (fun k' => (firsts (xs.take (i + 1))).any (· == k')) (firsts (xs.take (i + 1))).length := by
      refine PyProof.Rows.SetOf_congr hS2 (fun k' => ?_) ?_
      · rw [htk, firsts_snoc, stepF_any]
      · rw [htk, firsts_snoc]
        unfold stepF
        by_cases q : (firsts (xs.take i)).any (· == xs.getD i Str.empty) = true
        · rw [if_pos q, if_pos q]
        · rw [if_neg q, if_neg q, List.length_append]; rfl
    refine wpAny_pure ⟨plainId_quiet PyProof.Rows.F.plain_set_update_loop _, ih (i + 1) _ (by omega) hlt (W.frame _ s' _ _ hst' (Nat.le_succ _) fun b hb o e => (hsb.2 b (fun z => hZ (z ▸ hb))).trans e) hS3 fun s3 m3 S3 => hR s3 (Moved.trans W.gtrans ((hm.mono inl).then_heap (Nat.le_succ _) fun b o hb e => (hsb.2 b fun z => hb (by rw [z]; exact List.mem_cons_self)).trans e) m3) S3⟩
end
section
variable {prog : Program} {w : World} {A : Around} {E : Value → Shared → Prop} {s : Shared}
/-- set(a list of texts) -/
theorem call_set_texts {l : Addr} {its : Array Value} {xs : List Str} {Q : Value → Shared → Prop} (hh : A.handled = none) (hl : s.heap.IsList l its) (hi : PyProof.Rows.StrsAre its.toList xs) (hn1 : xs.length ≤ 1000)
    (h : ∀ (h' : Heap) (tk : Nat), h'.SetOf (PySem.strKind prog w) s.heap.objs.size (fun k' => (firsts xs).any (· == k')) (firsts xs).length → (∀ b o, b < s.heap.objs.size → s.heap.get? b = some o → h'.get? b = some o) → Q (.ref s.heap.objs.size) { s with heap := h', toks := tk }) :
    wpAny (model prog w) A (call (.type "set") [.ref l]) Q E s := by
  obtain ⟨c0, tl0, hmro⟩ := PySem.F.called_set.mro
  have hmade := PySem.F.called_set.made
  have hsub := PySem.F.called_set.sub
  refine wpAny_call (codeAny_of_tree ?_)
  show wpAny _ _ (callAny (.type "set") _) _ _ _
  refine wpAny_pure ⟨Code.quiet_builtin _ (by decide +kernel), codeAny_builtin PySem.F.entry_type_call ?_⟩
  rw [Around.under_plain (weight_type_call_type "set" [.ref l] []) rfl]
  have h1 := PySem.F.called_set.notType
  have h2 := PySem.F.called_set.canCreate
  have hct := PySem.F.typeCall_set_1 (.ref l)
  repeat (any_goals (first | assumption | wp_step))
  refine codeAny_mono (code_set_new_1 (.ref l) (E := E) (Q₁ := fun ob s1 => ∃ led : Bool, ob = .ref s.heap.objs.size ∧ s1 = { s with heap := s.heap.push { cls := .type "set", dict := none, data := .set #[] 0 (.fresh 0 0 led) } }) fun led => ⟨led, rfl, rfl⟩) fun r s1 hr => ?_
  cases r with
  | error e => exact hr
  | ok fl =>
    cases fl with
    | ret ob =>
      obtain ⟨led, rfl, rfl⟩ := hr
      have hS : (s.heap.push ({ cls := .type "set", dict := none, data := .set #[] 0 (.fresh 0 0 led) } : Obj)).get? s.heap.objs.size = some ({ cls := .type "set", dict := none, data := .set #[] 0 (.fresh 0 0 led) } : Obj) := Heap.get?_push_size _ rfl
      have hT : Shared.TypeIs { s with heap := s.heap.push ({ cls := .type "set", dict := none, data := .set #[] 0 (.fresh 0 0 led) } : Obj) } (.ref s.heap.objs.size) "set" := ⟨_, hS, rfl⟩
      have hli := PySem.F.called_set.init.lookup
      have hbi := PySem.F.called_set.init.bind (.ref s.heap.objs.size)
      repeat (any_goals (first | assumption | wp_step))
      refine codeAny_mono (codeAny_call_builtin (R := wants (fun r s2 => r = .none ∧ ∃ h' tk, s2 = { s with heap := h', toks := tk } ∧ h'.SetOf (PySem.strKind prog w) s.heap.objs.size (fun k' => (firsts xs).any (· == k')) (firsts xs).length ∧ (∀ b o, b < s.heap.objs.size → s.heap.get? b = some o → h'.get? b = some o)) E) PySem.F.called_set.init.plain PySem.F.entry_set_init (check_set_init_1 hT ?_)) fun r2 s2 hr2 => ?_
      · obtain ⟨ol, hol, hcl, nl, hdl⟩ := hl
        obtain ⟨ocls, odict, odata, oslots⟩ := ol
        simp only at hcl hdl
        subst hcl hdl
        have hol2 : (s.heap.push ({ cls := .type "set", dict := none, data := .set #[] 0 (.fresh 0 0 led) } : Obj)).get? l = some { cls := .type "list", dict := odict, data := .seq its nl, slots := oslots } := Heap.get?_push_of_some _ hol
        have hsls := PySem.F.sub_list_set
        have hslf := PySem.F.sub_list_frozenset
        have hnd : (Value.type "list" == Value.type "dict") = false := by decide
        have hl1 : (s.heap.push ({ cls := .type "set", dict := none, data := .set #[] 0 (.fresh 0 0 led) } : Obj)).IsList l its := ⟨_, hol2, rfl, nl, rfl⟩
        have hsz0 : (s.heap.push ({ cls := .type "set", dict := none, data := .set #[] 0 (.fresh 0 0 led) } : Obj)).objs.size = s.heap.objs.size + 1 := Heap.size_push _ _
        unfold Builtin.«set.__init__» noKeywords Builtin.Frozenset.updateFrom
        generalize hPI : pyIter = PI
        wp_walk
        subst hPI
        refine wpAny_pyIter_list hl1 ?_
        refine wpAny_bind (wpAny_runValue ?_)
        have hlS : l < s.heap.objs.size := Heap.lt_size hol
        have hh3 : A.in1.in1.in1.handled = none := by simp [hh]
        have lt0 : s.heap.objs.size < (s.heap.push ({ cls := .type "set", dict := none, data := .set #[] 0 (.fresh 0 0 led) } : Obj)).objs.size := by rw [hsz0]; exact Nat.lt_succ_self _
        have hneI : l ≠ (s.heap.push ({ cls := .type "set", dict := none, data := .set #[] 0 (.fresh 0 0 led) } : Obj)).objs.size := Nat.ne_of_lt (Nat.lt_trans hlS lt0)
        have hSf : s.heap.objs.size ∉ [(s.heap.push ({ cls := .type "set", dict := none, data := .set #[] 0 (.fresh 0 0 led) } : Obj)).objs.size, l] := fun hm => (List.mem_cons.mp hm).elim (fun q => absurd q (Nat.ne_of_lt lt0)) fun q => absurd (List.mem_singleton.mp q) (Nat.ne_of_gt hlS)
        have hsz : xs.length = its.size := by rw [← StrsAre.len_eq hi, Array.length_toList]
        have hval : ∀ (i : Nat) (v : Value), its[i]? = some v → ∃ t, v = .str (xs.getD i Str.empty) t := fun i v hv => SS.strs_at hi i v (by rw [Array.getElem?_toList]; exact hv)
        refine loopTexts ((Walks.list hh3 _ l hneI its).toS) s.heap.objs.size hSf xs hsz (by rw [← hsz]; exact hn1) hval (its.size - 0) 0 _ (by omega) (Nat.zero_le _) ⟨⟨_, Heap.get?_push_size _ rfl, rfl, rfl⟩, (hl1.push _)⟩ ?hS0 ?hR
        case hS0 =>
          have hget : ((s.heap.push ({ cls := .type "set", dict := none, data := .set #[] 0 (.fresh 0 0 led) } : Obj)).push { cls := .type "list_iterator", data := .fields #[.ref l, .int 0 0] }).get? s.heap.objs.size = some ({ cls := .type "set", dict := none, data := .set #[] 0 (.fresh 0 0 led) } : Obj) := Heap.get?_push_of_some _ hS
          exact PyProof.Rows.SetOf_congr ((PyProof.Rows.setObjOf_fresh (knd := PySem.strKind prog w) led).setOf hget (by unfold scanBound; omega)) (fun _ => rfl) rfl
        case hR =>
          intro s3 hm hS3
          obtain ⟨h3, g3, d3, tk3, os3⟩ := s3
          cases (show g3 = s.gens from hm.gens)
          cases (show d3 = s.drawn from hm.drawn)
          cases (show os3 = s.os from hm.os)
          refine wpAny_pure (wpAny_pure ⟨rfl, h3, tk3, rfl, hS3, fun b o hb e => ?_⟩)
          refine hm.heap b o (fun hm2 => ?_) (Heap.get?_push_of_some _ (Heap.get?_push_of_some _ e))
          exact (List.mem_cons.mp hm2).elim (fun q => absurd q (Nat.ne_of_lt hb)) fun q => absurd (List.mem_singleton.mp q) (Nat.ne_of_lt (Nat.lt_trans hb lt0))
      · cases r2 with
        | error e => exact hr2
        | ok fl2 =>
          cases fl2 with
          | ret r =>
            obtain ⟨rfl, h', tk, rfl, hS', hk'⟩ := hr2
            repeat (any_goals (first | assumption | wp_step))
            exact h _ _ hS' hk'
          | _ => exact hr2.elim
    | _ => exact hr.elim
end
end Rp
namespace Rp
open PySem PySem.Spec PyProof.Rows L2
/-- len(set(a list of texts)) -/
def tLenTexts (K : PySem.W.Frag) (ta : TE) : TE := fun σ H Q => ta σ H fun x H1 => ∃ l, ∃ xs : List Str, x = .ref l ∧ SqL K H1 l (xs.map V.str) ∧ xs.length ≤ 1000 ∧ Q (.int (firsts xs).length) H1
theorem pe_lenTexts {X : Cx} {a : Expr} {ta : TE} {p p2 q pos : Pos} (hc : X.calm = true) (hg : Gl X "len") (hm : X.mg "len" = none) (hg2 : Gl X "set") (hm2 : X.mg "set" = none) (ha : PE X a ta) (na : starEach [a] X.env = (false, eval a X.env) :: starEach [] X.env := by rfl) :
    PE X (.Call (.Name "len" p) [.Call (.Name "set" p2) [a] [] q] [] pos) (tLenTexts X.K ta) := by
  refine ⟨fun pins s σ H Q I h => Call_ (ld_blt I hg hm boot_len (PyProof.Rows.callWith_builtin1 (PyProof.Rows.args_cons ?_ rfl) rfl rfl))⟩
  refine Call_ (ld_blt I hg2 hm2 boot_set (PyProof.Rows.callWith_type1 (PyProof.Rows.args_cons (thn (ha.run pins s σ H _ I h) fun v s1 hv => PyProof.Rows.args_nil ?_) na) na rfl))
  obtain ⟨x, H1, I1, r1, l, xs, rfl, hq, h1, q1⟩ := hv
  cases r1
  obtain ⟨its, r, pl, hz⟩ := I1.list hq
  refine call_set_texts (I1.ok.hd hc) pl.isList (by simpa using strsAre_of r) h1 fun h' tk hS hk => PyProof.Rows.args_nil ?_
  obtain ⟨o, es, ep, t, ho, hex, hd, _, _, _, hf, hn⟩ := hS
  have hle := firsts_le xs
  have I2 : Inv X pins σ H1 { s1 with heap := h', toks := tk } := I1.kept fun b o e => hk b o (Heap.lt_size e) e
  exact call_len_set ho hex hd hf (by rw [hn]; omega) ⟨.int (firsts xs).length, H1, I2.tok _, ⟨_, by rw [hn]⟩, q1⟩
end Rp
/-! RpLc2: comprehensions of two clauses over tuples; zip of two tuples; any, all; dicts whose keys are texts. -/
namespace Rp
open PySem PySem.Spec PyProof.Rows L2 SX C8 RZ
/-- more of the built-in names -/
structure Bj (mg : Str → Option Value) : Prop where
  n_set : mg "set" = none
  n_all : mg "all" = none
  n_any : mg "any" = none
  n_zip : mg "zip" = none
  n_enumerate : mg "enumerate" = none
def LC2k (g : TG) (tt : TT) (wi1 : TI) (g1 : TG) (tt1 : TT) (te : TE) (vs vs1 : List Nat) (σ : L2.St) (Q : VK) : It → Hp → Prop := fun J H1 => ∀ D, H1 D = none → ∃ W : Nat → Nat → Hp → Prop, (∃ m, W 0 m (upd H1 D (.lst []))) ∧ ∀ i m H, W i m H →
  (J.stop i H ∧ Q (.ref D) H) ∨ (J.go i H ∧ ∃ Nx : Hp → Prop, (∀ H', Nx H' → ∃ m', m' < m ∧ W (i + 1) m' H') ∧ ∀ x H', J.yld i H x H' → g x (wipe σ vs) H' fun σ2 H2 => wipe σ2 vs = wipe σ vs ∧ tt σ2 H2 fun b H3 =>
    if b = true then wi1 σ2 H3 fun J1 H4 => ∃ W1 : Nat → Nat → Hp → Prop, (∃ m, W1 0 m H4) ∧ ∀ j k H, W1 j k H →
      (J1.stop j H ∧ Nx H) ∨ (J1.go j H ∧ ∃ Nx1 : Hp → Prop, (∀ H', Nx1 H' → ∃ k', k' < k ∧ W1 (j + 1) k' H') ∧ ∀ x H', J1.yld j H x H' → g1 x (wipe σ2 vs1) H' fun σ3 H5 => wipe σ3 vs1 = wipe σ2 vs1 ∧ tt1 σ3 H5 fun b H6 =>
        if b = true then te σ3 H6 fun y H7 => ∃ acc, H7 D = some (.lst acc) ∧ acc.length < sizeLine ∧ Nx1 (upd H7 D (.lst (acc ++ [y]))) else Nx1 H6)
    else Nx H3)
theorem u_lc2 {wi wi1 : TI} {g g1 : TG} {tt tt1 : TT} {te : TE} {vs vs1 : List Nat} {σ : L2.St} {H : Hp} {Q : VK} (h : wi σ H (LC2k g tt wi1 g1 tt1 te vs vs1 σ Q)) : tLc2 wi g tt wi1 g1 tt1 te vs vs1 σ H Q := h
/-- the inner walk's question -/
def INk (g1 : TG) (tt1 : TT) (te : TE) (vs1 : List Nat) (σ2 : L2.St) (D : Addr) (Nx : Hp → Prop) : It → Hp → Prop := fun J1 H4 => ∃ W1 : Nat → Nat → Hp → Prop, (∃ m, W1 0 m H4) ∧ ∀ j k H, W1 j k H →
  (J1.stop j H ∧ Nx H) ∨ (J1.go j H ∧ ∃ Nx1 : Hp → Prop, (∀ H', Nx1 H' → ∃ k', k' < k ∧ W1 (j + 1) k' H') ∧ ∀ x H', J1.yld j H x H' → g1 x (wipe σ2 vs1) H' fun σ3 H5 => wipe σ3 vs1 = wipe σ2 vs1 ∧ tt1 σ3 H5 fun b H6 =>
    if b = true then te σ3 H6 fun y H7 => ∃ acc, H7 D = some (.lst acc) ∧ acc.length < sizeLine ∧ Nx1 (upd H7 D (.lst (acc ++ [y]))) else Nx1 H6)
section
variable {g g1 : TG} {tt tt1 : TT} {te : TE} {wi1 : TI} {vs vs1 : List Nat} {σ σ2 : L2.St} {Q : VK} {H : Hp} {K : PySem.W.Frag}
/-- the inner walk over a tuple -/
theorem inTup {D b : Addr} {ys acc : List V} {Nx : Hp → Prop} (σ' : L2.St) (e : wipe σ2 vs1 = σ') (hq : SqT K H b ys) (Pw : Nat → List V → Hp → Prop) (hk : ∀ j acc H1, Pw j acc H1 → Kp H H1) (hacc : H D = some (.lst acc)) (h0 : Pw 0 acc H)
    (hs : ∀ j x acc H1, ys[j]? = some x → H1 D = some (.lst acc) → Pw j acc H1 → Trn g1 tt1 te vs1 σ' D (Pw (j + 1)) x H1)
    (hd : ∀ acc H1, H1 D = some (.lst acc) → Pw ys.length acc H1 → Nx H1) : INk g1 tt1 te vs1 σ2 D Nx (Itt K b) H := by
  refine ⟨fun j m H1 => m = ys.length - j ∧ j ≤ ys.length ∧ ∃ acc, Pw j acc H1 ∧ H1 D = some (.lst acc), ⟨ys.length, by simp, Nat.zero_le _, acc, h0, hacc⟩, ?_⟩
  rintro j m H1 ⟨rfl, hj, acc1, p, hacc1⟩
  have hq1 := (hk _ _ _ p).sqT hq
  by_cases hlt : j < ys.length
  · refine .inr ⟨⟨ys, ys[j], hq1, by simp [hlt]⟩, NX D (Pw (j + 1)), fun H' ⟨l, p', e'⟩ => ⟨ys.length - (j + 1), by omega, rfl, hlt, l, p', e'⟩, fun x H' y => ?_⟩
    obtain ⟨rfl, hx⟩ := y
    rw [e]
    exact hs j x acc1 _ (hx ys hq1) hacc1 p
  · obtain rfl : j = ys.length := by omega
    exact .inl ⟨⟨ys, hq1, Nat.le_refl _⟩, hd acc1 H1 hacc1 p⟩
/-- the outer walk over a tuple -/
theorem lc2Tup {a : Addr} {xs : List V} (hq : SqT K H a xs) (σ' : L2.St) (e : wipe σ vs = σ') (Pv : Nat → List V → Hp → Prop) (hk : ∀ i acc H1, Pv i acc H1 → Kp H H1)
    (h0 : ∀ D H1, H D = none → Fr [] H H1 → Kp H H1 → H1 D = some (.lst []) → Pv 0 [] H1)
    (hs : ∀ D i x acc H1, H D = none → xs[i]? = some x → H1 D = some (.lst acc) → Pv i acc H1 → g x σ' H1 fun σ2 H2 => wipe σ2 vs = σ' ∧ tt σ2 H2 fun b H3 => if b = true then wi1 σ2 H3 (INk g1 tt1 te vs1 σ2 D (NX D (Pv (i + 1)))) else NX D (Pv (i + 1)) H3)
    (hd : ∀ D acc H1, H D = none → H1 D = some (.lst acc) → Pv xs.length acc H1 → Q (.ref D) H1) : LC2k g tt wi1 g1 tt1 te vs vs1 σ Q (Itt K a) H := by
  intro D hD
  refine ⟨fun i m H1 => m = xs.length - i ∧ i ≤ xs.length ∧ ∃ acc, Pv i acc H1 ∧ H1 D = some (.lst acc), ⟨xs.length, by simp, Nat.zero_le _, [], h0 D _ hD (Fr.upd_new hD) (Kp.upd_new hD) upd_same, upd_same⟩, ?_⟩
  rintro i m H1 ⟨rfl, hi, acc, p, hacc⟩
  have hq1 := (hk _ _ _ p).sqT hq
  by_cases hlt : i < xs.length
  · refine .inr ⟨⟨xs, xs[i], hq1, by simp [hlt]⟩, NX D (Pv (i + 1)), fun H' ⟨l, p', e'⟩ => ⟨xs.length - (i + 1), by omega, rfl, hlt, l, p', e'⟩, fun x H' y => ?_⟩
    obtain ⟨rfl, hx⟩ := y
    rw [e]
    exact hs D i x acc _ hD (hx xs hq1) hacc p
  · obtain rfl : i = xs.length := by omega
    exact .inl ⟨⟨xs, hq1, Nat.le_refl _⟩, hd D acc H1 hD hacc p⟩
end
/-! ### any, all -/
section
variable {X : Cx} {K : PySem.W.Frag} {H : Hp} {Q : VK} {p : Addr}
theorem k_anyK (K : PySem.W.Frag) (h : X.K = K := by rfl) (hc : X.calm = true := by rfl) : CallR X (.builtin "any") (rAny K) := by subst h; exact cr_any hc
theorem k_allK (K : PySem.W.Frag) (h : X.K = K := by rfl) (hc : X.calm = true := by rfl) : CallR X (.builtin "all") (rAll K) := by subst h; exact cr_all hc
theorem u_any1 {bs : List Bool} (hq : SqL K H p (bs.map V.bl)) (h : Q (.bl (bs.any id)) H) : rAny K [.ref p] H Q := ⟨p, bs, rfl, hq, h⟩
theorem u_all1 {bs : List Bool} (hq : SqL K H p (bs.map V.bl)) (h : Q (.bl (bs.all id)) H) : rAll K [.ref p] H Q := ⟨p, bs, rfl, hq, h⟩
/-- len(set(texts)) -/
def LTk (K : PySem.W.Frag) (Q : VK) : VK := fun x H1 => ∃ l, ∃ xs : List Str, x = .ref l ∧ SqL K H1 l (xs.map V.str) ∧ xs.length ≤ 1000 ∧ Q (.int (firsts xs).length) H1
theorem u_lenT2 {ta : TE} {σ : L2.St} (h : ta σ H (LTk K Q)) : tLenTexts K ta σ H Q := h
theorem u_lenTk {xs : List Str} (hq : SqL K H p (xs.map V.str)) (hl : xs.length ≤ 1000) (h : Q (.int (firsts xs).length) H) : LTk K Q (.ref p) H := ⟨p, xs, rfl, hq, hl, h⟩
theorem pe_lenTextsK {a : Expr} {ta : TE} {p p2 q pos : Pos} (K : PySem.W.Frag) (hm : X.mg "len" = none) (hm2 : X.mg "set" = none) (ha : PE X a ta) (hg : Gl X "len" := by rfl) (hg2 : Gl X "set" := by rfl) (hc : X.calm = true := by rfl) (h : X.K = K := by rfl) (na : starEach [a] X.env = (false, eval a X.env) :: starEach [] X.env := by rfl) :
    PE X (.Call (.Name "len" p) [.Call (.Name "set" p2) [a] [] q] [] pos) (tLenTexts K ta) := by subst h; exact pe_lenTexts hc hg hm hg2 hm2 ha na
end
/-! ### zip of two tuples -/
section
variable {g : TG} {tb : TS} {σ : L2.St} {H : Hp} {K : PySem.W.Frag} {n b c : L2.St → Hp → Prop} {r : VK} {pa : TA}
theorem pi_zipK {X : Cx} {e e2 : Expr} {ta : TA} {p pos tpos : Pos} {elts : List Expr} {kk : Nat} (K : PySem.W.Frag) (hg : Gl X "zip") (hm : X.mg "zip" = none) (ha : PA X [e, e2] ta) (h : X.K = K := by rfl)
    (hs : starEach [e, e2] X.env = (false, eval e X.env) :: starEach [e2] X.env := by rfl) (hpl : (backTo pos (starEach [e2] X.env)).any (·.1) = false := by rfl) :
    PI X (.Tuple elts kk tpos) (.Call (.Name "zip" p) [e, e2] [] pos) (iZipA K ta) := by subst h; exact pi_zipA hg hm ha hs hpl
def ZIPk (K : PySem.W.Frag) (R : It → Hp → Prop) : List V → Hp → Prop := fun vs H1 => ∃ a b xs ys, vs = [.ref a, .ref b] ∧ ((SqL K H1 a xs ∧ SqL K H1 b ys ∧ R (Itz K a b) H1) ∨ (SqT K H1 a xs ∧ SqT K H1 b ys ∧ R (ItzT K a b) H1))
theorem u_izip {R : It → Hp → Prop} (h : pa σ H (ZIPk K R)) : iZipA K pa σ H R := h
theorem u_izipT {R : It → Hp → Prop} {a1 b1 : Addr} {xs ys : List V} (h1 : SqT K H a1 xs) (h2 : SqT K H b1 ys) (h : R (ItzT K a1 b1) H) : ZIPk K R [.ref a1, .ref b1] H := ⟨a1, b1, xs, ys, rfl, .inr ⟨h1, h2, h⟩⟩
theorem forZip {a1 b1 : Addr} {xs ys : List V} (Pv : Nat → L2.St → Hp → Prop) (hk : ∀ i σ H1, Pv i σ H1 → SqT K H1 a1 xs ∧ SqT K H1 b1 ys) (h0 : Pv 0 σ H)
    (hs : ∀ i x y σ H1 T H2, xs[i]? = some x → ys[i]? = some y → Pv i σ H1 → H1 T = none → Fr [] H1 H2 → Kp H1 H2 → H2 T = some (.tup [x, y]) → g (.ref T) σ H2 fun σ2 H3 => tb ⟨Pv (i + 1), r, n, Pv (i + 1)⟩ σ2 H3)
    (hd : ∀ σ H1, Pv (min xs.length ys.length) σ H1 → n σ H1) : FORk g tb ⟨n, r, b, c⟩ σ (ItzT K a1 b1) H := by
  refine ⟨fun i m σ H1 => m = min xs.length ys.length - i ∧ i ≤ min xs.length ys.length ∧ Pv i σ H1, ⟨min xs.length ys.length, rfl, Nat.zero_le _, h0⟩, ?_⟩
  rintro i m σ H1 ⟨rfl, hi, p⟩
  obtain ⟨q1, q2⟩ := hk _ _ _ p
  by_cases hlt : i < min xs.length ys.length
  · have l1 : i < xs.length := by omega
    have l2 : i < ys.length := by omega
    refine .inr ⟨⟨xs, ys, xs[i], ys[i], q1, q2, List.getElem?_eq_getElem l1, List.getElem?_eq_getElem l2⟩, Pv (i + 1), fun σ' H' p' => ⟨min xs.length ys.length - (i + 1), by omega, rfl, hlt, p'⟩, fun v H' y => ?_⟩
    obtain ⟨T, x, y, rfl, nT, rfl, hx, hy⟩ := y
    exact hs i x y σ H1 T _ (hx xs q1) (hy ys q2) p nT (Fr.upd_new nT) (Kp.upd_new nT) upd_same
  · have e : i = min xs.length ys.length := by omega
    subst e
    exact .inl ⟨⟨xs, ys, q1, q2, by omega⟩, hd σ H1 p⟩
end
end Rp
/-! RpRule: rules in plain Lean: letters, faults, reading, fitting, use. -/
namespace Rp
open PySem PySem.Spec PyProof.Rows L2 SX C8
/-- the first sign of a name is a small letter -/
def isLet (n : List Nat) : Bool := match n with
  | c :: _ => decide (c ∈ cLOW)
  | [] => false
def low (c : Nat) : Bool := decide (c ∈ cLOW)
/-- the letters of the written form, in order -/
def Fm.lets (t : Fm) : List Nat := t.text.filter low
def rLeft : List Nat := [108, 101, 102, 116]
def rRepeated : List Nat := [114, 101, 112, 101, 97, 116, 101, 100]
def rRight : List Nat := [114, 105, 103, 104, 116]
def rUnbound : List Nat := [117, 110, 98, 111, 117, 110, 100]
def rCopied : List Nat := [99, 111, 112, 105, 101, 100]
def rSize : List Nat := [115, 105, 122, 101]
/-- each part's parts are letters -/
def flatL (l : Fm) : Bool := l.parts.all fun p => p.parts.all fun q => isLet q.name
/-- the first condition on a rule that is broken -/
def fault (l r : Fm) : Option (List Nat) :=
  if l.parts.isEmpty || !flatL l then some rLeft
  else if decide (¬ l.lets.Nodup) then some rRepeated
  else if r.parts.any (fun p => !p.parts.isEmpty) then some rRight
  else if !(r.lets.all fun x => decide (x ∈ l.lets)) then some rUnbound
  else if decide (¬ r.lets.Nodup) then some rCopied
  else if decide (l.size ≤ r.size) then some rSize
  else none
/-- what a rule's text is read as -/
inductive RuleRead where
  | ok (l r : Fm)
  | garbled
  | bad (z : List Nat)
def arrow : List Nat := [32, 45, 62, 32]
def ruleParse (a : List Nat) : RuleRead := match TL.spl arrow 0 [] a with
  | [x, y] => (match parse x with
    | none => .garbled
    | some l => (match parse y with
      | none => .garbled
      | some r => (match fault l r with
        | none => .ok l r
        | some z => .bad z)))
  | _ => .garbled
theorem Fm.Ok.no {t : Fm} (h : t.Ok) {c : Nat} (hc : c ∈ t.text) : isCap c ∨ isLow c ∨ isDig c ∨ c = 40 ∨ c = 41 ∨ c = 44 ∨ c = 32 := by
  induction t with
  | leaf n =>
    obtain ⟨d, rfl, hd⟩ := h
    have e : c = d := by simpa [Fm.text] using hc
    subst e
    rcases hd with q | q
    · exact .inr (.inl q)
    · exact .inr (.inr (.inl q))
  | one n a iha =>
    have hc2 : c ∈ n ∨ c = 40 ∨ c ∈ a.text ∨ c = 41 := by simpa [Fm.text] using hc
    rcases hc2 with q | q | q | q
    · exact .inl (h.1.caps c q)
    · simp [q]
    · exact iha h.2 q
    · simp [q]
  | two n a b iha ihb =>
    have hc2 : c ∈ n ∨ c = 40 ∨ c ∈ a.text ∨ c = 44 ∨ c = 32 ∨ c ∈ b.text ∨ c = 41 := by simpa [Fm.text] using hc
    rcases hc2 with q | q | q | q | q | q | q
    · exact .inl (h.1.caps c q)
    · simp [q]
    · exact iha h.2.1 q
    · simp [q]
    · simp [q]
    · exact ihb h.2.2 q
    · simp [q]
theorem Fm.Ok.no45 {t : Fm} (h : t.Ok) : 45 ∉ t.text := fun hm => by
  have := h.no hm
  unfold isCap isLow isDig at this; omega
/-- a written form has no arrow in it, and none begins at its end -/
theorem text_free {t : Fm} (h : t.Ok) (rest : List Nat) : ∀ i, i < t.text.length → TL.pre arrow ((t.text ++ (arrow ++ rest)).drop i) = false := fun i hi => by
  have h45 := h.no45
  have e1 : (t.text ++ (arrow ++ rest)).drop i = t.text[i] :: (t.text ++ (arrow ++ rest)).drop (i + 1) := by
    rw [List.drop_eq_getElem_cons (by simp; omega)]
    congr 1
    rw [List.getElem_append_left hi]
  rw [e1]
  by_cases hj : i + 1 < t.text.length
  · have e2 : (t.text ++ (arrow ++ rest)).drop (i + 1) = t.text[i + 1] :: (t.text ++ (arrow ++ rest)).drop (i + 1 + 1) := by
      rw [List.drop_eq_getElem_cons (by simp; omega)]
      congr 1
      rw [List.getElem_append_left hj]
    rw [e2]
    have hne : t.text[i + 1] ≠ 45 := fun z => h45 (z ▸ List.getElem_mem hj)
    simp [TL.pre, arrow, hne]
  · have e3 : i + 1 = t.text.length := by omega
    rw [e3, List.drop_left]
    simp [TL.pre, arrow]
theorem text_free0 {t : Fm} (h : t.Ok) : ∀ i, i < t.text.length → TL.pre arrow (t.text.drop i) = false := fun i hi => by
  have h45 := h.no45
  rw [List.drop_eq_getElem_cons hi]
  cases e : t.text.drop (i + 1) with
  | nil => simp [TL.pre, arrow]
  | cons c r =>
    have hne : c ≠ 45 := fun z => h45 (z ▸ List.mem_of_mem_drop (by rw [e]; simp))
    simp [TL.pre, arrow, hne]
theorem ruleParse_text {l r : Fm} (h1 : l.Ok) (h2 : r.Ok) : ruleParse (l.text ++ (arrow ++ r.text)) = (match fault l r with | none => .ok l r | some z => .bad z) := by
  have e : TL.spl arrow 0 [] (l.text ++ (arrow ++ r.text)) = [l.text, r.text] := by
    rw [TL.spl_part (by decide) (text_free h1 _), TL.spl_last (text_free0 h2)]; rfl
  unfold ruleParse
  rw [e]
  show (match parse l.text with
    | none => _
    | some l => _) = _
  rw [parse_text h1, parse_text h2]
/-! ### fitting -/
/-- what the letters of the parts stand for -/
def bind1 (p q : Fm) : Option (List (List Nat × Fm)) := if isLet p.name then some [(p.name, q)] else if p.name = q.name ∧ p.parts.length = q.parts.length then some ((p.parts.zip q.parts).map fun z => (z.1.name, z.2)) else none
def bindP : List Fm → List Fm → Option (List (List Nat × Fm))
  | p :: ps, q :: qs => (bind1 p q).bind fun a => (bindP ps qs).map (a ++ ·)
  | _, _ => some []
theorem bindP_app : ∀ (ps qs ps' qs' : List Fm), ps.length = qs.length → bindP (ps ++ ps') (qs ++ qs') = (bindP ps qs).bind fun a => (bindP ps' qs').map (a ++ ·)
  | [], [], ps', qs', _ => by
    show bindP ps' qs' = (some []).bind fun a => (bindP ps' qs').map (a ++ ·)
    cases bindP ps' qs' <;> simp
  | p :: ps, q :: qs, ps', qs', h => by
    have ih := bindP_app ps qs ps' qs' (by simpa using h)
    show (bind1 p q).bind (fun a => (bindP (ps ++ ps') (qs ++ qs')).map (a ++ ·)) = ((bind1 p q).bind fun a => (bindP ps qs).map (a ++ ·)).bind fun a => (bindP ps' qs').map (a ++ ·)
    rw [ih]
    cases bind1 p q with
    | none => rfl
    | some a =>
      cases bindP ps qs with
      | none => rfl
      | some b =>
        cases bindP ps' qs' with
        | none => rfl
        | some c => simp
theorem bindP_step {ps qs : List Fm} {i : Nat} {p q : Fm} {pre : List (List Nat × Fm)} (hl : ps.length = qs.length) (hp : ps[i]? = some p) (hq : qs[i]? = some q) (h : bindP (ps.take i) (qs.take i) = some pre) : bindP (ps.take (i + 1)) (qs.take (i + 1)) = (bind1 p q).map (pre ++ ·) := by
  rw [List.take_add_one, List.take_add_one, hp, hq, bindP_app _ _ _ _ (by simp [hl]), h]
  show ((bind1 p q).bind fun a => (bindP [] []).map (a ++ ·)).map (pre ++ ·) = _
  cases bind1 p q <;> simp [bindP]
theorem bindP_fail {ps qs : List Fm} {i : Nat} {p q : Fm} {pre : List (List Nat × Fm)} (hl : ps.length = qs.length) (hp : ps[i]? = some p) (hq : qs[i]? = some q) (h : bindP (ps.take i) (qs.take i) = some pre) (hn : bind1 p q = none) : bindP ps qs = none := by
  have e := bindP_step hl hp hq h
  rw [hn] at e
  have z := bindP_app (ps.take (i + 1)) (qs.take (i + 1)) (ps.drop (i + 1)) (qs.drop (i + 1)) (by simp [hl])
  rw [List.take_append_drop, List.take_append_drop, e] at z
  exact z
/-- the names that are bound, in order -/
def keys1 (p : Fm) : List (List Nat) := if isLet p.name then [p.name] else p.parts.map Fm.name
def keysOf (ps : List Fm) : List (List Nat) := (ps.map keys1).flatten
theorem keysOf_take {ps : List Fm} {i : Nat} {p : Fm} (h : ps[i]? = some p) : keysOf (ps.take (i + 1)) = keysOf (ps.take i) ++ keys1 p := by
  rw [List.take_add_one, h]; simp [keysOf]
theorem keysOf_len (ps : List Fm) : (keysOf ps).length ≤ 2 * ps.length := by
  induction ps with
  | nil => simp [keysOf]
  | cons p ps ih =>
    have h1 : (keys1 p).length ≤ 2 := by
      unfold keys1
      split
      · simp
      · rw [List.length_map]; exact p.parts_le
    have e : keysOf (p :: ps) = keys1 p ++ keysOf ps := by simp [keysOf]
    rw [e, List.length_append, List.length_cons]; omega
theorem keysOf_pre {ps : List Fm} {i : Nat} {p : Fm} (h : ps[i]? = some p) (hn : (keysOf ps).Nodup) : (keysOf (ps.take i) ++ keys1 p).Nodup := by
  rw [← keysOf_take h]
  have e : keysOf ps = keysOf (ps.take (i + 1)) ++ keysOf (ps.drop (i + 1)) := by
    conv => lhs; rw [← List.take_append_drop (i + 1) ps]
    simp only [keysOf, List.map_append, List.flatten_append]
  rw [e] at hn
  exact (List.nodup_append.mp hn).1
def binds (l f : Fm) : Option (List (List Nat × Fm)) := if f.name = l.name ∧ f.parts.length = l.parts.length then bindP l.parts f.parts else none
def lookB (b : List (List Nat × Fm)) (p : Fm) : Fm := (b.lookup p.name).getD p
def useB (b : List (List Nat × Fm)) (r : Fm) : Fm := if r.parts = [] then lookB b r else Fm.mk r.name (r.parts.map (lookB b))
/-- the use of a rule at the top -/
def useR (l r f : Fm) : Option Fm := (binds l f).map fun b => useB b r
/-- a rule that is allowed, of written forms -/
structure RuleOk (l r : Fm) : Prop where
  okl : l.Ok
  okr : r.Ok
  free : fault l r = none
section
variable {l r : Fm}
theorem fault_none (h : fault l r = none) : l.parts ≠ [] ∧ flatL l = true ∧ l.lets.Nodup ∧ (∀ p ∈ r.parts, p.parts = []) ∧ (∀ x ∈ r.lets, x ∈ l.lets) ∧ r.lets.Nodup ∧ r.size < l.size := by
  unfold fault at h
  split at h
  · cases h
  · rename_i h1
    split at h
    · cases h
    · rename_i h2
      split at h
      · cases h
      · rename_i h3
        split at h
        · cases h
        · rename_i h4
          split at h
          · cases h
          · rename_i h5
            split at h
            · cases h
            · rename_i h6
              simp only [Bool.or_eq_true, not_or, List.isEmpty_iff, Bool.not_eq_true', Bool.not_eq_false] at h1
              refine ⟨h1.1, h1.2, by simpa using h2, fun p hp => ?_, fun x hx => ?_, by simpa using h5, by simpa using h6⟩
              · exact Classical.byContradiction fun z => h3 (List.any_eq_true.mpr ⟨p, hp, by simpa using z⟩)
              · have h4' : (r.lets.all fun x => decide (x ∈ l.lets)) = true := by simpa using h4
                exact of_decide_eq_true (List.all_eq_true.mp h4' x hx)
theorem fault_ok (h1 : l.parts ≠ []) (h2 : flatL l = true) (h3 : l.lets.Nodup) (h4 : ∀ p ∈ r.parts, p.parts = []) (h5 : ∀ x ∈ r.lets, x ∈ l.lets) (h6 : r.lets.Nodup) (h7 : r.size < l.size) : fault l r = none := by
  unfold fault
  rw [if_neg (by simp [h1, h2]), if_neg (by simpa using h3), if_neg (by simpa using h4), if_neg (by simpa using h5), if_neg (by simpa using h6), if_neg (by simpa using h7)]
end
theorem room1 {k : Nat} {A : Around} (r : Room k A) : A.units + 1 < cLine := by
  have := r.un
  omega
/-! ### promises -/
def rV (z : Option (List Nat)) : V := match z with
  | none => .non
  | some a => .str (S a)
section
variable {K : PySem.W.Frag} {C : Addr} {H : Hp} {Q : VK} {E : XK} {a b : Addr} {l r : Fm}
def spIsLet : Sp := fun vs H Q _ => ∃ (n : List Nat), vs = [.str (S n)] ∧ n ≠ [] ∧ n.length ≤ 100000 ∧ Q (.bl (isLet n)) H
theorem u_isLet {n : List Nat} (h1 : n ≠ []) (h2 : n.length ≤ 100000) (h : Q (.bl (isLet n)) H) : spIsLet ([.str (S n)] ++ []) H Q E := ⟨n, rfl, h1, h2, h⟩
def spFault (K : PySem.W.Frag) (C : Addr) : Sp := fun vs H Q _ => ∃ (a b : Addr) (l r : Fm), vs = [.ref a, .ref b] ∧ FormAt K C H l a ∧ FormAt K C H r b ∧ l.Ok ∧ r.Ok ∧ l.text.length ≤ 1000 ∧ r.text.length ≤ 1000 ∧ ∀ H', Fr [] H H' → Q (rV (fault l r)) H'
theorem u_fault (h1 : FormAt K C H l a) (h2 : FormAt K C H r b) (h3 : l.Ok) (h4 : r.Ok) (h5 : l.text.length ≤ 1000) (h6 : r.text.length ≤ 1000) (h : ∀ H', Fr [] H H' → Kp H H' → Q (rV (fault l r)) H') : spFault K C ([.ref a, .ref b] ++ []) H Q E :=
  ⟨a, b, l, r, rfl, h1, h2, h3, h4, h5, h6, fun H' f => h H' f (.of_same f.same)⟩
end
theorem Fm.Ok.nne {t : Fm} (h : t.Ok) : t.name ≠ [] := by
  cases t with
  | leaf n => obtain ⟨c, rfl, _⟩ := h; simp [Fm.name]
  | one n a => intro z; have := h.1.pos; rw [show n = [] from z] at this; simp at this
  | two n a b => intro z; have := h.1.pos; rw [show n = [] from z] at this; simp at this
theorem Fm.Ok.nlen {t : Fm} (h : t.Ok) : t.name.length ≤ 6 := by
  cases t with
  | leaf n => obtain ⟨c, rfl, _⟩ := h; simp [Fm.name]
  | one n a => exact h.1.six
  | two n a b => exact h.1.six
/-! ### dicts of formulas under texts -/
section
variable {td ty tv tx : TE} {σ : L2.St} {H : Hp} {Q : VK} {n b c : L2.St → Hp → Prop} {r : VK} {v z : V} {a : Addr} {kvs : List (Key × V)} {k : List Nat}
theorem u_dnew (h : ∀ p H1, H p = none → Fr [] H H1 → Kp H H1 → H1 p = some (.dK []) → Q (.ref p) H1) : tDNewK σ H Q := u_new (W := fun p H' => Q (.ref p) H') h
def DPUk (v : V) (n : L2.St → Hp → Prop) (σ : L2.St) (x : V) : V → Hp → Prop := fun y H3 => ∃ a H4, x = .ref a ∧ DPut H3 a y v H4 ∧ n σ H4
theorem u_dput (h : tv σ H fun v H1 => td σ H1 fun x H2 => ty σ H2 (DPUk v n σ x)) : sDPut td ty tv ⟨n, r, b, c⟩ σ H := h
theorem u_dputK (e : H a = some (.dK kvs)) (hl : kvs.length < 1000) (h : ∀ H4, Fr [a] H H4 → Kp H H4 → H4 a = some (.dK (putK kvs (.inr (S k)) v)) → n σ H4) : DPUk v n σ (.ref a) (.str (S k)) H := by
  have hs : kvs.length < sizeLine := by rw [sizeLine_eq]; omega
  have hm : ¬ Imm (.dK kvs) := fun h => h
  exact ⟨a, _, rfl, DPut.k (k := .inr (S k)) e hs, h _ (Fr.upd_in (by simp)) (Kp.upd_mut e hm) upd_same⟩
def DG2e (a : Addr) (y : V) (Q : VK) : VK := fun z H3 => ∃ o, DGet H3 a y o ∧ Q (o.getD z) H3
def DG2k (ty tx : TE) (σ : L2.St) (Q : VK) : VK := fun x H1 => ∃ a, x = .ref a ∧ IsD H1 a ∧ ty σ H1 fun y H2 => tx σ H2 (DG2e a y Q)
theorem u_dg2 (h : td σ H (DG2k ty tx σ Q)) : tDGet2 td ty tx σ H Q := h
theorem u_dg2k (e : H a = some (.dK kvs)) (h : ty σ H fun y H2 => tx σ H2 (DG2e a y Q)) : DG2k ty tx σ Q (.ref a) H := ⟨a, rfl, .inl ⟨kvs, .inl e⟩, h⟩
theorem u_dg2e (e : H a = some (.dK kvs)) (h : Q ((valV kvs (.inr (S k))).getD z) H) : DG2e a (.str (S k)) Q z H := ⟨_, DGet.k (k := .inr (S k)) e, h⟩
end
/-- what a dict holds: the formulas under the names -/
def BndAt (A : Fm → Addr → Prop) : List (List Nat × Fm) → List (Key × V) → Prop := Paired fun p q => q.1 = .inr (S p.1) ∧ ∃ x, q.2 = .ref x ∧ A p.2 x
section
variable {A : Fm → Addr → Prop}
theorem BndAt.len {b : List (List Nat × Fm)} {kvs : List (Key × V)} (h : BndAt A b kvs) : b.length = kvs.length := Paired.length h
theorem BndAt.imp {A' : Fm → Addr → Prop} (hi : ∀ t x, A t x → A' t x) {b : List (List Nat × Fm)} {kvs : List (Key × V)} (h : BndAt A b kvs) : BndAt A' b kvs := by
  induction h with
  | nil => exact .nil
  | cons r _ ih => obtain ⟨e1, x, e2, z⟩ := r; exact .cons ⟨e1, x, e2, hi _ _ z⟩ ih
theorem BndAt.look {b : List (List Nat × Fm)} {kvs : List (Key × V)} (h : BndAt A b kvs) (k : List Nat) : (b.lookup k = none ∧ valV kvs (.inr (S k)) = none) ∨ ∃ t x, b.lookup k = some t ∧ valV kvs (.inr (S k)) = some (.ref x) ∧ A t x := by
  induction h with
  | nil => exact .inl ⟨rfl, rfl⟩
  | cons r _ ih =>
    rename_i p q b kvs _
    obtain ⟨e1, x, e2, z⟩ := r
    obtain ⟨pk, pt⟩ := p
    obtain ⟨qk, qv⟩ := q
    dsimp only at e1 e2 z
    subst e1 e2
    by_cases q : k = pk
    · subst q
      exact .inr ⟨pt, x, by simp [List.lookup], valV_pos rfl, z⟩
    · have hb : (k == pk) = false := beq_eq_false_iff_ne.mpr q
      have hv : valV ((Sum.inr (S pk), V.ref x) :: kvs) (.inr (S k)) = valV kvs (.inr (S k)) := valV_neg fun z => q (S_inj (by injection z with z; exact z.symm))
      rw [hv]
      rcases ih with ⟨i1, i2⟩ | ⟨t, y, i1, i2, i3⟩
      · exact .inl ⟨by rw [List.lookup_cons, hb]; exact i1, i2⟩
      · exact .inr ⟨t, y, by rw [List.lookup_cons, hb]; exact i1, i2, i3⟩
/-- a new name -/
theorem BndAt.put {b : List (List Nat × Fm)} {kvs : List (Key × V)} (h : BndAt A b kvs) {k : List Nat} {t : Fm} {x : Addr} (hk : k ∉ b.map (·.1)) (z : A t x) : BndAt A (b ++ [(k, t)]) (putK kvs (.inr (S k)) (.ref x)) := by
  have hn : valV kvs (.inr (S k)) = none := by
    rcases h.look k with q | ⟨u, y, q, _⟩
    · exact q.2
    · refine absurd ?_ hk
      clear h hk
      induction b with
      | nil => cases q
      | cons p b ih =>
        rw [List.lookup_cons] at q
        by_cases e : k = p.1
        · simp [e]
        · rw [beq_eq_false_iff_ne.mpr e] at q
          exact List.mem_cons_of_mem _ (ih q)
  rw [putK_new _ hn]
  clear hk hn
  induction h with
  | nil => exact .cons ⟨rfl, x, rfl, z⟩ .nil
  | cons r _ ih => exact .cons r ih
end
/-! ### a rule's object -/
def fR (fl fr : Addr) (x : List Nat) : List (Str × V) := [("left", .ref fl), ("right", .ref fr), ("text", .str (S x))]
def RuleAt (K : PySem.W.Frag) (C CR : Addr) (H : Hp) (l r : Fm) (a : Addr) : Prop := ∃ dx fl fr, H a = some (.ins CR dx (fR fl fr (l.text ++ (arrow ++ r.text)))) ∧ FormAt K C H l fl ∧ FormAt K C H r fr
theorem fR_imm {CR dx fl fr : Addr} {x : List Nat} : Imm (.ins CR dx (fR fl fr x)) := .inr (.inl rfl)
theorem RuleAt.mono {K : PySem.W.Frag} {C CR : Addr} {H H' : Hp} {l r : Fm} {a : Addr} (k : Kp H H') (h : RuleAt K C CR H l r a) : RuleAt K C CR H' l r a := by
  obtain ⟨dx, fl, fr, e, h1, h2⟩ := h
  exact ⟨dx, fl, fr, k _ _ fR_imm e, h1.mono k, h2.mono k⟩
theorem n_lr : ¬ (("left" : Str) = "right") := by decide +kernel
theorem n_lt : ¬ (("left" : Str) = "text") := by decide +kernel
theorem n_rt : ¬ (("right" : Str) = "text") := by decide +kernel
theorem n_rl : ¬ (("right" : Str) = "left") := by decide +kernel
theorem n_tl : ¬ (("text" : Str) = "left") := by decide +kernel
theorem n_tr : ¬ (("text" : Str) = "right") := by decide +kernel
structure RC (K : PySem.W.Frag) (mg : Str → Option Value) (CR : Addr) : Prop where
  cl : Cls K CR
  nl : NoAttr K CR "left"
  nr : NoAttr K CR "right"
  nt : NoAttr K CR "text"
  gRule : ∃ u, mg "Rule" = some u ∧ RelV (.ref CR) u
section
variable {K : PySem.W.Frag} {mg : Str → Option Value} {C CR a : Addr} {H : Hp} {Q : VK} {l r : Fm}
theorem u_rLeft (F : RC K mg CR) (h1 : RuleAt K C CR H l r a) (h : ∀ fl, FormAt K C H l fl → Q (.ref fl) H) : FLDk K "left" Q (.ref a) H := by
  obtain ⟨dx, fl, fr, e, h2, h3⟩ := h1
  exact ⟨a, CR, dx, _, _, rfl, e, F.cl, F.nl, lookup_cons_eq, h fl h2⟩
theorem u_rRight (F : RC K mg CR) (h1 : RuleAt K C CR H l r a) (h : ∀ fr, FormAt K C H r fr → Q (.ref fr) H) : FLDk K "right" Q (.ref a) H := by
  obtain ⟨dx, fl, fr, e, h2, h3⟩ := h1
  exact ⟨a, CR, dx, _, _, rfl, e, F.cl, F.nr, (lookup_cons_ne n_rl).trans lookup_cons_eq, h fr h3⟩
theorem u_rText (F : RC K mg CR) (h1 : RuleAt K C CR H l r a) (h : Q (.str (S (l.text ++ (arrow ++ r.text)))) H) : FLDk K "text" Q (.ref a) H := by
  obtain ⟨dx, fl, fr, e, h2, h3⟩ := h1
  exact ⟨a, CR, dx, _, _, rfl, e, F.cl, F.nt, (lookup_cons_ne n_tl).trans ((lookup_cons_ne n_tr).trans lookup_cons_eq), h⟩
end
def spRInit (K : PySem.W.Frag) (C CR : Addr) : Sp := fun vs H Q _ => ∃ (x dx a b : Addr) (l r : Fm), vs = [.ref x, .ref a, .ref b] ∧ H x = some (.ins CR dx []) ∧ FormAt K C H l a ∧ FormAt K C H r b ∧ l.text.length + r.text.length ≤ 100000 ∧ ∀ H', Fr [x] H H' → RuleAt K C CR H' l r x → Q .non H'
/-! ### what fault's walks make -/
def letV (a : List Nat) : List V := vS ((a.filter low).map fun c => [c])
theorem letV_take {a : List Nat} {i d : Nat} (h : a[i]? = some d) : letV (a.take (i + 1)) = if low d then letV (a.take i) ++ [V.str (S [d])] else letV (a.take i) := by
  unfold letV
  rw [List.take_add_one, h, List.filter_append]
  cases e : low d <;> simp [e, vS]
theorem letV_len (a : List Nat) : (letV a).length ≤ a.length := by
  unfold letV vS
  rw [List.length_map, List.length_map]
  exact List.length_filter_le _ _
def bsOf (ps : List Fm) : List Bool := (ps.map fun p => p.parts.map fun q => isLet q.name).flatten
theorem bsOf_all (ps : List Fm) : (bsOf ps).all id = ps.all fun p => p.parts.all fun q => isLet q.name := by
  induction ps with
  | nil => rfl
  | cons p ps ih => rw [List.all_cons, ← ih]; simp [bsOf, List.all_append, List.all_map, Function.comp_def]
theorem bsOf_take {ps : List Fm} {i : Nat} {p : Fm} (h : ps[i]? = some p) : bsOf (ps.take (i + 1)) = bsOf (ps.take i) ++ p.parts.map fun q => isLet q.name := by
  rw [List.take_add_one, h]; simp [bsOf]
theorem bsOf_len (ps : List Fm) : (bsOf ps).length ≤ 2 * ps.length := by
  induction ps with
  | nil => simp [bsOf]
  | cons p ps ih =>
    have := p.parts_le
    simp [bsOf] at ih ⊢; omega
theorem letV_strs (a : List Nat) : letV a = ((a.filter low).map fun c => S [c]).map V.str := by simp [letV, vS]
theorem firsts_letters (xs : List Nat) : ((firsts (xs.map fun c => S [c])).length < xs.length) ↔ ¬ xs.Nodup := by
  have h1 := firsts_le (xs.map fun c => S [c])
  rw [List.length_map] at h1
  have h2 := firsts_nodup (xs := xs.map fun c => S [c])
  rw [List.length_map] at h2
  have h3 : (xs.map fun c => S [c]).Nodup ↔ xs.Nodup := by
    constructor
    · intro h
      exact (List.pairwise_map.mp h).imp fun hne e => hne (by rw [e])
    · intro h
      exact List.pairwise_map.mpr (h.imp fun hab z => hab (by have := S_inj z; simpa using this))
  rw [← h3, ← h2]; omega
theorem in_letters {xs : List Nat} {c : Nat} : V.str (S [c]) ∈ ((xs.map fun c => S [c]).map V.str) ↔ c ∈ xs := by
  constructor
  · intro h
    obtain ⟨y, hy, e⟩ := List.mem_map.mp h
    obtain ⟨d, hd, rfl⟩ := List.mem_map.mp hy
    have := S_eq_iff.mp e
    have e2 : d = c := by simpa using this
    rw [← e2]; exact hd
  · intro h
    exact List.mem_map.mpr ⟨_, List.mem_map.mpr ⟨c, h, rfl⟩, rfl⟩
theorem u_nB {A B : Prop} {k : Bool} (h1 : k = false → A) (h2 : k = true → B) : if (!k) = true then A else B := by
  cases k with
  | true => rw [if_neg (by simp)]; exact h2 rfl
  | false => rw [if_pos (by rfl)]; exact h1 rfl
theorem inV_strs (a : List Nat) (xs : List (List Nat)) : inV (.str (S a)) (vS xs) = decide (a ∈ xs) := by
  unfold inV vS
  induction xs with
  | nil => rfl
  | cons x xs ih =>
    rw [List.map_cons, List.any_cons, ih]
    have e : eqV (V.str (S x)) (V.str (S a)) = decide (x = a) := (show eqV (V.str (S x)) (V.str (S a)) = (S x == S a) by simp [eqV]).trans (S_beq x a)
    rw [e]
    by_cases q : a = x
    · subst q; simp
    · rw [decide_eq_false fun z : x = a => q z.symm]; simp [q]
theorem strs_flat (xs : List (List Nat)) : (vS xs).all flatV = true := by
  unfold vS
  induction xs with
  | nil => rfl
  | cons x xs ih => rw [List.map_cons, List.all_cons, ih]; rfl
section
variable {K : PySem.W.Frag} {H : Hp} {Q : VK} {p : Addr} {a : List Nat} {xs : List (List Nat)}
theorem u_inS (hq : SqL K H p (vS xs)) (h : Q (.bl (decide (a ∈ xs))) H) : rIn K false (.str (S a)) (.ref p) H Q := ⟨p, _, rfl, .inl hq, rfl, strs_flat xs, by rw [if_neg (by simp), inV_strs]; exact h⟩
theorem u_inST (hq : SqT K H p (vS xs)) (h : Q (.bl (decide (a ∈ xs))) H) : rIn K false (.str (S a)) (.ref p) H Q := ⟨p, _, rfl, .inr hq, rfl, strs_flat xs, by rw [if_neg (by simp), inV_strs]; exact h⟩
theorem u_notInS (hq : SqL K H p (vS xs)) (h : Q (.bl (!decide (a ∈ xs))) H) : rIn K true (.str (S a)) (.ref p) H Q := ⟨p, _, rfl, .inl hq, rfl, strs_flat xs, by rw [if_pos rfl, inV_strs]; exact h⟩
end
/-! ### the letters of a left side -/
theorem low_cap {c : Nat} (h : isCap c) : low c = false := by
  unfold low
  refine decide_eq_false fun z => ?_
  have := mem_low.mp z
  unfold isCap at h; unfold isLow at this; omega
theorem filter_name {n : List Nat} (h : NameOk n) : n.filter low = [] := List.filter_eq_nil_iff.mpr fun c hc => by rw [low_cap (h.caps c hc)]; simp
theorem isLet_name {n : List Nat} (h : NameOk n) : isLet n = false := by
  cases n with
  | nil => rfl
  | cons c r => exact low_cap (h.caps c (by simp))
theorem let_leaf {q : Fm} (h : q.Ok) (hl : isLet q.name = true) : ∃ c, q = .leaf [c] ∧ low c = true := by
  cases q with
  | leaf n => obtain ⟨c, rfl, _⟩ := h; exact ⟨c, rfl, hl⟩
  | one n a => rw [show isLet (Fm.one n a).name = isLet n from rfl, isLet_name h.1] at hl; cases hl
  | two n a b => rw [show isLet (Fm.two n a b).name = isLet n from rfl, isLet_name h.1] at hl; cases hl
theorem keys1_lets {p : Fm} (h : p.Ok) (hf : ∀ q ∈ p.parts, isLet q.name = true) : keys1 p = p.lets.map fun c => [c] := by
  cases p with
  | leaf n =>
    obtain ⟨c, rfl, _⟩ := h
    unfold keys1 Fm.lets
    rw [show isLet (Fm.leaf [c]).name = low c from rfl]
    by_cases q : low c = true
    · rw [if_pos q]; simp [Fm.text, Fm.name, q]
    · rw [if_neg q]; simp [Fm.text, Fm.parts, q]
  | one n a =>
    obtain ⟨c, rfl, hc⟩ := let_leaf h.2 (hf a (by simp [Fm.parts]))
    unfold keys1
    rw [if_neg (by rw [show isLet (Fm.one n (.leaf [c])).name = isLet n from rfl, isLet_name h.1]; simp)]
    have e40 : low 40 = false := by decide
    have e41 : low 41 = false := by decide
    simp [Fm.parts, Fm.lets, Fm.text, Fm.name, List.filter_append, filter_name h.1, hc, List.filter_cons, e40, e41]
  | two n a b =>
    obtain ⟨c, rfl, hc⟩ := let_leaf h.2.1 (hf a (by simp [Fm.parts]))
    obtain ⟨d, rfl, hd⟩ := let_leaf h.2.2 (hf b (by simp [Fm.parts]))
    unfold keys1
    rw [if_neg (by rw [show isLet (Fm.two n (.leaf [c]) (.leaf [d])).name = isLet n from rfl, isLet_name h.1]; simp)]
    have e40 : low 40 = false := by decide
    have e41 : low 41 = false := by decide
    have e44 : low 44 = false := by decide
    have e32 : low 32 = false := by decide
    simp [Fm.parts, Fm.lets, Fm.text, Fm.name, List.filter_append, filter_name h.1, hc, hd, List.filter_cons, e40, e41, e44, e32]
theorem lets_parts {l : Fm} (h : l.Ok) (hne : l.parts ≠ []) : l.lets = (l.parts.map Fm.lets).flatten := by
  have e40 : low 40 = false := by decide
  have e41 : low 41 = false := by decide
  have e44 : low 44 = false := by decide
  have e32 : low 32 = false := by decide
  cases l with
  | leaf n => exact absurd rfl hne
  | one n a => simp [Fm.parts, Fm.lets, Fm.text, List.filter_append, filter_name h.1, List.filter_cons, e40, e41]
  | two n a b => simp [Fm.parts, Fm.lets, Fm.text, List.filter_append, filter_name h.1, List.filter_cons, e40, e41, e44, e32]
theorem keysOf_lets {l : Fm} (h : l.Ok) (hne : l.parts ≠ []) (hf : flatL l = true) : keysOf l.parts = l.lets.map fun c => [c] := by
  rw [lets_parts h hne]
  have hf2 : ∀ p ∈ l.parts, ∀ q ∈ p.parts, isLet q.name = true := fun p hp q hq => List.all_eq_true.mp (List.all_eq_true.mp hf p hp) q hq
  have hok : ∀ p ∈ l.parts, p.Ok := fun p hp => h.part hp
  unfold keysOf
  generalize l.parts = ps at hf2 hok
  induction ps with
  | nil => rfl
  | cons p ps ih =>
    rw [List.map_cons, List.flatten_cons, keys1_lets (hok p (by simp)) (hf2 p (by simp)), ih (fun q hq => hf2 q (by simp [hq])) (fun q hq => hok q (by simp [hq]))]
    simp
theorem RuleOk.keys {l r : Fm} (h : RuleOk l r) : (keysOf l.parts).Nodup := by
  obtain ⟨h1, h2, h3, _⟩ := fault_none h.free
  rw [keysOf_lets h.okl h1 h2]
  exact List.pairwise_map.mpr (h3.imp fun hab z => hab (by simpa using z))
/-! ### promises of bindings, of a rule's call -/
section
variable {K : PySem.W.Frag} {C CR : Addr} {H : Hp} {Q : VK} {E : XK}
def spBind (K : PySem.W.Frag) (C : Addr) : Sp := fun vs H Q _ => ∃ (a b : Addr) (l f : Fm), vs = [.ref a, .ref b] ∧ FormAt K C H l a ∧ FormAt K C H f b ∧ l.Ok ∧ f.Ok ∧ (keysOf l.parts).Nodup ∧ (binds l f = none → ∀ H', Fr [] H H' → Q .non H') ∧
  ∀ (z : List (List Nat × Fm)) (d : Addr) (kvs : List (Key × V)) (H' : Hp), binds l f = some z → Fr [] H H' → H d = none → H' d = some (.dK kvs) → BndAt (FormAt K C H') z kvs → Q (.ref d) H'
theorem u_bind {a b : Addr} {l f : Fm} (h1 : FormAt K C H l a) (h2 : FormAt K C H f b) (h3 : l.Ok) (h4 : f.Ok) (h5 : (keysOf l.parts).Nodup) (hno : binds l f = none → ∀ H', Fr [] H H' → Kp H H' → Q .non H')
    (h : ∀ (z : List (List Nat × Fm)) (d : Addr) (kvs : List (Key × V)) (H' : Hp), binds l f = some z → Fr [] H H' → Kp H H' → H d = none → H' d = some (.dK kvs) → BndAt (FormAt K C H') z kvs → Q (.ref d) H') : spBind K C ([.ref a, .ref b] ++ []) H Q E :=
  ⟨a, b, l, f, rfl, h1, h2, h3, h4, h5, fun e H' g => hno e H' g (.of_same g.same), fun z d kvs H' e g => h z d kvs H' e g (.of_same g.same)⟩
/-- the call of a rule -/
def spUse (K : PySem.W.Frag) (C CR : Addr) : Sp := fun vs H Q _ => ∃ (a b : Addr) (l r f : Fm), vs = [.ref a, .ref b] ∧ RuleAt K C CR H l r a ∧ RuleOk l r ∧ FormAt K C H f b ∧ f.Ok ∧ f.text.length ≤ 40000 ∧ (useR l r f = none → ∀ H', Fr [] H H' → Q .non H') ∧
  ∀ (z : Fm) (x : Addr) (H' : Hp), useR l r f = some z → Fr [] H H' → FormAt K C H' z x → Q (.ref x) H'
theorem u_use {a b : Addr} {l r f : Fm} (h1 : RuleAt K C CR H l r a) (h2 : RuleOk l r) (h3 : FormAt K C H f b) (h4 : f.Ok) (h5 : f.text.length ≤ 40000) (hno : useR l r f = none → ∀ H', Fr [] H H' → Kp H H' → Q .non H')
    (h : ∀ (z : Fm) (x : Addr) (H' : Hp), useR l r f = some z → Fr [] H H' → Kp H H' → FormAt K C H' z x → Q (.ref x) H') : spUse K C CR [.ref a, .ref b] H Q E :=
  ⟨a, b, l, r, f, rfl, h1, h2, h3, h4, h5, fun e H' g => hno e H' g (.of_same g.same), fun z x H' e g => h z x H' e g (.of_same g.same)⟩
end
theorem pfR1 {v : V} : putF ("left" : Str) v [] = [(("left" : Str), v)] := rfl
theorem pfR2 {v w : V} : putF ("right" : Str) w [(("left" : Str), v)] = [(("left" : Str), v), (("right" : Str), w)] := by rw [putF_ne n_lr]; rfl
theorem pfR3 {v w u : V} : putF ("text" : Str) u [(("left" : Str), v), (("right" : Str), w)] = [(("left" : Str), v), (("right" : Str), w), (("text" : Str), u)] := by rw [putF_ne n_lt, putF_ne n_rt]; rfl
theorem bind1_keys {p q : Fm} {z : List (List Nat × Fm)} (h : bind1 p q = some z) : z.map (·.1) = keys1 p := by
  unfold bind1 at h
  unfold keys1
  by_cases h1 : isLet p.name = true
  · rw [if_pos h1] at h ⊢
    cases h; rfl
  · rw [if_neg h1] at h ⊢
    split at h
    · rename_i h2
      cases h
      rw [List.map_map]
      have e : ((fun x : List Nat × Fm => x.1) ∘ fun z : Fm × Fm => (z.1.name, z.2)) = Fm.name ∘ Prod.fst := rfl
      rw [e, ← List.map_map, List.map_fst_zip (by omega)]
    · cases h
theorem bindP_keys : ∀ {ps qs : List Fm} {z : List (List Nat × Fm)}, ps.length = qs.length → bindP ps qs = some z → z.map (·.1) = keysOf ps
  | [], [], z, _, h => by cases h; rfl
  | p :: ps, q :: qs, z, hl, h => by
    have h2 : (bind1 p q).bind (fun a => (bindP ps qs).map (a ++ ·)) = some z := h
    cases e : bind1 p q with
    | none => rw [e] at h2; cases h2
    | some a =>
      rw [e] at h2
      cases e2 : bindP ps qs with
      | none => rw [e2] at h2; cases h2
      | some b =>
        rw [e2] at h2
        cases h2
        have ih := bindP_keys (by simpa using hl) e2
        simp [keysOf, bind1_keys e] at ih ⊢
        rw [ih]
theorem BndAt.mono {K : PySem.W.Frag} {C : Addr} {H H' : Hp} (k : Kp H H') {b : List (List Nat × Fm)} {kvs : List (Key × V)} (h : BndAt (FormAt K C H) b kvs) : BndAt (FormAt K C H') b kvs := h.imp fun _ _ z => z.mono k
/-! ### splitting a text -/
theorem pre_split {Z : List Nat} {l : List Nat} (h : TL.pre Z l = true) : l = Z ++ l.drop Z.length := by
  have e : l.take Z.length = Z := beq_iff_eq.mp h
  conv => lhs; rw [← List.take_append_drop Z.length l, e]
theorem spl_ne (Z : List Nat) : ∀ (l acc : List Nat) (k : Nat), TL.spl Z k acc l ≠ []
  | [], acc, k => by rw [TL.spl_nil]; simp
  | c :: r, acc, k => by
    rw [TL.spl_pass]
    cases e : (c :: r).drop k with
    | nil => rw [TL.spl_nil]; simp
    | cons d s =>
      have hl : s.length < (c :: r).length := by
        have := congrArg List.length e
        rw [List.length_drop] at this
        simp only [List.length_cons] at this ⊢; omega
      by_cases h : TL.pre Z (d :: s) = true
      · rw [TL.spl_hit h]; simp
      · rw [TL.spl_miss (by simpa using h)]
        exact spl_ne Z s _ 0
  termination_by l => l.length
theorem joinL_cons {Z x : List Nat} {l : List (List Nat)} (h : l ≠ []) : TL.joinL Z (x :: l) = x ++ Z ++ TL.joinL Z l := by
  cases l with
  | nil => exact absurd rfl h
  | cons y r => simp [TL.joinL]
theorem spl_back {Z : List Nat} (hZ : Z ≠ []) : ∀ (n : Nat) (l acc : List Nat), l.length ≤ n → TL.joinL Z (TL.spl Z 0 acc l) = acc ++ l
  | 0, l, acc, h => by
    have e : l = [] := List.eq_nil_of_length_eq_zero (by omega)
    subst e
    rw [TL.spl_nil]; simp [TL.joinL]
  | n + 1, [], acc, h => by rw [TL.spl_nil]; simp [TL.joinL]
  | n + 1, c :: r, acc, h => by
    by_cases hp : TL.pre Z (c :: r) = true
    · rw [TL.spl_hit hp, TL.spl_pass, joinL_cons (spl_ne _ _ _ _), spl_back hZ n _ [] (by rw [List.length_drop]; simp at h; omega)]
      have e := pre_split hp
      have hz : 0 < Z.length := List.length_pos_iff.mpr hZ
      have e2 : (c :: r).drop Z.length = r.drop (Z.length - 1) := by
        obtain ⟨m, hm⟩ : ∃ m, Z.length = m + 1 := ⟨Z.length - 1, by omega⟩
        rw [hm]; simp
      rw [e2] at e
      rw [e]; simp
    · rw [TL.spl_miss (by simpa using hp), spl_back hZ n r _ (by simp at h; omega)]; simp
theorem spl_two {Z a x y : List Nat} (hZ : Z ≠ []) (h : TL.spl Z 0 [] a = [x, y]) : a = x ++ (Z ++ y) := by
  have e := spl_back hZ a.length a [] (Nat.le_refl _)
  rw [h] at e
  simpa [TL.joinL] using e.symm
theorem split_S (a b : List Nat) (hb : b ≠ []) (hk : b.all (· < 256) = true) : (Txt.split (S a) (S b)).map V.str = vS (TL.spl b 0 [] a) := by
  have h := TL.split_spl (S a) (S b) (by rw [tl_S]; exact hb) (TL.kind_ok (by simpa [S] using hk))
  rw [tl_S, tl_S] at h
  rw [← h]
  unfold vS
  rw [List.map_map]
  refine List.map_congr_left fun z _ => ?_
  show V.str z = V.str (S (TL.tl z))
  rw [show S (TL.tl z) = z from TL.mk_tl z]
section
variable {H : Hp} {Q : VK} {a b : List Nat}
theorem u_split (hl : a.length ≤ 1000000) (hb : b ≠ []) (hk : b.all (· < 256) = true) (h : ∀ q H1, H q = none → Fr [] H H1 → Kp H H1 → H1 q = some (.lst (vS (TL.spl b 0 [] a))) → Q (.ref q) H1) :
    (fun x xs H Q => ∃ a b : Str, x = V.str a ∧ xs = [V.str b] ∧ (b.length == 0) = false ∧ a.length + 2 ≤ sizeLine ∧ rNewStrs (Txt.split a b) H Q) (V.str (S a)) [V.str (S b)] H Q := by
  refine ⟨S a, S b, rfl, rfl, ?_, by rw [S_len, sizeLine_eq]; omega, fun p hp => ?_⟩
  · cases b with
    | nil => exact absurd rfl hb
    | cons c r => rfl
  · rw [split_S a b hb hk]
    exact h p _ hp (Fr.upd_new hp) (Kp.upd_new hp) upd_same
end
def two2 : List V → Prop := fun ws => ∃ (z : List Nat) (v : V), ws = [.str (S z), v] ∧ z.length ≤ 1000
def gTwo (f g : Str) : List V → List (Str × V) := fun ws => [(g, ws.getD 1 .non), (f, ws.getD 0 .non)]
def spRRead (K : PySem.W.Frag) (C CR CG CB : Addr) : Sp := fun vs H Q E => ∃ (a : List Nat), vs = [.ref CR, .str (S a)] ∧ a.length ≤ 1000 ∧ (∀ (l r : Fm) (x : Addr) (H' : Hp), ruleParse a = .ok l r → Fr [] H H' → RuleAt K C CR H' l r x → Q (.ref x) H') ∧
  (ruleParse a = .garbled → ∀ (d : Addr) (H' : Hp), Fr [] H H' → H' d = some (.xd [("line", .int 0)]) → E (.ref CG) (some d) H') ∧
  ∀ z, ruleParse a = .bad z → ∀ (d : Addr) (H' : Hp), Fr [] H H' → H' d = some (.xd [("line", .int 0), ("reason", .str (S z))]) → E (.ref CB) (some d) H'
theorem u_mkRule {K : PySem.W.Frag} {C CR a b : Addr} {l r : Fm} {E : XK} {H : Hp} {Q : VK} (h1 : FormAt K C H l a) (h2 : FormAt K C H r b) (hl : l.text.length + r.text.length ≤ 100000)
    (h : ∀ (x : Addr) (H' : Hp), Fr [] H H' → Kp H H' → H x = none → RuleAt K C CR H' l r x → Q (.ref x) H') : MKk CR (spRInit K C CR) [] E Q [.ref a, .ref b] H := fun x dx nx nd ne => by
  have f0 := mk_start (C := CR) nx nd
  have k0 : Kp H (upd (upd H dx (.own x)) x (.ins CR dx [])) := .of_same f0.same
  exact ⟨x, dx, a, b, l, r, rfl, upd_same, h1.mono k0, h2.mono k0, hl, fun H' f hr => ⟨rfl, h x H' (mk_frame nx nd f) (.of_same (mk_frame nx nd f).same) nx hr⟩⟩
theorem u_notN2 {a : Str} {H : Hp} {Q : VK} (h : Q (.bl true) H) : rNotN (.str a) .non H Q := ⟨rfl, h⟩
theorem fault_len {l r : Fm} {z : List Nat} (h : fault l r = some z) : z.length ≤ 8 := by
  unfold fault at h
  repeat' split at h
  all_goals (first | cases h | skip)
  all_goals decide
theorem text_part_le {t p : Fm} (h : p ∈ t.parts) : p.text.length ≤ t.text.length := Nat.le_of_lt (Fm.text_part h)
theorem bind1_text {p q : Fm} {z : List (List Nat × Fm)} (h : bind1 p q = some z) : ∀ e ∈ z, e.2.text.length ≤ q.text.length ∧ (q.Ok → e.2.Ok) ∧ e.2.depth ≤ q.depth ∧ e.2.size ≤ q.size := by
  unfold bind1 at h
  split at h
  · cases h
    intro e he
    rw [List.mem_singleton.mp he]
    exact ⟨Nat.le_refl _, id, Nat.le_refl _, Nat.le_refl _⟩
  · split at h
    · cases h
      intro e he
      obtain ⟨x, hx, rfl⟩ := List.mem_map.mp he
      have hm := (List.of_mem_zip (show (x.1, x.2) ∈ _ from hx)).2
      exact ⟨text_part_le hm, fun o => o.part hm, Nat.le_of_lt (Fm.depth_part hm), Nat.le_of_lt (Fm.size_part hm)⟩
    · cases h
theorem bindP_text {n d s : Nat} : ∀ {ps qs : List Fm} {z : List (List Nat × Fm)}, bindP ps qs = some z → (∀ q ∈ qs, q.text.length ≤ n ∧ q.Ok ∧ q.depth ≤ d ∧ q.size ≤ s) → ∀ e ∈ z, e.2.text.length ≤ n ∧ e.2.Ok ∧ e.2.depth ≤ d ∧ e.2.size ≤ s
  | [], _, z, h, _ => by cases h; simp
  | _ :: _, [], z, h, _ => by cases h; simp
  | p :: ps, q :: qs, z, h, hq => by
    have h2 : (bind1 p q).bind (fun a => (bindP ps qs).map (a ++ ·)) = some z := h
    cases e : bind1 p q with
    | none => rw [e] at h2; cases h2
    | some a =>
      rw [e] at h2
      cases e2 : bindP ps qs with
      | none => rw [e2] at h2; cases h2
      | some b =>
        rw [e2] at h2
        cases h2
        intro x hx
        rcases List.mem_append.mp hx with h3 | h3
        · have k1 := bind1_text e x h3
          have k2 := hq q (by simp)
          exact ⟨Nat.le_trans k1.1 k2.1, k1.2.1 k2.2.1, Nat.le_trans k1.2.2.1 k2.2.2.1, Nat.le_trans k1.2.2.2 k2.2.2.2⟩
        · exact bindP_text e2 (fun y hy => hq y (by simp [hy])) x h3
theorem binds_text {l f : Fm} {z : List (List Nat × Fm)} (h : binds l f = some z) (ok : f.Ok) : ∀ e ∈ z, e.2.text.length ≤ f.text.length ∧ e.2.Ok ∧ e.2.depth ≤ f.depth ∧ e.2.size ≤ f.size := by
  unfold binds at h
  split at h
  · exact bindP_text h fun q hq => ⟨text_part_le hq, ok.part hq, Nat.le_of_lt (Fm.depth_part hq), Nat.le_of_lt (Fm.size_part hq)⟩
  · cases h
theorem lookup_mem {b : List (List Nat × Fm)} {k : List Nat} {t : Fm} (h : b.lookup k = some t) : ∃ k', (k', t) ∈ b := by
  induction b with
  | nil => cases h
  | cons p b ih =>
    obtain ⟨pk, pt⟩ := p
    rw [List.lookup_cons] at h
    by_cases e : k = pk
    · subst e
      simp at h
      exact ⟨k, by rw [h]; simp⟩
    · rw [beq_eq_false_iff_ne.mpr e] at h
      obtain ⟨k', hk⟩ := ih h
      exact ⟨k', List.mem_cons_of_mem _ hk⟩
theorem lookB_le {l f p : Fm} {z : List (List Nat × Fm)} {n : Nat} (h : binds l f = some z) (ok : f.Ok) (hf : f.text.length ≤ n) (hp : p.text.length ≤ n) : (lookB z p).text.length ≤ n := by
  unfold lookB
  cases e : z.lookup p.name with
  | none => exact hp
  | some t =>
    obtain ⟨k', hk⟩ := lookup_mem e
    exact Nat.le_trans (binds_text h ok _ hk).1 hf
theorem flat_leaf {r p : Fm} (h : ∀ p ∈ r.parts, p.parts = []) (ok : r.Ok) (hp : p ∈ r.parts) : p.text.length = 1 := by
  have h1 := h p hp
  have h2 := ok.part hp
  cases p with
  | leaf n => obtain ⟨c, rfl, _⟩ := h2; rfl
  | one n a => simp [Fm.parts] at h1
  | two n a b => simp [Fm.parts] at h1
theorem mk_text_le {n : List Nat} {ps : List Fm} {k : Nat} (hn : n.length ≤ 6) (h2 : ps.length ≤ 2) (h : ∀ p ∈ ps, p.text.length ≤ k) : (Fm.mk n ps).text.length ≤ 2 * k + 10 := by
  match ps, h2 with
  | [], _ => simp [Fm.mk, Fm.text]; omega
  | [a], _ => have := h a (by simp); simp [Fm.mk, Fm.text]; omega
  | [a, b], _ => have := h a (by simp); have := h b (by simp); simp [Fm.mk, Fm.text]; omega
end Rp
/-! RpDraw: what the laws draw of a book: names, kinds of operators, constants, rules, formulas of the book. -/
namespace Rp
open PySem PySem.Spec PyProof.Rows L2 SX C8
/-! ### names by islower, isdigit -/
def NmOk (n : List Nat) : Prop := LeafOk n ∨ NameOk n
theorem Fm.Ok.nm {t : Fm} (h : t.Ok) : NmOk t.name := by
  cases t with
  | leaf n => exact .inl h
  | one n a => exact .inr h.1
  | two n a b => exact .inr h.1
theorem islower_name {n : List Nat} (h : NmOk n) : Txt.islower (S n) = isLet n := by
  rcases h with ⟨c, rfl, hc⟩ | h
  · rcases hc with q | q
    · have := (by decide +kernel : ∀ c ∈ cLOW, Txt.islower (S [c]) = true) c (mem_low.mpr q)
      rw [this]
      exact (decide_eq_true (mem_low.mpr q)).symm
    · have := (by decide +kernel : ∀ c ∈ cDIG, Txt.islower (S [c]) = isLet [c]) c (mem_dig.mpr q)
      exact this
  · rw [isLet_name h]
    have h1 : (S n).cps.any Unicode.isLower = false := by
      show (n.toArray).any _ = false
      rw [List.any_toArray]
      refine Bool.eq_false_iff.mpr fun z => ?_
      obtain ⟨c, hc, hl⟩ := List.any_eq_true.mp z
      have := (by decide +kernel : ∀ c ∈ cCAP, Unicode.isLower c = false) c (mem_cap.mpr (h.caps c hc))
      rw [this] at hl; cases hl
    unfold Txt.islower
    rw [h1]; rfl
theorem isdigit_leaf {c : Nat} (h : isLow c ∨ isDig c) : Txt.isdigit (S [c]) = !low c := by
  rcases h with q | q
  · exact (by decide +kernel : ∀ c ∈ cLOW, Txt.isdigit (S [c]) = !low c) c (mem_low.mpr q)
  · exact (by decide +kernel : ∀ c ∈ cDIG, Txt.isdigit (S [c]) = !low c) c (mem_dig.mpr q)
section
variable {to : TE} {σ : L2.St} {H : Hp} {Q : VK}
def M0k (r : V → List V → Hp → VK → Prop) (Q : VK) : VK := fun x H1 => (∃ a, x = .str a) ∧ r x [] H1 Q
theorem u_m0 {r : V → List V → Hp → VK → Prop} (h : to σ H (M0k r Q)) : tM0 r to σ H Q := h
theorem u_lower {n : List Nat} (hn : NmOk n) (h : Q (.bl (isLet n)) H) : M0k (fun x xs H Q => ∃ a, x = .str a ∧ xs = [] ∧ True ∧ Q (.bl (Txt.islower a)) H) Q (.str (S n)) H := ⟨⟨_, rfl⟩, _, rfl, rfl, trivial, by rw [islower_name hn]; exact h⟩
theorem u_digit {c : Nat} (hc : isLow c ∨ isDig c) (h : Q (.bl (!low c)) H) : M0k (fun x xs H Q => ∃ a, x = .str a ∧ xs = [] ∧ True ∧ Q (.bl (Txt.isdigit a)) H) Q (.str (S [c])) H := ⟨⟨_, rfl⟩, _, rfl, rfl, trivial, by rw [isdigit_leaf hc]; exact h⟩
end
/-! ### two pools -/
theorem ne_nin2a {a b c : Addr} (h : a ∉ [b, c]) : a ≠ b := fun e => h (by simp [e])
theorem ne_nin2b {a b c : Addr} (h : a ∉ [b, c]) : a ≠ c := fun e => h (by simp [e])
theorem Fr.poolT {H H1 : Hp} {p q l l' : Addr} (f : Fr [q] H H1) (n : p ≠ q) (g : PoolAt H q l') (h : PoolAt H p l) : PoolAt H1 p l := h.turn g n f
theorem Fr.pool2 {H H1 : Hp} {p q r l l' l'' : Addr} (f : Fr [q, r] H H1) (n : p ≠ q) (n' : p ≠ r) (g : PoolAt H q l') (g' : PoolAt H r l'') (h : PoolAt H p l) : PoolAt H1 p l := by
  obtain ⟨ns, i, d, s, t, h1, h2, h3⟩ := h
  have nl : ∀ {q' l0 : Addr}, PoolAt H q' l0 → l ≠ q' := fun {q' l0} g => by
    obtain ⟨ns', i', d', s', t', g1, g2, g3⟩ := g
    refine ne_of h2 g1 fun e => ?_
    cases ns with
    | nil => simp at e
    | cons a r => simp at e
  have a1 := nl g
  have a2 := nl g'
  exact ⟨ns, i, d, s, t, f _ _ (by simp [n, n']) h1, f _ _ (by simp [a1, a2]) h2, h3⟩
theorem Fr.free1 {H H1 : Hp} {p q : Addr} (f : Fr [p] H H1) (n : q ≠ p) (h : H1 q = none) : H q = none := by
  cases e : H q with
  | none => rfl
  | some o => rw [f _ _ (nin1 n) e] at h; cases h
theorem kp2 {H H' : Hp} {p q l l' : Addr} (h : PoolAt H p l) (h' : PoolAt H q l') (f : Fr [p, q] H H') : Kp H H' := by
  obtain ⟨ns, i, d, s, t, h1, _⟩ := h
  obtain ⟨ns', i', d', s', t', g1, _⟩ := h'
  exact f.kp fun a ha o e => by
    have z : a = p ∨ a = q := by simpa using ha
    rcases z with z | z
    · rw [z, h1] at e; cases e; exact imm_lst
    · rw [z, g1] at e; cases e; exact imm_lst
/-! ### names that differ -/
def capOf (r : Int) : Nat := 65 + r.toNat
theorem capOf_at {r : Int} (h0 : 0 ≤ r) (h1 : r < 26) : atI cCAP r = some (capOf r) ∧ isCap (capOf r) := by
  obtain ⟨n, rfl⟩ := Int.eq_ofNat_of_zero_le h0
  have hn : n < 26 := by omega
  have e : atI cCAP (n : Int) = cCAP[n]? := by
    unfold atI ixN
    rw [if_pos (by omega), if_pos (by show (n : Int) < 26; omega)]
    simp
  rw [e]
  have := (by decide +kernel : ∀ m, m < 26 → cCAP[m]? = some (65 + m)) n hn
  refine ⟨by rw [this]; unfold capOf; simp, ?_⟩
  unfold capOf isCap; simp; omega
def Mk (ba : Int) (j c : Nat) : Prop := ∃ d : Int, 0 ≤ d ∧ d < 8 ∧ c = capOf ((ba + 3 * d + j) % 26)
theorem Mk.one {ba : Int} {i j c : Nat} (h : Mk ba i c) (h' : Mk ba j c) (hi : i < 3) (hj : j < 3) : i = j := by
  obtain ⟨d, d0, d1, e⟩ := h
  obtain ⟨d', d0', d1', e'⟩ := h'
  have : ((ba + 3 * d + i) % 26) = ((ba + 3 * d' + j) % 26) := by
    have h1 := Int.emod_nonneg (ba + 3 * d + i) (show (26 : Int) ≠ 0 by decide)
    have h2 := Int.emod_nonneg (ba + 3 * d' + j) (show (26 : Int) ≠ 0 by decide)
    unfold capOf at e e'
    omega
  have q : (ba + 3 * d + i) / 26 = (ba + 3 * d' + j) / 26 := by omega
  omega
def WordsOk (key : List Nat → Option Nat) (ba : Int) (ws : List (List Nat)) : Prop := ∀ j w, ws[j]? = some w → NameOk w ∧ ∃ c, key w = some c ∧ Mk ba j c
theorem WordsOk.nil {key : List Nat → Option Nat} {ba : Int} : WordsOk key ba [] := fun j w h => by simp at h
theorem WordsOk.snoc {key : List Nat → Option Nat} {ba : Int} {ws : List (List Nat)} (h : WordsOk key ba ws) {w : List Nat} {c : Nat} (hw : NameOk w) (hk : key w = some c) (hm : Mk ba ws.length c) : WordsOk key ba (ws ++ [w]) := fun j v e => by
  by_cases hj : j < ws.length
  · rw [List.getElem?_append_left hj] at e
    exact h j v e
  · have hl := (List.getElem?_eq_some_iff.mp e).1
    have ej : j = ws.length := by simp at hl; omega
    subst ej
    rw [List.getElem?_append_right (by omega), Nat.sub_self] at e
    cases e
    exact ⟨hw, c, hk, hm⟩
theorem WordsOk.names {key : List Nat → Option Nat} {ba : Int} {ws : List (List Nat)} (h : WordsOk key ba ws) : ∀ w ∈ ws, NameOk w := fun w hw => by
  obtain ⟨j, hj⟩ := List.getElem?_of_mem hw
  exact (h j w hj).1
theorem WordsOk.nodup {key : List Nat → Option Nat} {ba : Int} {ws : List (List Nat)} (h : WordsOk key ba ws) (hl : ws.length ≤ 3) : ws.Nodup := by
  refine List.pairwise_iff_getElem.mpr fun i j hi hj hij e => ?_
  obtain ⟨_, c, k1, m1⟩ := h j _ (List.getElem?_eq_getElem hj)
  obtain ⟨_, c', k2, m2⟩ := h i _ (List.getElem?_eq_getElem hi)
  rw [e, k1] at k2; cases k2
  exact absurd (m2.one m1 (by omega) (by omega)) (by omega)
theorem nameOk_of {w : List Nat} (h : ∀ c ∈ w, isCap c) (h1 : 1 ≤ w.length) (h2 : w.length ≤ 6) : NameOk w := ⟨h1, h2, h⟩
theorem cutL_take {a : List Nat} {n : Nat} (h : n ≤ a.length) : cutL a none (some (n : Int)) = a.take n := by
  unfold cutL
  rw [HT.sIx_none, HT.sIx_nat, Nat.min_eq_left h, List.drop_zero, Nat.sub_zero]
theorem cutL_drop {a : List Nat} {n : Nat} (h : n ≤ a.length) : cutL a (some (n : Int)) none = a.drop n := by
  unfold cutL
  rw [HT.sIx_nat, HT.sIx_none, Nat.min_eq_left h]
  exact List.take_of_length_le (by simp)
/-! ### operators and constants -/
abbrev Ops := List (List Nat × Nat)
structure OpsOk (ops : Ops) : Prop where
  ne : ops ≠ []
  le : ops.length ≤ 3
  ok : ∀ o ∈ ops, NameOk o.1 ∧ (o.2 = 1 ∨ o.2 = 2)
  nd : (ops.map (·.1)).Nodup
structure CsOk (cs : List Nat) : Prop where
  le : cs.length ≤ 2
  ok : ∀ c ∈ cs, isDig c
  nd : cs.Nodup
/-- a formula of the book -/
def Fm.In (ops : Ops) (cs : List Nat) : Fm → Prop
  | .leaf n => ∃ c, n = [c] ∧ (isLow c ∨ c ∈ cs)
  | .one n a => (n, 1) ∈ ops ∧ a.In ops cs
  | .two n a b => (n, 2) ∈ ops ∧ a.In ops cs ∧ b.In ops cs
theorem Fm.In.ok {ops : Ops} {cs : List Nat} (ho : OpsOk ops) (hc : CsOk cs) : ∀ {t : Fm}, t.In ops cs → t.Ok
  | .leaf n, ⟨c, e, h⟩ => ⟨c, e, h.imp id (hc.ok c)⟩
  | .one n a, ⟨h1, h2⟩ => ⟨(ho.ok _ h1).1, h2.ok ho hc⟩
  | .two n a b, ⟨h1, h2, h3⟩ => ⟨(ho.ok _ h1).1, h2.ok ho hc, h3.ok ho hc⟩
theorem Fm.In.part {ops : Ops} {cs : List Nat} {t p : Fm} (h : t.In ops cs) (hp : p ∈ t.parts) : p.In ops cs := by
  cases t with
  | leaf n => cases hp
  | one n a =>
    have e : p = a := by simpa [Fm.parts] using hp
    subst e; exact h.2
  | two n a b =>
    have e : p = a ∨ p = b := by simpa [Fm.parts] using hp
    rcases e with e | e <;> subst e
    · exact h.2.1
    · exact h.2.2
theorem Fm.In.mk {ops : Ops} {cs : List Nat} {n : List Nat} {k : Nat} {ps : List Fm} (ho : OpsOk ops) (h : (n, k) ∈ ops) (hl : ps.length = k) (hp : ∀ p ∈ ps, p.In ops cs) : (Fm.mk n ps).In ops cs := by
  have hk := (ho.ok _ h).2
  match ps, hl with
  | [], hl => simp at hl; subst hl; simp at hk
  | [a], hl => simp at hl; subst hl; exact ⟨h, hp a (by simp)⟩
  | [a, b], hl => simp at hl; subst hl; exact ⟨h, hp a (by simp), hp b (by simp)⟩
  | a :: b :: c :: r, hl =>
    simp at hl
    have hk' : k = 1 ∨ k = 2 := hk
    omega
/-- a rule of the book that is allowed -/
structure RuleIn (ops : Ops) (cs : List Nat) (l r : Fm) : Prop where
  ok : RuleOk l r
  inl : l.In ops cs
  inr : r.In ops cs
  dep : l.depth ≤ 2
def OpsAt (K : PySem.W.Frag) (H : Hp) : Ops → List V → Prop := Paired fun o v => ∃ t, v = .ref t ∧ SqT K H t [.str (S o.1), .int (o.2 : Int)]
theorem OpsAt.mono {K : PySem.W.Frag} {H H' : Hp} (k : Kp H H') {ops : Ops} {vs : List V} (h : OpsAt K H ops vs) : OpsAt K H' ops vs := by
  induction h with
  | nil => exact .nil
  | cons r _ ih => obtain ⟨t, e, z⟩ := r; exact .cons ⟨t, e, k.sqT z⟩ ih
theorem OpsAt.append {K : PySem.W.Frag} {H : Hp} {a b : Ops} {vs ws : List V} (h : OpsAt K H a vs) (h' : OpsAt K H b ws) : OpsAt K H (a ++ b) (vs ++ ws) := by
  induction h with
  | nil => exact h'
  | cons r _ ih => exact .cons r ih
theorem OpsAt.get {K : PySem.W.Frag} {H : Hp} : ∀ {ops : Ops} {vs : List V} {i : Nat}, OpsAt K H ops vs → i < ops.length → ∃ o t, ops[i]? = some o ∧ vs[i]? = some (.ref t) ∧ SqT K H t [.str (S o.1), .int (o.2 : Int)]
  | _, _, _, .nil, h => by simp at h
  | o :: _, _, 0, .cons ⟨t, e, z⟩ _, _ => ⟨o, t, rfl, by rw [e]; rfl, z⟩
  | _ :: os, _, i + 1, .cons _ p, h => by
    obtain ⟨o, t, h1, h2, h3⟩ := OpsAt.get (i := i) p (by simpa using h)
    exact ⟨o, t, by simpa using h1, by simpa using h2, h3⟩
theorem OpsAt.pick {K : PySem.W.Frag} {H : Hp} {ops : Ops} {vs : List V} {r : Int} (h : OpsAt K H ops vs) (h0 : 0 ≤ r) (h1 : r < vs.length) : ∃ o t, o ∈ ops ∧ atI vs r = some (.ref t) ∧ SqT K H t [.str (S o.1), .int (o.2 : Int)] := by
  have hl : ops.length = vs.length := Paired.length h
  obtain ⟨o, t, h1, h2, h3⟩ := h.get (i := r.toNat) (by omega)
  exact ⟨o, t, List.mem_of_getElem? h1, at_of (j := r.toNat) (by omega) h2, h3⟩
/-- a list of texts of one sign -/
def vC (cs : List Nat) : List V := vS (cs.map fun c => [c])
theorem vC_len (cs : List Nat) : (vC cs).length = cs.length := by simp [vC, vS]
theorem vC_pick {cs : List Nat} {r : Int} (h0 : 0 ≤ r) (h1 : r < cs.length) : ∃ c, c ∈ cs ∧ atI (vC cs) r = some (.str (S [c])) := by
  obtain ⟨v, hv, e⟩ := atI_in (xs := vC cs) h0 (by rw [vC_len]; exact h1)
  unfold vC vS at e
  rw [List.getElem?_map, List.getElem?_map] at e
  cases q : cs[r.toNat]? with
  | none => rw [q] at e; cases e
  | some c => rw [q] at e; exact ⟨c, List.mem_of_getElem? q, by rw [hv, ← e]; rfl⟩
theorem low_of {c : Nat} (h : isLow c) : low c = true := decide_eq_true (mem_low.mpr h)
theorem low_dig {c : Nat} (h : isDig c) : low c = false := by
  refine decide_eq_false fun z => ?_
  have := mem_low.mp z
  unfold isLow at this; unfold isDig at h; omega
theorem lets_leaf (c : Nat) : (Fm.leaf [c]).lets = if low c = true then [c] else [] := by
  unfold Fm.lets Fm.text
  cases h : low c <;> simp [h]
theorem mk_parts' {n : List Nat} {ps : List Fm} (h : ps.length ≤ 2) : (Fm.mk n ps).parts = ps := by
  match ps, h with
  | [], _ => rfl
  | [a], _ => rfl
  | [a, b], _ => rfl
theorem lets_mk {n : List Nat} {ps : List Fm} (hn : NameOk n) (h1 : 1 ≤ ps.length) (h2 : ps.length ≤ 2) (ho : ∀ p ∈ ps, p.Ok) : (Fm.mk n ps).lets = (ps.map Fm.lets).flatten := by
  have e := lets_parts (Fm.mk_ok hn h1 h2 ho) (by rw [mk_parts' h2]; exact List.ne_nil_of_length_pos (by omega))
  rw [e, mk_parts' h2]
theorem lets_leaves (us : List Nat) : ((us.map fun c => Fm.leaf [c]).map Fm.lets).flatten = us.filter low := by
  induction us with
  | nil => rfl
  | cons u r ih =>
    rw [List.map_cons, List.map_cons, List.flatten_cons, ih, lets_leaf]
    cases h : low u <;> simp [h]
theorem size_leaves (n : List Nat) {us : List Nat} (h2 : us.length ≤ 2) : (Fm.mk n (us.map fun c => Fm.leaf [c])).size = 1 + us.length := by
  match us, h2 with
  | [], _ => rfl
  | [a], _ => rfl
  | [a, b], _ => rfl
/-- a right side of these letters and constants -/
structure RightOk (ops : Ops) (cs ls : List Nat) (z : Int) (r : Fm) : Prop where
  inn : r.In ops cs
  flat : ∀ p ∈ r.parts, p.parts = []
  lets : ∀ x ∈ r.lets, x ∈ ls
  nd : r.lets.Nodup
  size : (r.size : Int) < z
theorem RightOk.leaf {ops : Ops} {cs ls : List Nat} {z : Int} {u : Nat} (co : CsOk cs) (hl : ∀ x ∈ ls, isLow x) (h : u ∈ ls ∨ u ∈ cs) (h2 : 2 ≤ z) : RightOk ops cs ls z (.leaf [u]) where
  inn := ⟨u, rfl, h.imp (hl u) id⟩
  flat := fun p hp => by cases hp
  lets := fun x hx => by
    rw [lets_leaf] at hx
    rcases h with h | h
    · rw [if_pos (low_of (hl u h))] at hx
      rw [List.mem_singleton.mp hx]; exact h
    · rw [if_neg (by rw [low_dig (co.ok u h)]; simp)] at hx
      cases hx
  nd := by
    rw [lets_leaf]
    cases low u <;> simp
  size := by show (1 : Int) < z; omega
theorem RightOk.node {ops : Ops} {cs ls us : List Nat} {z : Int} {n : List Nat} {k : Nat} (oo : OpsOk ops) (co : CsOk cs) (hl : ∀ x ∈ ls, isLow x) (ho : (n, k) ∈ ops) (hk : us.length = k) (hu : ∀ u ∈ us, u ∈ ls ∨ u ∈ cs) (nd : (us.filter low).Nodup) (h2 : (k : Int) + 1 < z) : RightOk ops cs ls z (.mk n (us.map fun c => .leaf [c])) := by
  have hn := oo.ok _ ho
  have hk2 : k = 1 ∨ k = 2 := hn.2
  have hin : ∀ p ∈ us.map fun c => Fm.leaf [c], p.In ops cs := fun p hp => by
    obtain ⟨u, hu', rfl⟩ := List.mem_map.mp hp
    exact ⟨u, rfl, (hu u hu').imp (hl u) id⟩
  have el : (Fm.mk n (us.map fun c => Fm.leaf [c])).lets = us.filter low := by
    rw [lets_mk hn.1 (by simp; omega) (by simp; omega) (fun p hp => (hin p hp).ok oo co), lets_leaves]
  refine ⟨Fm.In.mk oo ho (by simp [hk]) hin, ?_, ?_, by rw [el]; exact nd, by rw [size_leaves n (by omega)]; omega⟩
  · intro p hp
    rw [mk_parts' (by simp; omega)] at hp
    obtain ⟨u, _, rfl⟩ := List.mem_map.mp hp
    rfl
  · intro x hx
    rw [el] at hx
    obtain ⟨h1, h3⟩ := List.mem_filter.mp hx
    rcases hu x h1 with h | h
    · exact h
    · rw [low_dig (co.ok x h)] at h3; cases h3
/-- what is left of letters and constants when these are used -/
def spare (ls cs us : List Nat) : List Nat := (ls ++ cs).filter fun x => decide (x ∉ us) || !low x
theorem spare_nil (ls cs : List Nat) : spare ls cs [] = ls ++ cs := by
  unfold spare
  rw [List.filter_eq_self]
  intro x _; simp
theorem spare_step (ls cs us : List Nat) (u : Nat) : (spare ls cs us).filter (fun x => decide (x ≠ u) || !low x) = spare ls cs (us ++ [u]) := by
  unfold spare
  rw [List.filter_filter]
  refine List.filter_congr fun x _ => ?_
  by_cases h1 : x ∈ us <;> by_cases h2 : x = u <;> cases h3 : low x <;> simp [h1, h2]
theorem spare_ne {ls cs us : List Nat} {a : Nat} (hl : ls.Nodup) (hc : ∀ c ∈ cs, isDig c) (ha : a ≤ 2) (h1 : us.length < a) (h2 : a ≤ (ls ++ cs).length) : spare ls cs us ≠ [] := fun e => by
  have hall : ∀ x ∈ ls ++ cs, x ∈ us ∧ low x = true := fun x hx => by
    by_cases h : (decide (x ∉ us) || !low x) = true
    · have : x ∈ spare ls cs us := List.mem_filter.mpr ⟨hx, h⟩
      rw [e] at this; cases this
    · simpa using h
  have hcn : cs = [] := by
    cases cs with
    | nil => rfl
    | cons c r =>
      have := (hall c (by simp)).2
      rw [low_dig (hc c (by simp))] at this; cases this
  subst hcn
  rw [List.append_nil] at h2 hall
  match us, h1 with
  | [], h1 =>
    cases ls with
    | nil => simp at h2; subst h2; simp at h1
    | cons x r => exact absurd (hall x (by simp)).1 (by simp)
  | [u], h1 =>
    have ea : a = 2 := by simp at h1; omega
    subst ea
    match ls, h2, hl with
    | x :: y :: r, _, hl =>
      have hx : x = u := by simpa using (hall x (by simp)).1
      have hy : y = u := by simpa using (hall y (by simp)).1
      subst hx; subst hy
      simp at hl
  | u :: v :: r, h1 => simp at h1; omega
theorem mem_spare {ls cs us : List Nat} {x : Nat} (h : x ∈ spare ls cs us) : (x ∈ ls ∨ x ∈ cs) ∧ (x ∉ us ∨ low x = false) := by
  obtain ⟨h1, h2⟩ := List.mem_filter.mp h
  exact ⟨List.mem_append.mp h1, by simpa using h2⟩
theorem nodup_low {us : List Nat} {u : Nat} (h : (us.filter low).Nodup) (hu : u ∉ us ∨ low u = false) : ((us ++ [u]).filter low).Nodup := by
  rw [List.filter_append]
  cases q : low u with
  | false => simpa [q] using h
  | true =>
    have : u ∉ us := hu.resolve_right (by rw [q]; simp)
    rw [List.nodup_append]
    refine ⟨h, by simp [q], fun x hx y hy e => ?_⟩
    have e1 : y = u := by simpa [q] using hy
    subst e1; subst e
    exact this (List.mem_filter.mp hx).1
/-! ### the letters of a rule -/
def lowOf (r : Int) : Nat := 97 + r.toNat
theorem lowOf_at {r : Int} (h0 : 0 ≤ r) (h1 : r < 26) : atI cLOW r = some (lowOf r) ∧ isLow (lowOf r) := by
  obtain ⟨n, rfl⟩ := Int.eq_ofNat_of_zero_le h0
  have hn : n < 26 := by omega
  have e : atI cLOW (n : Int) = cLOW[n]? := by
    unfold atI ixN
    rw [if_pos (by omega), if_pos (by show (n : Int) < 26; omega)]
    simp
  rw [e]
  have := (by decide +kernel : ∀ m, m < 26 → cLOW[m]? = some (97 + m)) n hn
  refine ⟨by rw [this]; unfold lowOf; simp, ?_⟩
  unfold lowOf isLow; simp; omega
def lettK (ba st : Int) (k : Nat) : Nat := lowOf ((ba + st * k) % 26)
def lett (ba st : Int) (n : Nat) : List Nat := (List.range n).map (lettK ba st)
def steps : List Int := [1, 3, 5, 7, 9, 11, 15, 17, 19, 21, 23, 25]
theorem lett_low {ba st : Int} {n : Nat} : ∀ x ∈ lett ba st n, isLow x := fun x hx => by
  obtain ⟨k, _, rfl⟩ := List.mem_map.mp hx
  exact (lowOf_at (Int.emod_nonneg _ (by decide)) (Int.emod_lt_of_pos _ (by decide))).2
theorem lett_len (ba st : Int) (n : Nat) : (lett ba st n).length = n := by simp [lett]
theorem lett_get {ba st : Int} {n k : Nat} (h : k < n) : (lett ba st n)[k]? = some (lettK ba st k) := by simp [lett, h]
theorem lettK_one {ba st : Int} {i j : Nat} (hs : st ∈ steps) (hi : i < 4) (hj : j < 4) (e : lettK ba st i = lettK ba st j) : i = j := by
  have h1 := Int.emod_nonneg (ba + st * i) (show (26 : Int) ≠ 0 by decide)
  have h2 := Int.emod_nonneg (ba + st * j) (show (26 : Int) ≠ 0 by decide)
  have h3 : (ba + st * i) % 26 = (ba + st * j) % 26 := by
    unfold lettK lowOf at e
    omega
  have h4 : (st * i - st * j) % 26 = 0 := by omega
  have h5 : st * i - st * j = st * ((i : Int) - j) := by rw [Int.mul_sub]
  rw [h5] at h4
  have h6 : ∀ st ∈ steps, ∀ d ∈ ([-3, -2, -1, 1, 2, 3] : List Int), (st * d) % 26 ≠ 0 := by decide +kernel
  by_cases hd : (i : Int) - j = 0
  · omega
  · exact absurd h4 (h6 st hs _ (by
      have : (i : Int) - j = -3 ∨ (i : Int) - j = -2 ∨ (i : Int) - j = -1 ∨ (i : Int) - j = 1 ∨ (i : Int) - j = 2 ∨ (i : Int) - j = 3 := by omega
      simpa using this))
theorem lett_nodup {ba st : Int} (hs : st ∈ steps) : (lett ba st 4).Nodup := by
  refine List.pairwise_iff_getElem.mpr fun i j hi hj hij e => ?_
  have hi' : i < 4 := by simpa [lett] using hi
  have hj' : j < 4 := by simpa [lett] using hj
  have e' : lettK ba st i = lettK ba st j := by simpa [lett] using e
  exact absurd (lettK_one hs hi' hj' e') (by omega)
theorem ints_pick {ns : List Int} {r : Int} (h0 : 0 ≤ r) (h1 : r < ns.length) : ∃ z, z ∈ ns ∧ atI (ns.map V.int) r = some (.int z) := by
  obtain ⟨v, hv, e⟩ := atI_in (xs := ns.map V.int) h0 (by simpa using h1)
  rw [List.getElem?_map] at e
  cases q : ns[r.toNat]? with
  | none => rw [q] at e; cases e
  | some z => rw [q] at e; exact ⟨z, List.mem_of_getElem? q, by rw [hv, ← e]; rfl⟩
theorem lett_snoc (ba st : Int) (n : Nat) : lett ba st (n + 1) = lett ba st n ++ [lettK ba st n] := by simp [lett, List.range_succ]
theorem vC_snoc (cs : List Nat) (c : Nat) : vC (cs ++ [c]) = vC cs ++ [.str (S [c])] := by simp [vC, vS]
theorem vC_get {cs : List Nat} {i c : Nat} (h : cs[i]? = some c) : (vC cs)[i]? = some (.str (S [c])) := by simp [vC, vS, h]
theorem vC_at {cs : List Nat} {i : Nat} {r : Int} {c : Nat} (e : r = i) (h : cs[i]? = some c) : atI (vC cs) r = some (.str (S [c])) := by
  subst e
  exact at_of (j := i) rfl (vC_get h)
/-- the parts of a left side so far -/
structure LeftOk (ops : Ops) (cs L : List Nat) (used i : Nat) (ps : List Fm) : Prop where
  len : ps.length = i
  inn : ∀ p ∈ ps, p.In ops cs
  flat : ∀ p ∈ ps, ∀ q ∈ p.parts, isLet q.name = true
  dep : ∀ p ∈ ps, p.depth ≤ 1
  lets : (ps.map Fm.lets).flatten = L.take used
  le : used ≤ 2 * i
  use0 : used = 0 → i = 0 ∨ cs ≠ []
theorem LeftOk.nil {ops : Ops} {cs L : List Nat} : LeftOk ops cs L 0 0 [] := ⟨rfl, by simp, by simp, by simp, rfl, Nat.le_refl _, fun _ => .inl rfl⟩
theorem LeftOk.dig {ops : Ops} {cs L : List Nat} {used i c : Nat} {ps : List Fm} (h : LeftOk ops cs L used i ps) (co : CsOk cs) (hc : c ∈ cs) : LeftOk ops cs L used (i + 1) (ps ++ [.leaf [c]]) where
  len := by simp [h.len]
  inn := fun p hp => by
    rcases List.mem_append.mp hp with q | q
    · exact h.inn p q
    · rw [List.mem_singleton.mp q]; exact ⟨c, rfl, .inr hc⟩
  flat := fun p hp => by
    rcases List.mem_append.mp hp with q | q
    · exact h.flat p q
    · rw [List.mem_singleton.mp q]; intro q' hq'; cases hq'
  dep := fun p hp => by
    rcases List.mem_append.mp hp with q | q
    · exact h.dep p q
    · rw [List.mem_singleton.mp q]; exact Nat.zero_le _
  lets := by
    rw [List.map_append, List.flatten_append, h.lets]
    simp [lets_leaf, low_dig (co.ok c hc)]
  le := by have := h.le; omega
  use0 := fun _ => .inr (List.ne_nil_of_mem hc)
theorem LeftOk.letter {ops : Ops} {cs L : List Nat} {used i c : Nat} {ps : List Fm} (h : LeftOk ops cs L used i ps) (hL : ∀ x ∈ L, isLow x) (hc : L[used]? = some c) : LeftOk ops cs L (used + 1) (i + 1) (ps ++ [.leaf [c]]) where
  len := by simp [h.len]
  inn := fun p hp => by
    rcases List.mem_append.mp hp with q | q
    · exact h.inn p q
    · rw [List.mem_singleton.mp q]; exact ⟨c, rfl, .inl (hL c (List.mem_of_getElem? hc))⟩
  flat := fun p hp => by
    rcases List.mem_append.mp hp with q | q
    · exact h.flat p q
    · rw [List.mem_singleton.mp q]; intro q' hq'; cases hq'
  dep := fun p hp => by
    rcases List.mem_append.mp hp with q | q
    · exact h.dep p q
    · rw [List.mem_singleton.mp q]; exact Nat.zero_le _
  lets := by
    rw [List.map_append, List.flatten_append, h.lets, List.take_add_one, hc]
    simp [lets_leaf, low_of (hL c (List.mem_of_getElem? hc))]
  le := by have := h.le; omega
  use0 := fun e => absurd e (by omega)
theorem isLet_low {c : Nat} (h : isLow c) : isLet [c] = true := decide_eq_true (mem_low.mpr h)
theorem LeftOk.inner {ops : Ops} {cs L : List Nat} {used i : Nat} {ps : List Fm} {n : List Nat} {k : Nat} (h : LeftOk ops cs L used i ps) (oo : OpsOk ops) (co : CsOk cs) (hL : ∀ x ∈ L, isLow x) (ho : (n, k) ∈ ops) (hk : used + k ≤ L.length) : LeftOk ops cs L (used + k) (i + 1) (ps ++ [.mk n (((L.drop used).take k).map fun c => .leaf [c])]) := by
  have hn := oo.ok _ ho
  have hk2 : k = 1 ∨ k = 2 := hn.2
  have hlen : ((L.drop used).take k).length = k := by rw [List.length_take, List.length_drop]; omega
  have hin : ∀ p ∈ ((L.drop used).take k).map fun c => Fm.leaf [c], p.In ops cs := fun p hp => by
    obtain ⟨u, hu', rfl⟩ := List.mem_map.mp hp
    exact ⟨u, rfl, .inl (hL u (List.mem_of_mem_drop (List.mem_of_mem_take hu')))⟩
  refine ⟨by simp [h.len], ?_, ?_, ?_, ?_, by have := h.le; omega, fun e => absurd e (by omega)⟩
  · intro p hp
    rcases List.mem_append.mp hp with q | q
    · exact h.inn p q
    · rw [List.mem_singleton.mp q]; exact Fm.In.mk oo ho (by simpa using hlen) hin
  · intro p hp
    rcases List.mem_append.mp hp with q | q
    · exact h.flat p q
    · rw [List.mem_singleton.mp q, mk_parts' (by rw [List.length_map, hlen]; omega)]
      intro q' hq'
      obtain ⟨u, hu', rfl⟩ := List.mem_map.mp hq'
      exact isLet_low (hL u (List.mem_of_mem_drop (List.mem_of_mem_take hu')))
  · intro p hp
    rcases List.mem_append.mp hp with q | q
    · exact h.dep p q
    · rw [List.mem_singleton.mp q]
      refine Fm.mk_depth (fun p' hp' => ?_) (by omega)
      obtain ⟨u, _, rfl⟩ := List.mem_map.mp hp'
      exact Nat.zero_lt_one
  · rw [List.map_append, List.flatten_append, h.lets, List.map_cons, List.map_nil, List.flatten_cons, List.flatten_nil, List.append_nil, lets_mk hn.1 (by rw [List.length_map, hlen]; omega) (by rw [List.length_map, hlen]; omega) (fun p hp => (hin p hp).ok oo co), lets_leaves, List.filter_eq_self.mpr (fun u hu => low_of (hL u (List.mem_of_mem_drop (List.mem_of_mem_take hu)))), List.take_add]
theorem LeftOk.rule {ops : Ops} {cs L : List Nat} {used : Nat} {ps : List Fm} {n : List Nat} {k : Nat} {r : Fm} (h : LeftOk ops cs L used k ps) (oo : OpsOk ops) (co : CsOk cs) (hL : ∀ x ∈ L, isLow x) (hnd : L.Nodup) (ho : (n, k) ∈ ops) (hr : RightOk ops cs (L.take used) (Fm.mk n ps).size r) : RuleIn ops cs (.mk n ps) r := by
  have hn := oo.ok _ ho
  have hk2 : k = 1 ∨ k = 2 := hn.2
  have hl : ps.length ≤ 2 := by rw [h.len]; omega
  have hin : (Fm.mk n ps).In ops cs := Fm.In.mk oo ho h.len h.inn
  have el : (Fm.mk n ps).lets = L.take used := by
    rw [lets_mk hn.1 (by rw [h.len]; omega) hl (fun p hp => (h.inn p hp).ok oo co), h.lets]
  have hne : (Fm.mk n ps).parts ≠ [] := by
    rw [mk_parts' hl]
    exact List.ne_nil_of_length_pos (by rw [h.len]; omega)
  refine ⟨⟨hin.ok oo co, hr.inn.ok oo co, ?_⟩, hin, hr.inn, Fm.mk_depth (fun p hp => by have := h.dep p hp; omega) (by omega)⟩
  refine fault_ok hne ?_ (by rw [el]; exact hnd.sublist (List.take_sublist _ _)) hr.flat (by rw [el]; exact hr.lets) hr.nd (by have := hr.size; omega)
  unfold flatL
  rw [mk_parts' hl, List.all_eq_true]
  intro p hp
  rw [List.all_eq_true]
  exact h.flat p hp
theorem LeftOk.two {ops : Ops} {cs L : List Nat} {used : Nat} {ps : List Fm} {n : List Nat} {k : Nat} (h : LeftOk ops cs L used k ps) (oo : OpsOk ops) (ho : (n, k) ∈ ops) : 2 ≤ ((Fm.mk n ps).size : Int) := by
  have hk2 : k = 1 ∨ k = 2 := (oo.ok _ ho).2
  have hl := h.len
  have pos : ∀ t : Fm, 1 ≤ t.size := fun t => by cases t <;> simp [Fm.size] <;> omega
  match ps, hl with
  | [], e => simp at e; omega
  | [a], e => have := pos a; simp [Fm.mk, Fm.size]; omega
  | [a, b], e => have := pos a; simp [Fm.mk, Fm.size]; omega
  | a :: b :: c :: r, e => simp at e; omega
/-! ### promises -/
section
variable {K : PySem.W.Frag} {H : Hp} {Q : VK} {E : XK} {p l p' l' k c : Addr} {ops : Ops} {kvs : List V} {cs : List Nat}
/-- the book's kinds and constants stand, apart from a pool -/
structure BkAt (K : PySem.W.Frag) (H : Hp) (p k c : Addr) (ops : Ops) (kvs : List V) (cs : List Nat) : Prop where
  ek : H k = some (.lst kvs)
  ec : H c = some (.lst (vC cs))
  eo : OpsAt K H ops kvs
  nk : k ≠ p
  nc : c ≠ p
  oo : OpsOk ops
  co : CsOk cs
theorem BkAt.len (h : BkAt K H p k c ops kvs cs) : ops.length = kvs.length := Paired.length h.eo
theorem BkAt.fr0 {H' : Hp} (f : Fr [] H H') (h : BkAt K H p k c ops kvs cs) : BkAt K H' p k c ops kvs cs := ⟨f.go0 h.ek, f.go0 h.ec, h.eo.mono (.of_same f.same), h.nk, h.nc, h.oo, h.co⟩
theorem BkAt.frP {H' : Hp} (f : Fr [p] H H') (g : Kp H H') (h : BkAt K H p k c ops kvs cs) : BkAt K H' p k c ops kvs cs := ⟨f.go (nin1 h.nk) h.ek, f.go (nin1 h.nc) h.ec, h.eo.mono g, h.nk, h.nc, h.oo, h.co⟩
theorem BkAt.frN {H' : Hp} {x : Addr} (f : Fr [x] H H') (g : Kp H H') (n1 : k ≠ x) (n2 : c ≠ x) (h : BkAt K H p k c ops kvs cs) : BkAt K H' p k c ops kvs cs := ⟨f.go (nin1 n1) h.ek, f.go (nin1 n2) h.ec, h.eo.mono g, h.nk, h.nc, h.oo, h.co⟩
theorem BkAt.fr2 {H' : Hp} {q : Addr} (f : Fr [p, q] H H') (g : Kp H H') (n1 : k ≠ q) (n2 : c ≠ q) (h : BkAt K H p k c ops kvs cs) : BkAt K H' p k c ops kvs cs := ⟨f _ _ (by simp [h.nk, n1]) h.ek, f _ _ (by simp [h.nc, n2]) h.ec, h.eo.mono g, h.nk, h.nc, h.oo, h.co⟩
def spWordsL : Sp := fun vs H Q _ => ∃ (p l : Addr) (n : Nat), vs = [.ref p, .int (n : Int)] ∧ PoolAt H p l ∧ 1 ≤ n ∧ n ≤ 3 ∧ ∀ (q : Addr) (ws : List (List Nat)) (H' : Hp), ws.length = n → (∀ w ∈ ws, NameOk w) → ws.Nodup → H q = none → H' q = some (.lst (vS ws)) → PoolAt H' p l → Fr [p] H H' → Q (.ref q) H'
theorem u_wordsL {n : Nat} {z : Int} (e : z = n) (h1 : PoolAt H p l) (h2 : 1 ≤ n) (h3 : n ≤ 3) (h : ∀ (q : Addr) (ws : List (List Nat)) (H' : Hp), ws.length = n → (∀ w ∈ ws, NameOk w) → ws.Nodup → H q = none → H' q = some (.lst (vS ws)) → PoolAt H' p l → Fr [p] H H' → Kp H H' → Q (.ref q) H') : spWordsL ([.ref p, .int z] ++ []) H Q E :=
  ⟨p, l, n, by rw [e]; rfl, h1, h2, h3, fun q ws H' a1 a2 a3 a4 a5 a6 f => h q ws H' a1 a2 a3 a4 a5 a6 f (h1.kp f)⟩
def spLeaf (K : PySem.W.Frag) : Sp := fun vs H Q _ => ∃ (p l c : Addr) (cs : List Nat), vs = [.ref p, .ref c] ∧ PoolAt H p l ∧ H c = some (.lst (vC cs)) ∧ c ≠ p ∧ cs.length ≤ 2 ∧ ∀ (x : Nat) (b : Addr) (H' : Hp), isLow x ∨ x ∈ cs → TupAt K H' (.leaf [x]) b → PoolAt H' p l → Fr [p] H H' → Q (.ref b) H'
theorem u_leaf (h1 : PoolAt H p l) (h2 : H c = some (.lst (vC cs))) (h3 : c ≠ p) (h4 : cs.length ≤ 2) (h : ∀ (x : Nat) (b : Addr) (H' : Hp), isLow x ∨ x ∈ cs → TupAt K H' (.leaf [x]) b → PoolAt H' p l → Fr [p] H H' → Kp H H' → Q (.ref b) H') : spLeaf K ([.ref p, .ref c] ++ []) H Q E :=
  ⟨p, l, c, cs, rfl, h1, h2, h3, h4, fun x b H' a1 a2 a3 f => h x b H' a1 a2 a3 f (h1.kp f)⟩
def spTree (K : PySem.W.Frag) (n : Nat) : Sp := fun vs H Q _ => ∃ (p l k c : Addr) (ops : Ops) (kvs : List V) (cs : List Nat) (d : Nat), vs = [.ref p, .ref k, .ref c, .int (d : Int)] ∧ PoolAt H p l ∧ BkAt K H p k c ops kvs cs ∧ d < n ∧ ∀ (t : Fm) (b : Addr) (H' : Hp), t.In ops cs → t.depth ≤ d → TupAt K H' t b → PoolAt H' p l → Fr [p] H H' → Q (.ref b) H'
theorem u_tree {n : Nat} {z : Int} (d : Nat) (e : z = d) (h1 : PoolAt H p l) (h2 : BkAt K H p k c ops kvs cs) (h3 : d < n) (h : ∀ (t : Fm) (b : Addr) (H' : Hp), t.In ops cs → t.depth ≤ d → TupAt K H' t b → PoolAt H' p l → Fr [p] H H' → Kp H H' → Q (.ref b) H') : spTree K n ([.ref p, .ref k, .ref c, .int z] ++ []) H Q E :=
  ⟨p, l, k, c, ops, kvs, cs, d, by rw [e]; rfl, h1, h2, h3, fun t b H' a1 a2 a3 a4 f => h t b H' a1 a2 a3 a4 f (h1.kp f)⟩
def spRight (K : PySem.W.Frag) : Sp := fun vs H Q _ => ∃ (p l k c m : Addr) (ops : Ops) (kvs : List V) (cs ls : List Nat) (z : Int), vs = [.ref p, .ref k, .ref c, .ref m, .int z] ∧ PoolAt H p l ∧ BkAt K H p k c ops kvs cs ∧ H m = some (.lst (vC ls)) ∧ m ≠ p ∧ (∀ x ∈ ls, isLow x) ∧ ls.Nodup ∧ ls.length ≤ 4 ∧ 2 ≤ z ∧ (ls ≠ [] ∨ cs ≠ []) ∧
  ∀ (r : Fm) (b : Addr) (H' : Hp), RightOk ops cs ls z r → TupAt K H' r b → PoolAt H' p l → Fr [p] H H' → Q (.ref b) H'
theorem u_right {m : Addr} {ls : List Nat} {z : Int} (h1 : PoolAt H p l) (h2 : BkAt K H p k c ops kvs cs) (h3 : H m = some (.lst (vC ls))) (h4 : m ≠ p) (h5 : ∀ x ∈ ls, isLow x) (h6 : ls.Nodup) (h7 : ls.length ≤ 4) (h8 : 2 ≤ z) (h9 : ls ≠ [] ∨ cs ≠ [])
    (h : ∀ (r : Fm) (b : Addr) (H' : Hp), RightOk ops cs ls z r → TupAt K H' r b → PoolAt H' p l → Fr [p] H H' → Kp H H' → Q (.ref b) H') : spRight K ([.ref p, .ref k, .ref c, .ref m, .int z] ++ []) H Q E :=
  ⟨p, l, k, c, m, ops, kvs, cs, ls, z, rfl, h1, h2, h3, h4, h5, h6, h7, h8, h9, fun r b H' a1 a2 a3 f => h r b H' a1 a2 a3 f (h1.kp f)⟩
def spRule (K : PySem.W.Frag) : Sp := fun vs H Q _ => ∃ (p l p' l' k c : Addr) (ops : Ops) (kvs : List V) (cs : List Nat), vs = [.ref p, .ref p', .ref k, .ref c] ∧ PoolAt H p l ∧ PoolAt H p' l' ∧ p ≠ p' ∧ BkAt K H p k c ops kvs cs ∧ k ≠ p' ∧ c ≠ p' ∧
  ∀ (x y : Fm) (b bx by_ : Addr) (H' : Hp), RuleIn ops cs x y → SqT K H' b [.ref bx, .ref by_] → TupAt K H' x bx → TupAt K H' y by_ → PoolAt H' p l → PoolAt H' p' l' → Fr [p, p'] H H' → Q (.ref b) H'
theorem u_rule (h1 : PoolAt H p l) (h2 : PoolAt H p' l') (h3 : p ≠ p') (h4 : BkAt K H p k c ops kvs cs) (h5 : k ≠ p') (h6 : c ≠ p')
    (h : ∀ (x y : Fm) (b bx by_ : Addr) (H' : Hp), RuleIn ops cs x y → SqT K H' b [.ref bx, .ref by_] → TupAt K H' x bx → TupAt K H' y by_ → PoolAt H' p l → PoolAt H' p' l' → Fr [p, p'] H H' → Kp H H' → Q (.ref b) H') : spRule K ([.ref p, .ref p', .ref k, .ref c] ++ []) H Q E :=
  ⟨p, l, p', l', k, c, ops, kvs, cs, rfl, h1, h2, h3, h4, h5, h6, fun x y b bx by_ H' a1 a2 a3 a4 a5 a6 f => h x y b bx by_ H' a1 a2 a3 a4 a5 a6 f (kp2 h1 h2 f)⟩
end
/-! ### instances, what the law's own use of a rule makes -/
structure InstOk (ops : Ops) (cs : List Nat) (t u : Fm) : Prop where
  inn : u.In ops cs
  dep : u.depth ≤ t.depth + 1
  name : isLet t.name = false → u.name = t.name
  len : isLet t.name = false → u.parts.length = t.parts.length
section
variable {K : PySem.W.Frag} {H : Hp} {Q : VK} {E : XK} {p l k c a b : Addr} {ops : Ops} {kvs : List V} {cs : List Nat}
def spInst (K : PySem.W.Frag) (n : Nat) : Sp := fun vs H Q _ => ∃ (p l k c a : Addr) (ops : Ops) (kvs : List V) (cs : List Nat) (t : Fm), vs = [.ref p, .ref k, .ref c, .ref a] ∧ PoolAt H p l ∧ BkAt K H p k c ops kvs cs ∧ TupAt K H t a ∧ t.In ops cs ∧ t.depth < n ∧ ∀ (u : Fm) (b : Addr) (H' : Hp), InstOk ops cs t u → TupAt K H' u b → PoolAt H' p l → Fr [p] H H' → Q (.ref b) H'
theorem u_inst {n : Nat} {t : Fm} (h1 : PoolAt H p l) (h2 : BkAt K H p k c ops kvs cs) (h3 : TupAt K H t a) (h4 : t.In ops cs) (h5 : t.depth < n)
    (h : ∀ (u : Fm) (b : Addr) (H' : Hp), InstOk ops cs t u → TupAt K H' u b → PoolAt H' p l → Fr [p] H H' → Kp H H' → Q (.ref b) H') : spInst K n ([.ref p, .ref k, .ref c, .ref a] ++ []) H Q E :=
  ⟨p, l, k, c, a, ops, kvs, cs, t, rfl, h1, h2, h3, h4, h5, fun u b H' a1 a2 a3 f => h u b H' a1 a2 a3 f (h1.kp f)⟩
def spLBind (K : PySem.W.Frag) : Sp := fun vs H Q _ => ∃ (a b : Addr) (l f : Fm), vs = [.ref a, .ref b] ∧ TupAt K H l a ∧ TupAt K H f b ∧ l.Ok ∧ f.Ok ∧ (keysOf l.parts).Nodup ∧ (binds l f = none → ∀ (q : Addr) H', Fr [] H H' → H' q = some (.lst []) → Q (.ref q) H') ∧
  ∀ (z : List (List Nat × Fm)) (q d : Addr) (kvs : List (Key × V)) (H' : Hp), binds l f = some z → Fr [] H H' → H' q = some (.lst [.ref d]) → H' d = some (.dK kvs) → BndAt (TupAt K H') z kvs → Q (.ref q) H'
theorem u_lbind {x y : Fm} (h1 : TupAt K H x a) (h2 : TupAt K H y b) (h3 : x.Ok) (h4 : y.Ok) (h5 : (keysOf x.parts).Nodup) (hno : binds x y = none → ∀ (q : Addr) H', Fr [] H H' → Kp H H' → H' q = some (.lst []) → Q (.ref q) H')
    (h : ∀ (z : List (List Nat × Fm)) (q d : Addr) (kvs : List (Key × V)) (H' : Hp), binds x y = some z → Fr [] H H' → Kp H H' → H' q = some (.lst [.ref d]) → H' d = some (.dK kvs) → BndAt (TupAt K H') z kvs → Q (.ref q) H') : spLBind K ([.ref a, .ref b] ++ []) H Q E :=
  ⟨a, b, x, y, rfl, h1, h2, h3, h4, h5, fun e q H' g => hno e q H' g (.of_same g.same), fun z q d kvs H' e g => h z q d kvs H' e g (.of_same g.same)⟩
theorem BndAt.monoT {H' : Hp} (g : Kp H H') {z : List (List Nat × Fm)} {kvs : List (Key × V)} (h : BndAt (TupAt K H) z kvs) : BndAt (TupAt K H') z kvs := h.imp fun _ _ z => z.mono g
/-- the row of a rule -/
def RowAt (K : PySem.W.Frag) (H : Hp) (x y : Fm) (a : Addr) : Prop := ∃ bx by_, SqT K H a [.ref bx, .ref by_] ∧ TupAt K H x bx ∧ TupAt K H y by_
theorem RowAt.mono {H' : Hp} {x y : Fm} (g : Kp H H') (h : RowAt K H x y a) : RowAt K H' x y a := by
  obtain ⟨bx, by_, h1, h2, h3⟩ := h
  exact ⟨bx, by_, g.sqT h1, h2.mono g, h3.mono g⟩
/-- the law's own use: the answer as a formula, or () -/
def spRes (K : PySem.W.Frag) : Sp := fun vs H Q _ => ∃ (a b : Addr) (x y f : Fm), vs = [.ref a, .ref b] ∧ RowAt K H x y a ∧ TupAt K H f b ∧ RuleOk x y ∧ f.Ok ∧ (useR x y f = none → ∀ (q : Addr) H', Fr [] H H' → SqT K H' q [] → Q (.ref q) H') ∧
  ∀ (z : Fm) (q : Addr) (H' : Hp), useR x y f = some z → Fr [] H H' → TupAt K H' z q → Q (.ref q) H'
theorem u_res {x y f : Fm} (h1 : RowAt K H x y a) (h2 : TupAt K H f b) (h3 : RuleOk x y) (h4 : f.Ok) (hno : useR x y f = none → ∀ (q : Addr) H', Fr [] H H' → Kp H H' → SqT K H' q [] → Q (.ref q) H')
    (h : ∀ (z : Fm) (q : Addr) (H' : Hp), useR x y f = some z → Fr [] H H' → Kp H H' → TupAt K H' z q → Q (.ref q) H') : spRes K ([.ref a, .ref b] ++ []) H Q E :=
  ⟨a, b, x, y, f, rfl, h1, h2, h3, h4, fun e q H' g => hno e q H' g (.of_same g.same), fun z q H' e g => h z q H' e g (.of_same g.same)⟩
end
/-- an operator's name is bound to nothing -/
theorem binds_cap {x y f : Fm} {z : List (List Nat × Fm)} (h : RuleOk x y) (hb : binds x f = some z) (hp : y.parts ≠ []) : z.lookup y.name = none := by
  obtain ⟨g1, g2, _⟩ := fault_none h.free
  have hn : NameOk y.name := by
    have := h.okr
    cases y with
    | leaf n => exact absurd rfl hp
    | one n a => exact this.1
    | two n a b => exact this.1
  have hk : z.map (·.1) = x.lets.map fun c => [c] := by
    rw [← keysOf_lets h.okl g1 g2]
    unfold binds at hb
    split at hb
    · rename_i h2
      exact bindP_keys h2.2.symm hb
    · cases hb
  have hno : y.name ∉ z.map (·.1) := fun hm => by
    rw [hk] at hm
    obtain ⟨c, hc, e⟩ := List.mem_map.mp hm
    have hl : low c = true := (List.mem_filter.mp hc).2
    have h2 := mem_low.mp (of_decide_eq_true hl)
    have h3 := hn.caps c (by rw [← e]; simp)
    unfold isLow at h2; unfold isCap at h3; omega
  clear hk hb
  induction z with
  | nil => rfl
  | cons p z ih =>
    rw [List.lookup_cons]
    have h1 : (y.name == p.1) = false := beq_eq_false_iff_ne.mpr fun e => hno (by simp [e])
    rw [h1]
    exact ih fun m => hno (by simp at m ⊢; exact .inr m)
/-! ### the call of an instance; str of a digit -/
section
variable {X : Cx} {C a : Addr} {sp : Sp} {E : XK} {tf : TE} {t : TA} {σ : L2.St} {H : Hp} {Q : VK}
def COk (X : Cx) (C : Addr) (sp : Sp) (E : XK) (t : TA) (σ : L2.St) (Q : VK) : VK := fun y H1 => ∃ a, y = V.ref a ∧ t σ H1 fun vs H2 => StX.InsC X H2 a C ∧ sp (V.ref a :: vs) H2 Q E
theorem u_callO (h : tf σ H (COk X C sp E t σ Q)) : StX.tCallO X C sp E tf t σ H Q := h
theorem u_callOk (h : t σ H fun vs H2 => StX.InsC X H2 a C ∧ sp (V.ref a :: vs) H2 Q E) : COk X C sp E t σ Q (.ref a) H := ⟨a, rfl, h⟩
theorem insC_rule {K : PySem.W.Frag} {CR : Addr} {l r : Fm} (h : RuleAt K C CR H l r a) : StX.InsC X H a CR := by
  obtain ⟨dx, fl, fr, h1, _⟩ := h
  exact .inr ⟨dx, _, h1⟩
def rStrI : List V → Hp → VK → Prop := fun xs H Q => ∃ i : Int, xs = [.int i] ∧ i.natAbs.log2 < 1920 ∧ Q (.str (toString i)) H
theorem k_strI : CallR X (.type "str") rStrI := call_str_int
theorem str_digit : ∀ n : Nat, n < 10 → ((toString (n : Int) : String) : Str) = S [48 + n] := by decide +kernel
theorem u_strD {i : Int} (h0 : 0 ≤ i) (h1 : i < 10) (h : Q (.str (S [48 + i.toNat])) H) : rStrI [.int i] H Q := by
  obtain ⟨n, rfl⟩ := Int.eq_ofNat_of_zero_le h0
  refine ⟨_, rfl, ?_, ?_⟩
  · have : ∀ m : Nat, m < 10 → (Int.natAbs (m : Int)).log2 < 1920 := by decide +kernel
    exact this n (by omega)
  · rw [str_digit n (by omega)]
    exact h
end
/-- the constants of a book: a digit, the one three on -/
def consts (d : Int) (n : Nat) : List Nat := [48 + d.toNat, 48 + ((d + 3) % 10).toNat].take n
theorem consts_ok {d : Int} (h0 : 0 ≤ d) (h1 : d < 10) (n : Nat) : CsOk (consts d n) := by
  have a0 := Int.emod_nonneg (d + 3) (show (10 : Int) ≠ 0 by decide)
  have a1 := Int.emod_lt_of_pos (d + 3) (show (0 : Int) < 10 by decide)
  have hs : (consts d n).Sublist [48 + d.toNat, 48 + ((d + 3) % 10).toNat] := List.take_sublist _ _
  refine ⟨Nat.le_trans hs.length_le (Nat.le_refl 2), fun c hc => ?_, List.Nodup.sublist hs ?_⟩
  · have := hs.subset hc
    simp at this
    unfold isDig
    omega
  · simp; omega
/-- the operators of a book -/
theorem opsOk_of {ops : Ops} {ws : List (List Nat)} (e : ops.map (·.1) = ws) (h2 : ∀ o ∈ ops, o.2 = 1 ∨ o.2 = 2) (hn : ∀ w ∈ ws, NameOk w) (nd : ws.Nodup) (h1 : 1 ≤ ws.length) (h3 : ws.length ≤ 3) : OpsOk ops where
  ne := fun z => by subst z; subst e; simp at h1
  le := by rw [← e] at h3; simpa using h3
  ok := fun o ho => ⟨hn _ (e ▸ List.mem_map_of_mem ho), h2 o ho⟩
  nd := by rw [e]; exact nd
/-- what a use of a rule makes is a formula again, a little larger at most -/
theorem useR_ok {x y f z : Fm} (hok : RuleOk x y) (okf : f.Ok) (h : useR x y f = some z) : z.Ok ∧ z.depth ≤ f.depth + 1 := by
  unfold useR at h
  cases e : binds x f with
  | none => rw [e] at h; cases h
  | some b =>
    rw [e] at h
    have hz : useB b y = z := Option.some.inj h
    obtain ⟨g1, g2, g3, g4, _⟩ := fault_none hok.free
    have hl : ∀ p : Fm, p.Ok → p.depth = 0 → (lookB b p).Ok ∧ (lookB b p).depth ≤ f.depth := fun p hp hd => by
      unfold lookB
      cases q : b.lookup p.name with
      | none => exact ⟨hp, by rw [show (none.getD p) = p from rfl]; omega⟩
      | some t =>
        obtain ⟨k', hk⟩ := lookup_mem q
        have := binds_text e okf _ hk
        exact ⟨this.2.1, this.2.2.1⟩
    have h0 : ∀ p : Fm, p.parts = [] → p.depth = 0 := fun p hp => by
      cases p with
      | leaf n => rfl
      | one n a => cases hp
      | two n a b => cases hp
    rw [← hz]
    unfold useB
    by_cases hp : y.parts = []
    · rw [if_pos hp]
      have := hl y hok.okr (h0 y hp)
      exact ⟨this.1, by omega⟩
    · rw [if_neg hp]
      have hyl := y.parts_le
      have hall : ∀ q ∈ y.parts.map (lookB b), q.Ok ∧ q.depth ≤ f.depth := fun q hq => by
        obtain ⟨p, hp', rfl⟩ := List.mem_map.mp hq
        exact hl p (hok.okr.part hp') (h0 p (g4 p hp'))
      have hn : NameOk y.name := by
        have := hok.okr
        cases y with
        | leaf n => exact absurd rfl hp
        | one n a => exact this.1
        | two n a b => exact this.1
      refine ⟨Fm.mk_ok hn (by have := List.length_pos_iff.mpr hp; rw [List.length_map]; omega) (by simpa using hyl) (fun q hq => (hall q hq).1), Fm.mk_depth (fun q hq => by have := (hall q hq).2; omega) (by omega)⟩
/-- what the law's own use gave -/
def DueAt (K : PySem.W.Frag) (x y f : Fm) (H : Hp) (q : Addr) : Prop := (useR x y f = none ∧ SqT K H q []) ∨ ∃ z, useR x y f = some z ∧ TupAt K H z q
theorem DueAt.mono {K : PySem.W.Frag} {x y f : Fm} {H H' : Hp} {q : Addr} (k : Kp H H') (h : DueAt K x y f H q) : DueAt K x y f H' q := by
  rcases h with ⟨a, b⟩ | ⟨z, a, b⟩
  · exact .inl ⟨a, k.sqT b⟩
  · exact .inr ⟨z, a, b.mono k⟩
theorem u_resD {K : PySem.W.Frag} {H : Hp} {Q : VK} {E : XK} {a b : Addr} {x y f : Fm} (h1 : RowAt K H x y a) (h2 : TupAt K H f b) (h3 : RuleOk x y) (h4 : f.Ok) (h : ∀ (q : Addr) H', Fr [] H H' → Kp H H' → DueAt K x y f H' q → Q (.ref q) H') : spRes K ([.ref a, .ref b] ++ []) H Q E :=
  u_res h1 h2 h3 h4 (fun e q H' g k z => h q H' g k (.inl ⟨e, z⟩)) fun z q H' e g k t => h q H' g k (.inr ⟨z, e, t⟩)
theorem Dp.nilT {K : PySem.W.Frag} {H : Hp} {q : Addr} (h : SqT K H q []) : Dp K H (.ref q) (.tuple []) := .tup h .nil
theorem eqv_nil (z : Fm) : PyData.eqv z.data (.tuple []) = false := by cases z <;> rfl
/-! ### formulas changed -/
theorem Fm.Ok.nameOk {t : Fm} (h : t.Ok) (hp : t.parts ≠ []) : NameOk t.name := by
  cases t with
  | leaf n => exact absurd rfl hp
  | one n a => exact h.1
  | two n a b => exact h.1
theorem mkset_ok {t u : Fm} {j : Nat} (h : t.Ok) (hu : u.Ok) (hj : j < t.parts.length) : (Fm.mk t.name (t.parts.set j u)).Ok := by
  have hpl := t.parts_le
  refine Fm.mk_ok (h.nameOk (List.ne_nil_of_length_pos (by omega))) (by rw [List.length_set]; omega) (by rw [List.length_set]; omega) fun p hp => ?_
  rcases List.mem_or_eq_of_mem_set hp with q | q
  · exact h.part q
  · rw [q]; exact hu
theorem mkset_depth {t u : Fm} {j d : Nat} (h : t.depth ≤ d) (hu : u.depth < d) (hd : 0 < d) : (Fm.mk t.name (t.parts.set j u)).depth ≤ d := by
  refine Fm.mk_depth (fun p hp => ?_) hd
  rcases List.mem_or_eq_of_mem_set hp with q | q
  · have := Fm.depth_part q; omega
  · rw [q]; exact hu
/-- another number of parts -/
def recut (t u : Fm) : Fm := if t.parts.length = 2 then Fm.mk t.name (t.parts.take 1) else Fm.mk t.name (t.parts ++ [u])
theorem recut_ok {t u : Fm} (h : t.Ok) (hu : u.Ok) (hp : t.parts ≠ []) : (recut t u).Ok := by
  have hpl := t.parts_le
  have h1 := List.length_pos_iff.mpr hp
  unfold recut
  split
  · exact Fm.mk_ok (h.nameOk hp) (by rw [List.length_take]; omega) (by rw [List.length_take]; omega) fun p hp => h.part (List.mem_of_mem_take hp)
  · refine Fm.mk_ok (h.nameOk hp) (by simp) (by simp; omega) fun p hp => ?_
    rcases List.mem_append.mp hp with q | q
    · exact h.part q
    · rw [List.mem_singleton.mp q]; exact hu
theorem recut_depth {t u : Fm} {d : Nat} (h : t.depth ≤ d) (hu : u.depth < d) (hd : 0 < d) : (recut t u).depth ≤ d := by
  unfold recut
  split
  · exact Fm.mk_depth (fun p hp => by have := Fm.depth_part (List.mem_of_mem_take hp); omega) hd
  · refine Fm.mk_depth (fun p hp => ?_) hd
    rcases List.mem_append.mp hp with q | q
    · have := Fm.depth_part q; omega
    · rw [List.mem_singleton.mp q]; exact hu
/-! ### reading what is well written -/
section
variable {K : PySem.W.Frag} {C CR CG CB : Addr} {H : Hp} {Q : VK} {E : XK}
theorem u_rreadOk {x y : Fm} {a : List Nat} (e : a = x.text ++ (arrow ++ y.text)) (hok : RuleOk x y) (hl : a.length ≤ 1000) (h : ∀ (xr : Addr) (H' : Hp), Fr [] H H' → Kp H H' → RuleAt K C CR H' x y xr → Q (.ref xr) H') :
    (fun vs H Q E => spRRead K C CR CG CB (vs ++ []) H Q E) [.ref CR, .str (S a)] H Q E := by
  have hp : ruleParse a = .ok x y := by rw [e, ruleParse_text hok.okl hok.okr, hok.free]
  refine ⟨a, rfl, hl, fun l r xr H' hq f hx => ?_, fun hq => ?_, fun z hq => ?_⟩
  · rw [hp] at hq
    cases hq
    exact h xr H' f (.of_same f.same) hx
  · rw [hp] at hq; cases hq
  · rw [hp] at hq; cases hq
theorem u_readOk {t : Fm} (ht : t.Ok) (hl : t.text.length ≤ 100000) (h : ∀ (x : Addr) (H' : Hp), Fr [] H H' → Kp H H' → FormAt K C H' t x → Q (.ref x) H') :
    (fun vs H Q E => spReadX K C CG (vs ++ []) H Q E) [.ref C, .str (S t.text)] H Q E :=
  u_readX hl (fun t' x H' hp f k hx => by
    rw [parse_text ht] at hp; cases hp
    exact h x H' f k hx) fun hp => by rw [parse_text ht] at hp; cases hp
end
theorem pick_two {a b c d : V} {r : Int} (h0 : 0 ≤ r) (h1 : r < 2) : (atI [a, b] r = some a ∧ atI [c, d] r = some c) ∨ (atI [a, b] r = some b ∧ atI [c, d] r = some d) := by
  have : r = 0 ∨ r = 1 := by omega
  rcases this with rfl | rfl
  · exact .inl ⟨rfl, rfl⟩
  · exact .inr ⟨rfl, rfl⟩
/-! ### more slots -/
section
variable {v : V} {l : L2.St} {H : Hp} {Q : VK} {P : L2.St → Hp → Prop} {y0 y1 y2 y3 y4 y5 y6 y7 y8 y9 y10 y11 y12 y13 y14 y15 y16 y17 y18 y19 y20 y21 y22 y23 y24 : Option V}
theorem u_v19 (h : Q v H) : tVar 19 (y0 :: y1 :: y2 :: y3 :: y4 :: y5 :: y6 :: y7 :: y8 :: y9 :: y10 :: y11 :: y12 :: y13 :: y14 :: y15 :: y16 :: y17 :: y18 :: some v :: l) H Q := ⟨v, rfl, h⟩
theorem u_g19 (h : P (y0 :: y1 :: y2 :: y3 :: y4 :: y5 :: y6 :: y7 :: y8 :: y9 :: y10 :: y11 :: y12 :: y13 :: y14 :: y15 :: y16 :: y17 :: y18 :: some v :: l) H) : gName 19 v (y0 :: y1 :: y2 :: y3 :: y4 :: y5 :: y6 :: y7 :: y8 :: y9 :: y10 :: y11 :: y12 :: y13 :: y14 :: y15 :: y16 :: y17 :: y18 :: y19 :: l) H P := h
theorem u_v20 (h : Q v H) : tVar 20 (y0 :: y1 :: y2 :: y3 :: y4 :: y5 :: y6 :: y7 :: y8 :: y9 :: y10 :: y11 :: y12 :: y13 :: y14 :: y15 :: y16 :: y17 :: y18 :: y19 :: some v :: l) H Q := ⟨v, rfl, h⟩
theorem u_g20 (h : P (y0 :: y1 :: y2 :: y3 :: y4 :: y5 :: y6 :: y7 :: y8 :: y9 :: y10 :: y11 :: y12 :: y13 :: y14 :: y15 :: y16 :: y17 :: y18 :: y19 :: some v :: l) H) : gName 20 v (y0 :: y1 :: y2 :: y3 :: y4 :: y5 :: y6 :: y7 :: y8 :: y9 :: y10 :: y11 :: y12 :: y13 :: y14 :: y15 :: y16 :: y17 :: y18 :: y19 :: y20 :: l) H P := h
theorem u_v21 (h : Q v H) : tVar 21 (y0 :: y1 :: y2 :: y3 :: y4 :: y5 :: y6 :: y7 :: y8 :: y9 :: y10 :: y11 :: y12 :: y13 :: y14 :: y15 :: y16 :: y17 :: y18 :: y19 :: y20 :: some v :: l) H Q := ⟨v, rfl, h⟩
theorem u_g21 (h : P (y0 :: y1 :: y2 :: y3 :: y4 :: y5 :: y6 :: y7 :: y8 :: y9 :: y10 :: y11 :: y12 :: y13 :: y14 :: y15 :: y16 :: y17 :: y18 :: y19 :: y20 :: some v :: l) H) : gName 21 v (y0 :: y1 :: y2 :: y3 :: y4 :: y5 :: y6 :: y7 :: y8 :: y9 :: y10 :: y11 :: y12 :: y13 :: y14 :: y15 :: y16 :: y17 :: y18 :: y19 :: y20 :: y21 :: l) H P := h
theorem u_v22 (h : Q v H) : tVar 22 (y0 :: y1 :: y2 :: y3 :: y4 :: y5 :: y6 :: y7 :: y8 :: y9 :: y10 :: y11 :: y12 :: y13 :: y14 :: y15 :: y16 :: y17 :: y18 :: y19 :: y20 :: y21 :: some v :: l) H Q := ⟨v, rfl, h⟩
theorem u_g22 (h : P (y0 :: y1 :: y2 :: y3 :: y4 :: y5 :: y6 :: y7 :: y8 :: y9 :: y10 :: y11 :: y12 :: y13 :: y14 :: y15 :: y16 :: y17 :: y18 :: y19 :: y20 :: y21 :: some v :: l) H) : gName 22 v (y0 :: y1 :: y2 :: y3 :: y4 :: y5 :: y6 :: y7 :: y8 :: y9 :: y10 :: y11 :: y12 :: y13 :: y14 :: y15 :: y16 :: y17 :: y18 :: y19 :: y20 :: y21 :: y22 :: l) H P := h
theorem u_v23 (h : Q v H) : tVar 23 (y0 :: y1 :: y2 :: y3 :: y4 :: y5 :: y6 :: y7 :: y8 :: y9 :: y10 :: y11 :: y12 :: y13 :: y14 :: y15 :: y16 :: y17 :: y18 :: y19 :: y20 :: y21 :: y22 :: some v :: l) H Q := ⟨v, rfl, h⟩
theorem u_g23 (h : P (y0 :: y1 :: y2 :: y3 :: y4 :: y5 :: y6 :: y7 :: y8 :: y9 :: y10 :: y11 :: y12 :: y13 :: y14 :: y15 :: y16 :: y17 :: y18 :: y19 :: y20 :: y21 :: y22 :: some v :: l) H) : gName 23 v (y0 :: y1 :: y2 :: y3 :: y4 :: y5 :: y6 :: y7 :: y8 :: y9 :: y10 :: y11 :: y12 :: y13 :: y14 :: y15 :: y16 :: y17 :: y18 :: y19 :: y20 :: y21 :: y22 :: y23 :: l) H P := h
theorem u_v24 (h : Q v H) : tVar 24 (y0 :: y1 :: y2 :: y3 :: y4 :: y5 :: y6 :: y7 :: y8 :: y9 :: y10 :: y11 :: y12 :: y13 :: y14 :: y15 :: y16 :: y17 :: y18 :: y19 :: y20 :: y21 :: y22 :: y23 :: some v :: l) H Q := ⟨v, rfl, h⟩
theorem u_g24 (h : P (y0 :: y1 :: y2 :: y3 :: y4 :: y5 :: y6 :: y7 :: y8 :: y9 :: y10 :: y11 :: y12 :: y13 :: y14 :: y15 :: y16 :: y17 :: y18 :: y19 :: y20 :: y21 :: y22 :: y23 :: some v :: l) H) : gName 24 v (y0 :: y1 :: y2 :: y3 :: y4 :: y5 :: y6 :: y7 :: y8 :: y9 :: y10 :: y11 :: y12 :: y13 :: y14 :: y15 :: y16 :: y17 :: y18 :: y19 :: y20 :: y21 :: y22 :: y23 :: y24 :: l) H P := h
end
end Rp
/-! RpTry3: two clauses 'except X as n', 'except Y as n' behind one body (each a layer of the wish for one clause). -/
namespace Rp
open PySem PySem.Spec PyProof.Rows L2 SX C8
/-- an exception that was caught, noted and set down: the state without it, and where it stands -/
structure Caught (X : Cx) (pins : List (Addr × Obj)) (σ : L2.St) (H : Hp) (cls : Value) (d : Option Addr) (a : Addr) (s3 : Shared) : Prop where
  ex : ∃ (B : Heap) (sI s' : Shared), s3 = { s' with heap := s3.heap } ∧ Inv X pins σ H sI ∧
    (∀ b o, sI.heap.get? b = some o → b ∉ frs X.stack → B.get? b = some o) ∧ sI.heap.UpToSlots s'.heap ∧ s'.heap.UpToSlots s3.heap ∧
    HandSPX.FlyingZ B (X.env :: X.outer) a (L2N.Zn cls d) s3.heap ∧ H a = none ∧ s'.os = sI.os ∧ AllBare s'.gens
section
variable {X : Cx} {pins : List (Addr × Obj)} {σ : L2.St} {H : Hp} {cls c : Value} {d : Option Addr} {a : Addr} {s3 : Shared} {D : Ends} {W Wout : WX} {x n : Str} {np pos' : Pos} {b₀ : Stmt} {suite : List Stmt} {hds : List ExceptHandler} {i : Nat} {ts : Addr → Value → Option Addr → TS}
/-- no clause is left: it goes on -/
theorem caught_nil (C : Caught X pins σ H cls d a s3) (hst : X.stack = X.env :: X.outer) (hfm : X.env.frame = some X.env.locals) (tk : L2N.Takes X Wout) (w : Wout cls d σ H) :
    wpAny (model X.prog X.w) X.A (handleBy (.ref a) X.env []) (SP X pins D) X.xe s3 := by
  obtain ⟨B, sI, s', es, J, nb, up, up3, fl, na, os, ag⟩ := C.ex
  rw [es]
  obtain ⟨_, _, _, oe, vs, T, _, _, he, _, hd, h1, _⟩ := id fl
  refine wpAny_handleBy_nil ?_
  have go : wpAny (model X.prog X.w) X.A (setFlight (.ref a) X.env.frame) (fun _ s4 => wpAny (model X.prog X.w) X.A (throw (.ref a) : Sem Flow) (SP X pins D) X.xe s4) X.xe { s' with heap := s3.heap } := by
    rw [hfm]
    exact HandSPX.setFlight_upZ fl fun _ held _ => wpAny_throw (tk _ _ ⟨a, B, sI, pins, σ, H, cls, d, rfl, J, nb, (up.trans up3).trans (by assumption), .inr (.inr (hst ▸ held)), na, os, ag, w⟩)
  unfold PySem.passOn
  refine wpAny_bind (wpAny_field he hd h1 ?_)
  rw [if_neg (by simp)]
  first | exact wpAny_bind (wpAny_pure (wpAny_bind go)) | exact wpAny_bind go
/-- one clause more: it is ours, or the rest's -/
theorem caught_cons (C : Caught X pins σ H cls d a s3) (hst : X.stack = X.env :: X.outer) (hfm : X.env.frame = some X.env.locals) (nod : X.N.Nodup) (ni : X.N[i]? = some n) (kl : X.env.kindOf n = some .local) (hc : Names X x c)
    (hs : ∀ (a : Addr) (oe : Obj) (cls : Value) (d : Option Addr) (pn : List (Addr × Obj)), L2N.Zn cls d oe → (∃ vs, oe.data = .fields vs) → PSs (X.suite a ((a, oe) :: pn)) (b₀ :: suite) (ts a cls d))
    (w : wAs X.K c i ts W D cls d σ H) (rest : W cls d σ H → wpAny (model X.prog X.w) X.A (handleBy (.ref a) X.env hds) (SP X pins D) X.xe s3) :
    wpAny (model X.prog X.w) X.A (handleBy (.ref a) X.env (.ExceptHandler (some (.Name x np)) (some n) (b₀ :: suite) pos' :: hds)) (SP X pins D) X.xe s3 := by
  obtain ⟨b, hb, yes, no⟩ := w
  obtain ⟨B, sI, s', es, J, nb, up, up3, fl, na, os, ag⟩ := C.ex
  have ok := J.ok
  rw [es] at rest ⊢
  generalize s3.heap = h3 at fl up3 rest ⊢
  have J3 : Inv X pins σ H { s' with heap := h3 } := J.landed nb fl.1 (up.trans up3) os ag
  obtain ⟨oe3, vs3, he3, hz3, hd3⟩ := fl.there
  have far : a ∉ frs (X.env :: X.outer) := fun hm => by
    obtain ⟨_, o', e', hnf⟩ := fl.2.2.1.mem hm
    rw [he3] at e'
    cases e'
    exact hnf _ hd3
  have nL : a ≠ X.env.locals := fun z => far (List.mem_filterMap.mpr ⟨_, List.mem_cons_self, by rw [hfm, z]⟩)
  have nF : a ∉ X.fs := fun hm => by
    obtain ⟨e, he, q⟩ := List.mem_filterMap.mp hm
    exact far (List.mem_filterMap.mpr ⟨e, by simp [he], q⟩)
  have S3 := J3.suite he3 hd3 na nL nF
  have LM := PySem.W.exm_one (M := model X.prog X.w) J3.kIn (fun A Q E s k q => wpAny_typeOf_ref (k _ _ he3) (by rw [hz3.1]; exact q)) hb
  have seen : ∀ {Q E : Value → Shared → Prop}, Q c { s' with heap := h3 } → wpAny (model X.prog X.w) (X.A.mark (some (.ref a))) (eval (.Name x np) X.env) Q E { s' with heap := h3 } := fun q => by
    rcases hc with ⟨hg, dbg, hm | ⟨hm, hv, hnn⟩⟩
    · exact ld_glob (X := X.suite a ((a, oe3) :: (X.pn ++ pins))) S3 hg hm q dbg
    · exact ld_blt (X := X.suite a ((a, oe3) :: (X.pn ++ pins))) S3 hg hm hv q hnn dbg
  refine wpAny_handleBy_cons (codeAny_handlers_test ?_) (by intro q; cases q)
  refine seen (LM.here ?_)
  match b, yes, no with
  | false, _, no => exact rest (no rfl)
  | true, yes, _ =>
    refine codeAny_handlers_suite_as (HandSPX.lands_againZ fl fun h4 fl4 up4 => ?_)
    obtain ⟨oe4, vs4, he4, hz4, hd4⟩ := fl4.there
    have J4 : Inv X pins σ H { s' with heap := h4 } := J.landed nb fl4.1 ((up.trans up3).trans up4) os ag
    refine store_ok (X := X.suite a ((a, oe4) :: (X.pn ++ pins))) (v := .ref a) (J4.suite he4 hd4 na nL nF) nod ni (.inl kl) rfl (fun s5 S5 => ?_) (.inr kl)
    refine wpAny_mono ((hs a oe4 cls d (X.pn ++ pins) hz4 ⟨_, hd4⟩).run [] s5 _ H _ S5 (yes rfl a na)) (fun f s6 sp => ?_) (fun _ _ z => z.elim)
    have fin : ∀ {σ6 : L2.St} {H6 : Hp} {Q : Shared → Prop}, Inv (X.suite a ((a, oe4) :: (X.pn ++ pins))) [] σ6 H6 s6 → (∀ s7, Inv X pins (σ6.set i none) H6 s7 → Q s7) →
        wpAny (model X.prog X.w) X.A (do bindName X.env n .none; unbindBehindTheSuite X.env n pos') (fun _ s7 => Q s7) X.xe s6 := fun S6 q => gone_ok (S6.unsuite ok) nod ni kl q
    match f, sp with
    | .next, ⟨_, _, S6, q6⟩ => exact fin S6 fun _ J7 => ⟨_, _, J7, q6⟩
    | .brk, ⟨_, _, S6, q6⟩ => exact fin S6 fun _ J7 => ⟨_, _, J7, q6⟩
    | .cont, ⟨_, _, S6, q6⟩ => exact fin S6 fun _ J7 => ⟨_, _, J7, q6⟩
    | .ret u, ⟨_, _, _, S6, r6, q6⟩ => exact fin S6 fun _ J7 => ⟨_, _, _, J7, r6, q6⟩
end
section
variable {X : Cx} {x y n : Str} {c1 c2 : Value} {i : Nat} {body s1 s2 : List Stmt} {b1 b2 : Stmt} {np1 np2 pos p1 p2 : Pos} {tb : WX → TS} {t1 t2 : Addr → Value → Option Addr → TS} {Wout : WX}
theorem ps_try_as2 (hst : X.stack = X.env :: X.outer) (hfm : X.env.frame = some X.env.locals) (nod : X.N.Nodup) (ni : X.N[i]? = some n) (kl : X.env.kindOf n = some .local) (hc1 : Names X x c1) (hc2 : Names X y c2) (tk : L2N.Takes X Wout)
    (hb : ∀ (W : WX) (pn : List (Addr × Obj)) (xe : Value → Shared → Prop), L2N.Takes (X.tr pn xe) W → PassesOwn (model X.prog X.w) X.A X.env xe → PSs (X.tr pn xe) body (tb W))
    (h1 : ∀ (a : Addr) (oe : Obj) (cls : Value) (d : Option Addr) (pn : List (Addr × Obj)), L2N.Zn cls d oe → (∃ vs, oe.data = .fields vs) → PSs (X.suite a ((a, oe) :: pn)) (b1 :: s1) (t1 a cls d))
    (h2 : ∀ (a : Addr) (oe : Obj) (cls : Value) (d : Option Addr) (pn : List (Addr × Obj)), L2N.Zn cls d oe → (∃ vs, oe.data = .fields vs) → PSs (X.suite a ((a, oe) :: pn)) (b2 :: s2) (t2 a cls d)) :
    PS X (.Try body [.ExceptHandler (some (.Name x np1)) (some n) (b1 :: s1) p1, .ExceptHandler (some (.Name y np2)) (some n) (b2 :: s2) p2] [] [] pos) (fun D σ H => tb (wAs X.K c1 i t1 (wAs X.K c2 i t2 Wout D) D) D σ H) := by
  refine ⟨fun pins s σ H D I h => wpAny_Try_except ?_⟩
  have ok := I.ok
  have hfr : X.A.frames = some (X.env :: X.outer) := by rw [ok.frames, hst]
  let hh := [ExceptHandler.ExceptHandler (some (.Name x np1)) (some n) (b1 :: s1) p1, .ExceptHandler (some (.Name y np2)) (some n) (b2 :: s2) p2]
  let air : Value → Shared → Prop := fun e s₁ => wpAny (model X.prog X.w) X.A (noteFrame e X.env) (fun _ s₂ => wpAny (model X.prog X.w) X.A (setFlight e none) (fun _ s₃ => wpAny (model X.prog X.w) X.A (handleBy e X.env hh) (SP X pins D) X.xe s₃) X.xe s₂) X.xe s₁
  have cat : L2N.Takes (X.tr (X.pn ++ pins) air) (wAs X.K c1 i t1 (wAs X.K c2 i t2 Wout D) D) := fun u s' xx => by
    obtain ⟨a, B, sI, pins', σ', H', cls, d, rfl, J', nb, up, sky, na, os, ag, w⟩ := xx
    have J : Inv X pins σ' H' sI := J'.ofTry ok
    have sky2 : Sky B (X.env :: X.outer) a (L2N.Zn cls d) X.env.locals s'.heap := hst ▸ sky
    refine L2N.Sky.land L2N.Zn.steady hfr hfm sky2 fun h3 fl up3 => ?_
    have C : Caught X pins σ' H' cls d a { s' with heap := h3 } := ⟨B, sI, s', rfl, J, nb, up, up3, fl, na, os, ag⟩
    exact caught_cons C hst hfm nod ni kl hc1 h1 w fun w2 => caught_cons C hst hfm nod ni kl hc2 h2 w2 fun w3 => caught_nil C hst hfm tk w3
  refine wpAny_mono ((hb _ _ air cat PassesOwn.looking).run [] s σ H D (I.toTry _) h) (fun f s1 sp => ?_) (fun _ _ z => z)
  match f, sp with
  | .next, ⟨_, _, J', q⟩ => exact wpAny_execs_nil ⟨_, _, J'.ofTry ok, q⟩
  | .brk, ⟨_, _, J', q⟩ => exact ⟨_, _, J'.ofTry ok, q⟩
  | .cont, ⟨_, _, J', q⟩ => exact ⟨_, _, J'.ofTry ok, q⟩
  | .ret u, ⟨_, _, _, J', r, q⟩ => exact ⟨_, _, _, J'.ofTry ok, r, q⟩
end
end Rp
/-! RpRead5: what law k05 asks of a rule's reading, in plain Lean; list.count of texts; promises of its helpers. -/
namespace Rp
open PySem PySem.Spec PyProof.Rows L2 SX C8
/-! ### count in a list of texts -/
def eqt (x : Str) (v : Value) : Bool := match v with
  | .str y _ => y.cps.toList == x.cps.toList
  | _ => false
theorem eqt_gives {x : Str} {t : Tok} {K : PySem.W.Frag} : ∀ {xs : List (List Nat)} {us : List Value}, Vals (vS xs) us → (∀ y ∈ us, MeetsSeq.EqGives y (.str x t) (eqt x y)) ∧ us.countP (eqt x) = xs.countP fun z => z == x.cps.toList
  | [], _, h => by
    cases h
    exact ⟨fun y hy => (by cases hy), rfl⟩
  | z :: zs, us, h => by
    cases h with
    | cons r h =>
      obtain ⟨t', rfl⟩ := r
      obtain ⟨i1, i2⟩ := eqt_gives (x := x) (t := t) (K := K) h
      refine ⟨fun y hy => ?_, ?_⟩
      · rcases List.mem_cons.mp hy with e | e
        · rw [e]; exact SeqRoads2.EqGives.str _ _ _ _
        · exact i1 y e
      · rw [List.countP_cons, List.countP_cons, i2]; rfl
def rCntS (K : PySem.W.Frag) : V → List V → Hp → VK → Prop := fun x xs H Q => ∃ (p : Addr) (ns : List (List Nat)) (k : List Nat), x = .ref p ∧ xs = [.str (S k)] ∧ SqL K H p (vS ns) ∧ Q (.int (ns.count k : Nat)) H
theorem mt_lcountS {X : Cx} : MtR X "list.count" (rCntS X.K) := by
  intro pins s σ H x xs v us Q I rx rxs h
  obtain ⟨p, ns, k, rfl, rfl, hs, q⟩ := h
  cases rx
  obtain ⟨u, rfl, ru⟩ := rxs.one
  obtain ⟨t, rfl⟩ := ru
  obtain ⟨its, rv, ⟨⟨cls, dd, data, sl⟩, n, ho, hc, hdn, hd⟩, hlen⟩ := I.list hs
  simp only at hc hd
  subst hc hd
  obtain ⟨g1, g2⟩ := eqt_gives (x := S k) (t := t) (K := X.K) rv
  refine call_meets PySem.F.slot_list_count ⟨_, ho, rfl⟩ PySem.F.entry_list_count (PySem.F.args_list_count_2 _ _) (SeqAt.list_countAt p its.toArray n dd sl (.str (S k) t) (eqt (S k))) ⟨ho, fun y hy => (g1 y (by simpa using hy)).at _ _, ?_⟩
  have ec : its.toArray.toList.countP (eqt (S k)) = ns.count k := by
    show its.countP _ = _
    rw [g2]
    rfl
  refine ⟨.int (ns.count k : Nat), H, I.tok _, ⟨s.toks, ?_⟩, q⟩
  rw [ec]
section
variable {K : PySem.W.Frag} {H : Hp} {Q : VK} {p : Addr} {k : List Nat} {ns : List (List Nat)}
theorem u_cntS (hq : SqL K H p (vS ns)) (h : Q (.int (ns.count k : Nat)) H) : rCntS K (.ref p) [.str (S k)] H Q := ⟨p, ns, k, rfl, rfl, hq, h⟩
end
/-! ### nodes as a bag -/
def BfsPerm (t : Fm) (i : Nat) (ns : List Fm) : Prop := t.nodes.Perm (ns.take i ++ (ns.drop i).flatMap Fm.nodes)
theorem Fm.nodes_cons (t : Fm) : t.nodes.Perm (t :: t.parts.flatMap Fm.nodes) := by
  cases t with
  | leaf n => simp [Fm.nodes, Fm.parts]
  | one n a => simp [Fm.nodes, Fm.parts]
  | two n a b => simp [Fm.nodes, Fm.parts]
theorem BfsPerm.start (t : Fm) : BfsPerm t 0 [t] := by unfold BfsPerm; simp
theorem BfsPerm.step {t n : Fm} {i : Nat} {ns : List Fm} (h : BfsPerm t i ns) (hn : ns[i]? = some n) : BfsPerm t (i + 1) (ns ++ n.parts) := by
  obtain ⟨hi, e⟩ := List.getElem?_eq_some_iff.mp hn
  unfold BfsPerm at *
  rw [List.take_append_of_le_length (by omega), List.drop_append_of_le_length (by omega), List.take_add_one, hn]
  rw [List.drop_eq_getElem_cons hi, e, List.flatMap_cons] at h
  refine h.trans ?_
  simp only [Option.toList_some, List.append_assoc, List.flatMap_append]
  refine List.Perm.append_left _ ?_
  refine ((Fm.nodes_cons n).append_right _).trans ?_
  show (n :: (n.parts.flatMap Fm.nodes ++ (ns.drop (i + 1)).flatMap Fm.nodes)).Perm (n :: ((ns.drop (i + 1)).flatMap Fm.nodes ++ n.parts.flatMap Fm.nodes))
  exact List.Perm.cons _ List.perm_append_comm
theorem BfsPerm.done {t : Fm} {ns : List Fm} (h : BfsPerm t ns.length ns) : t.nodes.Perm ns := by
  unfold BfsPerm at h
  rw [List.take_length, List.drop_length] at h
  simpa using h
theorem lets_nodes {t : Fm} (h : t.Ok) : t.lets = t.nodes.flatMap fun n => n.name.filter low := by
  have e40 : low 40 = false := by decide
  have e41 : low 41 = false := by decide
  have e44 : low 44 = false := by decide
  have e32 : low 32 = false := by decide
  induction t with
  | leaf n => simp [Fm.lets, Fm.text, Fm.nodes, Fm.name]
  | one n a iha =>
    have := iha h.2
    simp [Fm.lets, Fm.text, Fm.nodes, Fm.name, List.filter_append, filter_name h.1, List.filter_cons, e40, e41] at this ⊢
    exact this
  | two n a b iha ihb =>
    have h1 := iha h.2.1
    have h2 := ihb h.2.2
    simp [Fm.lets, Fm.text, Fm.nodes, Fm.name, List.filter_append, filter_name h.1, List.filter_cons, e40, e41, e44, e32] at h1 h2 ⊢
    rw [h1, h2]
theorem name_low {t : Fm} (h : t.Ok) : t.name.filter low = if isLet t.name then t.name else [] := by
  cases t with
  | leaf n =>
    obtain ⟨c, rfl, _⟩ := h
    show [c].filter low = if low c then [c] else []
    cases e : low c <;> simp [e]
  | one n a => rw [show (Fm.one n a).name = n from rfl, filter_name h.1, isLet_name h.1]; rfl
  | two n a b => rw [show (Fm.two n a b).name = n from rfl, filter_name h.1, isLet_name h.1]; rfl
def letsOf (ns : List Fm) : List Nat := ns.flatMap fun n => n.name.filter low
theorem letsOf_take {ns : List Fm} {i : Nat} {n : Fm} (h : ns[i]? = some n) : letsOf (ns.take (i + 1)) = letsOf (ns.take i) ++ n.name.filter low := by
  rw [List.take_add_one, h]; simp [letsOf]
theorem letsOf_len {ns : List Fm} (h : ∀ n ∈ ns, n.Ok) : (letsOf ns).length ≤ ns.length := by
  induction ns with
  | nil => simp [letsOf]
  | cons n ns ih =>
    have h1 := ih fun m hm => h m (by simp [hm])
    have h2 : (n.name.filter low).length ≤ 1 := by
      rw [name_low (h n (by simp))]
      split
      · rename_i hl
        obtain ⟨c, e, _⟩ := let_leaf (h n (by simp)) hl
        rw [e]; simp [Fm.name]
      · simp
    simp [letsOf] at h1 ⊢; omega
/-! ### the reason -/
/-- the letters above one, the letters not given -/
def dups (g : List Nat) : List Nat := g.filter fun x => decide (1 < g.count x)
theorem dups_nil (g : List Nat) : dups g = [] ↔ g.Nodup := by
  unfold dups
  rw [List.filter_eq_nil_iff, List.nodup_iff_count]
  constructor
  · intro h a
    by_cases ha : a ∈ g
    · have := h a ha
      simpa using this
    · rw [List.count_eq_zero_of_not_mem ha]; omega
  · intro h a ha
    have := h a
    simpa using this
theorem inner_all {l : Fm} : (l.parts.flatMap Fm.parts).all (fun q => isLet q.name) = flatL l := by
  unfold flatL
  rw [List.all_flatMap]
theorem inner_any {r : Fm} : decide (r.parts.flatMap Fm.parts = []) = !(r.parts.any fun p => !p.parts.isEmpty) := by
  rw [Bool.eq_iff_iff]
  simp [List.flatMap_eq_nil_iff]
theorem vS_nil {xs : List (List Nat)} : (vS xs).length = xs.length := by simp [vS]
/-! ### lists against [] -/
theorem eqv_lnil (ds : List PyData) : PyData.eqv (.list ds) (.list []) = decide (ds = []) := by cases ds <;> simp [PyData.eqv, PyData.eqvAll]
section
variable {K : PySem.W.Frag} {H : Hp} {Q : VK} {p q : Addr}
theorem u_neNilS {xs : List (List Nat)} (h1 : SqL K H p (vS xs)) (h2 : SqL K H q []) (hx : ∀ x ∈ xs, ∀ c ∈ x, c < 200) (h : Q (.bl (!decide (xs = []))) H) : rNeD K (.ref p) (.ref q) H Q :=
  u_neD (.lst h1 (dp_strs xs)) (.lst h2 .nil) (strs_shaped hx) (by decide +kernel) (by rw [eqv_lnil]; simpa using h)
theorem u_neNilT {ns : List Fm} {ws : List V} (h1 : SqL K H p ws) (ht : TupsAt K H ns ws) (h2 : SqL K H q []) (ho : ∀ n ∈ ns, n.Ok) (hd : ∀ n ∈ ns, n.depth ≤ 20) (h : Q (.bl (!decide (ns = []))) H) : rNeD K (.ref p) (.ref q) H Q :=
  u_neD (.lst h1 (tups_dp ht)) (.lst h2 .nil) (tups_shaped ho hd) (by decide +kernel) (by rw [eqv_lnil]; simpa using h)
end
/-! ### texts that are no rule -/
theorem text_ends {t : Fm} (h : t.Ok) : ∃ x y, t.text.head? = some x ∧ t.text.getLast? = some y ∧ x ≠ 32 ∧ y ≠ 32 := by
  cases t with
  | leaf n =>
    obtain ⟨c, rfl, hc⟩ := h
    have : c ≠ 32 := by unfold isLow isDig at hc; omega
    exact ⟨c, c, rfl, rfl, this, this⟩
  | one n a =>
    obtain ⟨hn, _⟩ := h
    match n, hn with
    | [], hn => exact absurd hn.pos (by simp)
    | c :: r, hn =>
      have := hn.caps c (by simp)
      exact ⟨c, 41, by simp [Fm.text], by simp [Fm.text, List.getLast?_cons], by unfold isCap at this; omega, by decide⟩
  | two n a b =>
    obtain ⟨hn, _⟩ := h
    match n, hn with
    | [], hn => exact absurd hn.pos (by simp)
    | c :: r, hn =>
      have := hn.caps c (by simp)
      exact ⟨c, 41, by simp [Fm.text], by simp [Fm.text, List.getLast?_cons], by unfold isCap at this; omega, by decide⟩
theorem text_noL {t : Fm} (h : t.Ok) {x : List Nat} : t.text ≠ x ++ [32] := fun e => by
  obtain ⟨_, y, _, h2, _, h4⟩ := text_ends h
  rw [e] at h2
  exact h4 (by simpa using h2.symm)
theorem text_noH {t : Fm} (h : t.Ok) {x : List Nat} : t.text ≠ 32 :: x := fun e => by
  obtain ⟨y, _, h1, _, h3, _⟩ := text_ends h
  rw [e] at h1
  exact h3 (by simpa using h1.symm)
theorem text_noN {t : Fm} (h : t.Ok) : t.text ≠ [] := fun e => by
  obtain ⟨y, _, h1, _, h3, _⟩ := text_ends h
  rw [e] at h1
  cases h1
theorem garbled_of {a : List Nat} (h : ∀ l r : Fm, l.Ok → r.Ok → a ≠ l.text ++ (arrow ++ r.text)) : ruleParse a = .garbled := by
  unfold ruleParse
  split
  · rename_i x y e
    have ea := spl_two (by decide) e
    split
    · rfl
    · rename_i l hl
      obtain ⟨ol, tl⟩ := parse_back hl
      split
      · rfl
      · rename_i r hr
        obtain ⟨orr, tr⟩ := parse_back hr
        exact absurd (by rw [ea, tl, tr]) (h l r ol orr)
  · rfl
theorem cut45 {x y x' y' : List Nat} (h : 45 ∉ x) (h' : 45 ∉ x') (e : x ++ 45 :: y = x' ++ 45 :: y') : x = x' ∧ y = y' := by
  induction x generalizing x' with
  | nil =>
    cases x' with
    | nil => simpa using e
    | cons c r => simp at e; exact absurd e.1 (by intro z; exact h' (by simp [← z]))
  | cons c r ih =>
    cases x' with
    | nil => simp at e; exact absurd e.1 (by intro z; exact h (by simp [z]))
    | cons d s =>
      simp at e h h'
      obtain ⟨h1, h2⟩ := ih h.2 h'.2 e.2
      exact ⟨by rw [e.1, h1], h2⟩
theorem rule_cut {l r : Fm} {x y : List Nat} (ol : l.Ok) (h : 45 ∉ x) (e : x ++ 45 :: y = l.text ++ (arrow ++ r.text)) : x = l.text ++ [32] ∧ y = 62 :: 32 :: r.text := by
  have e2 : x ++ 45 :: y = (l.text ++ [32]) ++ 45 :: (62 :: 32 :: r.text) := by rw [e]; simp [arrow]
  exact cut45 h (by simp [ol.no45]) e2
section
variable {l r : Fm} (ol : l.Ok) (orr : r.Ok)
include ol orr
theorem odd0 : ruleParse (l.text ++ ([45, 62] ++ r.text)) = .garbled := garbled_of fun l' r' o1 o2 e => by
  have := (rule_cut (x := l.text) (y := 62 :: r.text) o1 ol.no45 (by rw [← e]; simp)).1
  exact text_noL ol this
theorem odd1 : ruleParse (l.text ++ ([32, 61, 62, 32] ++ r.text)) = .garbled := garbled_of fun l' r' o1 o2 e => by
  have : 45 ∈ l.text ++ ([32, 61, 62, 32] ++ r.text) := by rw [e]; simp [arrow]
  simp [ol.no45, orr.no45] at this
theorem odd2 : ruleParse (l.text ++ ([32, 45, 62, 32, 32] ++ r.text)) = .garbled := garbled_of fun l' r' o1 o2 e => by
  have := (rule_cut (x := l.text ++ [32]) (y := 62 :: 32 :: 32 :: r.text) o1 (by simp [ol.no45]) (by rw [← e]; simp)).2
  exact text_noH o2 (x := r.text) (by simpa using this.symm)
theorem odd3 : ruleParse (l.text ++ [32, 45, 62, 32]) = .garbled := garbled_of fun l' r' o1 o2 e => by
  have := (rule_cut (x := l.text ++ [32]) (y := [62, 32]) o1 (by simp [ol.no45]) (by rw [← e]; simp)).2
  exact text_noN o2 (by simpa using this.symm)
theorem odd4 : ruleParse ([32, 45, 62, 32] ++ r.text) = .garbled := garbled_of fun l' r' o1 o2 e => by
  have := (rule_cut (x := [32]) (y := 62 :: 32 :: r.text) o1 (by simp) (by rw [← e]; simp)).1
  exact text_noN o1 (by simpa using this.symm)
theorem odd5 : ruleParse l.text = .garbled := garbled_of fun l' r' o1 o2 e => ol.no45 (by rw [e]; simp [arrow])
theorem odd6 : ruleParse (l.text ++ (arrow ++ r.text) ++ [32, 45, 62, 32, 97]) = .garbled := garbled_of fun l' r' o1 o2 e => by
  have := (rule_cut (x := l.text ++ [32]) (y := 62 :: 32 :: (r.text ++ [32, 45, 62, 32, 97])) o1 (by simp [ol.no45]) (by rw [← e]; simp [arrow])).2
  exact o2.no45 (by rw [show r'.text = r.text ++ [32, 45, 62, 32, 97] by simpa using this.symm]; simp)
theorem odd7 : ruleParse (l.text ++ (arrow ++ r.text) ++ [10]) = .garbled := garbled_of fun l' r' o1 o2 e => by
  have := (rule_cut (x := l.text ++ [32]) (y := 62 :: 32 :: (r.text ++ [10])) o1 (by simp [ol.no45]) (by rw [← e]; simp [arrow])).2
  have h10 := o2.no (c := 10) (by rw [show r'.text = r.text ++ [10] by simpa using this.symm]; simp)
  unfold isCap isLow isDig at h10; omega
theorem odd8 : ruleParse (l.text ++ (arrow ++ r.text) ++ [32]) = .garbled := garbled_of fun l' r' o1 o2 e => by
  have := (rule_cut (x := l.text ++ [32]) (y := 62 :: 32 :: (r.text ++ [32])) o1 (by simp [ol.no45]) (by rw [← e]; simp [arrow])).2
  exact text_noL o2 (x := r.text) (by simpa using this.symm)
theorem odd9 : ruleParse ([32] ++ (l.text ++ (arrow ++ r.text))) = .garbled := garbled_of fun l' r' o1 o2 e => by
  have := (rule_cut (x := 32 :: (l.text ++ [32])) (y := 62 :: 32 :: r.text) o1 (by simp [ol.no45]) (by rw [← e]; simp [arrow])).1
  exact text_noH o1 (x := l.text) ((List.append_cancel_right (bs := [32]) (by simpa using this)).symm)
theorem odd10 : ruleParse (l.text ++ ([32, 32, 45, 62, 32] ++ r.text)) = .garbled := garbled_of fun l' r' o1 o2 e => by
  have := (rule_cut (x := l.text ++ [32, 32]) (y := 62 :: 32 :: r.text) o1 (by simp [ol.no45]) (by rw [← e]; simp [arrow])).1
  exact text_noL o1 (x := l.text) ((List.append_cancel_right (bs := [32]) (by simpa using this)).symm)
end
theorem mt_lcountSK {X : Cx} (K : PySem.W.Frag) (h : X.K = K := by rfl) : MtR X "list.count" (rCntS K) := by subst h; exact mt_lcountS
theorem vS1_get {g : List Nat} {i : Nat} {v : V} (h : (vS (g.map fun c => [c]))[i]? = some v) : ∃ c, g[i]? = some c ∧ v = V.str (S [c]) := by
  unfold vS at h
  rw [List.getElem?_map, List.getElem?_map] at h
  cases e : g[i]? with
  | none => rw [e] at h; cases h
  | some c => rw [e] at h; exact ⟨c, rfl, (Option.some.inj h).symm⟩
theorem cnt1 (g : List Nat) (c : Nat) : (g.map fun c => [c]).count [c] = g.count c := by
  induction g with
  | nil => rfl
  | cons a r ih => rw [List.map_cons, List.count_cons, List.count_cons, ih]; simp
theorem lets_lt {t : Fm} {x : Nat} (h : x ∈ t.lets) : x < 200 := by
  have := (List.mem_filter.mp h).2
  have := mem_low.mp (of_decide_eq_true this)
  unfold isLow at this; omega
theorem inner_len (l : Fm) : (l.parts.flatMap Fm.parts).length ≤ 4 := by
  have : ∀ l : List Fm, (l.flatMap Fm.parts).length ≤ 2 * l.length := fun l => by
    induction l with
    | nil => simp
    | cons b r ih =>
      have := b.parts_le
      simp at ih ⊢; omega
  have h2 := this l.parts
  have := l.parts_le
  omega
theorem inner_ok {l q : Fm} (h : l.Ok) (hq : q ∈ l.parts.flatMap Fm.parts) : q.Ok := by
  obtain ⟨p, hp, hq⟩ := List.mem_flatMap.mp hq
  exact (h.part hp).part hq
theorem inner_depth {l q : Fm} (hq : q ∈ l.parts.flatMap Fm.parts) : q.depth ≤ l.depth := by
  obtain ⟨p, hp, hq⟩ := List.mem_flatMap.mp hq
  have := Fm.depth_part hp
  have := Fm.depth_part hq
  omega
theorem inner_flat (l : Fm) : decide (((l.parts.flatMap Fm.parts).filter fun q => !isLet q.name) = []) = flatL l := by
  rw [← inner_all, Bool.eq_iff_iff, decide_eq_true_iff, List.filter_eq_nil_iff, List.all_eq_true]
  simp
theorem dupsI_nil (g : List Nat) : (g.filter fun x => decide ((1 : Int) < ((g.count x : Nat) : Int))) = [] ↔ g.Nodup := by
  rw [← dups_nil]
  unfold dups
  have : (fun x => decide ((1 : Int) < ((g.count x : Nat) : Int))) = fun x => decide (1 < g.count x) := by
    funext x
    rw [decide_eq_decide]; omega
  rw [this]
theorem map1_nil (g : List Nat) : decide ((g.map fun c => [c]) = []) = decide (g = []) := by simp
theorem mem1 (g : List Nat) (c : Nat) : decide ([c] ∈ g.map fun c => [c]) = decide (c ∈ g) := by simp
theorem fault_small {l r : Fm} : ∀ c ∈ (fault l r).getD [], c < 200 := by
  unfold fault
  repeat' split
  all_goals decide
theorem fault_ne {l r : Fm} {z : List Nat} (h : fault l r = some z) : z ≠ [] := by
  unfold fault at h
  repeat' split at h
  all_goals (first | cases h | skip)
  all_goals decide
theorem n_reasonline : ¬ (("reason" : Str) = "line") := by decide +kernel
theorem Fm.Ok.small {t : Fm} (h : t.Ok) {c : Nat} (hc : c ∈ t.text) : c < 200 := by
  have := h.no hc
  unfold isCap isLow isDig at this; omega
theorem text_small {l r : Fm} (h : l.Ok) (h' : r.Ok) : ∀ c ∈ l.text ++ (arrow ++ r.text), c < 200 := fun c hc => by
  rcases List.mem_append.mp hc with z | z
  · exact h.small z
  · rcases List.mem_append.mp z with z | z
    · exact (by decide : ∀ c ∈ arrow, c < 200) c z
    · exact h'.small z
theorem triple_lay {a b d : List Nat} (h1 : ∀ c ∈ a, c < 200) (h2 : ∀ c ∈ b, c < 200) (h3 : ∀ c ∈ d, c < 200) : PyData.canLay0 (.tuple [.str (S a), .str (S b), .str (S d)]) = true := by
  simp [PyData.canLay0, PyData.canLayAll0, strOk_S h1, strOk_S h2, strOk_S h3]
theorem triple_shaped {a b d : List Nat} (h1 : ∀ c ∈ a, c < 200) (h2 : ∀ c ∈ b, c < 200) (h3 : ∀ c ∈ d, c < 200) : SeqAt.shaped (.tuple [.str (S a), .str (S b), .str (S d)]) = true := by
  simp [SeqAt.shaped, triple_lay h1 h2 h3, PyData.depth, PyData.depthAll]
/-! ### promises -/
section
variable {K : PySem.W.Frag} {H : Hp} {Q : VK} {E : XK} {a b : Addr} {t l r : Fm}
def spNodesP (K : PySem.W.Frag) : Sp := fun vs H Q _ => ∃ (a : Addr) (t : Fm), vs = [.ref a] ∧ TupAt K H t a ∧ t.Ok ∧ t.size ≤ 20000 ∧
  ∀ (q : Addr) (ns : List Fm) (ws : List V) (H' : Hp), Fr [] H H' → H q = none → H' q = some (.lst ws) → TupsAt K H' ns ws → ns.length = t.size → (∀ n ∈ ns, n.Ok) → t.nodes.Perm ns → Q (.ref q) H'
theorem u_nodesP (h1 : TupAt K H t a) (h2 : t.Ok) (h4 : t.size ≤ 20000)
    (h : ∀ (q : Addr) (ns : List Fm) (ws : List V) (H' : Hp), Fr [] H H' → Kp H H' → H q = none → H' q = some (.lst ws) → TupsAt K H' ns ws → ns.length = t.size → (∀ n ∈ ns, n.Ok) → t.nodes.Perm ns → Q (.ref q) H') : spNodesP K ([.ref a] ++ []) H Q E :=
  ⟨a, t, rfl, h1, h2, h4, fun q ns ws H' f => h q ns ws H' f (.of_same f.same)⟩
def spLetters (K : PySem.W.Frag) : Sp := fun vs H Q _ => ∃ (a : Addr) (t : Fm), vs = [.ref a] ∧ TupAt K H t a ∧ t.Ok ∧ t.size ≤ 20000 ∧
  ∀ (q : Addr) (g : List Nat) (H' : Hp), Fr [] H H' → H' q = some (.lst (vS (g.map fun c => [c]))) → t.lets.Perm g → g.length ≤ t.size → Q (.ref q) H'
theorem u_letters (h1 : TupAt K H t a) (h2 : t.Ok) (h4 : t.size ≤ 20000)
    (h : ∀ (q : Addr) (g : List Nat) (H' : Hp), Fr [] H H' → Kp H H' → H' q = some (.lst (vS (g.map fun c => [c]))) → t.lets.Perm g → g.length ≤ t.size → Q (.ref q) H') : spLetters K ([.ref a] ++ []) H Q E :=
  ⟨a, t, rfl, h1, h2, h4, fun q g H' f => h q g H' f (.of_same f.same)⟩
def spInner (K : PySem.W.Frag) : Sp := fun vs H Q _ => ∃ (a : Addr) (t : Fm), vs = [.ref a] ∧ TupAt K H t a ∧
  ∀ (q : Addr) (ws : List V) (H' : Hp), Fr [] H H' → H' q = some (.lst ws) → TupsAt K H' (t.parts.flatMap Fm.parts) ws → Q (.ref q) H'
theorem u_inner (h1 : TupAt K H t a) (h : ∀ (q : Addr) (ws : List V) (H' : Hp), Fr [] H H' → Kp H H' → H' q = some (.lst ws) → TupsAt K H' (t.parts.flatMap Fm.parts) ws → Q (.ref q) H') : spInner K ([.ref a] ++ []) H Q E :=
  ⟨a, t, rfl, h1, fun q ws H' f => h q ws H' f (.of_same f.same)⟩
def spReason (K : PySem.W.Frag) : Sp := fun vs H Q _ => ∃ (a b : Addr) (l r : Fm), vs = [.ref a, .ref b] ∧ TupAt K H l a ∧ TupAt K H r b ∧ l.Ok ∧ r.Ok ∧ l.size ≤ 1000 ∧ r.size ≤ 1000 ∧ l.depth ≤ 20 ∧ r.depth ≤ 20 ∧ ∀ H', Fr [] H H' → Q (.str (S ((fault l r).getD []))) H'
theorem u_reason (h1 : TupAt K H l a) (h2 : TupAt K H r b) (h3 : l.Ok) (h4 : r.Ok) (h5 : l.size ≤ 1000) (h6 : r.size ≤ 1000) (h7 : l.depth ≤ 20) (h8 : r.depth ≤ 20) (h : ∀ H', Fr [] H H' → Kp H H' → Q (.str (S ((fault l r).getD []))) H') : spReason K ([.ref a, .ref b] ++ []) H Q E :=
  ⟨a, b, l, r, rfl, h1, h2, h3, h4, h5, h6, h7, h8, fun H' f => h H' f (.of_same f.same)⟩
def spSide (K : PySem.W.Frag) (k : Nat) : Sp := fun vs H Q _ => ∃ (p l w g : Addr) (d : Nat) (w1 w2 : List Nat) (c1 c2 c3 : Nat), vs = [.ref p, .ref w, .ref g, .int d] ∧ PoolAt H p l ∧ d < k ∧ H w = some (.lst [.str (S w1), .str (S w2)]) ∧ H g = some (.lst [.str (S [c1]), .str (S [c2]), .str (S [c3])]) ∧ NameOk w1 ∧ NameOk w2 ∧ isLow c1 ∧ isLow c2 ∧ isLow c3 ∧ p ≠ w ∧ p ≠ g ∧
  ∀ (t : Fm) (a : Addr) (H' : Hp), t.Ok → t.depth ≤ d → TupAt K H' t a → PoolAt H' p l → Fr [p] H H' → Q (.ref a) H'
theorem u_side {k : Nat} {p lp w g : Addr} {z : Int} {w1 w2 : List Nat} {c1 c2 c3 : Nat} (d : Nat) (e : z = d) (h1 : PoolAt H p lp) (h2 : d < k) (h3 : H w = some (.lst [.str (S w1), .str (S w2)])) (h4 : H g = some (.lst [.str (S [c1]), .str (S [c2]), .str (S [c3])])) (h5 : NameOk w1) (h6 : NameOk w2) (h7 : isLow c1) (h8 : isLow c2) (h9 : isLow c3) (n1 : p ≠ w) (n2 : p ≠ g)
    (h : ∀ (t : Fm) (a : Addr) (H' : Hp), t.Ok → t.depth ≤ d → TupAt K H' t a → PoolAt H' p lp → Fr [p] H H' → Kp H H' → Q (.ref a) H') : spSide K k ([.ref p, .ref w, .ref g, .int z] ++ []) H Q E := by
  subst e
  exact ⟨p, lp, w, g, d, w1, w2, c1, c2, c3, rfl, h1, h2, h3, h4, h5, h6, h7, h8, h9, n1, n2, fun t a H' x1 x2 x3 x4 x5 => h t a H' x1 x2 x3 x4 x5 (h1.kp x5)⟩
end
end Rp
namespace Rp
open PySem PySem.Spec PyProof.Rows L2 SX C8
def top (i : Nat) : Stmt := PySem.Challenge.pw_rippleup_k05_rule_read.main.body.getD i (.Pass ⟨0, 0, 0, 0⟩)
abbrev s_Garbled___init__ : Stmt := inClass (top 3) 0
theorem sc_Garbled___init__ : FnScopeS ["self", "line"] ["self", "line"] (fnScope s_Garbled___init__) := fnScopeS_by (by decide +kernel)
abbrev s_BadRule___init__ : Stmt := inClass (top 4) 0
theorem sc_BadRule___init__ : FnScopeS ["self", "reason", "line"] ["self", "reason", "line"] (fnScope s_BadRule___init__) := fnScopeS_by (by decide +kernel)
abbrev s_Undeclared___init__ : Stmt := inClass (top 5) 0
theorem sc_Undeclared___init__ : FnScopeS ["self", "name", "line"] ["self", "name", "line"] (fnScope s_Undeclared___init__) := fnScopeS_by (by decide +kernel)
abbrev s_Overlap___init__ : Stmt := inClass (top 6) 0
theorem sc_Overlap___init__ : FnScopeS ["self", "first", "second", "path"] ["self", "first", "second", "path"] (fnScope s_Overlap___init__) := fnScopeS_by (by decide +kernel)
abbrev s_Unmet___init__ : Stmt := inClass (top 7) 0
theorem sc_Unmet___init__ : FnScopeS ["self", "formula", "ends"] ["self", "formula", "ends"] (fnScope s_Unmet___init__) := fnScopeS_by (by decide +kernel)
abbrev s_NoPart___init__ : Stmt := inClass (top 8) 0
theorem sc_NoPart___init__ : FnScopeS ["self", "path"] ["self", "path"] (fnScope s_NoPart___init__) := fnScopeS_by (by decide +kernel)
abbrev s_Formula___init__ : Stmt := inClass (top 15) 0
theorem sc_Formula___init__ : FnScope ["self", "name", "parts", "part"] ["self", "name", "parts"] (fnScope s_Formula___init__) := fnScope_by (by decide +kernel)
abbrev s_Formula_read : Stmt := inClass (top 15) 1
theorem sc_Formula_read : FnScope ["cls", "text", "frames", "done", "word", "name", "parts"] ["cls", "text"] (fnScope s_Formula_read) := fnScope_by (by decide +kernel)
abbrev s_Formula_at : Stmt := inClass (top 15) 2
theorem sc_Formula_at : FnScope ["self", "path", "part", "index"] ["self", "path"] (fnScope s_Formula_at) := fnScope_by (by decide +kernel)
abbrev s_Formula___iter__ : Stmt := inClass (top 15) 4
theorem sc_Formula___iter__ : FnScope ["self"] ["self"] (fnScope s_Formula___iter__) := fnScope_by (by decide +kernel)
abbrev s_Formula___contains__ : Stmt := inClass (top 15) 5
theorem sc_Formula___contains__ : FnScope ["self", "part", "todo", "node"] ["self", "part"] (fnScope s_Formula___contains__) := fnScope_by (by decide +kernel)
abbrev s_Formula___eq__ : Stmt := inClass (top 15) 6
theorem sc_Formula___eq__ : FnScope ["self", "other"] ["self", "other"] (fnScope s_Formula___eq__) := fnScope_by (by decide +kernel)
abbrev s_Formula___lt__ : Stmt := inClass (top 15) 7
theorem sc_Formula___lt__ : FnScope ["self", "other"] ["self", "other"] (fnScope s_Formula___lt__) := fnScope_by (by decide +kernel)
abbrev s_words_of : Stmt := top 16
theorem sc_words_of : FnScope ["text", "words", "start", "end"] ["text"] (fnScope s_words_of) := fnScope_by (by decide +kernel)
abbrev s_is_letter : Stmt := top 17
theorem sc_is_letter : FnScope ["name"] ["name"] (fnScope s_is_letter) := fnScope_by (by decide +kernel)
abbrev s_Rule___init__ : Stmt := inClass (top 19) 0
theorem sc_Rule___init__ : FnScope ["self", "left", "right"] ["self", "left", "right"] (fnScope s_Rule___init__) := fnScope_by (by decide +kernel)
abbrev s_Rule_read : Stmt := inClass (top 19) 1
theorem sc_Rule_read : FnScope ["cls", "text", "sides", "left", "right", "reason"] ["cls", "text"] (fnScope s_Rule_read) := fnScope_by (by decide +kernel)
abbrev s_Rule___call__ : Stmt := inClass (top 19) 2
theorem sc_Rule___call__ : FnScope ["self", "formula", "bound", "part"] ["self", "formula"] (fnScope s_Rule___call__) := fnScope_by (by decide +kernel)
abbrev s_fault : Stmt := top 20
theorem sc_fault : FnScope ["left", "right", "given", "wanted", "char", "part", "inner", "letter"] ["left", "right"] (fnScope s_fault) := fnScope_by (by decide +kernel)
abbrev s_bindings : Stmt := top 21
theorem sc_bindings : FnScope ["left", "formula", "bound", "pattern", "part", "letter", "inner"] ["left", "formula"] (fnScope s_bindings) := fnScope_by (by decide +kernel)
abbrev s_law_pools : Stmt := top 23
theorem sc__law_pools : FnScope ["_law_script", "_law_back", "_law_seed", "_law_k"] ["_law_script"] (fnScope s_law_pools) := fnScope_by (by decide +kernel)
abbrev s_law_draw : Stmt := top 24
theorem sc__law_draw : FnScope ["_law_pool", "_law_many", "_law_cell", "_law_value", "_law_mixed"] ["_law_pool", "_law_many"] (fnScope s_law_draw) := fnScope_by (by decide +kernel)
abbrev s_law_text : Stmt := top 25
theorem sc__law_text : FnScope ["_law_t", "_law_part"] ["_law_t"] (fnScope s_law_text) := fnScope_by (by decide +kernel)
abbrev s_law_nodes : Stmt := top 26
theorem sc__law_nodes : FnScope ["_law_t", "_law_nodes_here", "_law_at"] ["_law_t"] (fnScope s_law_nodes) := fnScope_by (by decide +kernel)
abbrev s_law_kinds : Stmt := top 27
theorem sc__law_kinds : FnScope ["_law_e", "_law_marks", "_law_k"] ["_law_e"] (fnScope s_law_kinds) := fnScope_by (by decide +kernel)
abbrev s_law_side : Stmt := top 28
theorem sc__law_side : FnScope ["_law_pool", "_law_words", "_law_letters_here", "_law_deep", "_law_name", "_law_k"] ["_law_pool", "_law_words", "_law_letters_here", "_law_deep"] (fnScope s_law_side) := fnScope_by (by decide +kernel)
abbrev s_law_letters : Stmt := top 29
theorem sc__law_letters : FnScope ["_law_t", "_law_node"] ["_law_t"] (fnScope s_law_letters) := fnScope_by (by decide +kernel)
abbrev s_law_inner : Stmt := top 30
theorem sc__law_inner : FnScope ["_law_t", "_law_inner_here", "_law_part"] ["_law_t"] (fnScope s_law_inner) := fnScope_by (by decide +kernel)
abbrev s_law_reason : Stmt := top 31
theorem sc__law_reason : FnScope ["_law_left", "_law_right", "_law_given", "_law_wanted", "_law_node", "_law_letter"] ["_law_left", "_law_right"] (fnScope s_law_reason) := fnScope_by (by decide +kernel)
abbrev s_law : Stmt := top 32
theorem sc_law : FnScope ["_law_script", "_law_pool", "_law_capitals", "_law_words", "_law_letters_here", "_law_left", "_law_right", "_law_one", "_law_two", "_law_way", "_law_text_here", "_law_due", "_law_odd", "_law_told", "_law_rule", "_law_e", "_law_k", "_law_j"] ["_law_script"] (fnScope s_law) := fnScope_by (by decide +kernel)
end Rp
namespace Rp
open PySem PySem.Spec PyProof.Rows L2 SX C8
/-! the words: lk (a fact of an earlier heap, now), ne (two addresses differ), fr (a frame over several), sz (a size), one, go (the reading from the left) -/
local macro_rules | `(tactic| walk_at "lk") => `(tactic| first
  | assumption
  | ((with_reducible refine' Fr.go0 ?f ?k1); (case f => assumption); (case k1 => walk_at "lk"))
  | ((with_reducible refine' Fr.go ?f ?n ?k1); (case f => assumption); (case n => walk_at "nin"); (case k1 => walk_at "lk"))
  | ((with_reducible refine' Kp.sqT ?f ?k1); (case f => assumption); (case k1 => walk_at "lk"))
  | ((with_reducible refine' TupAt.mono ?f ?k1); (case f => assumption); (case k1 => walk_at "lk"))
  | ((with_reducible refine' FormAt.mono ?f ?k1); (case f => assumption); (case k1 => walk_at "lk"))
  | ((with_reducible refine' FormsAt.mono ?f ?k1); (case f => assumption); (case k1 => walk_at "lk"))
  | ((with_reducible refine' RuleAt.mono ?f ?k1); (case f => assumption); (case k1 => walk_at "lk"))
  | ((with_reducible refine' TupsAt.mono ?f ?k1); (case f => assumption); (case k1 => walk_at "lk"))
  | ((with_reducible refine' Fr.pool0 ?f ?k1); (case f => assumption); (case k1 => walk_at "lk"))
  | ((with_reducible refine' Fr.poolN ?f ?n ?g ?k1); (case f => assumption); (case n => assumption); (case g => walk_at "lk"); (case k1 => walk_at "lk"))
  | ((with_reducible refine' SqL.of ?k1); (case k1 => walk_at "lk"))
  | ((with_reducible refine' SqT.of ?k1); (case k1 => walk_at "lk"))
  | ((with_reducible refine' Fr.sq0 ?f ?k1); (case f => assumption); (case k1 => walk_at "lk"))
  | ((with_reducible refine' Fr.sq ?f ?n ?k1); (case f => assumption); (case n => walk_at "nin"); (case k1 => walk_at "lk")))
local macro_rules | `(tactic| walk_at "nin") => `(tactic| ((with_reducible refine' nin1 ?k1); (case k1 => walk_at "ne")))
local macro_rules | `(tactic| walk_at "ne") => `(tactic| first
  | assumption
  | exact Ne.symm (by assumption)
  | exact ne_nin (by assumption)
  | ((with_reducible refine' ne_new ?f ?k1); (case f => assumption); (case k1 => walk_at "lk"))
  | ((with_reducible refine' ne_new' ?f ?k1); (case f => assumption); (case k1 => walk_at "lk"))
  | ((with_reducible refine' ne_pool ?f ?k1); (case f => assumption); (case k1 => walk_at "lk"))
  | ((with_reducible refine' ne_pool' ?f ?k1); (case f => assumption); (case k1 => walk_at "lk")))
local macro_rules | `(tactic| walk_at "fr") => `(tactic| (intro b o hb e; walk_at "lk"))
local macro_rules | `(tactic| walk_at "nn") => `(tactic| first | assumption | ((with_reducible refine' Fr.free0 ?f ?k1); (case f => assumption); (case k1 => walk_at "nn")))
local macro_rules | `(tactic| walk_at "sz") => `(tactic| first
  | assumption
  | omega
  | (simp only [sizeLine_eq, List.length_cons, List.length_nil, List.length_append, List.length_map, List.length_take]; omega)
  | decide)
local macro_rules | `(tactic| walk_at "at") => `(tactic| first | exact atI0 _ _ | exact atI1 _ _ _ | exact atI2 _ _ _ _ | exact atI_last _ _ | rfl | assumption)
local macro_rules | `(tactic| walk_at "var") => `(tactic| first
  | with_reducible refine u_v0 ?_ | with_reducible refine u_v1 ?_ | with_reducible refine u_v2 ?_ | with_reducible refine u_v3 ?_ | with_reducible refine u_v4 ?_ | with_reducible refine u_v5 ?_ | with_reducible refine u_v6 ?_
  | with_reducible refine u_v7 ?_ | with_reducible refine u_v8 ?_ | with_reducible refine u_v9 ?_ | with_reducible refine u_v10 ?_ | with_reducible refine u_v11 ?_ | with_reducible refine u_v12 ?_ | with_reducible refine u_v13 ?_
  | with_reducible refine u_v14 ?_ | with_reducible refine u_v15 ?_ | with_reducible refine u_v16 ?_ | with_reducible refine u_v17 ?_ | with_reducible refine u_v18 ?_
  | with_reducible refine u_v19 ?_ | with_reducible refine u_v20 ?_ | with_reducible refine u_v21 ?_ | with_reducible refine u_v22 ?_ | with_reducible refine u_v23 ?_ | with_reducible refine u_v24 ?_)
local macro_rules | `(tactic| walk_at "sto") => `(tactic| first
  | with_reducible refine u_g0 ?_ | with_reducible refine u_g1 ?_ | with_reducible refine u_g2 ?_ | with_reducible refine u_g3 ?_ | with_reducible refine u_g4 ?_ | with_reducible refine u_g5 ?_ | with_reducible refine u_g6 ?_
  | with_reducible refine u_g7 ?_ | with_reducible refine u_g8 ?_ | with_reducible refine u_g9 ?_ | with_reducible refine u_g10 ?_ | with_reducible refine u_g11 ?_ | with_reducible refine u_g12 ?_ | with_reducible refine u_g13 ?_
  | with_reducible refine u_g14 ?_ | with_reducible refine u_g15 ?_ | with_reducible refine u_g16 ?_ | with_reducible refine u_g17 ?_ | with_reducible refine u_g18 ?_
  | with_reducible refine u_g19 ?_ | with_reducible refine u_g20 ?_ | with_reducible refine u_g21 ?_ | with_reducible refine u_g22 ?_ | with_reducible refine u_g23 ?_ | with_reducible refine u_g24 ?_)
local macro_rules | `(tactic| walk_at "one") => `(tactic| first
  | with_reducible refine u_op ?_
  | with_reducible refine u_c ?_
  | walk_at "var"
  | with_reducible refine u_cons ?_
  | with_reducible refine u_nil ?_
  | with_reducible refine u_seq ?_
  | with_reducible refine u_asg ?_
  | walk_at "sto"
  | with_reducible refine u_test ?_
  | with_reducible refine u_tB ?_
  | with_reducible refine u_bl ?_
  | with_reducible refine u_ifS ?_
  | with_reducible refine u_ret ?_
  | with_reducible refine u_CB ?_
  | with_reducible refine u_call ?_
  | with_reducible refine u_rI0 ?_
  | ((with_reducible refine u_rI ?k1 ?_); (case k1 => first | (with_unfolding_all exact (by decide : (0 : Int) < _)) | assumption | omega | decide | exact ⟨by omega, by omega⟩ | exact Or.inl ⟨by omega, by omega⟩ | exact Or.inr ⟨by omega, by omega⟩ | exact ⟨by decide, by decide, by decide⟩))
  | with_reducible refine u_rU ?_
  | with_reducible refine u_eqI ?_
  | with_reducible refine u_neI ?_
  | with_reducible refine u_eqS ?_
  | with_reducible refine u_neS ?_
  | with_reducible refine u_and ?_
  | with_reducible refine u_or ?_
  | with_reducible refine u_not ?_
  | with_reducible refine u_ifE ?_
  | with_reducible refine u_andV ?_
  | with_reducible refine u_orV ?_
  | with_reducible refine u_notV ?_
  | with_reducible refine u_ifT ?_
  | with_reducible refine u_ifF ?_
  | with_reducible refine u_ifnT ?_
  | with_reducible refine u_ifnF ?_
  | with_reducible refine u_tup ?_
  | with_reducible refine u_lst ?_
  | ((with_reducible refine u_tupk ?k1 (fun _ _ _ _ _ _ => ?_)); (case k1 => rfl))
  | ((with_reducible refine u_lstk ?k1 (fun _ _ _ _ _ _ => ?_)); (case k1 => rfl))
  | with_reducible refine u_sub ?_
  | with_reducible refine u_drop ?_
  | with_reducible refine u_next ?_
  | with_reducible refine u_break ?_
  | with_reducible refine u_cont ?_
  | with_reducible refine u_retN ?_
  | with_reducible refine u_int1 ?_
  | with_reducible refine u_sl ?_
  | with_reducible refine u_noPart ?_
  | with_reducible refine u_part ?_
  | with_reducible refine u_int ?_
  | with_reducible refine u_bm ?_
  | with_reducible refine u_bm0 ?_
  | with_reducible refine u_un ?_
  | with_reducible refine u_inC ?_
  | with_reducible refine u_notInC ?_
  | with_reducible refine u_m1 ?_
  | with_reducible refine u_isS ?_
  | with_reducible refine u_gcons ?_
  | with_reducible refine u_gnil ?_
  | ((with_reducible refine' u_gtup ?k1 ?k2 ?_); (case k1 => walk_at "lk"); (case k2 => rfl))
  | ((with_reducible refine u_slC ?k1 ?_); (case k1 => walk_at "sz"))
  | ((with_reducible refine' u_slL ?k1 (fun _ _ _ _ _ _ => ?_)); (case k1 => walk_at "lk"))
  | ((with_reducible refine u_lenS ?k1 ?_); (case k1 => walk_at "sz"))
  | ((with_reducible refine u_addS ?k1 ?_); (case k1 => walk_at "sz"))
  | ((with_reducible refine' u_sum ?k1 ?_); (case k1 => walk_at "lk"))
  | with_reducible refine u_lc ?_
  | with_reducible refine u_for ?_
  | with_reducible refine u_rng1 ?_
  | ((with_reducible refine u_rng1' ?k1 ?k2 ?_); (case k1 => omega); (case k2 => omega))
  | with_reducible refine u_rng2 ?_
  | ((with_reducible refine u_rng2' ?k1 ?k2 ?k3 ?k4 ?_); (case k1 => omega); (case k2 => omega); (case k3 => omega); (case k4 => omega))
  | with_reducible refine u_rng3 ?_
  | with_reducible refine u_itup ?_
  | ((with_reducible refine' u_itup' ?k1 ?_); (case k1 => walk_at "lk"))
  | with_reducible refine u_ilist ?_
  | with_reducible refine u_istr ?_
  | with_reducible refine u_lc2 ?_
  | with_reducible refine u_izip ?_
  | ((with_reducible refine' u_izipT ?k1 ?k2 ?_); (case k1 => walk_at "lk"); (case k2 => walk_at "lk"))
  | with_reducible refine u_lenT2 ?_
  | ((with_reducible refine' u_dnew (fun _ _ _ _ _ _ => ?_)))
  | with_reducible refine u_dput ?_
  | with_reducible refine u_dg2 ?_
  | ((with_reducible refine' u_dg2k ?k1 ?_); (case k1 => walk_at "lk"))
  | with_reducible refine u_istrK ?_
  | ((with_reducible refine' u_ilist' ?k1 ?_); (case k1 => walk_at "lk"))
  | with_reducible refine u_yes_ ?_
  | with_reducible refine u_trn ?_
  | ((with_reducible refine u_wipe ?k1 ?_); (case k1 => rfl))
  | with_reducible refine u_body ?_
  | ((with_reducible refine' u_pop ?k1 (fun _ _ _ _ => ?_)); (case k1 => walk_at "lk"))
  | with_reducible refine u_isN0 ?_
  | with_reducible refine u_isN1 ?_
  | with_reducible refine u_notN0 ?_
  | with_reducible refine u_notN1 ?_
  | ((with_reducible refine u_mkl ?k1 ?_); (case k1 => rfl))
  | with_reducible refine u_mk ?_
  | with_reducible refine u_methS ?_
  | with_reducible refine u_pinC ?_
  | with_reducible refine u_pinK ?_
  | with_reducible refine u_xf ?_
  | with_reducible refine u_mko ?_
  | with_reducible refine u_meth ?_
  | with_reducible refine u_chain ?_
  | ((with_reducible refine' u_truL ?k1 ?_); (case k1 => walk_at "lk"))
  | ((with_reducible refine' u_truT ?k1 ?_); (case k1 => walk_at "lk"))
  | with_reducible refine u_aug ?_
  | with_reducible refine u_fldk ?_
  | with_reducible refine u_sfld ?_
  | with_reducible refine u_tru ?_
  | ((with_reducible refine' u_cat ?k1 ?k2 ?k3 (fun _ _ _ _ _ _ => ?_)); (case k1 => walk_at "lk"); (case k2 => walk_at "lk"); (case k3 => walk_at "sz"))
  | ((with_reducible refine' u_rep ?k1 ?k2 ?k3 (fun _ _ _ _ _ _ => ?_)); (case k1 => walk_at "lk"); (case k2 => omega); (case k3 => omega))
  | ((with_reducible refine' u_turn ?k1 ?k2 (fun _ _ _ _ => ?_)); (case k1 => walk_at "lk"); (case k2 => walk_at "sz"))
  | ((with_reducible refine' u_skip ?k1 ?_); (case k1 => walk_at "lk"))
  | ((with_reducible refine' u_tyL ?k1 ?_); (case k1 => walk_at "lk"))
  | ((with_reducible refine' u_ixL ?k1 ?k2 ?_); (case k1 => walk_at "lk"); (case k2 => walk_at "at"))
  | ((with_reducible refine' u_ixT ?k1 ?k2 ?_); (case k1 => walk_at "lk"); (case k2 => walk_at "at"))
  | ((with_reducible refine' u_lenL ?k1 ?_); (case k1 => walk_at "lk"))
  | ((with_reducible refine' u_lenT ?k1 ?_); (case k1 => walk_at "lk"))
  | ((with_reducible refine' u_listL ?k1 (fun _ _ _ _ _ _ => ?_)); (case k1 => walk_at "lk"))
  | ((with_reducible refine' u_listT ?k1 (fun _ _ _ _ _ _ => ?_)); (case k1 => walk_at "lk"))
  | ((with_reducible refine' u_tupleL ?k1 (fun _ _ _ _ _ _ => ?_)); (case k1 => walk_at "lk"))
  | ((with_reducible refine' u_setL ?k1 ?k2 (fun _ _ _ _ => ?_)); (case k1 => walk_at "lk"); (case k2 => rfl))
  | ((with_reducible refine' u_append ?k1 ?k2 (fun _ _ _ _ => ?_)); (case k1 => walk_at "lk"); (case k2 => walk_at "sz"))
  | ((with_reducible refine' u_extend ?k1 ?k2 ?k3 (fun _ _ _ _ => ?_)); (case k1 => walk_at "lk"); (case k2 => walk_at "lk"); (case k3 => walk_at "sz"))
  | ((with_reducible refine' u_slA ?k1 (fun _ _ _ _ _ => ?_)); (case k1 => walk_at "lk"))
  | ((with_reducible refine' u_catA ?k1 ?k2 ?k3 (fun _ _ _ _ _ => ?_)); (case k1 => walk_at "lk"); (case k2 => walk_at "lk"); (case k3 => walk_at "sz")))
local macro_rules | `(tactic| walk_at "go") => `(tactic| repeat walk_at "one")
section
variable {P : Program} {w : World} {K : PySem.W.Frag} {mg : Str → Option Value} {base : Heap}
theorem cal_draw (T : Bi mg) (D : DefE K mg "_law_draw" s_law_draw ["_law_pool", "_law_many"]) : Cal P w K mg base 1 "_law_draw" spDraw [] := by
  obtain ⟨f, fd, D, b⟩ := D.ex
  refine cal0 D b .nil sc__law_draw (fun vs H Q E h => ?_) (fun cdv A outer s H vs Q E hr h => ?_)
  · obtain ⟨p, l, m, rfl, _⟩ := h
    rfl
  · obtain ⟨p, l, m, rfl, ⟨ns, i, d, s, t, hp, hl, hi⟩, hm, hm2, k⟩ := h
    refine ⟨_, (pss_cut (ps_if (PW.pt (pw_and (pt_cmpR op_eq (pe_ix (ix_listK K) (pv 0) pe_int (fun _ _ => rfl)) pe_int (nomark _)) (pw_and1 (pt_cmpR op_lt (pe_ix (ix_listK K) (pv 0) pe_int (fun _ _ => rfl)) (pe_callB (k_lenK K) (by rfl) T.n_len (by decide +kernel) (pa_cons (pe_ix (ix_listK K) (pv 0) pe_int (fun _ _ => rfl)) pa_nil)) (nomark _))))) (pss_cons (ps_set (i := 2) sc__law_draw.nd rfl (Or.inl rfl) (pe_ix (ix_listK K) (pe_ix (ix_listK K) (pv 0) pe_int (fun _ _ => rfl)) (pe_ix (ix_listK K) (pv 0) pe_int (fun _ _ => rfl)) (fun _ _ => rfl)))
  (pss_cons (ps_asg (pe_op op_add (pe_ix (ix_listK K) (pv 0) pe_int (fun _ _ => rfl)) pe_int) (pg_sub (pv 0) pe_int set_list))
  (pss_cons (ps_if (pt_cmpR op_lt (pv 2) (pe_op op_pow pe_int pe_int) (nomark _)) (pss_one (ps_ret (pe_op op_mod (pe_callTy k_int (by rfl) T.n_int (by decide +kernel) (pa_cons (pv 2) pa_nil)) (pv 1)))) pss_nil)
  (pss_one (ps_asg (pv 2) (pg_sub (pv 0) pe_int set_list)))))) pss_nil)
  (pss_cons (ps_if (pt_cmpR op_gt (pe_ix (ix_listK K) (pv 0) pe_int (fun _ _ => rfl)) pe_int (nomark _)) (pss_cons (ps_set (i := 3) sc__law_draw.nd rfl (Or.inl rfl) (pe_op op_mod (pe_callTy k_int (by rfl) T.n_int (by decide +kernel) (pa_cons (pe_ix (ix_listK K) (pv 0) pe_int (fun _ _ => rfl)) pa_nil)) (pv 1)))
  (pss_cons (ps_asg (pe_op op_fdiv (pe_ix (ix_listK K) (pv 0) pe_int (fun _ _ => rfl)) (pv 1)) (pg_sub (pv 0) pe_int set_list))
  (pss_one (ps_ret (pv 3))))) pss_nil)
  (pss_cons (ps_asg (pe_op op_add (pe_ix (ix_listK K) (pv 0) pe_int (fun _ _ => rfl)) pe_int) (pg_sub (pv 0) pe_int set_list))
  (pss_cons (ps_set (i := 4) sc__law_draw.nd rfl (Or.inl rfl) (pe_op op_mod (pe_callTy k_int (by rfl) T.n_int (by decide +kernel) (pa_cons (pe_op op_add (pe_ix (ix_listK K) (pv 0) pe_int (fun _ _ => rfl)) (pe_op op_mul pe_int (pe_ix (ix_listK K) (pv 0) pe_int (fun _ _ => rfl)))) pa_nil)) pe_int))
  (pss_cons (ps_set (i := 4) sc__law_draw.nd rfl (Or.inl rfl) (pe_op op_mod (pe_callTy k_int (by rfl) T.n_int (by decide +kernel) (pa_cons (pe_op op_add (pe_op op_add (pe_op op_mul (pv 4) (pv 4)) (pe_op op_fdiv (pe_ix (ix_listK K) (pv 0) pe_int (fun _ _ => rfl)) pe_int)) (pe_ix (ix_listK K) (pv 0) pe_int (fun _ _ => rfl))) pa_nil)) pe_int))
  (pss_one (ps_ret (pe_op op_mod (pe_callTy k_int (by rfl) T.n_int (by decide +kernel) (pa_cons (pv 4) pa_nil)) (pv 1))))))))), ?_⟩
    refine u_start [some (.ref p), some (.int m), none, none, none] rfl ?_
    have npl : l ≠ p := fun e => by rw [e, hp] at hl; cases ns <;> simp at hl
    refine u_cut (Mid := fun σ' H' => ∃ z i' d', σ' = [some (V.ref p), some (V.int m), z, none, none] ∧ Fr [p] H H' ∧ H' p = some (.lst [.ref l, .int i', .int d', .int s, .int t]) ∧ 0 ≤ i') ?_ ?_
    · walk_at "go"
      refine u_if (fun h1 => ?_) (fun h1 => ?_)
      · walk_at "go"
        refine u_if (fun h2 => ?_) (fun h2 => ?_)
        · walk_at "go"
          obtain ⟨z, hz⟩ := atI_ints hi h2
          refine u_ixL (SqL.of hl) hz ?_
          walk_at "go"
          refine u_if (fun h3 => ?_) (fun h3 => ?_)
          · walk_at "go"
            refine k _ _ (Int.emod_nonneg _ (by omega)) (Int.emod_lt_of_pos _ hm) ⟨ns, i + 1, d, s, t, by assumption, by walk_at "lk", by omega⟩ (by assumption)
          · walk_at "go"
            exact ⟨_, i + 1, z, rfl, Fr.trans (by assumption) (by assumption), by assumption, by omega⟩
        · walk_at "go"
          exact ⟨_, _, _, rfl, Fr.refl _, hp, hi⟩
      · walk_at "go"
        exact ⟨_, _, _, rfl, Fr.refl _, hp, hi⟩
    · rintro σ' H' ⟨z, i', d', rfl, f, hp', hi'⟩
      have hl' : H' l = some (.lst (ns.map V.int)) := f _ _ (nin1 npl) hl
      walk_at "go"
      refine u_if (fun h1 => ?_) (fun h1 => ?_)
      · walk_at "go"
        refine k _ _ (Int.emod_nonneg _ (by omega)) (Int.emod_lt_of_pos _ hm) ⟨ns, i', d' / m, s, t, by assumption, by walk_at "lk", by omega⟩ (Fr.trans f (by assumption))
      · walk_at "go"
        refine k _ _ (Int.emod_nonneg _ (by omega)) (Int.emod_lt_of_pos _ hm) ⟨ns, i', d', s, t + 1, by assumption, by walk_at "lk", by omega⟩ (Fr.trans f (by assumption))
end
section
variable {P : Program} {w : World} {K : PySem.W.Frag} {mg : Str → Option Value} {base : Heap}
theorem cal_pools (T : Bi mg) (D : DefE K mg "_law_pools" s_law_pools ["_law_script"]) : Cal P w K mg base 1 "_law_pools" (spPools K) [] := by
  obtain ⟨f, fd, D, b⟩ := D.ex
  refine cal0 D b .nil sc__law_pools (fun vs H Q E h => ?_) (fun cdv A outer s H vs Q E hr h => ?_)
  · obtain ⟨a, ns, rfl, _⟩ := h
    rfl
  · obtain ⟨a, ns, rfl, hS, hlen, k⟩ := h
    refine ⟨_, (pss_cons (ps_setLc (i := 1) (own := [("_law_k", 3)]) (g := gName 3) rfl sc__law_pools.nd rfl rfl (sw_true rfl rfl rfl (by decide +kernel)) (pi_range1 (by rfl) T.n_range (pa_cons (pe_callB (k_lenK K) (by rfl) T.n_len (by decide +kernel) (pa_cons (pv 0) pa_nil)) pa_nil)) (blkOk_by (own := [("_law_k", 3)]) (N := ["_law_script", "_law_back", "_law_seed", "_law_k"]) (sc := fnScope s_law_pools) (by decide +kernel)) (fun _ _ _ _ _ => pg_name (i := 3) sc__law_pools.nd rfl (Or.inl rfl)) (fun _ _ _ _ _ => pts_nil) (fun _ _ _ _ _ => (pe_ix (ix_listK K) (pv 0) (pe_op op_sub (pe_op op_sub (pe_callB (k_lenK K) (by rfl) T.n_len (by decide +kernel) (pa_cons (pv 0) pa_nil)) pe_int) (pv 3)) (fun _ _ => rfl))))
  (pss_cons (ps_set (i := 2) sc__law_pools.nd rfl (Or.inl rfl) (pe_op op_mod (pe_callTy k_int (by rfl) T.n_int (by decide +kernel) (pa_cons (pe_callB (k_sumK K) (by rfl) T.n_sum (by decide +kernel) (pa_cons (pe_lc (own := [("_law_k", 3)]) (g := gName 3) rfl sc__law_pools.nd (pi_range1 (by rfl) T.n_range (pa_cons (pe_callB (k_lenK K) (by rfl) T.n_len (by decide +kernel) (pa_cons (pv 0) pa_nil)) pa_nil)) (blkOk_by (own := [("_law_k", 3)]) (N := ["_law_script", "_law_back", "_law_seed", "_law_k"]) (sc := fnScope s_law_pools) (by decide +kernel)) (fun _ _ _ _ _ => pg_name (i := 3) sc__law_pools.nd rfl (Or.inl rfl)) (fun _ _ _ _ _ => pts_nil) (fun _ _ _ _ _ => (pe_op op_mul (pe_op op_add (pv 3) pe_int) (pe_ix (ix_listK K) (pv 0) (pv 3) (fun _ _ => rfl))))) pa_nil)) pa_nil)) pe_int))
  (pss_one (ps_ret (pe_lst (pa_cons (pe_lst (pa_cons (pe_callTy (k_listK K) (by rfl) T.n_list (by decide +kernel) (pa_cons (pv 0) pa_nil)) (pa_cons pe_int (pa_cons pe_int (pa_cons (pv 2) (pa_cons pe_int pa_nil)))))) (pa_cons (pe_lst (pa_cons (pv 1) (pa_cons pe_int (pa_cons pe_int (pa_cons (pv 2) (pa_cons pe_int pa_nil)))))) pa_nil))))))), ?_⟩
    refine u_start [some (.ref a), none, none, none] rfl ?_
    have hlen' : (ns.map V.int).length ≤ 63 := by simpa using hlen
    walk_at "go"
    refine lcRange _ [some (.ref a), none, none, none] rfl (fun i acc H1 => Fr [] H H1 ∧ ∃ ms : List Int, acc = ms.map V.int ∧ ms.length = i) ?_ ?_ ?_
    · intro D H1 _ f _ _
      exact ⟨f, [], rfl, rfl⟩
    · rintro D i acc H1 hD hi hacc ⟨f1, ms, rfl, hm⟩
      walk_at "go"
      obtain ⟨z, hz⟩ := atI_ints (ns := ns) (i := ((ns.map V.int).length : Int) - 1 - (0 + (i : Int))) (by omega) (by omega)
      refine u_ixL (by walk_at "lk") hz ?_
      walk_at "go"
      exact ⟨by walk_at "fr", ms ++ [z], by simp, by simp [hm]⟩
    · rintro D acc H1 hD hacc ⟨f1, ms, rfl, hm⟩
      walk_at "go"
      refine lcRange _ [some (.ref a), some (.ref D), none, none] rfl (fun i acc H2 => Fr [] H1 H2 ∧ ∃ ms : List Int, acc = ms.map V.int ∧ ms.length = i) ?_ ?_ ?_
      · intro D H1 _ f _ _
        exact ⟨f, [], rfl, rfl⟩
      · rintro D' i acc H2 hD' hi hacc' ⟨f2, ms', rfl, hm'⟩
        walk_at "go"
        obtain ⟨z, hz⟩ := atI_ints (ns := ns) (i := (0 + (i : Int))) (by omega) (by omega)
        refine u_ixL (by walk_at "lk") hz ?_
        walk_at "go"
        exact ⟨by walk_at "fr", ms' ++ [_], by simp; rfl, by simp [hm']⟩
      · rintro D' acc H2 hD' hacc' ⟨f2, ms', rfl, hm'⟩
        walk_at "go"
        refine k _ _ _ _ _ _ (by walk_at "fr") (by assumption) ⟨_, _, _, _, _, by walk_at "lk", by walk_at "lk", by omega⟩ ⟨_, _, _, _, _, by walk_at "lk", by walk_at "lk", by omega⟩ (by walk_at "ne") (by walk_at "ne") (by walk_at "ne")
end
section
variable {P : Program} {w : World} {K : PySem.W.Frag} {mg : Str → Option Value} {base : Heap}
theorem cal_text (T : Bi mg) (D : DefE K mg "_law_text" s_law_text ["_law_t"]) : ∀ k, Cal P w K mg base (k + 1) "_law_text" (spText K k) [] := by
  obtain ⟨f, fd, D, b⟩ := D.ex
  intro n
  induction n with
  | zero =>
    refine cal0 D b .nil sc__law_text (fun vs H Q E h => ?_) (fun cdv A outer s H vs Q E hr h => ?_)
    · obtain ⟨a, t, _, _, hd, _⟩ := h
      exact absurd hd (by omega)
    · obtain ⟨a, t, _, _, hd, _⟩ := h
      exact absurd hd (by omega)
  | succ n c_law_text =>
    refine cal0 D b .nil sc__law_text (fun vs H Q E h => ?_) (fun cdv A outer s H vs Q E hr h => ?_)
    · obtain ⟨a, t, rfl, _⟩ := h
      rfl
    · obtain ⟨a, t, rfl, ha, hd, hl, k⟩ := h
      refine ⟨_, (pss_cons (ps_if (pt_cmpR op_eq (pe_callB (k_lenK K) (by rfl) T.n_len (by decide +kernel) (pa_cons (pv 0) pa_nil)) pe_int (nomark _)) (pss_one (ps_ret (pe_ix (ix_tupK K) (pv 0) pe_int (fun _ _ => rfl)))) pss_nil)
  (pss_one (ps_ret (pe_op o_addS (pe_op o_addS (pe_op o_addS (pe_ix (ix_tupK K) (pv 0) pe_int (fun _ _ => rfl)) (pe_sS [40] (by decide +kernel))) (pe_joinK K (pe_sS [44, 32] (by decide +kernel)) (pe_lc (own := [("_law_part", 1)]) (g := gName 1) rfl sc__law_text.nd (pi_tupK K (pe_slice (sl_tupAK K) (pv 0) (po_some pe_int) po_none)) (blkOk_by (own := [("_law_part", 1)]) (N := ["_law_t", "_law_part"]) (sc := fnScope s_law_text) (by decide +kernel)) (fun _ _ _ _ _ => pg_name (i := 1) sc__law_text.nd rfl (Or.inl rfl)) (fun _ _ _ _ _ => pts_nil) (fun _ _ _ _ _ => (pe_c c_law_text hr (by omega) (by rfl) (pa_cons (pv 1) pa_nil)))))) (pe_sS [41] (by decide +kernel)))))), ?_⟩
      refine u_start [some (.ref a), none] rfl ?_
      obtain ⟨vs, hq, hv⟩ := ha.parts
      have lv := hv.length
      walk_at "go"
      refine u_if (fun h1 => ?_) (fun h1 => ?_)
      · have e : t.parts = [] := List.eq_nil_of_length_eq_zero (by simp at h1; omega)
        walk_at "go"
        rw [← t.text_leaf e]
        exact k H (Fr.refl H)
      · have e : t.parts ≠ [] := fun e => h1 (by rw [e] at lv; simp at lv; simp [lv.symm])
        have e1 := t.text_parts e
        have e2 := congrArg List.length e1
        have h2 := t.parts_le
        simp only [List.length_append, List.length_cons, List.length_nil] at e2
        walk_at "go"
        rename_i q H1 f1 k1 hq1
        rw [cutV_tail] at hq1
        refine lcTup hq1 [some (.ref a), none] rfl (fun i acc H2 => Fr [] H1 H2 ∧ Kp H1 H2 ∧ acc = ((t.parts.take i).map fun p => V.str (S p.text))) (fun _ _ _ h => h.2.1) ?_ ?_ ?_
        · intro D H2 _ f2 k2 _
          exact ⟨f2, k2, rfl⟩
        · rintro D i x acc H2 hD hx hacc ⟨f2, k2, rfl⟩
          obtain ⟨p, ap, hp, rfl, hap⟩ := hv.get hx
          have hm := List.mem_of_getElem? hp
          have hi := (List.getElem?_eq_some_iff.mp hp).1
          have hpl := Fm.text_part hm
          walk_at "go"
          refine u_text (by walk_at "lk") (Nat.lt_of_lt_of_le (Fm.depth_part hm) (by omega)) (by omega) (fun H3 f3 k3 => ?_)
          walk_at "go"
          exact ⟨by walk_at "fr", Kp.trans k2 (Kp.trans k3 (by assumption)), take_succ_map (f := fun p => V.str (S p.text)) hp⟩
        · rintro D acc H2 hD hacc ⟨f2, k2, rfl⟩
          rw [take_all hv.length.symm] at hacc
          refine u_join (ys := t.parts.map Fm.text) (SqL.of (by simpa [vS, List.map_map, Function.comp_def] using hacc)) ?_ ?_
          · rw [joinL_len _ _ (by simpa using e)]
            simp only [List.length_cons, List.length_nil]
            omega
          · walk_at "go"
            rw [show t.name ++ [40] ++ TL.joinL [44, 32] (t.parts.map Fm.text) ++ [41] = t.text by rw [e1]; simp]
            exact k _ (by walk_at "fr")
end
section
variable {P : Program} {w : World} {K : PySem.W.Frag} {mg : Str → Option Value} {base : Heap}
theorem ok_init {C f : Addr} {fd : FuncData} (T : Bi mg) (F : FC K mg C) (D : C8.Fun K "__init__" "Formula.__init__" s_Formula___init__ f fd) : FnOk P w K mg base C8.CX0 1 f fd ["self", "name", "parts"] (spInit K C) := by
  refine fn0 D sc_Formula___init__ (fun vs H Q E h => ?_) (fun cdv A outer s H vs Q E hr h => ?_)
  · obtain ⟨x, dx, p, nm, ps, ws, rfl, _⟩ := h
    rfl
  · obtain ⟨x, dx, p, nm, ps, ws, rfl, hx, hp, hf, h2, hl, k⟩ := h
    refine ⟨_, (pss_cons (ps_fldK K (pv 0) (pv 1))
  (pss_cons (ps_fldK K (pv 0) (pv 2))
  (pss_cons (ps_fldK K (pv 0) (pe_op op_add pe_int (pe_callB (k_sumK K) (by rfl) T.n_sum (by decide +kernel) (pa_cons (pe_lc (own := [("part", 3)]) (g := gName 3) rfl sc_Formula___init__.nd (pi_tupK K (pv 2)) (blkOk_by (own := [("part", 3)]) (N := ["self", "name", "parts", "part"]) (sc := fnScope s_Formula___init__) (by decide +kernel)) (fun _ _ _ _ _ => pg_name (i := 3) sc_Formula___init__.nd rfl (Or.inl rfl)) (fun _ _ _ _ _ => pts_nil) (fun _ _ _ _ _ => (pe_fldK K (pv 3)))) pa_nil))))
  (pss_cons (ps_fldK K (pv 0) (pv 1))
  (pss_one (ps_if (pt_truthK K (pv 2)) (pss_one (ps_fldK K (pv 0) (pe_op o_addS (pe_op o_addS (pe_op o_addS (pv 1) (pe_sS [40] (by decide +kernel))) (pe_joinK K (pe_sS [44, 32] (by decide +kernel)) (pe_lc (own := [("part", 3)]) (g := gName 3) rfl sc_Formula___init__.nd (pi_tupK K (pv 2)) (blkOk_by (own := [("part", 3)]) (N := ["self", "name", "parts", "part"]) (sc := fnScope s_Formula___init__) (by decide +kernel)) (fun _ _ _ _ _ => pg_name (i := 3) sc_Formula___init__.nd rfl (Or.inl rfl)) (fun _ _ _ _ _ => pts_nil) (fun _ _ _ _ _ => (pe_fldK K (pv 3)))))) (pe_sS [41] (by decide +kernel))))) pss_nil)))))), ?_⟩
    refine u_start [some (.ref x), some (.str (S nm)), some (.ref p), none] rfl ?_
    walk_at "go"
    refine u_sflk (by walk_at "lk") F.cl F.nn rfl pf1 (fun H1 f1 e1 => ?_)
    walk_at "go"
    refine u_sflk (by walk_at "lk") F.cl F.np rfl pf2 (fun H2 f2 e2 => ?_)
    have g2 : Fr [x] H H2 := Fr.trans f1 f2
    have k2 := g2.kp1 hx (by intro q; rcases q with q | q | q | q <;> cases q)
    have hf2 := hf.mono k2
    have hp2 := k2.sqT hp
    walk_at "go"
    refine lcTup hp2 [some (.ref x), some (.str (S nm)), some (.ref p), none] rfl (fun i acc H3 => Fr [] H2 H3 ∧ Kp H2 H3 ∧ acc = ((ps.take i).map fun q => V.int q.size)) (fun _ _ _ h => h.2.1) ?_ ?_ ?_
    · intro D H3 _ f3 k3 _
      exact ⟨f3, k3, rfl⟩
    · rintro D i y acc H3 hD hy hacc ⟨f3, k3, rfl⟩
      obtain ⟨q, aq, hq, rfl, hfq⟩ := hf2.get hy
      have hi := (List.getElem?_eq_some_iff.mp hq).1
      walk_at "go"
      refine u_fSize F (by walk_at "lk") ?_
      walk_at "go"
      exact ⟨by walk_at "fr", Kp.trans k3 (by assumption), take_succ_map (f := fun q => V.int q.size) hq⟩
    · rintro D acc H3 hD hacc ⟨f3, k3, rfl⟩
      rw [take_all hf.length.symm] at hacc
      walk_at "go"
      refine u_sumE (ns := ps.map fun q => (q.size : Int)) (by rw [List.map_map]; rfl) (SqL.of hacc) ?_
      walk_at "go"
      rw [show (1 : Int) + (ps.map fun q => (q.size : Int)).sum = (Fm.mk nm ps).size by
        rw [Fm.size_eq, Fm.mk_parts h2, ← sum_cast ps]]
      refine u_sflk (by walk_at "lk") F.cl F.ns rfl pf3 (fun H4 f4 e4 => ?_)
      walk_at "go"
      refine u_sflk (fs' := fF nm p (Fm.mk nm ps).size nm) (by walk_at "lk") F.cl F.nt rfl pf4 (fun H5 f5 e5 => ?_)
      have g5 : Fr [x] H H5 := by walk_at "fr"
      have k5 := g5.kp1 hx (by intro q; rcases q with q | q | q | q <;> cases q)
      have hf5 := hf.mono k5
      have hp5 := k5.sqT hp
      walk_at "go"
      refine u_ifn' (fun h3 => ?_) (fun h3 => ?_)
      · have e0 : (Fm.mk nm ps).parts ≠ [] := by rw [Fm.mk_parts h2]; intro q; subst q; cases hf; exact h3 rfl
        have e1 := (Fm.mk nm ps).text_parts e0
        rw [Fm.mk_name, Fm.mk_parts h2] at e1
        have e2 := congrArg List.length e1
        simp only [List.length_append, List.length_cons, List.length_nil] at e2
        walk_at "go"
        refine lcTup hp5 [some (.ref x), some (.str (S nm)), some (.ref p), none] rfl (fun i acc H6 => Fr [] H5 H6 ∧ Kp H5 H6 ∧ acc = ((ps.take i).map fun q => V.str (S q.text))) (fun _ _ _ h => h.2.1) ?_ ?_ ?_
        · intro D H6 _ f3 k3 _
          exact ⟨f3, k3, rfl⟩
        · rintro D i y acc H6 hD hy hacc ⟨f3, k3, rfl⟩
          obtain ⟨q, aq, hq, rfl, hfq⟩ := hf5.get hy
          have hi := (List.getElem?_eq_some_iff.mp hq).1
          walk_at "go"
          refine u_fText F (by walk_at "lk") ?_
          walk_at "go"
          exact ⟨by walk_at "fr", Kp.trans k3 (by assumption), take_succ_map (f := fun q => V.str (S q.text)) hq⟩
        · rintro D acc H6 hD hacc ⟨f3, k3, rfl⟩
          rw [take_all hf.length.symm] at hacc
          refine u_join (ys := ps.map Fm.text) (SqL.of (by simpa [vS, List.map_map, Function.comp_def] using hacc)) ?_ ?_
          · rw [joinL_len _ _ (by intro q; rw [Fm.mk_parts h2] at e0; exact e0 (by simpa using q))]
            simp only [List.length_cons, List.length_nil]
            omega
          · walk_at "go"
            rw [show nm ++ [40] ++ TL.joinL [44, 32] (ps.map Fm.text) ++ [41] = (Fm.mk nm ps).text by rw [e1]; simp]
            refine u_sflk (by walk_at "lk") F.cl F.nt rfl putF_put (fun H7 f7 e7 => ?_)
            have g7 : Fr [x] H H7 := by walk_at "fr"
            have k7 := g7.kp1 hx (by intro q; rcases q with q | q | q | q <;> cases q)
            walk_at "go"
            exact k H7 g7 (FormAt.into (by rw [Fm.mk_name]; exact e7) (k7.sqT hp) (by rw [Fm.mk_parts h2]; exact hf.mono k7))
      · subst h3
        cases hf
        walk_at "go"
        exact k H5 g5 (FormAt.into e5 hp5 .nil)
end
section
variable {P : Program} {w : World} {K : PySem.W.Frag} {mg : Str → Option Value} {base : Heap}
theorem cal_words (T : Bi mg) (D : DefE K mg "words_of" s_words_of ["text"]) : Cal P w K mg base 1 "words_of" spWords [] := by
  obtain ⟨f, fd, D, b⟩ := D.ex
  refine cal0 D b .nil sc_words_of (fun vs H Q E h => ?_) (fun cdv A outer s H vs Q E hr h => ?_)
  · obtain ⟨a, rfl, _⟩ := h
    rfl
  · obtain ⟨a, rfl, hl, k⟩ := h
    refine ⟨_, (pss_cons (ps_set (i := 1) sc_words_of.nd rfl (Or.inl rfl) (pe_lst pa_nil))
  (pss_cons (ps_set (i := 2) sc_words_of.nd rfl (Or.inl rfl) pe_int)
  (pss_cons (ps_while PassesOwn.never (pt_cmpR op_lt (pv 2) (pe_callB k_lenS (by rfl) T.n_len (by decide +kernel) (pa_cons (pv 0) pa_nil)) (nomark _)) (pss_cons (ps_set (i := 3) sc_words_of.nd rfl (Or.inl rfl) (pe_op op_add (pv 2) pe_int))
  (pss_cut (ps_if (pt_cmpR op_inC (pe_ix ix_str (pv 0) (pv 2) (fun _ _ => rfl)) (pe_gc (by rfl) T.gCAPITALS) (by rfl)) (pss_cut (ps_while PassesOwn.never (PW.pt (pw_and (pt_cmpR op_lt (pv 3) (pe_callB k_lenS (by rfl) T.n_len (by decide +kernel) (pa_cons (pv 0) pa_nil)) (nomark _)) (pw_and1 (pt_cmpR op_inC (pe_ix ix_str (pv 0) (pv 3) (fun _ _ => rfl)) (pe_gc (by rfl) T.gCAPITALS) (by rfl))))) (pss_one (ps_aug (i := 3) sc_words_of.nd rfl (Or.inl rfl) pe_int (fun _ _ _ _ _ _ _ _ _ I rx ry h => augR iop_add I rx ry h))))
  (pss_cons (ps_if (PW.pt (pw_or (pt_cmpR op_gt (pe_op op_sub (pv 3) (pv 2)) (pe_gc (by rfl) T.gLONGEST_NAME) (nomark _)) (pw_or1 (pt_cmpR op_ne (pe_slice sl_strC (pv 0) (po_some (pv 3)) (po_some (pe_op op_add (pv 3) pe_int))) (pe_sS [40] (by decide +kernel)) (nomark _))))) (pss_one (ps_ret (pe_lst pa_nil))) pss_nil)
  (pss_one (ps_aug (i := 3) sc_words_of.nd rfl (Or.inl rfl) pe_int (fun _ _ _ _ _ _ _ _ _ I rx ry h => augR iop_add I rx ry h))))) (pss_one (ps_if (pt_cmpR op_eq (pe_slice sl_strC (pv 0) (po_some (pv 2)) (po_some (pe_op op_add (pv 2) pe_int))) (pe_sS [44, 32] (by decide +kernel)) (nomark _)) (pss_one (ps_aug (i := 3) sc_words_of.nd rfl (Or.inl rfl) pe_int (fun _ _ _ _ _ _ _ _ _ I rx ry h => augR iop_add I rx ry h))) (pss_one (ps_if (pt_cmpR op_notInC (pe_ix ix_str (pv 0) (pv 2) (fun _ _ => rfl)) (pe_op o_addS (pe_op o_addS (pe_gc (by rfl) T.gLETTERS) (pe_gc (by rfl) T.gDIGITS)) (pe_sS [41] (by decide +kernel))) (by rfl)) (pss_one (ps_ret (pe_lst pa_nil))) pss_nil)))))
  (pss_cons (ps_expr (pe_bmK K PySem.F.plainAttrs_list PySem.F.slot_list_append PySem.F.type_list_append mt_append (pv 1) (pa_cons (pe_slice sl_strC (pv 0) (po_some (pv 2)) (po_some (pv 3))) pa_nil)))
  (pss_one (ps_set (i := 2) sc_words_of.nd rfl (Or.inl rfl) (pv 3)))))))
  (pss_one (ps_ret (pv 1)))))), ?_⟩
    refine u_start [some (.str (S a)), none, none, none] rfl ?_
    walk_at "go"
    rename_i q H1 hq f1 k1 e1
    refine u_while (fun m σ H2 => ∃ (s : Nat) (z : Option V) (ws : List (List Nat)), σ = [some (.str (S a)), some (.ref q), some (.int s), z] ∧ Fr [] H H2 ∧ H2 q = some (.lst (vS ws)) ∧ s ≤ a.length ∧ m = a.length - s ∧ ws.length ≤ s ∧ lex a = (lex (a.drop s)).map (ws ++ ·)) a.length ?_ ?_
    · exact ⟨0, _, [], rfl, by walk_at "fr", e1, Nat.zero_le _, by omega, Nat.le_refl _, by rw [List.drop_zero]; cases lex a <;> rfl⟩
    · rintro m σ H2 ⟨s, z, ws, rfl, f2, e2, hs, rfl, hws, hlex⟩
      walk_at "go"
      refine u_if (fun h1 => ?_) (fun h1 => ?_)
      · have h1' : s < a.length := by omega
        obtain ⟨c, hc, hd⟩ := drop_cons h1'
        walk_at "go"
        refine u_cut (Mid := fun σ' H' => ∃ e : Nat, σ' = [some (.str (S a)), some (.ref q), some (.int s), some (.int e)] ∧ H' = H2 ∧ s < e ∧ e ≤ a.length ∧ lexOne (a.drop s) = some (e - s)) ?_ ?_
        · walk_at "go"
          refine u_ixS (by omega) (atI_natN hc) ?_
          walk_at "go"
          refine u_if (fun h2 => ?_) (fun h2 => ?_)
          · have h2 := mem_cap.mp h2
            walk_at "go"
            refine u_cut (Mid := fun σ' H' => ∃ e : Nat, σ' = [some (.str (S a)), some (.ref q), some (.int s), some (.int e)] ∧ H' = H2 ∧ s < e ∧ e ≤ a.length ∧ capN (a.drop s) = e - s) ?_ ?_
            · refine u_while (fun m σ H3 => ∃ e : Nat, σ = [some (.str (S a)), some (.ref q), some (.int s), some (.int e)] ∧ H3 = H2 ∧ s < e ∧ e ≤ a.length ∧ m = a.length - e ∧ capN (a.drop s) = e - s + capN (a.drop e)) (a.length - (s + 1)) ?_ ?_
              · exact ⟨s + 1, rfl, rfl, by omega, by omega, rfl, by rw [capN_drop_cap hd h2]; omega⟩
              · rintro m σ H3 ⟨e, rfl, rfl, he1, he2, rfl, hcap⟩
                walk_at "go"
                refine u_if (fun h3 => ?_) (fun h3 => ?_)
                · obtain ⟨c', hc', hd'⟩ := drop_cons (a := a) (s := e) (by omega)
                  walk_at "go"
                  refine u_ixS (by omega) (atI_natN hc') ?_
                  walk_at "go"
                  refine u_if (fun h4 => ?_) (fun h4 => ?_)
                  · walk_at "go"
                    have h4 := mem_cap.mp h4
                    refine ⟨_, ?_, e + 1, rfl, rfl, by omega, by omega, rfl, ?_⟩
                    · omega
                    · rw [hcap, capN_drop_cap hd' h4]; omega
                  · have h4 : ¬ isCap c' := fun q => h4 (mem_cap.mpr q)
                    rw [capN_drop_not hd' h4, Nat.add_zero] at hcap
                    walk_at "go"
                    exact ⟨e, rfl, rfl, he1, he2, hcap⟩
                · have e0 : e = a.length := by omega
                  rw [e0, List.drop_length] at hcap
                  walk_at "go"
                  exact ⟨e, rfl, rfl, he1, he2, by rw [hcap, e0]; rfl⟩
            · rintro σ' H' ⟨e, rfl, rfl, he1, he2, hcap⟩
              have bad : (capN (a.drop s) > 6 ∨ (a.drop s)[capN (a.drop s)]? ≠ some 40) → lex a = none := fun q => by
                rw [hlex, lex_step (by rw [hd]; simp), hd, lexOne_cons, if_pos h2, ← hd, if_pos q]
                rfl
              walk_at "go"
              refine u_if (fun h5 => ?_) (fun h5 => ?_)
              · walk_at "go"
                refine k _ _ (by walk_at "fr") (by walk_at "nn") ?_
                rw [bad (.inl (by omega))]
                assumption
              · walk_at "go"
                rw [cutL_one]
                refine u_ifn (fun h6 => ?_) (fun h6 => ?_)
                · walk_at "go"
                  refine k _ _ (by walk_at "fr") (by walk_at "nn") ?_
                  rw [bad (.inr (by
                    rw [hcap, List.getElem?_drop, show s + (e - s) = e by omega]
                    intro q
                    rw [q] at h6
                    exact h6 rfl))]
                  assumption
                · walk_at "go"
                  have h6 : a[e]? = some 40 := by
                    cases q : a[e]? with
                    | none => rw [q] at h6; cases h6
                    | some d => rw [q] at h6; simpa using h6
                  have h7 := (List.getElem?_eq_some_iff.mp h6).1
                  refine ⟨e + 1, rfl, rfl, by omega, by omega, ?_⟩
                  have g : ¬ (capN (a.drop s) > 6 ∨ (a.drop s)[capN (a.drop s)]? ≠ some 40) := by
                    intro q
                    rcases q with q | q
                    · omega
                    · rw [hcap, List.getElem?_drop, show s + (e - s) = e by omega] at q
                      exact q h6
                  rw [hd, lexOne_cons, if_pos h2, ← hd, if_neg g, hcap]
                  congr 1
                  omega
          · have h2 : ¬ isCap c := fun q => h2 (mem_cap.mpr q)
            walk_at "go"
            rw [cutL_two]
            refine u_if (fun h3 => ?_) (fun h3 => ?_)
            · walk_at "go"
              refine ⟨s + 2, rfl, rfl, by omega, ?_, ?_⟩
              · have := congrArg List.length h3
                simp only [List.length_take, List.length_drop, List.length_cons, List.length_nil] at this
                omega
              · rw [hd] at h3 ⊢
                rw [lexOne_cons, if_neg h2, if_pos h3]
                congr 1
                omega
            · walk_at "go"
              refine u_ixS (by omega) (atI_natN hc) ?_
              walk_at "go"
              refine u_ifn (fun h4 => ?_) (fun h4 => ?_)
              · walk_at "go"
                refine k _ _ (by walk_at "fr") (by walk_at "nn") ?_
                rw [hlex, lex_step (by rw [hd]; simp), hd, lexOne_cons, if_neg h2, ← hd, if_neg h3, if_neg h4]
                assumption
              · walk_at "go"
                refine ⟨s + 1, rfl, rfl, by omega, by omega, ?_⟩
                rw [hd] at h3 ⊢
                rw [lexOne_cons, if_neg h2, if_neg h3, if_pos h4]
                congr 1
                omega
        · rintro σ' H' ⟨e, rfl, rfl, he1, he2, he⟩
          walk_at "go"
          rename_i H3 f3 k3 e3
          refine ⟨a.length - e, by omega, e, _, ws ++ [(a.drop s).take (e - s)], rfl, by walk_at "fr", ?_, he2, rfl, by simp; omega, ?_⟩
          · rw [e3, cutL_nat]
            simp [vS]
          · rw [hlex, lex_step (by rw [hd]; simp), he, Option.bind_some, List.drop_drop, show s + (e - s) = e by omega]
            cases lex (a.drop e) <;> simp
      · have e : s = a.length := by omega
        walk_at "go"
        refine k q H2 f2 hq ?_
        rw [hlex, e, List.drop_length, lex_nil]
        simpa using e2
end
section
variable {P : Program} {w : World} {K : PySem.W.Frag} {mg : Str → Option Value} {base : Heap}
theorem ok_Garbled {CX : CXT} {C f cc cda : Addr} {dV kV doc pm ct oc : Value} {an od : Option Addr} {osl : Array (Option Value)} (F : SupF K P mg C f cc cda) (hno : PySem.W.findIn K (.ref C) "line" = some none)
    (lk : K.lookup f = some ⟨oc, od, .func (PySem.W.ksFn "__init__" "Garbled.__init__" (fnArgs s_Garbled___init__) (fnBody s_Garbled___init__) (fnScope s_Garbled___init__) dV kV doc pm an (.ref cda) ct cc), osl⟩) (hcd : PySem.W.codeIn K (.ref cda) "Garbled.__init__" = true) :
    FnOk P w K mg base CX 1 f (PySem.W.ksFn "__init__" "Garbled.__init__" (fnArgs s_Garbled___init__) (fnBody s_Garbled___init__) (fnScope s_Garbled___init__) dV kV doc pm an (.ref cda) ct cc) ["self", "line"] (spXf C one1 (gOne "line")) := by
  have hc : ∃ cl cld csl v, K.lookup cc = some ⟨cl, cld, .cell v, csl⟩ := by obtain ⟨a, b, c, e⟩ := F.cell; exact ⟨a, b, c, _, e⟩
  refine fn_sup lk hcd sc_Garbled___init__ hc (fun vs H Q E h => ?_) (fun A outer s H vs Q E hr h => ?_)
  · obtain ⟨a, ws, rfl, ⟨v, rfl⟩, _⟩ := h
    rfl
  · obtain ⟨a, ws, rfl, ⟨v, rfl⟩, ha, k⟩ := h
    refine ⟨fun s1 I => ?_, ?_⟩
    · exact sup_stmt (pl := _) (X := cxS CX P w K mg base _ "Garbled.__init__" (fnScope s_Garbled___init__) f (.ref cda) cc A outer s H E) F I ha (by rfl) (by rfl) (by rfl) (by rfl) (by rfl) lk (by rfl) (by rfl) (by rfl) (by rfl) (by rfl) (pa_cons pe_str pa_nil) (by simp [tCons, tC, tNil])
    · refine ⟨_, pss_one (ps_ost (pv 0) (pv 1)), ?_⟩
      refine u_start [some (.ref a), some v] rfl ?_
      exact ⟨v, rfl, .ref a, rfl, a, C, rfl, F.oex, hno, .inl ⟨ha, k⟩⟩
end
section
variable {P : Program} {w : World} {K : PySem.W.Frag} {mg : Str → Option Value} {base : Heap}
theorem ok_BadRule {CX : CXT} {C f cc cda : Addr} {dV kV doc pm ct oc : Value} {an od : Option Addr} {osl : Array (Option Value)} (F : SupF K P mg C f cc cda) (hno : PySem.W.findIn K (.ref C) "line" = some none) (hno2 : PySem.W.findIn K (.ref C) "reason" = some none)
    (lk : K.lookup f = some ⟨oc, od, .func (PySem.W.ksFn "__init__" "BadRule.__init__" (fnArgs s_BadRule___init__) (fnBody s_BadRule___init__) (fnScope s_BadRule___init__) dV kV doc pm an (.ref cda) ct cc), osl⟩) (hcd : PySem.W.codeIn K (.ref cda) "BadRule.__init__" = true) :
    FnOk P w K mg base CX 1 f (PySem.W.ksFn "__init__" "BadRule.__init__" (fnArgs s_BadRule___init__) (fnBody s_BadRule___init__) (fnScope s_BadRule___init__) dV kV doc pm an (.ref cda) ct cc) ["self", "reason", "line"] (spXf C two2 (gTwo "reason" "line")) := by
  have hc : ∃ cl cld csl v, K.lookup cc = some ⟨cl, cld, .cell v, csl⟩ := by obtain ⟨a, b, c, e⟩ := F.cell; exact ⟨a, b, c, _, e⟩
  refine fn_sup lk hcd sc_BadRule___init__ hc (fun vs H Q E h => ?_) (fun A outer s H vs Q E hr h => ?_)
  · obtain ⟨a, ws, rfl, ⟨z, v, rfl, _⟩, _⟩ := h
    rfl
  · obtain ⟨a, ws, rfl, ⟨z, v, rfl, hz⟩, ha, k⟩ := h
    refine ⟨fun s1 I => ?_, ?_⟩
    · refine sup_stmt (pl := _) (X := cxS CX P w K mg base _ "BadRule.__init__" (fnScope s_BadRule___init__) f (.ref cda) cc A outer s H E) F I ha (by rfl) (by rfl) (by rfl) (by rfl) (by rfl) lk (by rfl) (by rfl) (by rfl) (by rfl) (by rfl) (pa_cons (pe_op o_addS (pe_sS [116, 104, 101, 32, 114, 117, 108, 101, 32, 105, 115, 32, 110, 111, 116, 32, 97, 108, 108, 111, 119, 101, 100, 58, 32] (by decide +kernel)) (pv 1)) pa_nil) ?_
      refine u_start (t := fun D σ H => tCons _ _ σ H _) (D := ⟨fun _ _ => True, fun _ _ => True, fun _ _ => True, fun _ _ => True⟩) [some (.ref a), some (.str (S z)), some v] rfl ?_
      walk_at "go"
      exact ⟨by simp, rfl⟩
    · refine ⟨_, pss_cons (ps_ost (pv 0) (pv 1)) (pss_one (ps_ost (pv 0) (pv 2))), ?_⟩
      refine u_start [some (.ref a), some (.str (S z)), some v] rfl ?_
      refine u_seq ?_
      refine ⟨_, rfl, .ref a, rfl, a, C, rfl, F.oex, hno2, .inl ⟨ha, fun dx hd hne => ?_⟩⟩
      refine ⟨v, rfl, .ref a, rfl, a, C, rfl, F.oex, hno, .inr ⟨dx, _, upd_same, by rw [upd_ne hne]; exact upd_same, by simp, ?_⟩⟩
      have e : upd (upd (upd H dx (exd dx [("reason", .str (S z))])) a (exo a C (some dx))) dx (exd dx [("line", v), ("reason", .str (S z))]) = upd (upd H dx (exd dx (gTwo "reason" "line" [.str (S z), v]))) a (exo a C (some dx)) := by
        funext b
        by_cases h1 : b = dx
        · rw [h1, upd_same, upd_ne hne, upd_same]; rfl
        · rw [upd_ne h1]
          by_cases h2 : b = a
          · rw [h2, upd_same, upd_same]
          · rw [upd_ne h2, upd_ne h2, upd_ne h1, upd_ne h1]
      rw [e]
      exact k dx hd hne
end
theorem prun_fail {ws : List (List Nat)} {s s1 : PSt} {i : Nat} {w : List Nat} (h1 : prun s (ws.take i) = some s1) (hw : ws[i]? = some w) (hf : pstep s1 w = none) : prun s ws = none := by
  obtain ⟨hi, e⟩ := List.getElem?_eq_some_iff.mp hw
  have z : ws = ws.take i ++ (w :: ws.drop (i + 1)) := by rw [← e, ← List.drop_eq_getElem_cons hi, List.take_append_drop]
  rw [z, prun_app, h1]
  show (pstep s1 w).bind _ = none
  rw [hf]; rfl
theorem parse_of_run {a : List Nat} (h : prun ([], none) ((lex a).getD []) = none) : parse a = none := by
  unfold parse parseW
  rw [h]
section
variable {P : Program} {w : World} {K : PySem.W.Frag} {mg : Str → Option Value} {base : Heap}
theorem ok_readX {C CG d0 f : Addr} {fd : FuncData} (T : Bi mg) (F : FC K mg C) (D : C8.Fun K "read" "Formula.read" s_Formula_read f fd) (h0 : ∀ H, SqT K H d0 []) (ZG : RzF P w K mg base "Garbled" CG one1 (gOne "line") [.int 0]) (mF1 : Mak P w K mg base 1 "Formula" C (spInit K C) [.ref d0]) (mF2 : Mak P w K mg base 1 "Formula" C (spInit K C) [])
    (cwords_of : Cal P w K mg base 1 "words_of" spWords []) : FnOk P w K mg base (L2N.CX P w) 3 f fd ["cls", "text"] (spReadX K C CG) := by
  refine fnXN D sc_Formula_read (fun vs H Q E h => ?_) (fun cdv A outer s H vs Q E hr h => ?_)
  · obtain ⟨a, rfl, _⟩ := h
    rfl
  · obtain ⟨a, rfl, hl, k, kx⟩ := h
    refine ⟨_, (pss_cons (ps_set (i := 2) sc_Formula_read.nd rfl (Or.inl rfl) (pe_lst pa_nil))
  (pss_cons (ps_set (i := 3) sc_Formula_read.nd rfl (Or.inl rfl) pe_non)
  (pss_cons (ps_for (passes_of rfl) rfl (pi_listK K (pe_c cwords_of hr (by omega) (by rfl) (pa_cons (pv 1) pa_nil))) (pg_name (i := 4) sc_Formula_read.nd rfl (Or.inl rfl)) (pss_one (ps_if (PW.pt (pw_and (pt_cmpR o_isN (pv 3) pe_non (nomark _)) (pw_and1 (pt_cmpR op_eq (pe_ix ix_str (pv 4) (pe_un un_neg pe_int) (fun _ _ => rfl)) (pe_sS [40] (by decide +kernel)) (nomark _))))) (pss_one (ps_expr (pe_bmK K PySem.F.plainAttrs_list PySem.F.slot_list_append PySem.F.type_list_append mt_append (pv 2) (pa_cons (pe_tup (pa_cons (pe_slice sl_strC (pv 4) po_none (po_some (pe_un un_neg pe_int))) (pa_cons (pe_lst pa_nil) pa_nil))) pa_nil)))) (pss_one (ps_if (PW.pt (pw_and (pt_cmpR o_isN (pv 3) pe_non (nomark _)) (pw_and1 (pt_cmpR (o_inW (cLOW ++ cDIG) (by decide) (by decide)) (pv 4) (pe_op o_addS (pe_gc (by rfl) T.gLETTERS) (pe_gc (by rfl) T.gDIGITS)) (by rfl))))) (pss_one (ps_set (i := 3) sc_Formula_read.nd rfl (Or.inl rfl) (pe_mkL (i := 0) mF1 hr (by omega) rfl (Or.inl rfl) (pa_cons (pv 4) pa_nil)))) (pss_one (ps_if (PW.pt (pw_or (pt_cmpR o_isN (pv 3) pe_non (nomark _)) (pw_or1 (pt_not (pt_truthK K (pv 2)))))) (pss_one ((ps_raiseF0N ZG hr (by omega) (L2N.takes_of rfl rfl rfl rfl) (by rfl)))) (pss_cons (ps_asg (pe_ix (ix_listK K) (pv 2) (pe_un un_neg pe_int) (fun _ _ => rfl)) (pg_tupK K (pgs_cons (pg_name (i := 5) sc_Formula_read.nd rfl (Or.inl rfl)) (pgs_cons (pg_name (i := 6) sc_Formula_read.nd rfl (Or.inl rfl)) pgs_nil))))
  (pss_cons (ps_expr (pe_bmK K PySem.F.plainAttrs_list PySem.F.slot_list_append PySem.F.type_list_append mt_append (pv 6) (pa_cons (pv 3) pa_nil)))
  (pss_cons (ps_set (i := 3) sc_Formula_read.nd rfl (Or.inl rfl) pe_non)
  (pss_one (ps_if (pt_cmpR op_eq (pv 4) (pe_sS [41] (by decide +kernel)) (nomark _)) (pss_cons (ps_expr (pe_bm0K K PySem.F.plainAttrs_list PySem.F.slot_list_pop PySem.F.type_list_pop mt_pop (pv 2)))
  (pss_one (ps_set (i := 3) sc_Formula_read.nd rfl (Or.inl rfl) (pe_mkL (i := 0) mF2 hr (by omega) rfl (Or.inl rfl) (pa_cons (pv 5) (pa_cons (pe_callTy (k_tupleK K) (by rfl) T.n_tuple (by decide +kernel) (pa_cons (pv 6) pa_nil)) pa_nil)))))) (pss_one (ps_if (PW.pt (pw_or (pt_cmpR op_ne (pv 4) (pe_sS [44, 32] (by decide +kernel)) (nomark _)) (pw_or1 (pt_cmpR op_eq (pe_callB (k_lenK K) (by rfl) T.n_len (by decide +kernel) (pa_cons (pv 6) pa_nil)) pe_int (nomark _))))) (pss_one ((ps_raiseF0N ZG hr (by omega) (L2N.takes_of rfl rfl rfl rfl) (by rfl)))) pss_nil))))))))))))))
  (pss_cons (ps_if (PW.pt (pw_or (pt_cmpR o_isN (pv 3) pe_non (nomark _)) (pw_or1 (pt_truthK K (pv 2))))) (pss_one ((ps_raiseF0N ZG hr (by omega) (L2N.takes_of rfl rfl rfl rfl) (by rfl)))) pss_nil)
  (pss_one (ps_ret (pv 3))))))), ?_⟩
    refine u_start [some (.ref C), some (.str (S a)), none, none, none, none, none] rfl ?_
    walk_at "go"
    rename_i q H1 hq f1 k1 e1
    refine u_words hl (fun wq H2 f2 k2 hwq e2 => ?_)
    obtain ⟨ws, hws⟩ : ∃ ws, (lex a).getD [] = ws := ⟨_, rfl⟩
    rw [hws] at e2
    have hbad : prun ([], none) ws = none → parse a = none := fun q => parse_of_run (by rw [hws]; exact q)
    have hflat : ws.flatten.length ≤ a.length := by
      cases e : lex a with
      | none => rw [e] at hws; rw [← hws]; simp
      | some us => rw [e] at hws; rw [← (lex_words e).1]; cases hws; exact Nat.le_refl _
    have hword : ∀ w ∈ ws, WordOk w := by
      cases e : lex a with
      | none => rw [e] at hws; rw [← hws]; simp
      | some us => rw [e] at hws; cases hws; exact (lex_words e).2
    have hout : ∀ {H3 : Hp}, Fr [] H H3 → prun ([], none) ws = none → MKOk CG (spXf CG one1 (gOne "line")) [.int 0] (fun cls d H' => E cls d H') [] H3 := fun {H3} f3 hb =>
      u_mkoF rfl ⟨_, rfl⟩ fun d hd => kx (hbad hb) d _ (Fr.trans f3 (Fr.upd_new hd)) upd_same
    walk_at "go"
    refine forList (xs := vS ws) (fun i σ H3 => ∃ (fr : List (List Nat × List Fm)) (dn : Option Fm) (v : V) (vw vn vp : Option V) (vs : List V) (ls : List Addr), σ = [some (.ref C), some (.str (S a)), some (.ref q), some v, vw, vn, vp] ∧ Fr [] H H3 ∧ Kp H H3 ∧ prun ([], none) (ws.take i) = some (fr, dn) ∧ H3 q = some (.lst vs.reverse) ∧ FrsAt K C H3 fr vs ls ∧ DnAt K C H3 dn v ∧ q ∉ ls ∧ wq ∉ ls ∧ H3 wq = some (.lst (vS ws)) ∧ ∀ l ∈ ls, H l = none) ?_ ?_ ?_ ?_
    · rintro i σ H3 ⟨fr, dn, v, vw, vn, vp, vs, ls, rfl, f3, k3, hr3, e3, hfr, hdn, hq3, hw3, ew3, hls⟩
      exact SqL.of ew3
    · exact ⟨[], none, .non, none, none, none, [], [], rfl, by walk_at "fr", .of_same (Fr.same (by walk_at "fr")), rfl, by walk_at "lk", .nil, rfl, by simp, by simp, e2, by simp⟩
    · rintro i x σ H3 hx ⟨fr, dn, v, vw, vn, vp, vs, ls, rfl, f3, k3, hr3, e3, hfr, hdn, hq3, hw3, ew3, hls⟩
      obtain ⟨wd, hwd, rfl⟩ : ∃ wd, ws[i]? = some wd ∧ x = .str (S wd) := by
        rw [List.getElem?_map] at hx
        cases e : ws[i]? with
        | none => rw [e] at hx; cases hx
        | some wd => rw [e] at hx; exact ⟨wd, rfl, (Option.some.inj hx).symm⟩
      have hi := (List.getElem?_eq_some_iff.mp hwd).1
      have hok := hword wd (List.mem_of_getElem? hwd)
      obtain ⟨c, hc⟩ := getLast_some hok.ne
      have hlen : wd.length ≤ 100000 := Nat.le_trans (flat_mem_le (List.mem_of_getElem? hwd)) (Nat.le_trans hflat hl)
      have hnext : ∀ st, pstep (fr, dn) wd = some st → prun ([], none) (ws.take (i + 1)) = some st := fun st e => by
        have z : ws.take (i + 1) = ws.take i ++ [wd] := by rw [List.take_add_one, hwd]; rfl
        rw [z, prun_app, hr3]
        show (pstep (fr, dn) wd).bind _ = _
        rw [e]; rfl
      have hfail : pstep (fr, dn) wd = none → prun ([], none) ws = none := prun_fail hr3 hwd
      obtain ⟨hL, hfo⟩ := prun_len (s := ([], none)) (by intro f hf; cases hf) hr3
      have hT := flat_take_le (ws := ws) i
      have hT' := flat_take_le (ws := ws) (i + 1)
      have hz : stLen ([], none) = 0 := rfl
      have hF := fr_le_len fr
      have hV := hfr.length
      have hFL : frLen fr ≤ stLen (fr, dn) := by cases dn <;> simp [stLen]
      have hvl : vs.reverse.length < sizeLine := by rw [List.length_reverse, sizeLine_eq]; omega
      have hqw : q ≠ wq := ne_new hwq e1
      walk_at "go"
      cases dn with
      | none =>
        have e : v = .non := hdn
        subst e
        rw [pstep_none] at hnext hfail
        walk_at "go"
        refine u_ixS (by omega) (atI_neg1 hc) ?_
        walk_at "go"
        refine u_if (fun h1 => ?_) (fun h1 => ?_)
        · have hrest := hnext _ (if_pos (by rw [hc, List.cons.inj h1 |>.1]))
          walk_at "go"
          rename_i l0 H4 n4 f4 k4 e4 a0 H5 n5 f5 k5 e5 H6 f6 k6 e6
          rw [cutL_init] at e5
          refine ⟨_, none, .non, _, vn, vp, .ref a0 :: vs, l0 :: ls, rfl, ?_, Kp.trans k3 (Kp.trans k4 (Kp.trans k5 k6)), hrest, by rw [e6, List.reverse_cons], ?_, rfl, ?_, ?_, by walk_at "lk", ?_⟩
          · walk_at "fr"
          · exact .cons (by walk_at "lk") (by walk_at "lk") .nil (hfr.notin n4) (((hfr.frame0 f4).frame0 f5).frame1 f6 k6 hq3)
          · intro q'
            rcases List.mem_cons.mp q' with e | e
            · exact absurd e (by walk_at "ne")
            · exact hq3 e
          · intro q'
            rcases List.mem_cons.mp q' with e | e
            · exact absurd e (by walk_at "ne")
            · exact hw3 e
          · intro l hl
            rcases List.mem_cons.mp hl with e | e
            · rw [e]; walk_at "nn"
            · exact hls l e
        · rw [if_neg (by rw [hc]; intro q; exact h1 (by rw [Option.some.inj q]))] at hnext hfail
          walk_at "go"
          refine u_inW hok ?_
          walk_at "go"
          refine u_if (fun h2 => ?_) (fun h2 => ?_)
          · have hrest := hnext _ (if_pos h2)
            walk_at "go"
            refine u_mkLeaf h0 hlen (fun x H4 f4 k4 n4 hx4 => ?_)
            walk_at "go"
            exact ⟨fr, some (.leaf wd), .ref x, _, vn, vp, vs, ls, rfl, by walk_at "fr", Kp.trans k3 k4, hrest, by walk_at "lk", hfr.frame0 f4, ⟨x, rfl, hx4⟩, hq3, hw3, by walk_at "lk", hls⟩
          · have hno := hfail (if_neg h2)
            walk_at "go"
            exact hout (by walk_at "fr") hno
      | some d =>
        obtain ⟨ad, rfl, had⟩ := hdn
        walk_at "go"
        cases hfr with
        | nil =>
          refine u_nem (by simp) ?_
          have hno := hfail rfl
          walk_at "go"
          exact hout (by walk_at "fr") hno
        | cons g1 g2 g3 g4 g5 =>
          rename_i n ps fr a1 l1 ws1 vs ls
          rw [List.reverse_cons] at e3
          refine u_nne (by simp) ?_
          have hps : ps.length ≤ 1 := hfo (n, ps) (by simp)
          have hw1 := g3.length
          have hst : pstep ((n, ps) :: fr, some d) wd = (if wd = [41] then some (fr, some (Fm.mk n (ps ++ [d]))) else if wd ≠ [44, 32] ∨ (ps ++ [d]).length = 2 then none else some ((n, ps ++ [d]) :: fr, none)) := rfl
          rw [hst] at hnext hfail
          have hl1 : l1 ≠ q := fun e => hq3 (by rw [← e]; simp)
          have hl2 : l1 ≠ wq := fun e => hw3 (by rw [← e]; simp)
          have hl0 : H l1 = none := hls l1 (by simp)
          walk_at "go"
          rename_i H4 f4 k4 e4
          have g5' := g5.frame1 f4 k4 g4
          have hq4 : q ∉ ls := fun e => hq3 (by simp [e])
          have hw4 : wq ∉ ls := fun e => hw3 (by simp [e])
          have hls' : ∀ l ∈ ls, H l = none := fun l hl => hls l (by simp [hl])
          have hf4 : FormsAt K C H4 (ps ++ [d]) (ws1 ++ [.ref ad]) := FormsAt.append (by walk_at "lk") (FormsAt.one (by walk_at "lk"))
          refine u_if (fun h1 => ?_) (fun h1 => ?_)
          · have hrest := hnext _ (if_pos h1)
            obtain ⟨hL', hfo'⟩ := prun_len (s := ([], none)) (by intro f hf; cases hf) hrest
            have hTL : (Fm.mk n (ps ++ [d])).text.length ≤ 100000 := by
              have : stLen (fr, some (Fm.mk n (ps ++ [d]))) = frLen fr + (Fm.mk n (ps ++ [d])).text.length := rfl
              omega
            walk_at "go"
            rename_i H5 f5 k5 e5 p H6 n6 f6 k6 e6
            refine u_mkNode (SqT.of e6) (by walk_at "lk") (by simp; omega) hTL (fun x H7 f7 k7 n7 hx7 => ?_)
            walk_at "go"
            exact ⟨fr, some _, .ref x, _, _, _, vs, ls, rfl, by walk_at "fr", Kp.trans k3 (Kp.trans k4 (Kp.trans k5 (Kp.trans k6 k7))), hrest, by walk_at "lk", ((g5'.frame1 f5 k5 hq4).frame0 f6).frame0 f7, ⟨x, rfl, hx7⟩, hq4, hw4, by walk_at "lk", hls'⟩
          · rw [if_neg h1] at hnext hfail
            walk_at "go"
            refine u_ifn (fun h2 => ?_) (fun h2 => ?_)
            · have hno := hfail (if_pos (.inl h2))
              walk_at "go"
              exact hout (by walk_at "fr") hno
            · walk_at "go"
              refine u_if (fun h3 => ?_) (fun h3 => ?_)
              · have hno := hfail (if_pos (.inr (by simp at h3 ⊢; omega)))
                walk_at "go"
                exact hout (by walk_at "fr") hno
              · have hrest := hnext _ (if_neg (by rintro (q' | q'); exact q' h2; simp at h3 q'; omega))
                walk_at "go"
                exact ⟨(n, ps ++ [d]) :: fr, none, .non, _, _, _, .ref a1 :: vs, l1 :: ls, rfl, by walk_at "fr", Kp.trans k3 k4, hrest, by rw [List.reverse_cons]; walk_at "lk", .cons (by walk_at "lk") e4 hf4 g4 g5', rfl, hq3, hw3, by walk_at "lk", hls⟩
    · rintro σ H3 ⟨fr, dn, v, vw, vn, vp, vs, ls, rfl, f3, k3, hr3, e3, hfr, hdn, hq3, hw3, ew3, hls⟩
      rw [take_all (by simp [vS])] at hr3
      have hpz : parse a = (match prun ([], none) ws with
        | some ([], some d) => some d
        | _ => none) := by unfold parse parseW; rw [hws]; try rfl
      rw [hr3] at hpz
      have hV := hfr.length
      cases dn with
      | none =>
        have e : v = .non := hdn
        subst e
        walk_at "go"
        exact u_mkoF rfl ⟨_, rfl⟩ fun d hd => kx (by rw [hpz]; cases fr <;> rfl) d _ (Fr.trans f3 (Fr.upd_new hd)) upd_same
      | some d =>
        obtain ⟨x, rfl, hx⟩ := hdn
        walk_at "go"
        cases hfr with
        | nil =>
          rw [if_neg (by simp)]
          walk_at "go"
          exact k d x H3 hpz f3 hx
        | cons g1 g2 g3 g4 g5 =>
          rw [if_pos (by simp)]
          walk_at "go"
          exact u_mkoF rfl ⟨_, rfl⟩ fun d hd => kx (by rw [hpz]) d _ (Fr.trans f3 (Fr.upd_new hd)) upd_same
end
section
variable {P : Program} {w : World} {K : PySem.W.Frag} {mg : Str → Option Value} {base : Heap}
theorem cal_isletter (T : Bi mg) (D : DefE K mg "is_letter" s_is_letter ["name"]) : Cal P w K mg base 1 "is_letter" spIsLet [] := by
  obtain ⟨f, fd, D, b⟩ := D.ex
  refine cal0 D b .nil sc_is_letter (fun vs H Q E h => ?_) (fun cdv A outer s H vs Q E hr h => ?_)
  · obtain ⟨n, rfl, _⟩ := h
    rfl
  · obtain ⟨n, rfl, hne, hl, k⟩ := h
    refine ⟨_, (pss_one (ps_ret (pe_cmpR op_inC (pe_ix ix_str (pv 0) pe_int (fun _ _ => rfl)) (pe_gc (by rfl) T.gLETTERS) (by rfl)))), ?_⟩
    refine u_start [some (.str (S n))] rfl ?_
    walk_at "go"
    cases n with
    | nil => exact absurd rfl hne
    | cons c r =>
      refine u_ixS (by omega) (show atI (c :: r) 0 = some c from by simpa using atI_natN (a := c :: r) (j := 0) (c := c) rfl) ?_
      walk_at "go"
      exact k
end
section
variable {P : Program} {w : World} {K : PySem.W.Frag} {mg : Str → Option Value} {base : Heap}
theorem cal_fault {C : Addr} (T : Bi mg) (T2 : Bj mg) (F : FC K mg C) (cis_letter : Cal P w K mg base 1 "is_letter" spIsLet []) (D : DefE K mg "fault" s_fault ["left", "right"]) : Cal P w K mg base 2 "fault" (spFault K C) [] := by
  obtain ⟨f, fd, D, b⟩ := D.ex
  refine cal0 D b .nil sc_fault (fun vs H Q E h => ?_) (fun cdv A outer s H vs Q E hr h => ?_)
  · obtain ⟨x, y, l, r, rfl, _⟩ := h
    rfl
  · obtain ⟨x, y, l, r, rfl, hx, hy, okl, okr, hl, hr2, k⟩ := h
    refine ⟨_, (pss_cons (ps_set (i := 2) sc_fault.nd rfl (Or.inr rfl) (pe_lc (own := [("char", 4)]) (g := gName 4) rfl sc_fault.nd (pi_str (pe_fldK K (pv 0))) (blkOk_by (own := [("char", 4)]) (N := ["left", "right", "given", "wanted", "char", "part", "inner", "letter"]) (sc := fnScope s_fault) (by decide +kernel)) (fun _ _ _ _ _ => pg_name (i := 4) sc_fault.nd rfl (Or.inl rfl)) (fun _ _ _ _ _ => (pts_one (pt_cmpR op_inC (pv 4) (pe_gc (by rfl) T.gLETTERS) (by rfl)))) (fun _ _ _ _ _ => (pv 4))))
  (pss_cons (ps_setLc (i := 3) (own := [("char", 4)]) (g := gName 4) rfl sc_fault.nd rfl rfl (sw_true rfl rfl rfl (by decide +kernel)) (pi_str (pe_fldK K (pv 1))) (blkOk_by (own := [("char", 4)]) (N := ["left", "right", "given", "wanted", "char", "part", "inner", "letter"]) (sc := fnScope s_fault) (by decide +kernel)) (fun _ _ _ _ _ => pg_name (i := 4) sc_fault.nd rfl (Or.inl rfl)) (fun _ _ _ _ _ => (pts_one (pt_cmpR op_inC (pv 4) (pe_gc (by rfl) T.gLETTERS) (by rfl)))) (fun _ _ _ _ _ => (pv 4)))
  (pss_cons (ps_if (PW.pt (pw_or (pt_not (pt_truthK K (pe_fldK K (pv 0)))) (pw_or1 (pt_not (pt_val (pe_callB (k_allK K) (by rfl) T2.n_all (by decide +kernel) (pa_cons (pe_lc2 (own := [("part", 5), ("inner", 6)]) (vs1 := [6]) (g := gName 5) (g1 := gName 6) rfl sc_fault.nd (pi_tupK K (pe_fldK K (pv 0))) (blkOk_by (own := [("part", 5), ("inner", 6)]) (N := ["left", "right", "given", "wanted", "char", "part", "inner", "letter"]) (sc := fnScope s_fault) (by decide +kernel)) (by decide) (fun _ _ _ _ _ => pg_name (i := 5) sc_fault.nd rfl (Or.inl rfl)) (fun _ _ _ _ _ => pts_nil) (fun _ _ _ _ _ => (pi_tupK K (pe_fldK K (pv 5)))) (fun _ _ _ _ _ => pg_name (i := 6) sc_fault.nd rfl (Or.inl rfl)) (fun _ _ _ _ _ => pts_nil) (fun _ _ _ _ _ => (pe_c cis_letter hr (by omega) (by rfl) (pa_cons (pe_fldK K (pv 6)) pa_nil)))) pa_nil))))))) (pss_one (ps_ret (pe_sS [108, 101, 102, 116] (by decide +kernel)))) pss_nil)
  (pss_cons (ps_if (pt_cmpR op_lt (pe_lenTextsK K T.n_len T2.n_set (pv 2)) (pe_callB (k_lenK K) (by rfl) T.n_len (by decide +kernel) (pa_cons (pv 2) pa_nil)) (nomark _)) (pss_one (ps_ret (pe_sS [114, 101, 112, 101, 97, 116, 101, 100] (by decide +kernel)))) pss_nil)
  (pss_cons (ps_if (pt_val (pe_callB (k_anyK K) (by rfl) T2.n_any (by decide +kernel) (pa_cons (pe_lc (own := [("part", 5)]) (g := gName 5) rfl sc_fault.nd (pi_tupK K (pe_fldK K (pv 1))) (blkOk_by (own := [("part", 5)]) (N := ["left", "right", "given", "wanted", "char", "part", "inner", "letter"]) (sc := fnScope s_fault) (by decide +kernel)) (fun _ _ _ _ _ => pg_name (i := 5) sc_fault.nd rfl (Or.inl rfl)) (fun _ _ _ _ _ => pts_nil) (fun _ _ _ _ _ => (pe_cmpR op_gt (pe_callB (k_lenK K) (by rfl) T.n_len (by decide +kernel) (pa_cons (pe_fldK K (pv 5)) pa_nil)) pe_int (nomark _)))) pa_nil))) (pss_one (ps_ret (pe_sS [114, 105, 103, 104, 116] (by decide +kernel)))) pss_nil)
  (pss_cons (ps_if (pt_not (pt_val (pe_callB (k_allK K) (by rfl) T2.n_all (by decide +kernel) (pa_cons (pe_lc (own := [("letter", 7)]) (g := gName 7) rfl sc_fault.nd (pi_listK K (pv 3)) (blkOk_by (own := [("letter", 7)]) (N := ["left", "right", "given", "wanted", "char", "part", "inner", "letter"]) (sc := fnScope s_fault) (by decide +kernel)) (fun _ _ _ _ _ => pg_name (i := 7) sc_fault.nd rfl (Or.inl rfl)) (fun _ _ _ _ _ => pts_nil) (fun _ _ _ _ _ => (pe_cmpR (op_inK K) (pv 7) (pv 2) (by rfl)))) pa_nil)))) (pss_one (ps_ret (pe_sS [117, 110, 98, 111, 117, 110, 100] (by decide +kernel)))) pss_nil)
  (pss_cons (ps_if (pt_cmpR op_lt (pe_lenTextsK K T.n_len T2.n_set (pv 3)) (pe_callB (k_lenK K) (by rfl) T.n_len (by decide +kernel) (pa_cons (pv 3) pa_nil)) (nomark _)) (pss_one (ps_ret (pe_sS [99, 111, 112, 105, 101, 100] (by decide +kernel)))) pss_nil)
  (pss_cons (ps_if (pt_cmpR op_ge (pe_fldK K (pv 1)) (pe_fldK K (pv 0)) (nomark _)) (pss_one (ps_ret (pe_sS [115, 105, 122, 101] (by decide +kernel)))) pss_nil)
  (pss_one (ps_ret pe_non)))))))))), ?_⟩
    refine u_start [some (.ref x), some (.ref y), none, none, none, none, none, none] rfl ?_
    have hk : ∀ {H' : Hp} {z : Option (List Nat)}, Fr [] H H' → fault l r = z → Q (rV z) H' := fun {H' z} f e => e ▸ k H' f
    walk_at "go"
    refine u_fText F hx ?_
    walk_at "go"
    refine lcStr [some (.ref x), some (.ref y), none, none, none, none, none, none] rfl (fun i acc H1 => Fr [] H H1 ∧ Kp H H1 ∧ acc = letV (l.text.take i)) ?_ ?_ ?_
    · intro D H1 _ f1 k1 _
      exact ⟨f1, k1, rfl⟩
    · rintro D i d acc H1 hD hd hacc ⟨f1, k1, rfl⟩
      have hi := (List.getElem?_eq_some_iff.mp hd).1
      have hll := letV_len (l.text.take i)
      rw [List.length_take] at hll
      walk_at "go"
      refine u_if (fun h1 => ?_) (fun h1 => ?_)
      · walk_at "go"
        exact ⟨by walk_at "fr", Kp.trans k1 (by assumption), by rw [letV_take hd, if_pos (show low d = true from decide_eq_true h1)]⟩
      · walk_at "go"
        exact ⟨f1, k1, by rw [letV_take hd, if_neg (by unfold low; simpa using h1)]⟩
    rintro g acc H1 hg eg ⟨f1, k1, rfl⟩
    rw [List.take_length] at eg
    walk_at "go"
    refine u_fText F (by walk_at "lk") ?_
    walk_at "go"
    refine lcStr [some (.ref x), some (.ref y), some (.ref g), none, none, none, none, none] rfl (fun i acc H2 => Fr [] H1 H2 ∧ Kp H1 H2 ∧ acc = letV (r.text.take i)) ?_ ?_ ?_
    · intro D H2 _ f2 k2 _
      exact ⟨f2, k2, rfl⟩
    · rintro D i d acc H2 hD hd hacc ⟨f2, k2, rfl⟩
      have hi := (List.getElem?_eq_some_iff.mp hd).1
      have hll := letV_len (r.text.take i)
      rw [List.length_take] at hll
      walk_at "go"
      refine u_if (fun h1 => ?_) (fun h1 => ?_)
      · walk_at "go"
        exact ⟨by walk_at "fr", Kp.trans k2 (by assumption), by rw [letV_take hd, if_pos (show low d = true from decide_eq_true h1)]⟩
      · walk_at "go"
        exact ⟨f2, k2, by rw [letV_take hd, if_neg (by unfold low; simpa using h1)]⟩
    rintro wn acc H2 hwn ew ⟨f2, k2, rfl⟩
    rw [List.take_length] at ew
    have hll := letV_len l.text
    have hlr := letV_len r.text
    walk_at "go"
    refine u_fParts F (by walk_at "lk") (fun pp ws hpp hw => ?_)
    have hlw := hw.length
    walk_at "go"
    refine u_nem' (fun h1 => ?_) (fun h1 => ?_)
    · have e0 : l.parts = [] := List.eq_nil_of_length_eq_zero (by rw [hlw, h1]; rfl)
      walk_at "go"
      exact hk (z := some rLeft) (by walk_at "fr") (by unfold fault; rw [if_pos (by simp [e0])])
    have hne : l.parts ≠ [] := fun z => h1 (by rw [z] at hlw; exact List.eq_nil_of_length_eq_zero hlw.symm)
    walk_at "go"
    refine u_fParts F (by walk_at "lk") (fun pp1 ws1 hpp1 hw1 => ?_)
    have hlw1 := hw1.length
    have hpl := l.parts_le
    walk_at "go"
    refine lc2Tup hpp1 [some (.ref x), some (.ref y), some (.ref g), some (.ref wn), none, none, none, none] rfl (fun i acc H3 => Fr [] H2 H3 ∧ Kp H2 H3 ∧ acc = (bsOf (l.parts.take i)).map V.bl) (fun _ _ _ z => z.2.1) ?_ ?_ ?_
    · intro D H3 _ f3 k3 _
      exact ⟨f3, k3, rfl⟩
    · rintro D i v acc H3 hD hv hacc ⟨f3, k3, rfl⟩
      obtain ⟨p, ap, hp, rfl, hap⟩ := hw1.get hv
      have hpm := List.mem_of_getElem? hp
      have okp := okl.part hpm
      have hi := (List.getElem?_eq_some_iff.mp hp).1
      have hbl := bsOf_len (l.parts.take i)
      rw [List.length_take] at hbl
      walk_at "go"
      refine u_fParts F (by walk_at "lk") (fun pp2 ws2 hpp2 hw2 => ?_)
      have hlw2 := hw2.length
      have hppl := p.parts_le
      walk_at "go"
      refine inTup (acc := (bsOf (l.parts.take i)).map V.bl) [some (.ref x), some (.ref y), some (.ref g), some (.ref wn), none, some (.ref ap), none, none] rfl hpp2 (fun j acc H4 => Fr [] H2 H4 ∧ Kp H3 H4 ∧ acc = (bsOf (l.parts.take i) ++ (p.parts.take j).map fun q => isLet q.name).map V.bl) (fun _ _ _ z => z.2.1) hacc ⟨f3, Kp.refl _, by simp⟩ ?_ ?_
      · rintro j v2 acc2 H4 hv2 hacc2 ⟨f4, k4, rfl⟩
        obtain ⟨q, aq, hq, rfl, haq⟩ := hw2.get hv2
        have okq := okp.part (List.mem_of_getElem? hq)
        have hj := (List.getElem?_eq_some_iff.mp hq).1
        have hqn := okq.nlen
        walk_at "go"
        refine u_fName F (by walk_at "lk") ?_
        walk_at "go"
        refine u_isLet okq.nne (by omega) ?_
        refine u_turn hacc2 (by rw [List.length_map, List.length_append, List.length_map, List.length_take, sizeLine_eq]; omega) (fun H5 f5 k5 e5 => ?_)
        exact ⟨by walk_at "fr", Kp.trans k4 k5, by rw [List.take_add_one, hq]; simp⟩
      · rintro acc2 H4 hacc2 ⟨f4, k4, rfl⟩
        refine u_skip hacc2 ⟨f4, Kp.trans k3 k4, ?_⟩
        rw [bsOf_take hp, List.take_of_length_le (l := p.parts) (by omega)]
    rintro D acc H3 hD eD ⟨f3, k3, rfl⟩
    rw [List.take_of_length_le (by omega)] at eD
    walk_at "go"
    refine u_all1 (SqL.of eD) ?_
    rw [bsOf_all]
    refine ⟨_, rfl, ?_⟩
    refine u_nB (fun h2 => ?_) (fun h2 => ?_)
    · walk_at "go"
      exact hk (z := some rLeft) (by walk_at "fr") (by unfold fault flatL; rw [if_pos (by rw [h2]; simp)])
    have hflat : (l.parts.isEmpty || !flatL l) = false := by unfold flatL; rw [h2]; simp [hne]
    walk_at "go"
    refine u_lenTk (xs := (l.text.filter low).map fun c => S [c]) (SqL.of (by rw [← letV_strs]; walk_at "lk")) (by rw [List.length_map]; exact Nat.le_trans (List.length_filter_le _ _) hl) ?_
    walk_at "go"
    refine u_if (fun h3 => ?_) (fun h3 => ?_)
    · have h3' : ¬ l.lets.Nodup := (firsts_letters (l.text.filter low)).mp (by rw [letV_strs, List.length_map, List.length_map] at h3; omega)
      walk_at "go"
      exact hk (z := some rRepeated) (by walk_at "fr") (by unfold fault; rw [hflat, if_neg (by simp), if_pos (decide_eq_true h3')])
    have h3' : ¬ ¬ l.lets.Nodup := fun z => h3 (by have := (firsts_letters (l.text.filter low)).mpr z; rw [letV_strs, List.length_map, List.length_map]; omega)
    walk_at "go"
    refine u_fParts F (by walk_at "lk") (fun pp3 ws3 hpp3 hw3 => ?_)
    have hlw3 := hw3.length
    have hrl := r.parts_le
    walk_at "go"
    refine lcTup hpp3 [some (.ref x), some (.ref y), some (.ref g), some (.ref wn), none, none, none, none] rfl (fun i acc H4 => Fr [] H3 H4 ∧ Kp H3 H4 ∧ acc = ((r.parts.take i).map fun p => !p.parts.isEmpty).map V.bl) (fun _ _ _ z => z.2.1) ?_ ?_ ?_
    · intro D H4 _ f4 k4 _
      exact ⟨f4, k4, rfl⟩
    · rintro D i v acc H4 hD hv hacc ⟨f4, k4, rfl⟩
      obtain ⟨p, ap, hp, rfl, hap⟩ := hw3.get hv
      have hi := (List.getElem?_eq_some_iff.mp hp).1
      walk_at "go"
      refine u_fParts F (by walk_at "lk") (fun pp4 ws4 hpp4 hw4 => ?_)
      have hlw4 := hw4.length
      walk_at "go"
      rename_i H5 f5 k5 e5
      refine ⟨by walk_at "fr", Kp.trans k4 k5, ?_⟩
      rw [List.take_add_one, hp]
      have e : decide ((0 : Int) < ws4.length) = !p.parts.isEmpty := by
        rw [← hlw4]
        cases p.parts <;> simp
      simp [← e]
    rintro D2 acc H4 hD2 eD2 ⟨f4, k4, rfl⟩
    rw [List.take_of_length_le (by omega)] at eD2
    walk_at "go"
    refine u_any1 (SqL.of eD2) ?_
    rw [List.any_map, show (id ∘ fun p : Fm => !p.parts.isEmpty) = fun p => !p.parts.isEmpty from rfl]
    refine ⟨_, rfl, ?_⟩
    refine u_ifb (fun h4 => ?_) (fun h4 => ?_)
    · walk_at "go"
      exact hk (z := some rRight) (by walk_at "fr") (by unfold fault; rw [hflat, if_neg (by simp), if_neg (by simpa using h3'), if_pos h4])
    walk_at "go"
    refine lcList [some (.ref x), some (.ref y), some (.ref g), some (.ref wn), none, none, none, none] rfl (fun i acc H5 => Fr [] H4 H5 ∧ Kp H4 H5 ∧ acc = (((r.text.filter low).take i).map fun c => decide (c ∈ l.lets)).map V.bl) (fun i acc H5 z => SqL.of (xs := letV r.text) (by have f5 := z.1; walk_at "lk")) ?_ ?_ ?_
    · intro D H5 _ f5 k5 _
      exact ⟨f5, k5, rfl⟩
    · rintro D i v acc H5 hD hv hacc ⟨f5, k5, rfl⟩
      obtain ⟨c, hc, rfl⟩ : ∃ c, (r.text.filter low)[i]? = some c ∧ v = V.str (S [c]) := by
        unfold letV vS at hv
        rw [List.getElem?_map, List.getElem?_map] at hv
        cases e : (r.text.filter low)[i]? with
        | none => rw [e] at hv; cases hv
        | some c => rw [e] at hv; exact ⟨c, rfl, (Option.some.inj hv).symm⟩
      have hi := (List.getElem?_eq_some_iff.mp hc).1
      have hfl := List.length_filter_le low r.text
      walk_at "go"
      refine u_inS (xs := (l.text.filter low).map fun c => [c]) (SqL.of (xs := letV l.text) (by walk_at "lk")) ?_
      refine u_turn hacc (by rw [List.length_map, List.length_map, List.length_take, sizeLine_eq]; omega) (fun H6 f6 k6 e6 => ?_)
      refine ⟨by walk_at "fr", Kp.trans k5 k6, ?_⟩
      rw [List.take_add_one, hc]
      have e : decide ([c] ∈ (l.text.filter low).map fun c => [c]) = decide (c ∈ l.lets) := by
        have z : ([c] ∈ (l.text.filter low).map fun c => [c]) ↔ c ∈ l.lets := by
          rw [show l.lets = l.text.filter low from rfl]
          simp
        simp only [z]
      simp only [Option.toList_some, List.map_append, List.map_cons, List.map_nil, e]
    rintro D3 acc H5 hD3 eD3 ⟨f5, k5, rfl⟩
    rw [List.take_of_length_le (by unfold letV vS; simp)] at eD3
    walk_at "go"
    refine u_all1 (SqL.of eD3) ?_
    rw [List.all_map, show (id ∘ fun c => decide (c ∈ l.lets)) = fun c => decide (c ∈ l.lets) from rfl]
    refine ⟨_, rfl, ?_⟩
    refine u_nB (fun h5 => ?_) (fun h5 => ?_)
    · walk_at "go"
      exact hk (z := some rUnbound) (by walk_at "fr") (by unfold fault; rw [hflat, if_neg (by simp), if_neg (by simpa using h3'), if_neg (by simpa using h4), if_pos (by rw [show r.lets = r.text.filter low from rfl, h5]; rfl)])
    walk_at "go"
    refine u_lenTk (xs := (r.text.filter low).map fun c => S [c]) (SqL.of (by rw [← letV_strs]; walk_at "lk")) (by rw [List.length_map]; exact Nat.le_trans (List.length_filter_le _ _) hr2) ?_
    walk_at "go"
    refine u_if (fun h6 => ?_) (fun h6 => ?_)
    · have h6' : ¬ r.lets.Nodup := (firsts_letters (r.text.filter low)).mp (by rw [letV_strs, List.length_map, List.length_map] at h6; omega)
      walk_at "go"
      exact hk (z := some rCopied) (by walk_at "fr") (by unfold fault; rw [hflat, if_neg (by simp), if_neg (by simpa using h3'), if_neg (by simpa using h4), if_neg (by rw [show r.lets = r.text.filter low from rfl, h5]; simp), if_pos (decide_eq_true h6')])
    have h6' : ¬ ¬ r.lets.Nodup := fun z => h6 (by have := (firsts_letters (r.text.filter low)).mpr z; rw [letV_strs, List.length_map, List.length_map]; omega)
    walk_at "go"
    refine u_fSize F (by walk_at "lk") ?_
    walk_at "go"
    refine u_fSize F (by walk_at "lk") ?_
    walk_at "go"
    refine u_if (fun h7 => ?_) (fun h7 => ?_)
    · walk_at "go"
      exact hk (z := some rSize) (by walk_at "fr") (by unfold fault; rw [hflat, if_neg (by simp), if_neg (by simpa using h3'), if_neg (by simpa using h4), if_neg (by rw [show r.lets = r.text.filter low from rfl, h5]; simp), if_neg (by simpa using h6'), if_pos (by simp; omega)])
    · walk_at "go"
      exact hk (z := none) (by walk_at "fr") (by unfold fault; rw [hflat, if_neg (by simp), if_neg (by simpa using h3'), if_neg (by simpa using h4), if_neg (by rw [show r.lets = r.text.filter low from rfl, h5]; simp), if_neg (by simpa using h6'), if_neg (by simp; omega)])
end
section
variable {P : Program} {w : World} {K : PySem.W.Frag} {mg : Str → Option Value} {base : Heap}
theorem ok_ruleinit {C CR f : Addr} {fd : FuncData} (T : Bi mg) (F : FC K mg C) (R : RC K mg CR) (D : C8.Fun K "__init__" "Rule.__init__" s_Rule___init__ f fd) : FnOk P w K mg base C8.CX0 1 f fd ["self", "left", "right"] (spRInit K C CR) := by
  refine fn0 D sc_Rule___init__ (fun vs H Q E h => ?_) (fun cdv A outer s H vs Q E hr h => ?_)
  · obtain ⟨x, dx, a, b, l, r, rfl, _⟩ := h
    rfl
  · obtain ⟨x, dx, a, b, l, r, rfl, hx, ha, hb, hl, k⟩ := h
    refine ⟨_, (pss_cons (ps_fldK K (pv 0) (pv 1))
  (pss_cons (ps_fldK K (pv 0) (pv 2))
  (pss_one (ps_fldK K (pv 0) (pe_op o_addS (pe_op o_addS (pe_fldK K (pv 1)) (pe_sS [32, 45, 62, 32] (by decide +kernel))) (pe_fldK K (pv 2))))))), ?_⟩
    refine u_start [some (.ref x), some (.ref a), some (.ref b)] rfl ?_
    walk_at "go"
    refine u_sflk hx R.cl R.nl rfl pfR1 (fun H1 f1 e1 => ?_)
    walk_at "go"
    refine u_sflk (by walk_at "lk") R.cl R.nr rfl pfR2 (fun H2 f2 e2 => ?_)
    have g2 : Fr [x] H H2 := Fr.trans f1 f2
    have k2 := g2.kp1 hx (by intro q; rcases q with q | q | q | q <;> cases q)
    walk_at "go"
    refine u_fText (t := l) F (by walk_at "lk") ?_
    walk_at "go"
    refine u_fText (t := r) F (by walk_at "lk") ?_
    walk_at "go"
    rw [show l.text ++ [32, 45, 62, 32] ++ r.text = l.text ++ (arrow ++ r.text) by simp [arrow]]
    refine u_sflk e2 R.cl R.nt rfl pfR3 (fun H3 f3 e3 => ?_)
    have g3 : Fr [x] H H3 := Fr.trans g2 f3
    have k3 := g3.kp1 hx (by intro q; rcases q with q | q | q | q <;> cases q)
    walk_at "go"
    exact k H3 g3 ⟨dx, a, b, e3, ha.mono k3, hb.mono k3⟩
end
section
variable {P : Program} {w : World} {K : PySem.W.Frag} {mg : Str → Option Value} {base : Heap}
theorem ok_ruleread {C CR CG CB p g f : Addr} {mc : Value} {fd : FuncData} (T : Bi mg) (F : FC K mg C) (R : RC K mg CR) (RD : FRd K C mc p g) (ZG : RzF P w K mg base "Garbled" CG one1 (gOne "line") [.int 0]) (ZB : RzF P w K mg base "BadRule" CB two2 (gTwo "reason" "line") [.int 0])
    (hread : FnR P w K mg base (L2N.CX P w) 3 g (fun vs H Q E => spReadX K C CG (vs ++ []) H Q E)) (cfault : Cal P w K mg base 2 "fault" (spFault K C) []) (mRule : Mak P w K mg base 1 "Rule" CR (spRInit K C CR) [])
    (D : C8.Fun K "read" "Rule.read" s_Rule_read f fd) : FnOk P w K mg base (L2N.CX P w) 4 f fd ["cls", "text"] (spRRead K C CR CG CB) := by
  refine fnXN D sc_Rule_read (fun vs H Q E h => ?_) (fun cdv A outer s H vs Q E hr h => ?_)
  · obtain ⟨a, rfl, _⟩ := h
    rfl
  · obtain ⟨a, rfl, hl, k, kg, kb⟩ := h
    refine ⟨_, (pss_cons (ps_set (i := 2) sc_Rule_read.nd rfl (Or.inl rfl) (pe_split (pv 1) (pe_sS [32, 45, 62, 32] (by decide +kernel))))
  (pss_cons (ps_if (pt_cmpR op_ne (pe_callB (k_lenK K) (by rfl) T.n_len (by decide +kernel) (pa_cons (pv 2) pa_nil)) pe_int (nomark _)) (pss_one ((ps_raiseF0N ZG hr (by omega) (L2N.takes_of rfl rfl rfl rfl) (by rfl)))) pss_nil)
  (pss_cons (ps_set (i := 3) sc_Rule_read.nd rfl (Or.inl rfl) (ClX.pe_cmeth (E := E) (pe_gc (by rfl) F.gFormula) RD.cr RD.cm hread (hr.mono (by omega)) (pass_ownN (L2N.takes_of rfl rfl rfl rfl)) (pa_cons (pe_ix (ix_listK K) (pv 2) pe_int (fun _ _ => rfl)) pa_nil)))
  (pss_cons (ps_set (i := 4) sc_Rule_read.nd rfl (Or.inl rfl) (ClX.pe_cmeth (E := E) (pe_gc (by rfl) F.gFormula) RD.cr RD.cm hread (hr.mono (by omega)) (pass_ownN (L2N.takes_of rfl rfl rfl rfl)) (pa_cons (pe_ix (ix_listK K) (pv 2) pe_int (fun _ _ => rfl)) pa_nil)))
  (pss_cons (ps_set (i := 5) sc_Rule_read.nd rfl (Or.inl rfl) (pe_c cfault hr (by omega) (by rfl) (pa_cons (pv 3) (pa_cons (pv 4) pa_nil))))
  (pss_cons (ps_if (pt_cmpR o_notN (pv 5) pe_non (nomark _)) (pss_one ((ps_raiseFN ZB hr (by omega) (L2N.takes_of rfl rfl rfl rfl) (by rfl) (pa_cons (pv 5) pa_nil)))) pss_nil)
  (pss_one (ps_ret (pe_mkL (i := 0) mRule hr (by omega) rfl (Or.inl rfl) (pa_cons (pv 3) (pa_cons (pv 4) pa_nil))))))))))), ?_⟩
    refine u_start [some (.ref CR), some (.str (S a)), none, none, none, none] rfl ?_
    have hgar : ∀ {H1 : Hp}, Fr [] H H1 → ruleParse a = .garbled → MKOk CG (spXf CG one1 (gOne "line")) [.int 0] (fun cls d H' => E cls d H') [] H1 := fun {H1} f1 hb =>
      u_mkoF rfl ⟨_, rfl⟩ fun d hd => kg hb d _ (Fr.trans f1 (Fr.upd_new hd)) upd_same
    walk_at "go"
    refine u_split (b := arrow) (by omega) (by decide) (by decide) (fun q H1 n1 f1 k1 e1 => ?_)
    walk_at "go"
    generalize hsp : TL.spl arrow 0 [] a = sides at e1 ⊢
    have hvl : (vS sides).length = sides.length := by simp [vS]
    rw [hvl]
    match sides, hsp, e1 with
    | [], hsp, e1 =>
      rw [show (!decide (((([] : List (List Nat)).length : Nat) : Int) = 2)) = true by decide]
      walk_at "go"
      exact hgar f1 (by unfold ruleParse; rw [hsp])
    | [u], hsp, e1 =>
      rw [show (!decide (((([u] : List (List Nat)).length : Nat) : Int) = 2)) = true by simp]
      walk_at "go"
      exact hgar f1 (by unfold ruleParse; rw [hsp])
    | u :: v :: w' :: ws, hsp, e1 =>
      rw [show (!decide ((((u :: v :: w' :: ws : List (List Nat)).length : Nat) : Int) = 2)) = true by simp; omega]
      walk_at "go"
      exact hgar f1 (by unfold ruleParse; rw [hsp])
    | [u, v], hsp, e1 =>
      have ha := spl_two (by decide) hsp
      have hul : u.length + v.length + 4 = a.length := by rw [ha]; simp [arrow]; omega
      have e1' : H1 q = some (.lst [V.str (S u), V.str (S v)]) := e1
      rw [show (!decide ((((u :: v :: [] : List (List Nat)).length : Nat) : Int) = 2)) = false by simp]
      walk_at "go"
      refine u_cmeth ?_
      walk_at "go"
      refine u_readX (by omega) (fun l xl H2 hp2 f2 k2 hxl => ?_) (fun hn2 d H2 f2 k2 e2 => ?_)
      · walk_at "go"
        refine u_cmeth ?_
        walk_at "go"
        refine u_readX (by omega) (fun r xr H3 hp3 f3 k3 hxr => ?_) (fun hn3 d H3 f3 k3 e3 => ?_)
        · obtain ⟨okl, htl⟩ := parse_back hp2
          obtain ⟨okr, htr⟩ := parse_back hp3
          have hrp : ruleParse a = (match fault l r with | none => .ok l r | some z => .bad z) := by
            unfold ruleParse
            rw [hsp]
            show (match parse u with
              | none => _
              | some l => _) = _
            rw [hp2]
            show (match parse v with
              | none => _
              | some r => _) = _
            rw [hp3]
            all_goals rfl
          walk_at "go"
          refine u_fault (l := l) (r := r) (by walk_at "lk") (by walk_at "lk") okl okr (by rw [htl]; omega) (by rw [htr]; omega) (fun H4 f4 k4 => ?_)
          cases hf : fault l r with
          | none =>
            rw [hf] at hrp
            show _
            unfold rV
            walk_at "go"
            refine u_mkRule (l := l) (r := r) (by walk_at "lk") (by walk_at "lk") (by rw [htl, htr]; omega) (fun x H5 f5 k5 n5 hx5 => ?_)
            walk_at "go"
            exact k l r x H5 hrp (by walk_at "fr") hx5
          | some z =>
            rw [hf] at hrp
            have hzl := fault_len hf
            show _
            simp only [rV]
            walk_at "go"
            refine u_notN2 ?_
            refine ⟨true, rfl, ?_⟩
            walk_at "go"
            exact u_mkoF rfl ⟨z, .int 0, rfl, by omega⟩ fun d hd => kb z hrp d _ (by have f5 := Fr.upd_new (S := []) (o := HO.xd (gTwo "reason" "line" ([V.str (S z)] ++ [V.int 0]))) hd; walk_at "fr") upd_same
        · exact kg (by unfold ruleParse; rw [hsp]; show (match parse u with | none => _ | some l => _) = _; rw [hp2]; show (match parse v with | none => _ | some r => _) = _; rw [hn3]) d H3 (by walk_at "fr") e3
      · exact kg (by unfold ruleParse; rw [hsp]; show (match parse u with | none => _ | some l => _) = _; rw [hn2]) d H2 (by walk_at "fr") e2
end
section
variable {P : Program} {w : World} {K : PySem.W.Frag} {mg : Str → Option Value} {base : Heap}
theorem u_isPin {D a d C : Addr} {fs : List (Str × V)} {b : Bool} {H : Hp} {Q : VK} (hd : H d = some (.xd fs)) (k : PySem.W.kitOne K (.ref D) (.ref C) = some b) (h : Q (.bl b) H) : (∃ fs, H d = some (.xd fs)) ∧ rIsE K D a [.ref a, .ref C] H Q := ⟨⟨fs, hd⟩, .ref C, .ref C, b, rfl, fun u r => r, k, h⟩
theorem u_isPinT {D a d : Addr} {fs : List (Str × V)} {b : Bool} {H : Hp} {Q : VK} (hd : H d = some (.xd fs)) (k : PySem.W.kitOne K (.ref D) (.type "ValueError") = some b) (h : Q (.bl b) H) : (∃ fs, H d = some (.xd fs)) ∧ rIsE K D a [.ref a, .ty "ValueError"] H Q := ⟨⟨fs, hd⟩, .ty "ValueError", .type "ValueError", b, rfl, fun u r => r, k, h⟩
theorem run_kinds {CX : CXT} {f D a d : Addr} {fd : FuncData} {oe : Obj} {fs : List (Str × V)} {b1 b2 b3 b4 b5 b6 b7 : Bool} (T : Bi mg) (hVE : mg "ValueError" = none) (XC : ExcC K D) (h1 : IsX K mg D "Garbled" b1) (h2 : IsX K mg D "BadRule" b2) (h3 : IsX K mg D "Undeclared" b3) (h4 : IsX K mg D "Unmet" b4) (h5 : IsX K mg D "Overlap" b5) (h6 : IsX K mg D "NoPart" b6) (h7 : IsX K mg D "Mismatch" b7) (h8 : IsX K mg D "RippleError" true) (h9 : PySem.W.kitOne K (.ref D) (.type "ValueError") = some true)
    (DF : C8.Fun K "_law_kinds" "_law_kinds" s_law_kinds f fd) (bn : Binds K fd ["_law_e"] []) (hz : Zc (.ref D) (some d) oe) (hf : ∃ vs, oe.data = .fields vs)
    {A : Around} {outer : List Env} {s : Shared} {H : Hp} {Q : VK} {E : XK} (hr : L2H.RoomH 1 A) (hot : L2H.Hot1 A (a, oe)) (hp : L2H.PinOk outer H s (a, oe)) (e0 : Env0 P w K mg base A outer s H) (hd : H d = some (.xd fs))
    (k : ∀ (q : Addr) (H' : Hp), Fr [] H H' → H' q = some (.lst (marksL [b1, b2, b3, b4, b5, b6, b7] 7)) → Q (.ref q) H') : codeAny (model P w) A (.call (.ref f) ⟨[.ref a], []⟩) (CR CX outer P w H s Q E) s := by
  obtain ⟨C1, g1, k1⟩ := h1
  obtain ⟨C2, g2, k2⟩ := h2
  obtain ⟨C3, g3, k3⟩ := h3
  obtain ⟨C4, g4, k4⟩ := h4
  obtain ⟨C5, g5, k5⟩ := h5
  obtain ⟨C6, g6, k6⟩ := h6
  obtain ⟨C7, g7, k7⟩ := h7
  obtain ⟨C8', g8, k8⟩ := h8
  refine run_toldH (vs := [.ref a]) DF sc__law_kinds bn hr hp e0 (.cons rfl .nil) rfl (fun cdv hr => ?_)
  refine ⟨_, (pss_cons (ps_set (i := 1) sc__law_kinds.nd rfl (Or.inr rfl) (pe_lst (pa_cons (pe_callB (call_isPin XC (List.mem_singleton.mpr rfl) hz hf) (by rfl) T.n_isinstance (by decide +kernel) (pa_cons (pv 0) (pa_cons (pe_gc (v := .ref C1) (by rfl) ⟨_, g1, rfl⟩) pa_nil))) (pa_cons (pe_callB (call_isPin XC (List.mem_singleton.mpr rfl) hz hf) (by rfl) T.n_isinstance (by decide +kernel) (pa_cons (pv 0) (pa_cons (pe_gc (v := .ref C2) (by rfl) ⟨_, g2, rfl⟩) pa_nil))) (pa_cons (pe_callB (call_isPin XC (List.mem_singleton.mpr rfl) hz hf) (by rfl) T.n_isinstance (by decide +kernel) (pa_cons (pv 0) (pa_cons (pe_gc (v := .ref C3) (by rfl) ⟨_, g3, rfl⟩) pa_nil))) (pa_cons (pe_callB (call_isPin XC (List.mem_singleton.mpr rfl) hz hf) (by rfl) T.n_isinstance (by decide +kernel) (pa_cons (pv 0) (pa_cons (pe_gc (v := .ref C4) (by rfl) ⟨_, g4, rfl⟩) pa_nil))) pa_nil))))))
  (pss_cons (ps_set (i := 1) sc__law_kinds.nd rfl (Or.inr rfl) (pe_op op_cat (pv 1) (pe_lst (pa_cons (pe_callB (call_isPin XC (List.mem_singleton.mpr rfl) hz hf) (by rfl) T.n_isinstance (by decide +kernel) (pa_cons (pv 0) (pa_cons (pe_gc (v := .ref C5) (by rfl) ⟨_, g5, rfl⟩) pa_nil))) (pa_cons (pe_callB (call_isPin XC (List.mem_singleton.mpr rfl) hz hf) (by rfl) T.n_isinstance (by decide +kernel) (pa_cons (pv 0) (pa_cons (pe_gc (v := .ref C6) (by rfl) ⟨_, g6, rfl⟩) pa_nil))) (pa_cons (pe_callB (call_isPin XC (List.mem_singleton.mpr rfl) hz hf) (by rfl) T.n_isinstance (by decide +kernel) (pa_cons (pv 0) (pa_cons (pe_gc (v := .ref C7) (by rfl) ⟨_, g7, rfl⟩) pa_nil))) pa_nil))))))
  (pss_cons (ps_if (PW.pt (pw_or (pt_not (pt_val (pe_callB (call_isPin XC (List.mem_singleton.mpr rfl) hz hf) (by rfl) T.n_isinstance (by decide +kernel) (pa_cons (pv 0) (pa_cons (pe_gc (v := .ref C8') (by rfl) ⟨_, g8, rfl⟩) pa_nil))))) (pw_or1 (pt_not (pt_val (pe_callB (call_isPin XC (List.mem_singleton.mpr rfl) hz hf) (by rfl) T.n_isinstance (by decide +kernel) (pa_cons (pv 0) (pa_cons (pe_bltn (v := .ty "ValueError") (u := .type "ValueError") (by rfl) hVE (by decide +kernel) rfl) pa_nil)))))))) (pss_one (ps_ret (pe_lst pa_nil))) pss_nil)
  (pss_one (ps_ret (pe_lcHot (own := [("_law_k", 2)]) (g := gName 2) hot (List.mem_singleton.mpr rfl) sc__law_kinds.nd (L2H.pi_range1H (by rfl) T.n_range (pa_cons pe_int pa_nil)) (blkOk_by (own := [("_law_k", 2)]) (N := ["_law_e", "_law_marks", "_law_k"]) (sc := fnScope s_law_kinds) (by decide +kernel)) (fun _ _ _ _ _ => pg_name (i := 2) sc__law_kinds.nd rfl (Or.inl rfl)) (fun _ _ _ _ _ => (pts_one (pt_val (pe_ix (ix_listK K) (pv 1) (pv 2) (fun _ _ => rfl))))) (fun _ _ _ _ _ => (pv 2)))))))), ?_⟩
  refine u_start [some (.ref a), none, none] rfl ?_
  walk_at "go"
  refine u_isPin hd k1 ?_
  walk_at "go"
  refine u_isPin hd k2 ?_
  walk_at "go"
  refine u_isPin hd k3 ?_
  walk_at "go"
  refine u_isPin hd k4 ?_
  walk_at "go"
  rename_i l1 H1 n1 f1 kp1 e1
  have hd1 : H1 d = some (.xd fs) := by walk_at "lk"
  refine u_isPin hd1 k5 ?_
  walk_at "go"
  refine u_isPin hd1 k6 ?_
  walk_at "go"
  refine u_isPin hd1 k7 ?_
  walk_at "go"
  rename_i l2 H2 n2 f2 kp2 e2 m H3 n3 f3 kp3 e3
  have hd3 : H3 d = some (.xd fs) := by walk_at "lk"
  refine u_isPin hd3 k8 ?_
  walk_at "go"
  refine u_isPinT hd3 h9 ?_
  walk_at "go"
  refine lcRange _ [some (.ref a), some (.ref m), none] rfl (fun i acc H4 => Fr [] H3 H4 ∧ acc = marksL [b1, b2, b3, b4, b5, b6, b7] i) ?_ ?_ ?_
  · intro D' H4 _ f4 k4' _
    exact ⟨f4, rfl⟩
  · rintro D' i acc H4 hD' hi hacc ⟨f4, rfl⟩
    walk_at "go"
    have hat : atI ([V.bl b1, V.bl b2, V.bl b3, V.bl b4] ++ [V.bl b5, V.bl b6, V.bl b7]) ((0 : Int) + (i : Int)) = some (.bl (([b1, b2, b3, b4, b5, b6, b7] : List Bool).getD i false)) := by
      have hi7 : i < 7 := hi
      have hc : i = 0 ∨ i = 1 ∨ i = 2 ∨ i = 3 ∨ i = 4 ∨ i = 5 ∨ i = 6 := by omega
      rcases hc with rfl | rfl | rfl | rfl | rfl | rfl | rfl <;> rfl
    have hlen := marksL_len (bs := [b1, b2, b3, b4, b5, b6, b7]) (i := i)
    have hi7 : i < 7 := hi
    refine u_ixL (SqL.of (by walk_at "lk")) hat ?_
    walk_at "go"
    refine u_ifb (fun hy => ?_) (fun hy => ?_)
    · walk_at "go"
      rename_i H5 f5 kp5 e5
      refine ⟨by walk_at "fr", ?_⟩
      rw [marksL_yes hy]; simp
    · walk_at "go"
      exact ⟨f4, (marksL_no hy).symm⟩
  · rintro D' acc H4 hD' hacc ⟨f4, rfl⟩
    walk_at "go"
    exact k D' H4 (by walk_at "fr") hacc
theorem pin_kinds {f D a d : Addr} {fd : FuncData} {oe : Obj} {b1 b2 b3 b4 b5 b6 b7 : Bool} (T : Bi mg) (hVE : mg "ValueError" = none) (XC : ExcC K D) (h1 : IsX K mg D "Garbled" b1) (h2 : IsX K mg D "BadRule" b2) (h3 : IsX K mg D "Undeclared" b3) (h4 : IsX K mg D "Unmet" b4) (h5 : IsX K mg D "Overlap" b5) (h6 : IsX K mg D "NoPart" b6) (h7 : IsX K mg D "Mismatch" b7) (h8 : IsX K mg D "RippleError" true) (h9 : PySem.W.kitOne K (.ref D) (.type "ValueError") = some true)
    (DF : C8.Fun K "_law_kinds" "_law_kinds" s_law_kinds f fd) (bn : Binds K fd ["_law_e"] []) (hz : Zc (.ref D) (some d) oe) (hf : ∃ vs, oe.data = .fields vs) : FnPin P w K mg base 1 f (a, oe) (spKinds a d [b1, b2, b3, b4, b5, b6, b7]) := fun A outer s H us vs Q hr hot hp e0 r h => by
  obtain ⟨rfl, ⟨fs, hd⟩, k⟩ := h
  obtain ⟨u, rfl, ru⟩ := vals1 r
  cases (show u = Value.ref a from ru)
  exact run_kinds T hVE XC h1 h2 h3 h4 h5 h6 h7 h8 h9 DF bn hz hf hr hot hp e0 hd k
end
section
variable {P : Program} {w : World} {K : PySem.W.Frag} {mg : Str → Option Value} {base : Heap}
theorem cal_nodesP (T : Bi mg) (D : DefE K mg "_law_nodes" s_law_nodes ["_law_t"]) : Cal P w K mg base 1 "_law_nodes" (spNodesP K) [] := by
  obtain ⟨f, fd, D, b⟩ := D.ex
  refine cal0 D b .nil sc__law_nodes (fun vs H Q E h => ?_) (fun cdv A outer s H vs Q E hr h => ?_)
  · obtain ⟨a, t, rfl, _⟩ := h
    rfl
  · obtain ⟨a, t, rfl, ha, hok, hz, k⟩ := h
    refine ⟨_, (pss_cons (ps_set (i := 1) sc__law_nodes.nd rfl (Or.inl rfl) (pe_lst (pa_cons (pv 0) pa_nil)))
  (pss_cons (ps_set (i := 2) sc__law_nodes.nd rfl (Or.inl rfl) pe_int)
  (pss_cons (ps_while PassesOwn.never (pt_cmpR op_lt (pv 2) (pe_callB (k_lenK K) (by rfl) T.n_len (by decide +kernel) (pa_cons (pv 1) pa_nil)) (nomark _)) (pss_cons (ps_expr (pe_bmK K PySem.F.plainAttrs_list PySem.F.slot_list_extend PySem.F.type_list_extend mt_extend (pv 1) (pa_cons (pe_callTy (k_listK K) (by rfl) T.n_list (by decide +kernel) (pa_cons (pe_slice (sl_tupAK K) (pe_ix (ix_listK K) (pv 1) (pv 2) (fun _ _ => rfl)) (po_some pe_int) po_none) pa_nil)) pa_nil)))
  (pss_one (ps_set (i := 2) sc__law_nodes.nd rfl (Or.inl rfl) (pe_op op_add (pv 2) pe_int)))))
  (pss_one (ps_ret (pv 1)))))), ?_⟩
    refine u_start [some (.ref a), none, none] rfl ?_
    walk_at "go"
    rename_i q H1 n1 f1 k1 e1
    refine u_while (fun m σ H2 => ∃ (i : Nat) (ns : List Fm) (st : List Nat) (ws : List V), σ = [some (.ref a), some (.ref q), some (.int (i : Int))] ∧ m = t.size - i ∧ Fr [] H H2 ∧ Kp H H2 ∧ Bfs t i ns st ∧ BfsPerm t i ns ∧ TupsAt K H2 ns ws ∧ H2 q = some (.lst ws) ∧ ∀ n ∈ ns, n.Ok) t.size ?_ ?_
    · exact ⟨0, [t], [], [.ref a], rfl, rfl, by walk_at "fr", k1, .start t, .start t, TupsAt.one (by walk_at "lk"), e1, by intro n hn; rw [List.mem_singleton.mp hn]; exact hok⟩
    · rintro m σ H2 ⟨i, ns, st, ws, rfl, rfl, f2, k2, hb, hba, hts, e2, hall⟩
      have lw := hts.length
      have hbd := hb.bound
      have hle := hb.le
      walk_at "go"
      refine u_if (fun h1 => ?_) (fun h1 => ?_)
      · obtain ⟨v, hv⟩ : ∃ v, ws[i]? = some v := ⟨ws[i]'(by omega), by simp⟩
        obtain ⟨n, bn, hn, rfl, hbn⟩ := hts.get hv
        have hat : atI ws (i : Int) = some (.ref bn) := atI_nat hv
        obtain ⟨ys, hqn, hvn⟩ := hbn.parts
        have hly := hvn.length
        have hpl := n.parts_le
        walk_at "go"
        rename_i sl H3 f3 k3 e3 lb H4 n4 f4 k4 e4
        rw [cutV_tail] at e4
        walk_at "go"
        rename_i H5 f5 k5 e5
        exact ⟨t.size - (i + 1), by omega, i + 1, ns ++ n.parts, st ++ [ns.length], ws ++ ys, rfl, rfl, by walk_at "fr", Kp.trans k2 (Kp.trans k3 (Kp.trans k4 k5)), hb.step hn, hba.step hn, TupsAt.append (by walk_at "lk") (by walk_at "lk"), e5, Bfs.mem (t := t) hall (fun m q hm hq => hm.part hq) hn⟩
      · have hi0 : i = ns.length := by omega
        subst hi0
        have hzn : ns.length = t.size := by have := hb.sz; simpa using this
        walk_at "go"
        exact k q ns ws H2 f2 n1 e2 hts hzn hall hba.done
end
section
variable {P : Program} {w : World} {K : PySem.W.Frag} {mg : Str → Option Value} {base : Heap}
theorem cal_letters (T : Bi mg) (c_law_nodes : Cal P w K mg base 1 "_law_nodes" (spNodesP K) []) (D : DefE K mg "_law_letters" s_law_letters ["_law_t"]) : Cal P w K mg base 2 "_law_letters" (spLetters K) [] := by
  obtain ⟨f, fd, D, b⟩ := D.ex
  refine cal0 D b .nil sc__law_letters (fun vs H Q E h => ?_) (fun cdv A outer s H vs Q E hr h => ?_)
  · obtain ⟨a, t, rfl, _⟩ := h
    rfl
  · obtain ⟨a, t, rfl, ha, hok, hz, k⟩ := h
    refine ⟨_, (pss_one (ps_ret (pe_lc (own := [("_law_node", 1)]) (g := gName 1) rfl sc__law_letters.nd (pi_listK K (pe_c c_law_nodes hr (by omega) (by rfl) (pa_cons (pv 0) pa_nil))) (blkOk_by (own := [("_law_node", 1)]) (N := ["_law_t", "_law_node"]) (sc := fnScope s_law_letters) (by decide +kernel)) (fun _ _ _ _ _ => pg_name (i := 1) sc__law_letters.nd rfl (Or.inl rfl)) (fun _ _ _ _ _ => (pts_one (pt_val (pe_m0 PySem.F.slot_str_islower PySem.F.type_str_islower mt_islower (pe_ix (ix_tupK K) (pv 1) pe_int (fun _ _ => rfl)))))) (fun _ _ _ _ _ => (pe_ix (ix_tupK K) (pv 1) pe_int (fun _ _ => rfl)))))), ?_⟩
    refine u_start [some (.ref a), none] rfl ?_
    walk_at "go"
    refine u_nodesP ha hok hz (fun q ns ws H1 f1 k1 n1 e1 hts hln hall hperm => ?_)
    have hlw := hts.length
    walk_at "go"
    refine lcList [some (.ref a), none] rfl (fun i acc H2 => Fr [] H1 H2 ∧ Kp H1 H2 ∧ acc = vS ((letsOf (ns.take i)).map fun c => [c])) (fun i acc H2 z => SqL.of (xs := ws) (by have f2 := z.1; walk_at "lk")) ?_ ?_ ?_
    · intro D H2 _ f2 k2 _
      exact ⟨f2, k2, rfl⟩
    · rintro D i v acc H2 hD hv hacc ⟨f2, k2, rfl⟩
      obtain ⟨n, bn, hn, rfl, hbn⟩ := hts.get hv
      have okn := hall n (List.mem_of_getElem? hn)
      have hbn2 := hbn.mono k2
      obtain ⟨ys, hqn, hvn⟩ := hbn2.parts
      have hll := letsOf_len (ns := ns.take i) fun m hm => hall m (List.mem_of_mem_take hm)
      rw [List.length_take] at hll
      have hlv : (vS ((letsOf (ns.take i)).map fun c => [c])).length = (letsOf (ns.take i)).length := by rw [vS_nil, List.length_map]
      walk_at "go"
      refine u_m0 ?_
      walk_at "go"
      refine u_lower okn.nm ?_
      refine ⟨_, rfl, ?_⟩
      have ht := letsOf_take hn
      rw [name_low okn] at ht
      refine u_ifb (fun h1 => ?_) (fun h1 => ?_)
      · obtain ⟨c, hc, _⟩ := let_leaf okn h1
        rw [if_pos h1] at ht
        walk_at "go"
        rename_i H3 f3 k3 e3
        refine ⟨by walk_at "fr", Kp.trans k2 k3, ?_⟩
        rw [ht, hc]
        simp [vS, Fm.name]
      · rw [if_neg (by rw [h1]; simp)] at ht
        walk_at "go"
        exact ⟨f2, k2, by rw [ht]; simp⟩
    · rintro D acc H2 hD eD ⟨f2, k2, rfl⟩
      rw [List.take_of_length_le (by omega)] at eD
      walk_at "go"
      refine k D (letsOf ns) H2 (by walk_at "fr") eD ?_ (by have := letsOf_len hall; omega)
      rw [lets_nodes hok]
      exact hperm.flatMap_right _
end
section
variable {P : Program} {w : World} {K : PySem.W.Frag} {mg : Str → Option Value} {base : Heap}
theorem cal_inner (T : Bi mg) (D : DefE K mg "_law_inner" s_law_inner ["_law_t"]) : Cal P w K mg base 1 "_law_inner" (spInner K) [] := by
  obtain ⟨f, fd, D, b⟩ := D.ex
  refine cal0 D b .nil sc__law_inner (fun vs H Q E h => ?_) (fun cdv A outer s H vs Q E hr h => ?_)
  · obtain ⟨a, t, rfl, _⟩ := h
    rfl
  · obtain ⟨a, t, rfl, ha, k⟩ := h
    refine ⟨_, (pss_cons (ps_set (i := 1) sc__law_inner.nd rfl (Or.inl rfl) (pe_lst pa_nil))
  (pss_cons (ps_for PassesOwn.never rfl (pi_tupK K (pe_slice (sl_tupAK K) (pv 0) (po_some pe_int) po_none)) (pg_name (i := 2) sc__law_inner.nd rfl (Or.inl rfl)) (pss_one (ps_expr (pe_bmK K PySem.F.plainAttrs_list PySem.F.slot_list_extend PySem.F.type_list_extend mt_extend (pv 1) (pa_cons (pe_callTy (k_listK K) (by rfl) T.n_list (by decide +kernel) (pa_cons (pe_slice (sl_tupAK K) (pv 2) (po_some pe_int) po_none) pa_nil)) pa_nil)))))
  (pss_one (ps_ret (pv 1))))), ?_⟩
    refine u_start [some (.ref a), none, none] rfl ?_
    obtain ⟨ys, hqn, hvn⟩ := ha.parts
    have hly := hvn.length
    have hpl := t.parts_le
    walk_at "go"
    rename_i q H1 n1 f1 k1 e1 tl H2 f2 k2 e2
    rw [cutV_tail] at e2
    refine forTup (xs := ys) (fun i σ H3 => ∃ (y : Option V) (ws : List V), σ = [some (.ref a), some (.ref q), y] ∧ Fr [] H H3 ∧ Kp H2 H3 ∧ H3 q = some (.lst ws) ∧ TupsAt K H3 ((t.parts.take i).flatMap Fm.parts) ws) (fun _ _ _ z => by obtain ⟨_, _, _, _, k3, _⟩ := z; exact k3.sqT e2) ?_ ?_ ?_
    · exact ⟨_, [], rfl, by walk_at "fr", Kp.refl _, by walk_at "lk", .nil⟩
    · rintro i v σ H3 hv ⟨y, ws, rfl, f3, k3, e3, hts⟩
      obtain ⟨p, ap, hp, rfl, hap⟩ := hvn.get hv
      have hap3 : TupAt K H3 p ap := hap.mono (Kp.trans (Kp.trans k1 k2) k3)
      obtain ⟨zs, hqp, hvp⟩ := hap3.parts
      have hlz := hvp.length
      have hppl := p.parts_le
      have hlw := hts.length
      have hfl : ((t.parts.take i).flatMap Fm.parts).length ≤ 4 := by
        have : ∀ l : List Fm, (l.flatMap Fm.parts).length ≤ 2 * l.length := fun l => by
          induction l with
          | nil => simp
          | cons b r ih =>
            have := b.parts_le
            simp at ih ⊢; omega
        have h2 := this (t.parts.take i)
        rw [List.length_take] at h2
        omega
      walk_at "go"
      rename_i sl H4 f4 k4 e4 lb H5 n5 f5 k5 e5
      rw [cutV_tail] at e5
      walk_at "go"
      rename_i H6 f6 k6 e6
      refine ⟨_, ws ++ zs, rfl, by walk_at "fr", Kp.trans k3 (Kp.trans k4 (Kp.trans k5 k6)), e6, ?_⟩
      rw [List.take_add_one, hp, List.flatMap_append]
      have : ((some p).toList.flatMap Fm.parts) = p.parts := by simp
      rw [this]
      exact TupsAt.append (by walk_at "lk") (by walk_at "lk")
    · rintro σ H3 ⟨y, ws, rfl, f3, k3, e3, hts⟩
      rw [List.take_of_length_le (by omega)] at hts
      walk_at "go"
      exact k q ws H3 f3 e3 hts
end
section
variable {P : Program} {w : World} {K : PySem.W.Frag} {mg : Str → Option Value} {base : Heap}
theorem cal_reason (T : Bi mg) (c_law_letters : Cal P w K mg base 2 "_law_letters" (spLetters K) []) (c_law_inner : Cal P w K mg base 1 "_law_inner" (spInner K) []) (c_law_nodes : Cal P w K mg base 1 "_law_nodes" (spNodesP K) [])
    (D : DefE K mg "_law_reason" s_law_reason ["_law_left", "_law_right"]) : Cal P w K mg base 3 "_law_reason" (spReason K) [] := by
  obtain ⟨f, fd, D, b⟩ := D.ex
  refine cal0 D b .nil sc__law_reason (fun vs H Q E h => ?_) (fun cdv A outer s H vs Q E hr h => ?_)
  · obtain ⟨x, y, l, r, rfl, _⟩ := h
    rfl
  · obtain ⟨x, y, l, r, rfl, hx, hy, okl, okr, hl, hr2, dl, dr, k⟩ := h
    refine ⟨_, (pss_cons (ps_set (i := 2) sc__law_reason.nd rfl (Or.inr rfl) (pe_c c_law_letters hr (by omega) (by rfl) (pa_cons (pv 0) pa_nil)))
  (pss_cons (ps_set (i := 3) sc__law_reason.nd rfl (Or.inr rfl) (pe_c c_law_letters hr (by omega) (by rfl) (pa_cons (pv 1) pa_nil)))
  (pss_cons (ps_if (PW.pt (pw_or (pt_cmpR op_eq (pe_callB (k_lenK K) (by rfl) T.n_len (by decide +kernel) (pa_cons (pv 0) pa_nil)) pe_int (nomark _)) (pw_or1 (pt_cmpR (op_neDK K hr.units) (pe_lc (own := [("_law_node", 4)]) (g := gName 4) rfl sc__law_reason.nd (pi_listK K (pe_c c_law_inner hr (by omega) (by rfl) (pa_cons (pv 0) pa_nil))) (blkOk_by (own := [("_law_node", 4)]) (N := ["_law_left", "_law_right", "_law_given", "_law_wanted", "_law_node", "_law_letter"]) (sc := fnScope s_law_reason) (by decide +kernel)) (fun _ _ _ _ _ => pg_name (i := 4) sc__law_reason.nd rfl (Or.inl rfl)) (fun _ _ _ _ _ => (pts_one (pt_not (pt_val (pe_m0 PySem.F.slot_str_islower PySem.F.type_str_islower mt_islower (pe_ix (ix_tupK K) (pv 4) pe_int (fun _ _ => rfl))))))) (fun _ _ _ _ _ => (pv 4))) (pe_lst pa_nil) (nomark _))))) (pss_one (ps_ret (pe_sS [108, 101, 102, 116] (by decide +kernel)))) pss_nil)
  (pss_cons (ps_if (pt_cmpR (op_neDK K hr.units) (pe_lc (own := [("_law_letter", 5)]) (g := gName 5) rfl sc__law_reason.nd (pi_listK K (pv 2)) (blkOk_by (own := [("_law_letter", 5)]) (N := ["_law_left", "_law_right", "_law_given", "_law_wanted", "_law_node", "_law_letter"]) (sc := fnScope s_law_reason) (by decide +kernel)) (fun _ _ _ _ _ => pg_name (i := 5) sc__law_reason.nd rfl (Or.inl rfl)) (fun _ _ _ _ _ => (pts_one (pt_cmpR op_gt (pe_bmK K PySem.F.plainAttrs_list PySem.F.slot_list_count PySem.F.type_list_count (mt_lcountSK K) (pv 2) (pa_cons (pv 5) pa_nil)) pe_int (nomark _)))) (fun _ _ _ _ _ => (pv 5))) (pe_lst pa_nil) (nomark _)) (pss_one (ps_ret (pe_sS [114, 101, 112, 101, 97, 116, 101, 100] (by decide +kernel)))) pss_nil)
  (pss_cons (ps_if (pt_cmpR (op_neDK K hr.units) (pe_c c_law_inner hr (by omega) (by rfl) (pa_cons (pv 1) pa_nil)) (pe_lst pa_nil) (nomark _)) (pss_one (ps_ret (pe_sS [114, 105, 103, 104, 116] (by decide +kernel)))) pss_nil)
  (pss_cons (ps_if (pt_cmpR (op_neDK K hr.units) (pe_lc (own := [("_law_letter", 5)]) (g := gName 5) rfl sc__law_reason.nd (pi_listK K (pv 3)) (blkOk_by (own := [("_law_letter", 5)]) (N := ["_law_left", "_law_right", "_law_given", "_law_wanted", "_law_node", "_law_letter"]) (sc := fnScope s_law_reason) (by decide +kernel)) (fun _ _ _ _ _ => pg_name (i := 5) sc__law_reason.nd rfl (Or.inl rfl)) (fun _ _ _ _ _ => (pts_one (pt_cmpR (op_notInK K) (pv 5) (pv 2) (by rfl)))) (fun _ _ _ _ _ => (pv 5))) (pe_lst pa_nil) (nomark _)) (pss_one (ps_ret (pe_sS [117, 110, 98, 111, 117, 110, 100] (by decide +kernel)))) pss_nil)
  (pss_cons (ps_if (pt_cmpR (op_neDK K hr.units) (pe_lc (own := [("_law_letter", 5)]) (g := gName 5) rfl sc__law_reason.nd (pi_listK K (pv 3)) (blkOk_by (own := [("_law_letter", 5)]) (N := ["_law_left", "_law_right", "_law_given", "_law_wanted", "_law_node", "_law_letter"]) (sc := fnScope s_law_reason) (by decide +kernel)) (fun _ _ _ _ _ => pg_name (i := 5) sc__law_reason.nd rfl (Or.inl rfl)) (fun _ _ _ _ _ => (pts_one (pt_cmpR op_gt (pe_bmK K PySem.F.plainAttrs_list PySem.F.slot_list_count PySem.F.type_list_count (mt_lcountSK K) (pv 3) (pa_cons (pv 5) pa_nil)) pe_int (nomark _)))) (fun _ _ _ _ _ => (pv 5))) (pe_lst pa_nil) (nomark _)) (pss_one (ps_ret (pe_sS [99, 111, 112, 105, 101, 100] (by decide +kernel)))) pss_nil)
  (pss_cons (ps_if (pt_cmpR op_ge (pe_callB (k_lenK K) (by rfl) T.n_len (by decide +kernel) (pa_cons (pe_c c_law_nodes hr (by omega) (by rfl) (pa_cons (pv 1) pa_nil)) pa_nil)) (pe_callB (k_lenK K) (by rfl) T.n_len (by decide +kernel) (pa_cons (pe_c c_law_nodes hr (by omega) (by rfl) (pa_cons (pv 0) pa_nil)) pa_nil)) (nomark _)) (pss_one (ps_ret (pe_sS [115, 105, 122, 101] (by decide +kernel)))) pss_nil)
  (pss_one (ps_ret (pe_sS [] (by decide +kernel)))))))))))), ?_⟩
    refine u_start [some (.ref x), some (.ref y), none, none, none, none] rfl ?_
    have hk : ∀ {H' : Hp} {z : Option (List Nat)}, Fr [] H H' → fault l r = z → Q (.str (S (z.getD []))) H' := fun {H' z} f e => e ▸ k H' f
    walk_at "go"
    refine u_letters hx okl (by omega) (fun gq g H1 f1 k1 e1 hg hgl => ?_)
    walk_at "go"
    refine u_letters (by walk_at "lk") okr (by omega) (fun wq wn H2 f2 k2 e2 hw hwl => ?_)
    obtain ⟨vl, hql, hvl⟩ := (hx.mono (Kp.trans k1 k2)).parts
    have hll := hvl.length
    have hgd : g.Nodup ↔ l.lets.Nodup := hg.nodup_iff.symm
    have hwd : wn.Nodup ↔ r.lets.Nodup := hw.nodup_iff.symm
    have hgs : ∀ x, x ∈ g ↔ x ∈ l.lets := fun x => hg.mem_iff.symm
    have hws : ∀ x, x ∈ wn ↔ x ∈ r.lets := fun x => hw.mem_iff.symm
    have hglow : ∀ x ∈ g, x < 200 := fun x hx => lets_lt ((hgs x).mp hx)
    have hwlow : ∀ x ∈ wn, x < 200 := fun x hx => lets_lt ((hws x).mp hx)
    have gcons : H2 gq = some (.lst (vS (g.map fun c => [c]))) := by walk_at "lk"
    walk_at "go"
    refine u_if (fun h1 => ?_) (fun h1 => ?_)
    · have e0 : l.parts = [] := List.eq_nil_of_length_eq_zero (by simp at h1; omega)
      walk_at "go"
      exact hk (z := some rLeft) (by walk_at "fr") (by unfold fault; rw [if_pos (by simp [e0])])
    have hne : l.parts ≠ [] := fun z => h1 (by rw [z] at hll; rw [List.eq_nil_of_length_eq_zero hll.symm]; rfl)
    walk_at "go"
    refine u_inner (t := l) (by walk_at "lk") (fun iq ws H3 f3 k3 e3 hts => ?_)
    have hlw := hts.length
    have hin4 : (l.parts.flatMap Fm.parts).length ≤ 4 := inner_len l
    walk_at "go"
    refine lcList [some (.ref x), some (.ref y), some (.ref gq), some (.ref wq), none, none] rfl (fun i acc H4 => Fr [] H3 H4 ∧ Kp H3 H4 ∧ TupsAt K H4 (((l.parts.flatMap Fm.parts).take i).filter fun q => !isLet q.name) acc) (fun i acc H4 z => SqL.of (xs := ws) (by have f4 := z.1; walk_at "lk")) ?_ ?_ ?_
    · intro D H4 _ f4 k4 _
      exact ⟨f4, k4, .nil⟩
    · rintro D i v acc H4 hD hv hacc ⟨f4, k4, hac⟩
      obtain ⟨q, aq, hq, rfl, haq⟩ := hts.get hv
      have okq := inner_ok okl (List.mem_of_getElem? hq)
      obtain ⟨zs, hqz, hvz⟩ := (haq.mono k4).parts
      have hal := hac.length
      have hfl := List.length_filter_le (fun q : Fm => !isLet q.name) ((l.parts.flatMap Fm.parts).take i)
      rw [List.length_take] at hfl
      walk_at "go"
      refine u_m0 ?_
      walk_at "go"
      refine u_lower okq.nm ?_
      refine ⟨_, rfl, ?_⟩
      refine u_nB (fun h2 => ?_) (fun h2 => ?_)
      · walk_at "go"
        rename_i H5 f5 k5 e5
        refine ⟨by walk_at "fr", Kp.trans k4 k5, ?_⟩
        rw [List.take_add_one, hq, List.filter_append]
        have e : ((some q).toList.filter fun q : Fm => !isLet q.name) = [q] := by simp [h2]
        rw [e]
        exact TupsAt.append (by walk_at "lk") (TupsAt.one (by exact haq.mono (Kp.trans k4 k5)))
      · walk_at "go"
        refine ⟨f4, k4, ?_⟩
        rw [List.take_add_one, hq, List.filter_append]
        have e : ((some q).toList.filter fun q : Fm => !isLet q.name) = [] := by simp [h2]
        rw [e, List.append_nil]
        exact hac
    rintro L4 acc H4 hL4 eL4 ⟨f4, k4, hac⟩
    rw [List.take_of_length_le (by omega)] at hac
    walk_at "go"
    rename_i z5 H5 n5 f5 k5 e5
    refine u_neNilT (SqL.of (xs := acc) (by walk_at "lk")) (hac.mono k5) (SqL.of e5) (fun q hq => inner_ok okl (List.mem_filter.mp hq).1) (fun q hq => by have := inner_depth (List.mem_filter.mp hq).1; omega) ?_
    rw [inner_flat]
    refine ⟨_, rfl, ?_⟩
    refine u_nB (fun h2 => ?_) (fun h2 => ?_)
    · walk_at "go"
      exact hk (z := some rLeft) (by walk_at "fr") (by unfold fault; rw [h2]; simp)
    have hflat : (l.parts.isEmpty || !flatL l) = false := by rw [h2]; simp [hne]
    walk_at "go"
    refine lcList [some (.ref x), some (.ref y), some (.ref gq), some (.ref wq), none, none] rfl (fun i acc H6 => Fr [] H5 H6 ∧ Kp H5 H6 ∧ acc = vS (((g.take i).filter fun x => decide ((1 : Int) < ((g.count x : Nat) : Int))).map fun c => [c])) (fun i acc H6 z => SqL.of (xs := vS (g.map fun c => [c])) (by have f6 := z.1; walk_at "lk")) ?_ ?_ ?_
    · intro D H6 _ f6 k6 _
      exact ⟨f6, k6, rfl⟩
    · rintro D i v acc H6 hD hv hacc ⟨f6, k6, rfl⟩
      obtain ⟨c, hc, rfl⟩ := vS1_get hv
      have hi := (List.getElem?_eq_some_iff.mp hc).1
      have hfl := List.length_filter_le (fun x => decide ((1 : Int) < ((g.count x : Nat) : Int))) (g.take i)
      rw [List.length_take] at hfl
      have hlv : (vS (((g.take i).filter fun x => decide ((1 : Int) < ((g.count x : Nat) : Int))).map fun c => [c])).length = ((g.take i).filter fun x => decide ((1 : Int) < ((g.count x : Nat) : Int))).length := by rw [vS_nil, List.length_map]
      walk_at "go"
      refine u_cntS (ns := g.map fun c => [c]) (SqL.of (by walk_at "lk")) ?_
      walk_at "go"
      rw [cnt1]
      refine u_if (fun h9 => ?_) (fun h9 => ?_)
      · walk_at "go"
        rename_i H7 f7 k7 e7
        refine ⟨by walk_at "fr", Kp.trans k6 k7, ?_⟩
        rw [List.take_add_one, hc, List.filter_append]
        have e : ((some c).toList.filter fun x => decide ((1 : Int) < ((g.count x : Nat) : Int))) = [c] := by simp [h9]
        rw [e]
        simp [vS]
      · walk_at "go"
        refine ⟨f6, k6, ?_⟩
        rw [List.take_add_one, hc, List.filter_append]
        have e : ((some c).toList.filter fun x => decide ((1 : Int) < ((g.count x : Nat) : Int))) = [] := by simp [h9]
        rw [e, List.append_nil]
    rintro L6 acc H6 hL6 eL6 ⟨f6, k6, rfl⟩
    rw [List.take_of_length_le (by simp [vS])] at eL6
    walk_at "go"
    rename_i z7 H7 n7 f7 k7 e7
    refine u_neNilS (xs := (g.filter fun x => decide ((1 : Int) < ((g.count x : Nat) : Int))).map fun c => [c]) (SqL.of (by walk_at "lk")) (SqL.of e7) (fun w hw c hc => by obtain ⟨d, hd, rfl⟩ := List.mem_map.mp hw; rw [List.mem_singleton.mp hc]; exact hglow d (List.mem_filter.mp hd).1) ?_
    rw [map1_nil]
    refine ⟨_, rfl, ?_⟩
    refine u_nB (fun h3 => ?_) (fun h3 => ?_)
    · have h3' : ¬ l.lets.Nodup := fun z => by
        have := (dupsI_nil g).mpr (hgd.mpr z)
        rw [this] at h3; simp at h3
      walk_at "go"
      exact hk (z := some rRepeated) (by walk_at "fr") (by unfold fault; rw [hflat, if_neg (by simp), if_pos (decide_eq_true h3')])
    have h3' : ¬ ¬ l.lets.Nodup := fun z => z (hgd.mp ((dupsI_nil g).mp (of_decide_eq_true h3)))
    walk_at "go"
    refine u_inner (t := r) (by walk_at "lk") (fun iq8 ws8 H8 f8 k8 e8 hts8 => ?_)
    walk_at "go"
    rename_i z9 H9 n9 f9 k9 e9
    refine u_neNilT (SqL.of (xs := ws8) (by walk_at "lk")) (hts8.mono k9) (SqL.of e9) (fun q hq => inner_ok okr hq) (fun q hq => by have := inner_depth hq; omega) ?_
    rw [inner_any, Bool.not_not]
    refine ⟨_, rfl, ?_⟩
    refine u_ifb (fun h4 => ?_) (fun h4 => ?_)
    · walk_at "go"
      exact hk (z := some rRight) (by walk_at "fr") (by unfold fault; rw [hflat, if_neg (by simp), if_neg (by simpa using h3'), if_pos h4])
    walk_at "go"
    refine lcList [some (.ref x), some (.ref y), some (.ref gq), some (.ref wq), none, none] rfl (fun i acc H10 => Fr [] H9 H10 ∧ Kp H9 H10 ∧ acc = vS (((wn.take i).filter fun x => !decide (x ∈ g)).map fun c => [c])) (fun i acc H10 z => SqL.of (xs := vS (wn.map fun c => [c])) (by have f10 := z.1; walk_at "lk")) ?_ ?_ ?_
    · intro D H10 _ f10 k10 _
      exact ⟨f10, k10, rfl⟩
    · rintro D i v acc H10 hD hv hacc ⟨f10, k10, rfl⟩
      obtain ⟨c, hc, rfl⟩ := vS1_get hv
      have hi := (List.getElem?_eq_some_iff.mp hc).1
      have hfl := List.length_filter_le (fun x => !decide (x ∈ g)) (wn.take i)
      rw [List.length_take] at hfl
      have hlv : (vS (((wn.take i).filter fun x => !decide (x ∈ g)).map fun c => [c])).length = ((wn.take i).filter fun x => !decide (x ∈ g)).length := by rw [vS_nil, List.length_map]
      walk_at "go"
      refine u_notInS (xs := g.map fun c => [c]) (SqL.of (by walk_at "lk")) ?_
      walk_at "go"
      rw [mem1]
      refine u_ifn (fun h9 => ?_) (fun h9 => ?_)
      · walk_at "go"
        rename_i H11 f11 k11 e11
        refine ⟨by walk_at "fr", Kp.trans k10 k11, ?_⟩
        rw [List.take_add_one, hc, List.filter_append]
        have e : ((some c).toList.filter fun x => !decide (x ∈ g)) = [c] := by simp [h9]
        rw [e]
        simp [vS]
      · walk_at "go"
        refine ⟨f10, k10, ?_⟩
        rw [List.take_add_one, hc, List.filter_append]
        have e : ((some c).toList.filter fun x => !decide (x ∈ g)) = [] := by simp [h9]
        rw [e, List.append_nil]
    rintro L10 acc H10 hL10 eL10 ⟨f10, k10, rfl⟩
    rw [List.take_of_length_le (by simp [vS])] at eL10
    walk_at "go"
    rename_i z11 H11 n11 f11 k11 e11
    refine u_neNilS (xs := (wn.filter fun x => !decide (x ∈ g)).map fun c => [c]) (SqL.of (by walk_at "lk")) (SqL.of e11) (fun w hw c hc => by obtain ⟨d, hd, rfl⟩ := List.mem_map.mp hw; rw [List.mem_singleton.mp hc]; exact hwlow d (List.mem_filter.mp hd).1) ?_
    rw [map1_nil]
    refine ⟨_, rfl, ?_⟩
    refine u_nB (fun h5 => ?_) (fun h5 => ?_)
    · have h5' : (r.lets.all fun x => decide (x ∈ l.lets)) = false := by
        rw [Bool.eq_false_iff]
        intro z
        have z' := List.all_eq_true.mp z
        have : (wn.filter fun x => !decide (x ∈ g)) = [] := List.filter_eq_nil_iff.mpr fun x hx => by
          have := of_decide_eq_true (z' x ((hws x).mp hx))
          simp [(hgs x).mpr this]
        rw [this] at h5; simp at h5
      walk_at "go"
      exact hk (z := some rUnbound) (by walk_at "fr") (by unfold fault; rw [hflat, if_neg (by simp), if_neg (by simpa using h3'), if_neg (by simpa using h4), if_pos (by rw [h5']; rfl)])
    have h5' : (r.lets.all fun x => decide (x ∈ l.lets)) = true := List.all_eq_true.mpr fun x hx => by
      have := List.filter_eq_nil_iff.mp (of_decide_eq_true h5) x ((hws x).mpr hx)
      have : x ∈ g := by simpa using this
      exact decide_eq_true ((hgs x).mp this)
    walk_at "go"
    refine lcList [some (.ref x), some (.ref y), some (.ref gq), some (.ref wq), none, none] rfl (fun i acc H12 => Fr [] H11 H12 ∧ Kp H11 H12 ∧ acc = vS (((wn.take i).filter fun x => decide ((1 : Int) < ((wn.count x : Nat) : Int))).map fun c => [c])) (fun i acc H12 z => SqL.of (xs := vS (wn.map fun c => [c])) (by have f12 := z.1; walk_at "lk")) ?_ ?_ ?_
    · intro D H12 _ f12 k12 _
      exact ⟨f12, k12, rfl⟩
    · rintro D i v acc H12 hD hv hacc ⟨f12, k12, rfl⟩
      obtain ⟨c, hc, rfl⟩ := vS1_get hv
      have hi := (List.getElem?_eq_some_iff.mp hc).1
      have hfl := List.length_filter_le (fun x => decide ((1 : Int) < ((wn.count x : Nat) : Int))) (wn.take i)
      rw [List.length_take] at hfl
      have hlv : (vS (((wn.take i).filter fun x => decide ((1 : Int) < ((wn.count x : Nat) : Int))).map fun c => [c])).length = ((wn.take i).filter fun x => decide ((1 : Int) < ((wn.count x : Nat) : Int))).length := by rw [vS_nil, List.length_map]
      walk_at "go"
      refine u_cntS (ns := wn.map fun c => [c]) (SqL.of (by walk_at "lk")) ?_
      walk_at "go"
      rw [cnt1]
      refine u_if (fun h9 => ?_) (fun h9 => ?_)
      · walk_at "go"
        rename_i H13 f13 k13 e13
        refine ⟨by walk_at "fr", Kp.trans k12 k13, ?_⟩
        rw [List.take_add_one, hc, List.filter_append]
        have e : ((some c).toList.filter fun x => decide ((1 : Int) < ((wn.count x : Nat) : Int))) = [c] := by simp [h9]
        rw [e]
        simp [vS]
      · walk_at "go"
        refine ⟨f12, k12, ?_⟩
        rw [List.take_add_one, hc, List.filter_append]
        have e : ((some c).toList.filter fun x => decide ((1 : Int) < ((wn.count x : Nat) : Int))) = [] := by simp [h9]
        rw [e, List.append_nil]
    rintro L12 acc H12 hL12 eL12 ⟨f12, k12, rfl⟩
    rw [List.take_of_length_le (by simp [vS])] at eL12
    walk_at "go"
    rename_i z13 H13 n13 f13 k13 e13
    refine u_neNilS (xs := (wn.filter fun x => decide ((1 : Int) < ((wn.count x : Nat) : Int))).map fun c => [c]) (SqL.of (by walk_at "lk")) (SqL.of e13) (fun w hw c hc => by obtain ⟨d, hd, rfl⟩ := List.mem_map.mp hw; rw [List.mem_singleton.mp hc]; exact hwlow d (List.mem_filter.mp hd).1) ?_
    rw [map1_nil]
    refine ⟨_, rfl, ?_⟩
    refine u_nB (fun h6 => ?_) (fun h6 => ?_)
    · have h6' : ¬ r.lets.Nodup := fun z => by
        have := (dupsI_nil wn).mpr (hwd.mpr z)
        rw [this] at h6; simp at h6
      walk_at "go"
      exact hk (z := some rCopied) (by walk_at "fr") (by unfold fault; rw [hflat, if_neg (by simp), if_neg (by simpa using h3'), if_neg (by simpa using h4), if_neg (by rw [h5']; simp), if_pos (decide_eq_true h6')])
    have h6' : ¬ ¬ r.lets.Nodup := fun z => z (hwd.mp ((dupsI_nil wn).mp (of_decide_eq_true h6)))
    walk_at "go"
    refine u_nodesP (t := r) (by walk_at "lk") okr (by omega) (fun q14 ns14 ws14 H14 f14 k14 n14 e14 hts14 hln14 _ _ => ?_)
    have hl14 := hts14.length
    walk_at "go"
    refine u_nodesP (t := l) (by walk_at "lk") okl (by omega) (fun q15 ns15 ws15 H15 f15 k15 n15 e15 hts15 hln15 _ _ => ?_)
    have hl15 := hts15.length
    walk_at "go"
    refine u_if (fun h7 => ?_) (fun h7 => ?_)
    · walk_at "go"
      exact hk (z := some rSize) (by walk_at "fr") (by unfold fault; rw [hflat, if_neg (by simp), if_neg (by simpa using h3'), if_neg (by simpa using h4), if_neg (by rw [h5']; simp), if_neg (by simpa using h6'), if_pos (by simp; omega)])
    · walk_at "go"
      exact hk (z := none) (by walk_at "fr") (by unfold fault; rw [hflat, if_neg (by simp), if_neg (by simpa using h3'), if_neg (by simpa using h4), if_neg (by rw [h5']; simp), if_neg (by simpa using h6'), if_neg (by simp; omega)])
end
section
variable {P : Program} {w : World} {K : PySem.W.Frag} {mg : Str → Option Value} {base : Heap}
theorem cal_side (T : Bi mg) (D : DefE K mg "_law_side" s_law_side ["_law_pool", "_law_words", "_law_letters_here", "_law_deep"]) (c_law_draw : Cal P w K mg base 1 "_law_draw" spDraw []) : ∀ k, Cal P w K mg base (k + 3) "_law_side" (spSide K k) [] := by
  obtain ⟨f, fd, D, b⟩ := D.ex
  intro n
  induction n with
  | zero =>
    refine cal0 D b .nil sc__law_side (fun vs H Q E h => ?_) (fun cdv A outer s H vs Q E hr h => ?_)
    · obtain ⟨p, l, w, g, d, w1, w2, c1, c2, c3, rfl, _, hd, _⟩ := h
      exact absurd hd (by omega)
    · obtain ⟨p, l, w, g, d, w1, w2, c1, c2, c3, rfl, _, hd, _⟩ := h
      exact absurd hd (by omega)
  | succ n c_law_side =>
    refine cal0 D b .nil sc__law_side (fun vs H Q E h => ?_) (fun cdv A outer s H vs Q E hr h => ?_)
    · obtain ⟨p, l, w, g, d, w1, w2, c1, c2, c3, rfl, _⟩ := h
      rfl
    · obtain ⟨p, l, w, g, d, w1, w2, c1, c2, c3, rfl, hp, hd, hw, hg, o1, o2, l1, l2, l3, n1, n2, k⟩ := h
      refine ⟨_, (pss_cons (ps_if (PW.pt (pw_or (pt_cmpR op_eq (pv 3) pe_int (nomark _)) (pw_or1 (pt_cmpR op_eq (pe_c c_law_draw hr (by omega) (by rfl) (pa_cons (pv 0) (pa_cons pe_int pa_nil))) pe_int (nomark _))))) (pss_cons (ps_if (pt_cmpR op_eq (pe_c c_law_draw hr (by omega) (by rfl) (pa_cons (pv 0) (pa_cons pe_int pa_nil))) pe_int (nomark _)) (pss_one (ps_ret (pe_tup (pa_cons (pe_ix ix_str (pe_sS [48, 49, 50, 51, 52, 53, 54, 55, 56, 57] (by decide +kernel)) (pe_c c_law_draw hr (by omega) (by rfl) (pa_cons (pv 0) (pa_cons pe_int pa_nil))) (fun _ _ => rfl)) pa_nil)))) pss_nil)
  (pss_one (ps_ret (pe_tup (pa_cons (pe_ix (ix_listK K) (pv 2) (pe_c c_law_draw hr (by omega) (by rfl) (pa_cons (pv 0) (pa_cons pe_int pa_nil))) (fun _ _ => rfl)) pa_nil))))) pss_nil)
  (pss_cons (ps_set (i := 4) sc__law_side.nd rfl (Or.inl rfl) (pe_ix (ix_listK K) (pv 1) (pe_c c_law_draw hr (by omega) (by rfl) (pa_cons (pv 0) (pa_cons pe_int pa_nil))) (fun _ _ => rfl)))
  (pss_one (ps_ret (pe_op (op_catAK K) (pe_tup (pa_cons (pv 4) pa_nil)) (pe_callTy (k_tupleK K) (by rfl) T.n_tuple (by decide +kernel) (pa_cons (pe_lc (own := [("_law_k", 5)]) (g := gName 5) rfl sc__law_side.nd (pi_range1 (by rfl) T.n_range (pa_cons (pe_op op_add pe_int (pe_c c_law_draw hr (by omega) (by rfl) (pa_cons (pv 0) (pa_cons pe_int pa_nil)))) pa_nil)) (blkOk_by (own := [("_law_k", 5)]) (N := ["_law_pool", "_law_words", "_law_letters_here", "_law_deep", "_law_name", "_law_k"]) (sc := fnScope s_law_side) (by decide +kernel)) (fun _ _ _ _ _ => pg_name (i := 5) sc__law_side.nd rfl (Or.inl rfl)) (fun _ _ _ _ _ => pts_nil) (fun _ _ _ _ _ => (pe_c c_law_side hr (by omega) (by rfl) (pa_cons (pv 0) (pa_cons (pv 1) (pa_cons (pv 2) (pa_cons (pe_op op_sub (pv 3) pe_int) pa_nil))))))) pa_nil))))))), ?_⟩
      refine u_start [some (.ref p), some (.ref w), some (.ref g), some (.int d), none, none] rfl ?_
      walk_at "go"
      refine u_if (fun h1 => ?_) (fun h1 => ?_)
      · walk_at "go"
        refine u_draw hp (by omega) (by omega) (fun r2 H2 r20 r21 hp2 f2 kp2 => ?_)
        walk_at "go"
        refine u_if (fun h3 => ?_) (fun h3 => ?_)
        · walk_at "go"
          refine u_draw hp2 (by omega) (by omega) (fun r H3 r0 r1 hp3 f3 kp3 => ?_)
          obtain ⟨c, hc, hm⟩ := atI_inN (a := cDIG) (i := r) r0 r1
          refine u_ixS (by decide) hc ?_
          walk_at "go"
          exact k (.leaf [c]) _ _ ⟨c, rfl, .inr (mem_dig.mp hm)⟩ (Nat.zero_le _) (SqT.of (by assumption)) (by walk_at "lk") (by walk_at "fr")
        · walk_at "go"
          refine u_draw hp2 (by omega) (by omega) (fun r H3 r0 r1 hp3 f3 kp3 => ?_)
          obtain ⟨c, hc, hl⟩ : ∃ c, atI [V.str (S [c1]), V.str (S [c2]), V.str (S [c3])] r = some (.str (S [c])) ∧ isLow c := by
            obtain ⟨v, hv, e⟩ := pick3 (x := V.str (S [c1])) (y := V.str (S [c2])) (z := V.str (S [c3])) r0 r1
            rcases e with rfl | rfl | rfl
            · exact ⟨_, hv, l1⟩
            · exact ⟨_, hv, l2⟩
            · exact ⟨_, hv, l3⟩
          refine u_ixL (SqL.of (by walk_at "lk")) hc ?_
          walk_at "go"
          exact k (.leaf [c]) _ _ ⟨c, rfl, .inl hl⟩ (Nat.zero_le _) (SqT.of (by assumption)) (by walk_at "lk") (by walk_at "fr")
      · walk_at "go"
        refine u_draw hp (by omega) (by omega) (fun r' H' r0' r1' hp' f' kp' => ?_)
        walk_at "go"
        refine u_if (fun h2 => ?_) (fun h2 => ?_)
        · walk_at "go"
          refine u_draw hp' (by omega) (by omega) (fun r2 H2 r20 r21 hp2 f2 kp2 => ?_)
          walk_at "go"
          refine u_if (fun h3 => ?_) (fun h3 => ?_)
          · walk_at "go"
            refine u_draw hp2 (by omega) (by omega) (fun r H3 r0 r1 hp3 f3 kp3 => ?_)
            obtain ⟨c, hc, hm⟩ := atI_inN (a := cDIG) (i := r) r0 r1
            refine u_ixS (by decide) hc ?_
            walk_at "go"
            exact k (.leaf [c]) _ _ ⟨c, rfl, .inr (mem_dig.mp hm)⟩ (Nat.zero_le _) (SqT.of (by assumption)) (by walk_at "lk") (by walk_at "fr")
          · walk_at "go"
            refine u_draw hp2 (by omega) (by omega) (fun r H3 r0 r1 hp3 f3 kp3 => ?_)
            obtain ⟨c, hc, hl⟩ : ∃ c, atI [V.str (S [c1]), V.str (S [c2]), V.str (S [c3])] r = some (.str (S [c])) ∧ isLow c := by
              obtain ⟨v, hv, e⟩ := pick3 (x := V.str (S [c1])) (y := V.str (S [c2])) (z := V.str (S [c3])) r0 r1
              rcases e with rfl | rfl | rfl
              · exact ⟨_, hv, l1⟩
              · exact ⟨_, hv, l2⟩
              · exact ⟨_, hv, l3⟩
            refine u_ixL (SqL.of (by walk_at "lk")) hc ?_
            walk_at "go"
            exact k (.leaf [c]) _ _ ⟨c, rfl, .inl hl⟩ (Nat.zero_le _) (SqT.of (by assumption)) (by walk_at "lk") (by walk_at "fr")
        · walk_at "go"
          refine u_draw hp' (by omega) (by omega) (fun r1 H1 r10 r11 hp1 f1 kp1 => ?_)
          obtain ⟨nm, hc, hnm⟩ : ∃ nm, atI [V.str (S w1), V.str (S w2)] r1 = some (.str (S nm)) ∧ NameOk nm := by
            have h : r1 = 0 ∨ r1 = 1 := by omega
            rcases h with rfl | rfl
            · exact ⟨_, rfl, o1⟩
            · exact ⟨_, rfl, o2⟩
          refine u_ixL (SqL.of (by walk_at "lk")) hc ?_
          walk_at "go"
          refine u_draw (by walk_at "lk") (by omega) (by omega) (fun r H3 r0 r1 hp3 f3 kp3 => ?_)
          have hw3 : H3 w = some (.lst [.str (S w1), .str (S w2)]) := by walk_at "lk"
          have hg3 : H3 g = some (.lst [.str (S [c1]), .str (S [c2]), .str (S [c3])]) := by walk_at "lk"
          walk_at "go"
          refine lcRange _ [some (.ref p), some (.ref w), some (.ref g), some (.int d), some (.str (S nm)), none] rfl (fun i acc H4 => Fr [p] H3 H4 ∧ Kp H3 H4 ∧ PoolAt H4 p l ∧ ∃ ps : List Fm, TupsAt K H4 ps acc ∧ ps.length = i ∧ (∀ q ∈ ps, q.Ok) ∧ ∀ q ∈ ps, q.depth < d) ?_ ?_ ?_
          · intro D H4 _ f4 k4 _
            exact ⟨by walk_at "fr", k4, by walk_at "lk", [], .nil, rfl, by simp, by simp⟩
          · rintro D i acc H4 hD hi hacc ⟨f4, k4, hp4, ps, hps, hlen, hok, hdep⟩
            have hla := hps.length
            walk_at "go"
            refine u_side (d - 1) (by omega) hp4 (by omega) (by walk_at "lk") (by walk_at "lk") o1 o2 l1 l2 l3 n1 n2 (fun t a H5 t1 t2 t3 hp5 f5 kp5 => ?_)
            walk_at "go"
            refine ⟨by walk_at "fr", Kp.trans k4 (Kp.trans kp5 (by assumption)), by walk_at "lk", ps ++ [t], TupsAt.append (by walk_at "lk") (TupsAt.one (by walk_at "lk")), by simp [hlen], ?_, ?_⟩
            · intro q hq
              rcases List.mem_append.mp hq with h | h
              · exact hok q h
              · rw [List.mem_singleton.mp h]; exact t1
            · intro q hq
              rcases List.mem_append.mp hq with h | h
              · exact hdep q h
              · rw [List.mem_singleton.mp h]; omega
          · rintro D acc H4 hD hacc ⟨f4, k4, hp4, ps, hps, hlen, hok, hdep⟩
            have hla := hps.length
            walk_at "go"
            rename_i q H6 f6 k6 hq6
            exact k (.mk nm ps) _ _ (Fm.mk_ok hnm (by omega) (by omega) hok) (Fm.mk_depth hdep (by omega)) (TupAt.mk hq6 (by walk_at "lk") (by omega)) (by walk_at "lk") (by walk_at "fr")
end
section
variable {P : Program} {w : World} {K : PySem.W.Frag} {mg : Str → Option Value} {base : Heap}
theorem ok_law {C CR CG CB p2 g2 fK : Addr} {mc2 : Value} (T : Bi mg) (F : FC K mg C) (R : RC K mg CR) (RR : FRd K CR mc2 p2 g2)
    (c_law_pools : Cal P w K mg base 1 "_law_pools" (spPools K) []) (c_law_draw : Cal P w K mg base 1 "_law_draw" spDraw []) (c_law_side : Cal P w K mg base 7 "_law_side" (spSide K 4) []) (c_law_text : Cal P w K mg base 61 "_law_text" (spText K 60) []) (c_law_reason : Cal P w K mg base 3 "_law_reason" (spReason K) [])
    (hrread : FnR P w K mg base (L2N.CX P w) 4 g2 (fun vs H Q E => spRRead K C CR CG CB (vs ++ []) H Q E))
    (hkG : ∀ (a : Addr) (oe : Obj), (∃ vs, oe.data = .fields vs) → ∀ dd, Zc (.ref CG) (some dd) oe → FnPin P w K mg base 1 fK (a, oe) (spKinds a dd [true, false, false, false, false, false, false]))
    (hkB : ∀ (a : Addr) (oe : Obj), (∃ vs, oe.data = .fields vs) → ∀ dd, Zc (.ref CB) (some dd) oe → FnPin P w K mg base 1 fK (a, oe) (spKinds a dd [false, true, false, false, false, false, false])) (hmk : mg "_law_kinds" = some (.ref fK)) (hkk : PySem.W.keepIn K (.ref fK) = true)
    (gGarbled : mg "Garbled" = some (.ref CG)) (gBadRule : mg "BadRule" = some (.ref CB)) (eGG : PySem.W.exmOne K (.ref CG) (.ref CG) = some true) (eBB : PySem.W.exmOne K (.ref CB) (.ref CB) = some true) (eBG : PySem.W.exmOne K (.ref CB) (.ref CG) = some false)
    (XG : XfC K CG) (XB : XfC K CB) (hgl : PySem.W.findIn K (.ref CG) "line" = some none) (hbl : PySem.W.findIn K (.ref CB) "line" = some none) (hbr : PySem.W.findIn K (.ref CB) "reason" = some none)
    {f : Addr} {fd : FuncData} (D : C8.Fun K "law" "law" s_law f fd) : FnOk P w K mg base C8.CX0 63 f fd ["_law_script"] (spLaw K) := by
  refine fn0 D sc_law (fun vs H Q E h => ?_) (fun cdv A outer s H vs Q E hr h => ?_)
  · obtain ⟨a, ns, rfl, _⟩ := h
    rfl
  · obtain ⟨a, ns, rfl, ha, hn, kk⟩ := h
    refine ⟨_, (pss_cons (ps_set (i := 1) sc_law.nd rfl (Or.inr rfl) (pe_ix (ix_listK K) (pe_c c_law_pools hr (by omega) (by rfl) (pa_cons (pv 0) pa_nil)) pe_int (fun _ _ => rfl)))
  (pss_cons (ps_set (i := 2) sc_law.nd rfl (Or.inr rfl) (pe_sS [65, 66, 67, 68, 69, 70, 71, 72, 73, 74, 75, 76, 77, 78, 79, 80, 81, 82, 83, 84, 85, 86, 87, 88, 89, 90] (by decide +kernel)))
  (pss_cons (ps_setLc (i := 3) (own := [("_law_k", 16)]) (g := gName 16) rfl sc_law.nd rfl rfl (sw_true rfl rfl rfl (by decide +kernel)) (pi_range1 (by rfl) T.n_range (pa_cons pe_int pa_nil)) (blkOk_by (own := [("_law_k", 16)]) (N := ["_law_script", "_law_pool", "_law_capitals", "_law_words", "_law_letters_here", "_law_left", "_law_right", "_law_one", "_law_two", "_law_way", "_law_text_here", "_law_due", "_law_odd", "_law_told", "_law_rule", "_law_e", "_law_k", "_law_j"]) (sc := fnScope s_law) (by decide +kernel)) (fun _ _ _ _ _ => pg_name (i := 16) sc_law.nd rfl (Or.inl rfl)) (fun _ _ _ _ _ => pts_nil) (fun _ _ _ _ _ => (pe_joinK K (pe_sS [] (by decide +kernel)) (pe_lc (own := [("_law_j", 17)]) (g := gName 17) rfl sc_law.nd (pi_range1 (by rfl) T.n_range (pa_cons (pe_op op_add pe_int (pe_c c_law_draw hr (by omega) (by rfl) (pa_cons (pv 1) (pa_cons pe_int pa_nil)))) pa_nil)) (blkOk_by (own := [("_law_j", 17)]) (N := ["_law_script", "_law_pool", "_law_capitals", "_law_words", "_law_letters_here", "_law_left", "_law_right", "_law_one", "_law_two", "_law_way", "_law_text_here", "_law_due", "_law_odd", "_law_told", "_law_rule", "_law_e", "_law_k", "_law_j"]) (by kernel_rfl)) (fun _ _ _ _ _ => pg_name (i := 17) sc_law.nd rfl (Or.inl rfl)) (fun _ _ _ _ _ => pts_nil) (fun _ _ _ _ _ => (pe_ix ix_str (pv 2) (pe_c c_law_draw hr (by omega) (by rfl) (pa_cons (pv 1) (pa_cons pe_int pa_nil))) (fun _ _ => rfl)))))))
  (pss_cons (ps_setLc (i := 4) (own := [("_law_k", 16)]) (g := gName 16) rfl sc_law.nd rfl rfl (sw_true rfl rfl rfl (by decide +kernel)) (pi_range1 (by rfl) T.n_range (pa_cons pe_int pa_nil)) (blkOk_by (own := [("_law_k", 16)]) (N := ["_law_script", "_law_pool", "_law_capitals", "_law_words", "_law_letters_here", "_law_left", "_law_right", "_law_one", "_law_two", "_law_way", "_law_text_here", "_law_due", "_law_odd", "_law_told", "_law_rule", "_law_e", "_law_k", "_law_j"]) (sc := fnScope s_law) (by decide +kernel)) (fun _ _ _ _ _ => pg_name (i := 16) sc_law.nd rfl (Or.inl rfl)) (fun _ _ _ _ _ => pts_nil) (fun _ _ _ _ _ => (pe_ix ix_str (pe_sS [97, 98, 99, 100, 101, 102, 103, 104, 105, 106, 107, 108, 109, 110, 111, 112, 113, 114, 115, 116, 117, 118, 119, 120, 121, 122] (by decide +kernel)) (pe_c c_law_draw hr (by omega) (by rfl) (pa_cons (pv 1) (pa_cons pe_int pa_nil))) (fun _ _ => rfl))))
  (pss_cons (ps_set (i := 5) sc_law.nd rfl (Or.inl rfl) (pe_c c_law_side hr (by omega) (by rfl) (pa_cons (pv 1) (pa_cons (pv 3) (pa_cons (pv 4) (pa_cons (pe_op op_add pe_int (pe_callTy k_int (by rfl) T.n_int (by decide +kernel) (pa_cons (pe_cmpR op_eq (pe_c c_law_draw hr (by omega) (by rfl) (pa_cons (pv 1) (pa_cons pe_int pa_nil))) pe_int (nomark _)) pa_nil))) pa_nil))))))
  (pss_cons (ps_set (i := 6) sc_law.nd rfl (Or.inl rfl) (pe_c c_law_side hr (by omega) (by rfl) (pa_cons (pv 1) (pa_cons (pv 3) (pa_cons (pv 4) (pa_cons (pe_c c_law_draw hr (by omega) (by rfl) (pa_cons (pv 1) (pa_cons pe_int pa_nil))) pa_nil))))))
  (pss_cons (ps_set (i := 7) sc_law.nd rfl (Or.inl rfl) (pe_c c_law_text hr (by omega) (by rfl) (pa_cons (pv 5) pa_nil)))
  (pss_cons (ps_set (i := 8) sc_law.nd rfl (Or.inl rfl) (pe_c c_law_text hr (by omega) (by rfl) (pa_cons (pv 6) pa_nil)))
  (pss_cons (ps_set (i := 9) sc_law.nd rfl (Or.inl rfl) (pe_c c_law_draw hr (by omega) (by rfl) (pa_cons (pv 1) (pa_cons pe_int pa_nil))))
  (pss_cons (ps_set (i := 10) sc_law.nd rfl (Or.inl rfl) (pe_op o_addS (pe_op o_addS (pv 7) (pe_sS [32, 45, 62, 32] (by decide +kernel))) (pv 8)))
  (pss_cons (ps_set (i := 11) sc_law.nd rfl (Or.inl rfl) (pe_lst (pa_cons pe_int (pa_cons (pe_c c_law_reason hr (by omega) (by rfl) (pa_cons (pv 5) (pa_cons (pv 6) pa_nil))) pa_nil))))
  (pss_cut (ps_if (pt_cmpR op_lt (pv 9) pe_int (nomark _)) (pss_cons (ps_set (i := 12) sc_law.nd rfl (Or.inl rfl) (pe_lst (pa_cons (pe_op o_addS (pe_op o_addS (pv 7) (pe_sS [45, 62] (by decide +kernel))) (pv 8)) (pa_cons (pe_op o_addS (pe_op o_addS (pv 7) (pe_sS [32, 61, 62, 32] (by decide +kernel))) (pv 8)) (pa_cons (pe_op o_addS (pe_op o_addS (pv 7) (pe_sS [32, 45, 62, 32, 32] (by decide +kernel))) (pv 8)) (pa_cons (pe_op o_addS (pv 7) (pe_sS [32, 45, 62, 32] (by decide +kernel))) (pa_cons (pe_op o_addS (pe_sS [32, 45, 62, 32] (by decide +kernel)) (pv 8)) (pa_cons (pv 7) pa_nil))))))))
  (pss_cons (ps_set (i := 12) sc_law.nd rfl (Or.inl rfl) (pe_op op_cat (pv 12) (pe_lst (pa_cons (pe_op o_addS (pv 10) (pe_sS [32, 45, 62, 32, 97] (by decide +kernel))) (pa_cons (pe_op o_addS (pv 10) (pe_sS [10] (by decide +kernel))) (pa_cons (pe_op o_addS (pv 10) (pe_sS [32] (by decide +kernel))) pa_nil))))))
  (pss_cons (ps_set (i := 10) sc_law.nd rfl (Or.inl rfl) (pe_ix (ix_listK K) (pe_op op_cat (pv 12) (pe_lst (pa_cons (pe_op o_addS (pe_sS [32] (by decide +kernel)) (pv 10)) (pa_cons (pe_op o_addS (pe_op o_addS (pv 7) (pe_sS [32, 32, 45, 62, 32] (by decide +kernel))) (pv 8)) pa_nil)))) (pv 9) (fun _ _ => rfl)))
  (pss_one (ps_set (i := 11) sc_law.nd rfl (Or.inl rfl) (pe_lst (pa_cons pe_int (pa_cons (pe_sS [] (by decide +kernel)) pa_nil)))))))) pss_nil)
  (pss_cons (ps_set (i := 13) sc_law.nd rfl (Or.inl rfl) (pe_lst (pa_cons pe_int (pa_cons (pe_sS [] (by decide +kernel)) pa_nil))))
  (pss_cons (ps_set (i := 14) sc_law.nd rfl (Or.inl rfl) pe_non)
  (pss_cut ((ps_try_as2 (i := 15) rfl rfl sc_law.nd rfl rfl ⟨by rfl, by decide, .inl gGarbled⟩ ⟨by rfl, by decide, .inl gBadRule⟩ takes0N (fun W pn xe tk _ => (pss_one (ps_set (i := 14) sc_law.nd rfl (Or.inl rfl) (pe_cmSN (pe_gc (by rfl) R.gRule) RR.cr RR.cm hrread (hr.mono (by omega)) tk (pa_cons (pv 10) pa_nil))))) (fun a oe cls d pn hz hf => (pss_cons (ps_set (i := 13) sc_law.nd rfl (Or.inl rfl) (pe_op op_cat (pe_callPinC (hkG a oe hf) hz.zc (roomS hr (by omega)) (hot_suite hz hf) List.mem_cons_self (by rfl) hmk hkk (pa_cons (pv 15) pa_nil)) (pe_lst (pa_cons (pe_sS [] (by decide +kernel)) pa_nil))))
  (pss_one (ps_if (PW.pt (pw_or (pt_val (pe_callB (k_isiK K) (by rfl) T.n_isinstance (by decide +kernel) (pa_cons (pe_xf XG hgl hz.zc hf (pv 15)) (pa_cons (pe_bltn (v := .ty "bool") (u := .type "bool") (by rfl) T.n_bool (by decide +kernel) rfl) pa_nil)))) (pw_or1 (pt_cmpR op_ne (pe_xf XG hgl hz.zc hf (pv 15)) pe_int (nomark _))))) (pss_one (ps_ret pe_bl)) pss_nil)))) (fun a oe cls d pn hz hf => (pss_cons (ps_set (i := 13) sc_law.nd rfl (Or.inl rfl) (pe_op op_cat (pe_callPinC (hkB a oe hf) hz.zc (roomS hr (by omega)) (hot_suite hz hf) List.mem_cons_self (by rfl) hmk hkk (pa_cons (pv 15) pa_nil)) (pe_lst (pa_cons (pe_xf XB hbr hz.zc hf (pv 15)) pa_nil))))
  (pss_one (ps_if (PW.pt (pw_or (pt_val (pe_callB (k_isiK K) (by rfl) T.n_isinstance (by decide +kernel) (pa_cons (pe_xf XB hbl hz.zc hf (pv 15)) (pa_cons (pe_bltn (v := .ty "bool") (u := .type "bool") (by rfl) T.n_bool (by decide +kernel) rfl) pa_nil)))) (pw_or1 (pt_cmpR op_ne (pe_xf XB hbl hz.zc hf (pv 15)) pe_int (nomark _))))) (pss_one (ps_ret pe_bl)) pss_nil))))))
  (pss_cons (ps_if (pt_cmpR (op_neDK K hr.units) (pv 13) (pv 11) (nomark _)) (pss_one (ps_ret pe_bl)) pss_nil)
  (pss_one (ps_ret (pe_or (pe_cmpR (op_neDK K hr.units) (pv 11) (pe_lst (pa_cons pe_int (pa_cons (pe_sS [] (by decide +kernel)) pa_nil))) (nomark _)) (pe_one (pe_cmpR (op_eqDK K hr.units) (pe_tup (pa_cons (pe_fldK K (pv 14)) (pa_cons (pe_fldK K (pe_fldK K (pv 14))) (pa_cons (pe_fldK K (pe_fldK K (pv 14))) pa_nil)))) (pe_tup (pa_cons (pv 10) (pa_cons (pv 7) (pa_cons (pv 8) pa_nil)))) (nomark _)))))))))))))))))))))), ?_⟩
    refine u_start [some (.ref a), none, none, none, none, none, none, none, none, none, none, none, none, none, none, none, none, none] rfl ?_
    walk_at "go"
    refine u_pools ha hn (fun pq p l p2 l2 H1 f1 k1 e1 hp1 hp2 hpp _ _ => ?_)
    walk_at "go"
    refine lcRange 2 [some (.ref a), some (.ref p), some (.str (S cCAP)), none, none, none, none, none, none, none, none, none, none, none, none, none, none, none] rfl (fun i acc H2 => PoolAt H2 p l ∧ ∃ ws : List (List Nat), acc = vS ws ∧ ws.length = i ∧ ∀ w ∈ ws, NameOk w) ?_ ?_ ?_
    · intro D H2 _ f2 k2 _
      exact ⟨by walk_at "lk", [], rfl, rfl, by simp⟩
    · rintro D i acc H2 hD hi hacc ⟨hp2, ws, rfl, hwl, hwn⟩
      have hlv : (vS ws).length = ws.length := vS_nil
      walk_at "go"
      refine u_draw hp2 (by decide) (by decide) (fun r H3 r0 r1 hp3 f3 k3 => ?_)
      obtain ⟨m, rfl⟩ := Int.eq_ofNat_of_zero_le r0
      walk_at "go"
      refine lcRange (1 + m) [some (.ref a), some (.ref p), some (.str (S cCAP)), none, none, none, none, none, none, none, none, none, none, none, none, none, some (.int (0 + (i : Int))), none] rfl (fun j acc H4 => PoolAt H4 p l ∧ Fr [p] H3 H4 ∧ ∃ cs : List Nat, acc = vS (cs.map fun c => [c]) ∧ cs.length = j ∧ ∀ c ∈ cs, isCap c) ?_ ?_ ?_
      · intro D' H4 _ f4 k4 _
        exact ⟨by walk_at "lk", by walk_at "fr", [], rfl, rfl, by simp⟩
      · rintro D' j acc H4 hD' hj hacc' ⟨hp4, f4, cs, rfl, hcl, hcn⟩
        have hlc : (vS (cs.map fun c => [c])).length = cs.length := by rw [vS_nil, List.length_map]
        walk_at "go"
        refine u_draw hp4 (by decide) (by decide) (fun r5 H5 r50 r51 hp5 f5 k5 => ?_)
        obtain ⟨hat, hcap⟩ := capOf_at r50 r51
        refine u_ixS (by decide) hat ?_
        walk_at "go"
        rename_i H6 f6 k6 e6
        exact ⟨by walk_at "lk", by walk_at "fr", cs ++ [capOf r5], by simp [vS], by simp [hcl], fun c hc => by
          rcases List.mem_append.mp hc with h | h
          · exact hcn c h
          · rw [List.mem_singleton.mp h]; exact hcap⟩
      · rintro D' acc H4 hD' hacc' ⟨hp4, f4, cs, rfl, hcl, hcn⟩
        walk_at "go"
        refine u_join (ys := cs.map fun c => [c]) (SqL.of (by walk_at "lk")) (by rw [sum_one]; simp; omega) ?_
        rw [joinL_nil, flat_one]
        have hDp : p ≠ D := by walk_at "ne"
        walk_at "go"
        rename_i H5 f5 k5 e5
        exact ⟨by walk_at "lk", ws ++ [cs], by simp [vS], by simp [hwl], fun w hw => by
          rcases List.mem_append.mp hw with h | h
          · exact hwn w h
          · rw [List.mem_singleton.mp h]; exact nameOk_of hcn (by omega) (by omega)⟩
    rintro wq acc H2 hwq2 eW ⟨hp2', ws, rfl, hwl, hwn⟩
    match ws, hwl, hwn, eW with
    | [w1, w2], _, hwn, eW =>
    have o1 := hwn w1 (by simp)
    have o2 := hwn w2 (by simp)
    have hpw : p ≠ wq := by walk_at "ne"
    clear hp1 hp2 f1 k1 e1 hwq2
    walk_at "go"
    refine lcRange 3 [some (.ref a), some (.ref p), some (.str (S cCAP)), some (.ref wq), none, none, none, none, none, none, none, none, none, none, none, none, none, none] rfl (fun i acc H3 => PoolAt H3 p l ∧ Fr [p] H2 H3 ∧ ∃ cs : List Nat, acc = vS (cs.map fun c => [c]) ∧ cs.length = i ∧ ∀ c ∈ cs, isLow c) ?_ ?_ ?_
    · intro D' H4 _ f4 k4 _
      exact ⟨by walk_at "lk", by walk_at "fr", [], rfl, rfl, by simp⟩
    · rintro D' j acc H4 hD' hj hacc' ⟨hp4, f4, cs, rfl, hcl, hcn⟩
      have hlc : (vS (cs.map fun c => [c])).length = cs.length := by rw [vS_nil, List.length_map]
      walk_at "go"
      refine u_draw hp4 (by decide) (by decide) (fun r5 H5 r50 r51 hp5 f5 k5 => ?_)
      obtain ⟨c, hat, hlow⟩ := atI_inN (a := cLOW) r50 r51
      refine u_ixS (by decide) hat ?_
      walk_at "go"
      rename_i H6 f6 k6 e6
      exact ⟨by walk_at "lk", by walk_at "fr", cs ++ [c], by simp [vS], by simp [hcl], fun x hx => by
        rcases List.mem_append.mp hx with h | h
        · exact hcn x h
        · rw [List.mem_singleton.mp h]; exact mem_low.mp hlow⟩
    rintro gq acc H3 hgq3 eG ⟨hp3, f3, cs, rfl, hcl, hcn⟩
    match cs, hcl, hcn, eG with
    | [c1, c2, c3], _, hcn, eG =>
    have l1 := hcn c1 (by simp)
    have l2' := hcn c2 (by simp)
    have l3 := hcn c3 (by simp)
    have hpg : p ≠ gq := by walk_at "ne"
    have eW3 : H3 wq = some (.lst [.str (S w1), .str (S w2)]) := by
      have : H2 wq = some (.lst [.str (S w1), .str (S w2)]) := eW
      walk_at "lk"
    have eG3 : H3 gq = some (.lst [.str (S [c1]), .str (S [c2]), .str (S [c3])]) := eG
    clear eW eG hgq3 f3 hp2'
    walk_at "go"
    refine u_draw hp3 (by decide) (by decide) (fun r4 H4 r40 r41 hp4 f4 k4 => ?_)
    walk_at "go"
    refine u_intB ?_
    walk_at "go"
    have hdz : ∃ d : Nat, ((2 : Int) + (if decide (r4 = 0) = true then 1 else 0)) = (d : Int) ∧ d ≤ 3 := by
      by_cases h : r4 = 0
      · exact ⟨3, by simp [h], by decide⟩
      · exact ⟨2, by simp [h], by decide⟩
    obtain ⟨dd, hde, hd3⟩ := hdz
    refine u_side dd hde hp4 (by omega) (by walk_at "lk") (by walk_at "lk") o1 o2 l1 l2' l3 hpw hpg (fun lf bl H5 okl dl hbl5 hp5 f5 k5 => ?_)
    have eW5 : H5 wq = some (.lst [.str (S w1), .str (S w2)]) := by walk_at "lk"
    have eG5 : H5 gq = some (.lst [.str (S [c1]), .str (S [c2]), .str (S [c3])]) := by walk_at "lk"
    clear hde f4 k4 hp4 f5 k5 eW3 eG3 hp3
    walk_at "go"
    refine u_draw hp5 (by decide) (by decide) (fun r6 H6 r60 r61 hp6 f6 k6 => ?_)
    obtain ⟨d6, rfl⟩ := Int.eq_ofNat_of_zero_le r60
    walk_at "go"
    refine u_side d6 rfl hp6 (by omega) (by walk_at "lk") (by walk_at "lk") o1 o2 l1 l2' l3 hpw hpg (fun rt br H7 okr dr hbr7 hp7 f7 k7 => ?_)
    have hbl7 : TupAt K H7 lf bl := by walk_at "lk"
    have hszl := Fm.size_small (Nat.le_trans dl hd3)
    have hszr := Fm.size_small (Nat.le_trans dr (show d6 ≤ 2 by omega))
    have htl := okl.text_le
    have htr := okr.text_le
    clear eW5 eG5 hp5 f6 k6 hp6 f7 k7 hbl5
    walk_at "go"
    refine u_text hbl7 (by omega) (by omega) (fun H8 f8 k8 => ?_)
    walk_at "go"
    refine u_text (t := rt) (by walk_at "lk") (by omega) (by omega) (fun H9 f9 k9 => ?_)
    walk_at "go"
    refine u_draw (by walk_at "lk") (by decide) (by decide) (fun way H10 way0 way1 hp10 f10 k10 => ?_)
    walk_at "go"
    refine u_reason (l := lf) (r := rt) (by walk_at "lk") (by walk_at "lk") okl okr (by omega) (by omega) (by omega) (by omega) (fun H11 f11 k11 => ?_)
    walk_at "go"
    rename_i dq H12 n12 f12 k12 e12
    clear hbl7 hbr7 hp7 f8 k8 f9 k9 f10 k10 f11 k11 hp10
    have htx : (lf.text ++ [32, 45, 62, 32] ++ rt.text) = lf.text ++ (arrow ++ rt.text) := by rw [List.append_assoc]; rfl
    rw [htx]
    have hrp := ruleParse_text okl okr
    have harr : arrow.length = 4 := rfl
    simp only [Nat.reduceAdd, Nat.reducePow] at hszl hszr
    refine u_cut (Mid := fun σ' H' => ∃ (x : List Nat) (dq2 : Addr) (dv : Int) (dz : List Nat) (y12 : Option V), σ' = [some (.ref a), some (.ref p), some (.str (S cCAP)), some (.ref wq), some (.ref gq), some (.ref bl), some (.ref br), some (.str (S lf.text)), some (.str (S rt.text)), some (.int way), some (.str (S x)), some (.ref dq2), y12, none, none, none, none, none] ∧
      H' dq2 = some (.lst [.int dv, .str (S dz)]) ∧ x.length ≤ 600 ∧ ((ruleParse x = .garbled ∧ dv = 0 ∧ dz = []) ∨ (x = lf.text ++ (arrow ++ rt.text) ∧ dv = 1 ∧ dz = (fault lf rt).getD []))) ?_ ?_
    · walk_at "go"
      refine u_if (fun h1 => ?_) (fun h1 => ?_)
      · walk_at "go"
        rename_i q1 H13 n13 f13 k13 e13 q2 H14 n14 f14 k14 e14 q3 H15 n15 f15 k15 e15 q4 H16 n16 f16 k16 e16 q5 H17 n17 f17 k17 e17
        obtain ⟨x, hat, hgx, hxl⟩ : ∃ x, atI ([V.str (S (lf.text ++ [45, 62] ++ rt.text)), V.str (S (lf.text ++ [32, 61, 62, 32] ++ rt.text)), V.str (S (lf.text ++ [32, 45, 62, 32, 32] ++ rt.text)), V.str (S (lf.text ++ [32, 45, 62, 32])), V.str (S ([32, 45, 62, 32] ++ rt.text)), V.str (S lf.text)] ++ [V.str (S (lf.text ++ (arrow ++ rt.text) ++ [32, 45, 62, 32, 97])), V.str (S (lf.text ++ (arrow ++ rt.text) ++ [10])), V.str (S (lf.text ++ (arrow ++ rt.text) ++ [32]))] ++ [V.str (S ([32] ++ (lf.text ++ (arrow ++ rt.text)))), V.str (S (lf.text ++ [32, 32, 45, 62, 32] ++ rt.text))]) way = some (.str (S x)) ∧ ruleParse x = .garbled ∧ x.length ≤ 600 := by
          have h : way = 0 ∨ way = 1 ∨ way = 2 ∨ way = 3 ∨ way = 4 ∨ way = 5 ∨ way = 6 ∨ way = 7 ∨ way = 8 ∨ way = 9 ∨ way = 10 := by omega
          rcases h with rfl | rfl | rfl | rfl | rfl | rfl | rfl | rfl | rfl | rfl | rfl
          · exact ⟨_, rfl, by rw [List.append_assoc]; exact odd0 okl okr, by simp; omega⟩
          · exact ⟨_, rfl, by rw [List.append_assoc]; exact odd1 okl okr, by simp; omega⟩
          · exact ⟨_, rfl, by rw [List.append_assoc]; exact odd2 okl okr, by simp; omega⟩
          · exact ⟨_, rfl, odd3 okl okr, by simp; omega⟩
          · exact ⟨_, rfl, odd4 okl okr, by simp; omega⟩
          · exact ⟨_, rfl, odd5 okl okr, by omega⟩
          · exact ⟨_, rfl, odd6 okl okr, by simp; omega⟩
          · exact ⟨_, rfl, odd7 okl okr, by simp; omega⟩
          · exact ⟨_, rfl, odd8 okl okr, by simp; omega⟩
          · exact ⟨_, rfl, odd9 okl okr, by simp; omega⟩
          · exact ⟨_, rfl, by rw [List.append_assoc]; exact odd10 okl okr, by simp; omega⟩
        refine u_ixL (SqL.of e17) hat ?_
        walk_at "go"
        rename_i q6 H18 n18 f18 k18 e18
        exact ⟨x, q6, _, _, _, rfl, e18, hxl, .inl ⟨hgx, rfl, rfl⟩⟩
      · walk_at "go"
        exact ⟨_, dq, _, _, _, rfl, e12, by simp [arrow]; omega, .inr ⟨rfl, rfl, rfl⟩⟩
    rintro σ' H13 ⟨x, dq2, dv, dz, y12, rfl, e13, hxl, hor⟩
    have hdz : ∀ c ∈ dz, c < 200 := by
      rcases hor with ⟨_, _, rfl⟩ | ⟨_, _, rfl⟩
      · simp
      · exact fault_small
    walk_at "go"
    rename_i tq H14 n14 f14 k14 e14
    refine u_cut (Mid := fun σ' H' => ∃ (tq2 : Addr) (v14 : V) (y15 : Option V), σ' = [some (.ref a), some (.ref p), some (.str (S cCAP)), some (.ref wq), some (.ref gq), some (.ref bl), some (.ref br), some (.str (S lf.text)), some (.str (S rt.text)), some (.int way), some (.str (S x)), some (.ref dq2), y12, some (.ref tq2), some v14, y15, none, none] ∧
      H' dq2 = some (.lst [.int dv, .str (S dz)]) ∧ H' tq2 = some (.lst [.int dv, .str (S dz)]) ∧ (dv = 1 → dz = [] → ∃ xr, v14 = .ref xr ∧ x = lf.text ++ (arrow ++ rt.text) ∧ RuleAt K C CR H' lf rt xr)) ?_ ?_
    · walk_at "go"
      refine u_cmethS ?_
      walk_at "go"
      refine ⟨x, rfl, by omega, fun l' r' xr H15 hp15 f15 hR => ?_, fun hp15 d H15 f15 e15 => ?_, fun z hp15 d H15 f15 e15 => ?_⟩
      · have k15 : Kp H14 H15 := .of_same f15.same
        rcases hor with ⟨hg, _, _⟩ | ⟨rfl, rfl, rfl⟩
        · rw [hg] at hp15; cases hp15
        have hf : fault lf rt = none := by
          cases e : fault lf rt with
          | none => rfl
          | some z => rw [hrp, e] at hp15; cases hp15
        have hlr : l' = lf ∧ r' = rt := by rw [hrp, hf] at hp15; cases hp15; exact ⟨rfl, rfl⟩
        obtain ⟨rfl, rfl⟩ := hlr
        walk_at "go"
        exact ⟨tq, _, _, rfl, by walk_at "lk", by rw [hf]; walk_at "lk", fun _ _ => ⟨xr, rfl, rfl, hR⟩⟩
      · have k15 : Kp H14 H15 := .of_same f15.same
        have hd0 : dv = 0 ∧ dz = [] := by
          rcases hor with ⟨_, h1, h2⟩ | ⟨rfl, _, _⟩
          · exact ⟨h1, h2⟩
          · rw [hrp] at hp15
            cases e : fault lf rt <;> rw [e] at hp15 <;> cases hp15
        obtain ⟨rfl, rfl⟩ := hd0
        refine ⟨true, eGG, fun _ ae hae => ?_, fun q => nomatch q⟩
        simp only [List.set]
        walk_at "go"
        refine u_kinds e15 (fun q H16 f16 k16 e16 => ?_)
        walk_at "go"
        rename_i q2 H17 n17 f17 k17 e17 q3 H18 n18 f18 k18 e18
        refine u_xfK (fs := [("line", .int 0)]) (by walk_at "lk") rfl ?_
        walk_at "go"
        refine u_isiIB ?_
        walk_at "go"
        refine u_xfK (fs := [("line", .int 0)]) (by walk_at "lk") rfl ?_
        walk_at "go"
        exact ⟨q3, _, _, rfl, by walk_at "lk", e18, fun z => nomatch z⟩
      · have k15 : Kp H14 H15 := .of_same f15.same
        have hd0 : dv = 1 ∧ dz = z := by
          rcases hor with ⟨h1, _, _⟩ | ⟨rfl, h1, h2⟩
          · rw [h1] at hp15; cases hp15
          · rw [hrp] at hp15
            cases e : fault lf rt <;> rw [e] at hp15 h2 <;> cases hp15
            exact ⟨h1, h2⟩
        obtain ⟨rfl, rfl⟩ := hd0
        have hzn : dz ≠ [] := by
          rcases hor with ⟨_, h, _⟩ | ⟨rfl, _, h2⟩
          · cases h
          · rw [hrp] at hp15
            cases e : fault lf rt with
            | none => rw [e] at hp15; cases hp15
            | some z' =>
              rw [e] at h2
              rw [h2]
              exact fault_ne e
        have hml : (marksL [false, true, false, false, false, false, false] 7).length = 1 := by decide
        refine ⟨false, eBG, nofun, fun _ => ⟨true, eBB, fun _ ae hae => ?_, nofun⟩⟩
        simp only [List.set]
        walk_at "go"
        refine u_kinds e15 (fun q H16 f16 k16 e16 => ?_)
        walk_at "go"
        refine u_xfK (fs := [("line", .int 0), ("reason", .str (S dz))]) (by walk_at "lk") ((lookup_cons_ne n_reasonline).trans lookup_cons_eq) ?_
        walk_at "go"
        rename_i q2 H17 n17 f17 k17 e17 q3 H18 n18 f18 k18 e18
        refine u_xfK (fs := [("line", .int 0), ("reason", .str (S dz))]) (by walk_at "lk") lookup_cons_eq ?_
        walk_at "go"
        refine u_isiIB ?_
        walk_at "go"
        refine u_xfK (fs := [("line", .int 0), ("reason", .str (S dz))]) (by walk_at "lk") lookup_cons_eq ?_
        walk_at "go"
        exact ⟨q3, _, _, rfl, by walk_at "lk", e18, fun _ z => absurd z hzn⟩
    rintro σ' H15 ⟨tq2, v14, y15, rfl, e15, et15, hR⟩
    have hsh : SeqAt.shaped (.list [.int dv, .str (S dz)]) = true := by
      simp [SeqAt.shaped, PyData.canLay0, PyData.canLayAll0, strOk_S hdz, PyData.depth, PyData.depthAll]
    walk_at "go"
    refine u_neD (.lst (SqL.of et15) (.cons (.int _) (.cons (.str _) .nil))) (.lst (SqL.of e15) (.cons (.int _) (.cons (.str _) .nil))) hsh hsh ?_
    rw [SeqAt.eqv_refl _ (by simp [PyData.canLay0, PyData.canLayAll0, strOk_S hdz])]
    walk_at "go"
    rename_i q5 H16 n16 f16 k16 e16
    refine u_neD (.lst (SqL.of (xs := [.int dv, .str (S dz)]) (by walk_at "lk")) (.cons (.int _) (.cons (.str _) .nil))) (.lst (SqL.of e16) (.cons (.int 1) (.cons (.str (S [])) .nil))) hsh (by decide +kernel) ?_
    by_cases h5 : dv = 1 ∧ dz = []
    · obtain ⟨rfl, rfl⟩ := h5
      obtain ⟨xr, rfl, rfl, hR1⟩ := hR rfl rfl
      have hR16 := hR1.mono k16
      rw [show (!PyData.eqv (.list [.int 1, .str (S [])]) (.list [.int 1, .str (S [])])) = false by decide +kernel]
      walk_at "go"
      refine u_rText R hR16 ?_
      walk_at "go"
      refine u_rLeft R hR16 (fun fl hfl => ?_)
      refine u_fText F hfl ?_
      walk_at "go"
      refine u_rRight R hR16 (fun fr hfr => ?_)
      refine u_fText F hfr ?_
      walk_at "go"
      rename_i q6 H17 n17 f17 k17 e17 q7 H18 n18 f18 k18 e18
      have ht3 := triple_shaped (text_small okl okr) (fun c h => okl.small h) (fun c h => okr.small h)
      refine u_eqD (.tup (SqT.of (xs := [.str (S (lf.text ++ (arrow ++ rt.text))), .str (S lf.text), .str (S rt.text)]) (by walk_at "lk")) (.cons (.str _) (.cons (.str _) (.cons (.str _) .nil)))) (.tup (SqT.of e18) (.cons (.str _) (.cons (.str _) (.cons (.str _) .nil)))) ht3 ht3 ?_
      rw [SeqAt.eqv_refl _ (triple_lay (text_small okl okr) (fun c h => okl.small h) (fun c h => okr.small h))]
      exact kk _
    · have hne : (!PyData.eqv (.list [.int dv, .str (S dz)]) (.list [.int 1, .str (S [])])) = true := by
        rw [Bool.not_eq_true']
        by_cases h6 : dv = 1
        · have h7 : dz ≠ [] := fun z => h5 ⟨h6, z⟩
          subst h6
          simp [PyData.eqv, PyData.eqvAll, S_beq, h7]
        · simp [PyData.eqv, PyData.eqvAll, h6]
      rw [hne]
      walk_at "go"
      exact kk _
end
end Rp
namespace Rp
open PySem PySem.Spec PyProof.Rows L2 SX C8
abbrev d__law_draw : He5.DefA := ⟨fun K => He.ga K "_law_draw", "_law_draw", "_law_draw", fnArgs s_law_draw, fnBody s_law_draw, fnScope s_law_draw, [], []⟩
abbrev d__law_pools : He5.DefA := ⟨fun K => He.ga K "_law_pools", "_law_pools", "_law_pools", fnArgs s_law_pools, fnBody s_law_pools, fnScope s_law_pools, [], []⟩
abbrev d__law_nodes : He5.DefA := ⟨fun K => He.ga K "_law_nodes", "_law_nodes", "_law_nodes", fnArgs s_law_nodes, fnBody s_law_nodes, fnScope s_law_nodes, [], []⟩
abbrev d__law_letters : He5.DefA := ⟨fun K => He.ga K "_law_letters", "_law_letters", "_law_letters", fnArgs s_law_letters, fnBody s_law_letters, fnScope s_law_letters, [], []⟩
abbrev d__law_text : He5.DefA := ⟨fun K => He.ga K "_law_text", "_law_text", "_law_text", fnArgs s_law_text, fnBody s_law_text, fnScope s_law_text, [], []⟩
abbrev d__law_inner : He5.DefA := ⟨fun K => He.ga K "_law_inner", "_law_inner", "_law_inner", fnArgs s_law_inner, fnBody s_law_inner, fnScope s_law_inner, [], []⟩
abbrev d__law_reason : He5.DefA := ⟨fun K => He.ga K "_law_reason", "_law_reason", "_law_reason", fnArgs s_law_reason, fnBody s_law_reason, fnScope s_law_reason, [], []⟩
abbrev d__law_side : He5.DefA := ⟨fun K => He.ga K "_law_side", "_law_side", "_law_side", fnArgs s_law_side, fnBody s_law_side, fnScope s_law_side, [], []⟩
abbrev d_law : He5.DefA := ⟨fun K => He.ga K "law", "law", "law", fnArgs s_law, fnBody s_law, fnScope s_law, [], []⟩
abbrev d_words_of : He5.DefA := ⟨fun K => He.ga K "words_of", "words_of", "words_of", fnArgs s_words_of, fnBody s_words_of, fnScope s_words_of, [], []⟩
abbrev d__law_kinds : He5.DefA := ⟨fun K => He.ga K "_law_kinds", "_law_kinds", "_law_kinds", fnArgs s_law_kinds, fnBody s_law_kinds, fnScope s_law_kinds, [], []⟩
abbrev d_is_letter : He5.DefA := ⟨fun K => He.ga K "is_letter", "is_letter", "is_letter", fnArgs s_is_letter, fnBody s_is_letter, fnScope s_is_letter, [], []⟩
abbrev d_fault : He5.DefA := ⟨fun K => He.ga K "fault", "fault", "fault", fnArgs s_fault, fnBody s_fault, fnScope s_fault, [], []⟩
abbrev d_Formula___init__ : He5.DefA := ⟨fun K => He.ma K (He.ga K "Formula") "__init__", "__init__", "Formula.__init__", fnArgs s_Formula___init__, fnBody s_Formula___init__, fnScope s_Formula___init__, [.adr (He.dflAt ("Formula", some "__init__") 0)], []⟩
abbrev d_Formula_read : He5.DefA := ⟨fun K => He5.wf K (He.ga K "Formula") "classmethod" "read", "read", "Formula.read", fnArgs s_Formula_read, fnBody s_Formula_read, fnScope s_Formula_read, [], []⟩
abbrev d_Rule___init__ : He5.DefA := ⟨fun K => He.ma K (He.ga K "Rule") "__init__", "__init__", "Rule.__init__", fnArgs s_Rule___init__, fnBody s_Rule___init__, fnScope s_Rule___init__, [], []⟩
abbrev d_Rule_read : He5.DefA := ⟨fun K => He5.wf K (He.ga K "Rule") "classmethod" "read", "read", "Rule.read", fnArgs s_Rule_read, fnBody s_Rule_read, fnScope s_Rule_read, [], []⟩
abbrev ds_Garbled___init__ : DefS := ⟨⟨fun K => He.ma K (He.ga K "Garbled") "__init__", "__init__", "Garbled.__init__", fnArgs s_Garbled___init__, fnBody s_Garbled___init__, fnScope s_Garbled___init__, [.int 0], []⟩, "Garbled"⟩
abbrev ds_BadRule___init__ : DefS := ⟨⟨fun K => He.ma K (He.ga K "BadRule") "__init__", "__init__", "BadRule.__init__", fnArgs s_BadRule___init__, fnBody s_BadRule___init__, fnScope s_BadRule___init__, [.int 0], []⟩, "BadRule"⟩
def fnL : List He5.DefA := [d__law_draw, d__law_pools, d__law_nodes, d__law_letters, d__law_text, d__law_inner, d__law_reason, d__law_side, d_law, d_words_of, d__law_kinds, d_is_letter, d_fault, d_Formula___init__, d_Formula_read, d_Rule___init__, d_Rule_read]
def faL : List He.Fa := [.free "len", .free "range", .free "sum", .free "int", .free "str", .free "list", .free "tuple", .free "isinstance", .free "bool", .free "iter", .str "CAPITALS" "ABCDEFGHIJKLMNOPQRSTUVWXYZ", .str "LETTERS" "abcdefghijklmnopqrstuvwxyz", .str "DIGITS" "0123456789", .int "LONGEST_NAME" 6, .free "set", .free "all", .free "any", .free "zip", .free "enumerate", .glo "Formula", .cls "Formula", .noat "Formula" "name", .noat "Formula" "parts", .noat "Formula" "size", .noat "Formula" "text", .glo "Rule", .cls "Rule", .noat "Rule" "left", .noat "Rule" "right", .noat "Rule" "text", .mkr "Formula", .mkr "Rule", .glo "Garbled", .glo "BadRule", .glo "law", .glo "_law_draw", .glo "_law_pools", .glo "_law_nodes", .glo "_law_letters", .glo "_law_inner", .glo "_law_reason", .glo "_law_side", .glo "_law_text", .glo "words_of", .glo "is_letter", .glo "fault", .free "super", .free "ValueError", .glo "Undeclared", .glo "Unmet", .glo "Overlap", .glo "NoPart", .glo "Mismatch", .glo "RippleError", .glo "_law_kinds"]
def fsL : List DefS := [ds_Garbled___init__, ds_BadRule___init__]
def kindG : List (Str × Bool) := [("Garbled", true), ("BadRule", false), ("Undeclared", false), ("Unmet", false), ("Overlap", false), ("NoPart", false), ("Mismatch", false), ("RippleError", true)]
def kindB : List (Str × Bool) := [("Garbled", false), ("BadRule", true), ("Undeclared", false), ("Unmet", false), ("Overlap", false), ("NoPart", false), ("Mismatch", false), ("RippleError", true)]
def exmB (K : PySem.W.Frag) (A B : Addr) (b : Bool) : Bool := PySem.W.exmOne K (.ref A) (.ref B) == some b
theorem exmB_ok {K : PySem.W.Frag} {A B : Addr} {b : Bool} (h : exmB K A B b = true) : PySem.W.exmOne K (.ref A) (.ref B) = some b := eq_of_beq h
def noB (K : PySem.W.Frag) (C : Addr) (x : Str) : Bool := He.eqO (PySem.W.findIn K (.ref C) x) (some none)
def exL (K : PySem.W.Frag) : Bool := insB K (He.ga K "Formula") && (cmB K (He.ga K "Formula") "read" && (tup0B K (He.dflAt ("Formula", some "__init__") 0 K) && (excB K (He.ga K "Garbled") && (supB K (He.ga K "Garbled") && (noB K (He.ga K "Garbled") "line" && (excB K (He.ga K "BadRule") && (supB K (He.ga K "BadRule") && (noB K (He.ga K "BadRule") "line" && (noB K (He.ga K "BadRule") "reason" && (cmB K (He.ga K "Rule") "read" && (kindsB K "Garbled" kindG && (kindsB K "BadRule" kindB && (exmB K (He.ga K "BadRule") (He.ga K "Garbled") false)))))))))))))
abbrev lawL : PySem.W.OpenLaw := PySem.Challenge.rw_rippleup_k05_rule_read
abbrev rowL : PySem.W.OpenRow := PySem.W.OpenLaw.row lawL
def fileL : Str := lawL.prog.main.file
abbrev hkL : PySem.W.Hook := hookT 7 faL fnL fsL fileL exL
def obL (s : PySem.W.SharedT) : He.AlD := obsTG 7 faL fnL fsL fileL exL (HandSHeadRun.getT s)
theorem obL_eq (s : PySem.W.SharedT) : obL s = hkL.obs s.abs := obsTG_eq (HandSHeadRun.getT_eq s)
theorem runL (w : World) : HandSHeadRun.RunEq rowL (PySem.W.view rowL.prog [32]) hkL obL 20000 ["_wall", "RippleError", "Garbled", "BadRule", "Undeclared", "Overlap", "Unmet", "NoPart", "Mismatch", "CAPITALS", "LETTERS", "DIGITS", "LONGEST_NAME", "Formula", "words_of", "is_letter", "Rule", "fault", "bindings", "_law_pools", "_law_draw", "_law_text", "_law_nodes", "_law_kinds", "_law_side", "_law_letters", "_law_inner", "_law_reason"] w := by
  intro os
  kernel_rfl
section
variable {w : World} {K : PySem.W.Frag} {h : Heap} {mg : Str → Option Value} {f : Addr}
theorem factsL (X : K.In h) (G : h.Ns mainGlobals mg) (hfa : mg ("law" : Str) = some (.ref f)) (c0 : SaysT faL fnL fsL fileL exL K) :
    ∃ fd : FuncData, (∀ (s : Shared) (v : Value), BindsTo s fd ⟨[v], []⟩ [("_law_script", v)]) ∧ ∀ base : Heap, K.In base → base.Ns mainGlobals mg → FnOk lawL.prog w K mg base C8.CX0 63 f fd ["_law_script"] (spLaw K) := by
  have c := c0.says
  obtain ⟨x1, x⟩ := He.ba c0.more
  obtain ⟨x2, x⟩ := He.ba x
  obtain ⟨x3, x⟩ := He.ba x
  obtain ⟨x4, x⟩ := He.ba x
  obtain ⟨x5, x⟩ := He.ba x
  obtain ⟨x6, x⟩ := He.ba x
  obtain ⟨x7, x⟩ := He.ba x
  obtain ⟨x8, x⟩ := He.ba x
  obtain ⟨x9, x⟩ := He.ba x
  obtain ⟨x10, x⟩ := He.ba x
  obtain ⟨x11, x⟩ := He.ba x
  obtain ⟨x12, x⟩ := He.ba x
  obtain ⟨x13, x14⟩ := He.ba x
  obtain ⟨cr, cm⟩ := cmB_ok x2
  obtain ⟨cr2, cm2⟩ := cmB_ok x11
  have T : Bi mg := { n_len := He.free_ok X G (c.fact 0 (f := .free "len") rfl), n_range := He.free_ok X G (c.fact 1 (f := .free "range") rfl), n_sum := He.free_ok X G (c.fact 2 (f := .free "sum") rfl), n_int := He.free_ok X G (c.fact 3 (f := .free "int") rfl), n_str := He.free_ok X G (c.fact 4 (f := .free "str") rfl), n_list := He.free_ok X G (c.fact 5 (f := .free "list") rfl), n_tuple := He.free_ok X G (c.fact 6 (f := .free "tuple") rfl), n_isinstance := He.free_ok X G (c.fact 7 (f := .free "isinstance") rfl), n_bool := He.free_ok X G (c.fact 8 (f := .free "bool") rfl), n_iter := He.free_ok X G (c.fact 9 (f := .free "iter") rfl), gCAPITALS := gtxt (by decide +kernel) (He.str_ok X G (c.fact 10 (f := .str "CAPITALS" "ABCDEFGHIJKLMNOPQRSTUVWXYZ") rfl)), gLETTERS := gtxt (by decide +kernel) (He.str_ok X G (c.fact 11 (f := .str "LETTERS" "abcdefghijklmnopqrstuvwxyz") rfl)), gDIGITS := gtxt (by decide +kernel) (He.str_ok X G (c.fact 12 (f := .str "DIGITS" "0123456789") rfl)), gLONGEST_NAME := gint (He.int_ok X G (c.fact 13 (f := .int "LONGEST_NAME" 6) rfl)) }
  have T2 : Bj mg := ⟨He.free_ok X G (c.fact 14 (f := .free "set") rfl), He.free_ok X G (c.fact 15 (f := .free "all") rfl), He.free_ok X G (c.fact 16 (f := .free "any") rfl), He.free_ok X G (c.fact 17 (f := .free "zip") rfl), He.free_ok X G (c.fact 18 (f := .free "enumerate") rfl)⟩
  have hF : mg "Formula" = some (.ref (He.ga K "Formula")) := He.glo_ok X G (c.fact 19 (f := .glo "Formula") rfl)
  have F : FC K mg (He.ga K "Formula") := ⟨He.cls_ok (c.fact 20 (f := .cls "Formula") rfl), He.noat_ok (c.fact 21 (f := .noat "Formula" "name") rfl), He.noat_ok (c.fact 22 (f := .noat "Formula" "parts") rfl), He.noat_ok (c.fact 23 (f := .noat "Formula" "size") rfl), He.noat_ok (c.fact 24 (f := .noat "Formula" "text") rfl), ⟨_, hF, rfl⟩⟩
  have hR : mg "Rule" = some (.ref (He.ga K "Rule")) := He.glo_ok X G (c.fact 25 (f := .glo "Rule") rfl)
  have R : RC K mg (He.ga K "Rule") := ⟨He.cls_ok (c.fact 26 (f := .cls "Rule") rfl), He.noat_ok (c.fact 27 (f := .noat "Rule" "left") rfl), He.noat_ok (c.fact 28 (f := .noat "Rule" "right") rfl), He.noat_ok (c.fact 29 (f := .noat "Rule" "text") rfl), ⟨_, hR, rfl⟩⟩
  have mk := He.mkr_ok (c.fact 30 (f := .mkr "Formula") rfl)
  have mkR := He.mkr_ok (c.fact 31 (f := .mkr "Rule") rfl)
  have iC := insB_ok F.cl x1
  have EN := excB_ok x4
  have EB := excB_ok x7
  have gGa : mg "Garbled" = some (.ref (He.ga K "Garbled")) := He.glo_ok X G (c.fact 32 (f := .glo "Garbled") rfl)
  have gBa : mg "BadRule" = some (.ref (He.ga K "BadRule")) := He.glo_ok X G (c.fact 33 (f := .glo "BadRule") rfl)
  obtain ⟨_, D1⟩ := (c.def_ 0 (d := d__law_draw) rfl)
  obtain ⟨_, D2⟩ := (c.def_ 1 (d := d__law_pools) rfl)
  obtain ⟨_, D3⟩ := (c.def_ 2 (d := d__law_nodes) rfl)
  obtain ⟨_, D4⟩ := (c.def_ 3 (d := d__law_letters) rfl)
  obtain ⟨_, D5⟩ := (c.def_ 4 (d := d__law_text) rfl)
  obtain ⟨_, D6⟩ := (c.def_ 5 (d := d__law_inner) rfl)
  obtain ⟨_, D7⟩ := (c.def_ 6 (d := d__law_reason) rfl)
  obtain ⟨_, D8⟩ := (c.def_ 7 (d := d__law_side) rfl)
  obtain ⟨fdL, D9⟩ := (c.def_ 8 (d := d_law) rfl)
  obtain ⟨_, D10⟩ := (c.def_ 9 (d := d_words_of) rfl)
  obtain ⟨_, D13⟩ := (c.def_ 10 (d := d__law_kinds) rfl)
  obtain ⟨_, D16⟩ := (c.def_ 11 (d := d_is_letter) rfl)
  obtain ⟨_, D17⟩ := (c.def_ 12 (d := d_fault) rfl)
  obtain ⟨_, M1⟩ := (c.def_ 13 (d := d_Formula___init__) rfl)
  obtain ⟨_, M2⟩ := (c.def_ 14 (d := d_Formula_read) rfl)
  obtain ⟨_, M3⟩ := (c.def_ 15 (d := d_Rule___init__) rfl)
  obtain ⟨_, M4⟩ := (c.def_ 16 (d := d_Rule_read) rfl)
  obtain ⟨fdN, S1⟩ := (c0.def_ 0 (q := ds_Garbled___init__) (st := s_Garbled___init__))
  obtain ⟨fdB, S2⟩ := (c0.def_ 1 (q := ds_BadRule___init__) (st := s_BadRule___init__))
  have e := hfa.symm.trans (He.glo_ok X G (c.fact 34 (f := .glo "law") rfl))
  cases e
  refine ⟨fdL, fun s v => FunD.bindsA (ps := ["_law_script"]) D9 (fun _ _ _ _ _ _ us hl => match us, hl with | [_], _ => rfl) s [v] rfl, fun base _ _ => ?_⟩
  have c_draw : Cal lawL.prog w K mg base 1 "_law_draw" spDraw [] := cal_draw T (defE D1 (He.glo_ok X G (c.fact 35 (f := .glo "_law_draw") rfl)) fun _ _ _ _ _ _ us hl => match us, hl with | [_, _], _ => rfl)
  have c_pools : Cal lawL.prog w K mg base 1 "_law_pools" (spPools K) [] := cal_pools T (defE D2 (He.glo_ok X G (c.fact 36 (f := .glo "_law_pools") rfl)) fun _ _ _ _ _ _ us hl => match us, hl with | [_], _ => rfl)
  have c_nodes : Cal lawL.prog w K mg base 1 "_law_nodes" (spNodesP K) [] := cal_nodesP T (defE D3 (He.glo_ok X G (c.fact 37 (f := .glo "_law_nodes") rfl)) fun _ _ _ _ _ _ us hl => match us, hl with | [_], _ => rfl)
  have c_letters : Cal lawL.prog w K mg base 2 "_law_letters" (spLetters K) [] := cal_letters T c_nodes (defE D4 (He.glo_ok X G (c.fact 38 (f := .glo "_law_letters") rfl)) fun _ _ _ _ _ _ us hl => match us, hl with | [_], _ => rfl)
  have c_inner : Cal lawL.prog w K mg base 1 "_law_inner" (spInner K) [] := cal_inner T (defE D6 (He.glo_ok X G (c.fact 39 (f := .glo "_law_inner") rfl)) fun _ _ _ _ _ _ us hl => match us, hl with | [_], _ => rfl)
  have c_reason : Cal lawL.prog w K mg base 3 "_law_reason" (spReason K) [] := cal_reason T c_letters c_inner c_nodes (defE D7 (He.glo_ok X G (c.fact 40 (f := .glo "_law_reason") rfl)) fun _ _ _ _ _ _ us hl => match us, hl with | [_, _], _ => rfl)
  have c_side : Cal lawL.prog w K mg base 7 "_law_side" (spSide K 4) [] := cal_side T (defE D8 (He.glo_ok X G (c.fact 41 (f := .glo "_law_side") rfl)) fun _ _ _ _ _ _ us hl => match us, hl with | [_, _, _, _], _ => rfl) c_draw 4
  have c_text : Cal lawL.prog w K mg base 61 "_law_text" (spText K 60) [] := cal_text T (defE D5 (He.glo_ok X G (c.fact 42 (f := .glo "_law_text") rfl)) fun _ _ _ _ _ _ us hl => match us, hl with | [_], _ => rfl) 60
  have c_words : Cal lawL.prog w K mg base 1 "words_of" spWords [] := cal_words T (defE D10 (He.glo_ok X G (c.fact 43 (f := .glo "words_of") rfl)) fun _ _ _ _ _ _ us hl => match us, hl with | [_], _ => rfl)
  have c_isl : Cal lawL.prog w K mg base 1 "is_letter" spIsLet [] := cal_isletter T (defE D16 (He.glo_ok X G (c.fact 44 (f := .glo "is_letter") rfl)) fun _ _ _ _ _ _ us hl => match us, hl with | [_], _ => rfl)
  have c_fault : Cal lawL.prog w K mg base 2 "fault" (spFault K (He.ga K "Formula")) [] := cal_fault T T2 F c_isl (defE D17 (He.glo_ok X G (c.fact 45 (f := .glo "fault") rfl)) fun _ _ _ _ _ _ us hl => match us, hl with | [_, _], _ => rfl)
  have ini := ok_init (P := lawL.prog) (w := w) (base := base) T F (fun8 M1)
  obtain ⟨ds1, v1, b1⟩ := FunD.binds1 (ps := ["self", "name", "parts"]) M1 2 0 (by simp [He5.DefA.dvs]) rfl (fun _ _ _ _ _ _ _ us its h1 h2 => match us, its, h1, h2 with | [_, _], [_], _, _ => ⟨_, rfl, rfl⟩)
  obtain ⟨ds2, v2, b2⟩ := FunD.binds1 (ps := ["self", "name", "parts"]) M1 3 1 (by simp [He5.DefA.dvs]) rfl (fun _ _ _ _ _ _ _ us its h1 h2 => match us, its, h1, h2 with | [_, _, _], [_], _, _ => ⟨_, rfl, rfl⟩)
  have mF1 : Mak lawL.prog w K mg base 1 "Formula" (He.ga K "Formula") (spInit K (He.ga K "Formula")) [.ref (He.dflAt ("Formula", some "__init__") 0 K)] := ⟨_, _, _, _, mk, ini, hF, b1, v1⟩
  have mF2 : Mak lawL.prog w K mg base 1 "Formula" (He.ga K "Formula") (spInit K (He.ga K "Formula")) [] := ⟨_, _, _, _, mk, ini, hF, b2, v2⟩
  have hnl : PySem.W.findIn K (.ref (He.ga K "Garbled")) "line" = some none := He.eqO_ok x6
  have hbl : PySem.W.findIn K (.ref (He.ga K "BadRule")) "line" = some none := He.eqO_ok x9
  have hbr : PySem.W.findIn K (.ref (He.ga K "BadRule")) "reason" = some none := He.eqO_ok x10
  have ZG : RzF lawL.prog w K mg base "Garbled" (He.ga K "Garbled") one1 (gOne "line") [.int 0] := by
    obtain ⟨sI, sT, oc, od, dV, kV, doc, pm, an, cda, cc, ct, osl, rfl, lk, hcd, SF⟩ := supB_ok (P := lawL.prog) (mg := mg) x5 EN S1 (He.free_ok X G (c.fact 46 (f := .free "super") rfl)) (by kernel_rfl)
    obtain ⟨ds3, v3, b3⟩ := S1.binds1 (ps := ["self", "line"]) 1 0 (by simp [He5.DefA.dvs]) rfl (fun _ _ _ _ _ _ _ _ us its h1 h2 => match us, its, h1, h2 with | [_], [_], _, _ => ⟨_, rfl, rfl⟩)
    exact ⟨_, _, _, _, EN.oex, sI, sT, ok_Garbled SF hnl lk hcd, b3, v3, gGa⟩
  have ZB : RzF lawL.prog w K mg base "BadRule" (He.ga K "BadRule") two2 (gTwo "reason" "line") [.int 0] := by
    obtain ⟨sI, sT, oc, od, dV, kV, doc, pm, an, cda, cc, ct, osl, rfl, lk, hcd, SF⟩ := supB_ok (P := lawL.prog) (mg := mg) x8 EB S2 (He.free_ok X G (c.fact 46 (f := .free "super") rfl)) (by kernel_rfl)
    obtain ⟨ds3, v3, b3⟩ := S2.binds1 (ps := ["self", "reason", "line"]) 2 0 (by simp [He5.DefA.dvs]) rfl (fun _ _ _ _ _ _ _ _ us its h1 h2 => match us, its, h1, h2 with | [_, _], [_], _, _ => ⟨_, rfl, rfl⟩)
    exact ⟨_, _, _, _, EB.oex, sI, sT, ok_BadRule SF hbl hbr lk hcd, b3, v3, gBa⟩
  have hread : FnR lawL.prog w K mg base (L2N.CX lawL.prog w) 3 (He5.wf K (He.ga K "Formula") "classmethod" "read") (fun vs H Q E => spReadX K (He.ga K "Formula") (He.ga K "Garbled") (vs ++ []) H Q E) := (ok_readX T F (fun8 M2) (tup0B_ok x3) ZG mF1 mF2 c_words).raw (M2.bindsN fun _ _ _ _ _ _ us hl => match us, hl with | [_, _], _ => rfl) .nil
  have mRule : Mak lawL.prog w K mg base 1 "Rule" (He.ga K "Rule") (spRInit K (He.ga K "Formula") (He.ga K "Rule")) [] := ⟨_, _, _, _, mkR, ok_ruleinit T F R (fun8 M3), hR, M3.bindsN fun _ _ _ _ _ _ us hl => match us, hl with | [_, _, _], _ => rfl, .nil⟩
  have hrread : FnR lawL.prog w K mg base (L2N.CX lawL.prog w) 4 (He5.wf K (He.ga K "Rule") "classmethod" "read") (fun vs H Q E => spRRead K (He.ga K "Formula") (He.ga K "Rule") (He.ga K "Garbled") (He.ga K "BadRule") (vs ++ []) H Q E) := (ok_ruleread T F R ⟨cr, cm⟩ ZG ZB hread c_fault mRule (fun8 M4)).raw (M4.bindsN fun _ _ _ _ _ _ us hl => match us, hl with | [_, _], _ => rfl) .nil
  have hkG := fun (a : Addr) (oe : Obj) (hf : ∃ vs, oe.data = .fields vs) (dd : Addr) (hz : Zc (.ref (He.ga K "Garbled")) (some dd) oe) => pin_kinds (P := lawL.prog) (w := w) (base := base) (a := a) (d := dd) T (He.free_ok X G (c.fact 47 (f := .free "ValueError") rfl)) EN.exc (kindsB_ok x12 0 gGa) (kindsB_ok x12 1 gBa) (kindsB_ok x12 2 (He.glo_ok X G (c.fact 48 (f := .glo "Undeclared") rfl))) (kindsB_ok x12 3 (He.glo_ok X G (c.fact 49 (f := .glo "Unmet") rfl))) (kindsB_ok x12 4 (He.glo_ok X G (c.fact 50 (f := .glo "Overlap") rfl))) (kindsB_ok x12 5 (He.glo_ok X G (c.fact 51 (f := .glo "NoPart") rfl))) (kindsB_ok x12 6 (He.glo_ok X G (c.fact 52 (f := .glo "Mismatch") rfl))) (kindsB_ok x12 7 (He.glo_ok X G (c.fact 53 (f := .glo "RippleError") rfl))) EN.kve (fun8 D13) (D13.bindsN fun _ _ _ _ _ _ us hl => match us, hl with | [_], _ => rfl) hz hf
  have hkB := fun (a : Addr) (oe : Obj) (hf : ∃ vs, oe.data = .fields vs) (dd : Addr) (hz : Zc (.ref (He.ga K "BadRule")) (some dd) oe) => pin_kinds (P := lawL.prog) (w := w) (base := base) (a := a) (d := dd) T (He.free_ok X G (c.fact 47 (f := .free "ValueError") rfl)) EB.exc (kindsB_ok x13 0 gGa) (kindsB_ok x13 1 gBa) (kindsB_ok x13 2 (He.glo_ok X G (c.fact 48 (f := .glo "Undeclared") rfl))) (kindsB_ok x13 3 (He.glo_ok X G (c.fact 49 (f := .glo "Unmet") rfl))) (kindsB_ok x13 4 (He.glo_ok X G (c.fact 50 (f := .glo "Overlap") rfl))) (kindsB_ok x13 5 (He.glo_ok X G (c.fact 51 (f := .glo "NoPart") rfl))) (kindsB_ok x13 6 (He.glo_ok X G (c.fact 52 (f := .glo "Mismatch") rfl))) (kindsB_ok x13 7 (He.glo_ok X G (c.fact 53 (f := .glo "RippleError") rfl))) EB.kve (fun8 D13) (D13.bindsN fun _ _ _ _ _ _ us hl => match us, hl with | [_], _ => rfl) hz hf
  exact ok_law T F R ⟨cr2, cm2⟩ c_pools c_draw c_side c_text c_reason hrread hkG hkB (He.glo_ok X G (c.fact 54 (f := .glo "_law_kinds") rfl)) D13.kp gGa gBa EN.me EB.me (exmB_ok x14) EN.xf EB.xf hnl hbl hbr (fun8 D9)
end
end Rp
open PySem PySem.W PySem.Calls PyProof.Rows
theorem PySem.Challenge.cw_rippleup_k05_rule_read_holds : PySem.Challenge.rw_rippleup_k05_rule_read.Holds := by
  w_on; o_law
  refine HandSHeadRun.head_any (r := Rp.rowL) (q := view Rp.rowL.prog [32]) (H := Rp.hkL) (ob := Rp.obL) (M := 20000) (loose := ["_wall", "RippleError", "Garbled", "BadRule", "Undeclared", "Overlap", "Unmet", "NoPart", "Mismatch", "CAPITALS", "LETTERS", "DIGITS", "LONGEST_NAME", "Formula", "words_of", "is_letter", "Rule", "fault", "bindings", "_law_pools", "_law_draw", "_law_text", "_law_nodes", "_law_kinds", "_law_side", "_law_letters", "_law_inner", "_law_reason"]) (d := HandSHeadRun.topDef Rp.rowL.prog 32) (kwd := []) Rp.obL_eq
    (by kernel_rfl) (fun s => by kernel_rfl) Rp.runL (by kernel_rfl) (by kernel_rfl) (by kernel_rfl) (by rfl) (by first | assumption | decide +kernel) (by decide +kernel) ⟨rfl, rfl, rfl, rfl, rfl, by decide +kernel⟩ ?hw ?hc
  case hw => w_witness2
  case hc =>
    refine L2.walk_ofE (l := Rp.lawL) (n := 63) (k := 63) (x := "_law_script") (CX := C8.CX0) rfl (by decide) (by kernel_rfl) ⟨rfl, by decide, by decide⟩ ?F (fun _ _ _ _ z => z)
    intro w mg fa h Y G hmg0
    obtain ⟨K, KX, c⟩ := Y
    have hmg : mg ("law" : PySem.Str) = some (.ref fa) := by
      have e : (HandSHeadRun.topDef Rp.rowL.prog 32).name = ("law" : PySem.Str) := by kernel_rfl
      rw [← e]
      exact hmg0
    obtain ⟨fd, hb, hF⟩ := Rp.factsL (w := w) KX G hmg c
    exact ⟨K, fd, Rp.spLaw K, KX, hb, fun H a ns hl _ hS => ⟨a, ns, rfl, hS, hl, fun _ => rfl⟩, hF⟩
