import PyProof.Rows.All
import Wide.All
import OpenK.AllK
import Wide.FinOn
import PySem.Challenge.RW_pq1204_01
open PySem PySem.Spec PySem.W PyProof.Rows PySem.Calls
set_option Elab.async false
set_option maxRecDepth 100000
set_option maxHeartbeats 4000000
set_option rowWalk.seconds 0
set_option linter.unusedVariables false
set_option linter.unusedSimpArgs false
set_option compiler.extract_closed false
set_option genInjectivity false
set_option bootstrap.genMatcherCode false
namespace Mine.Internal
section -- A0
/-- all of the ledger lies below d (a word that omega does not read) -/
noncomputable def LtD (d : Nat) (l : List (Addr × Obj)) : Prop := ∀ p ∈ l, @LT.lt Nat _ p.1 d
section
variable {d a b : Nat} {o : Obj} {l : List (Addr × Obj)}
theorem ltD_in (h : ∀ p ∈ l, p.1 < d) : LtD d l := h
theorem ltD_ne (h : LtD d l) (hm : (a, o) ∈ l) : d ≠ a := Nat.ne_of_gt (h _ hm)
theorem ltD_ne1 {dZ aZ : Nat} {oZ : Obj} {lZ : List (Addr × Obj)} (hZ : LtD dZ lZ) (mZ : (aZ, oZ) ∈ lZ) : dZ + 1 ≠ aZ := Nat.ne_of_gt (Nat.lt_succ_of_lt (hZ _ mZ))
theorem ltD_ne2 {dZ aZ : Nat} {oZ : Obj} {lZ : List (Addr × Obj)} (hZ : LtD dZ lZ) (mZ : (aZ, oZ) ∈ lZ) : dZ + 1 + 1 ≠ aZ := Nat.ne_of_gt (Nat.lt_succ_of_lt (Nat.lt_succ_of_lt (hZ _ mZ)))
theorem ltD_en (h : LtD d l) (hm : (a, o) ∈ l) : a ≠ d := Nat.ne_of_lt (h _ hm)
theorem ltD_en2 {dZ aZ : Nat} {oZ : Obj} {lZ : List (Addr × Obj)} (hZ : LtD dZ lZ) (mZ : (aZ, oZ) ∈ lZ) : aZ ≠ dZ + 1 + 1 := Nat.ne_of_lt (Nat.lt_succ_of_lt (Nat.lt_succ_of_lt (hZ _ mZ)))
theorem ltD_ne3 {dZ aZ : Nat} {oZ : Obj} {lZ : List (Addr × Obj)} (hZ : LtD dZ lZ) (mZ : (aZ, oZ) ∈ lZ) : dZ + 1 + 1 + 1 ≠ aZ := Nat.ne_of_gt (Nat.lt_add_right 3 (hZ _ mZ))
theorem ltD_ne4 {dZ aZ : Nat} {oZ : Obj} {lZ : List (Addr × Obj)} (hZ : LtD dZ lZ) (mZ : (aZ, oZ) ∈ lZ) : dZ + 1 + 1 + 1 + 1 ≠ aZ := Nat.ne_of_gt (Nat.lt_add_right 4 (hZ _ mZ))
theorem ltD_ne5 {dZ aZ : Nat} {oZ : Obj} {lZ : List (Addr × Obj)} (hZ : LtD dZ lZ) (mZ : (aZ, oZ) ∈ lZ) : dZ + 1 + 1 + 1 + 1 + 1 ≠ aZ := Nat.ne_of_gt (Nat.lt_add_right 5 (hZ _ mZ))
theorem leK1 : @LE.le Nat _ d (d + 1) := Nat.le_add_right d 1
theorem leK2 : @LE.le Nat _ d (d + 1 + 1) := Nat.le_add_right d 2
theorem leK3 : @LE.le Nat _ d (d + 1 + 1 + 1) := Nat.le_add_right d 3
theorem leK4 : @LE.le Nat _ d (d + 1 + 1 + 1 + 1) := Nat.le_add_right d 4
theorem leK5 : @LE.le Nat _ d (d + 1 + 1 + 1 + 1 + 1) := Nat.le_add_right d 5
end
/-- places in a ledger, one lemma a place -/
theorem mem0 {αZ : Type} {aZ : αZ} {lZ : List αZ} : aZ ∈ aZ :: lZ := .head _
theorem mem1 {αZ : Type} {aZ xZ0 : αZ} {lZ : List αZ} : aZ ∈ xZ0 :: aZ :: lZ := .tail _ mem0
theorem mem2 {αZ : Type} {aZ xZ0 xZ1 : αZ} {lZ : List αZ} : aZ ∈ xZ0 :: xZ1 :: aZ :: lZ := .tail _ mem1
theorem mem3 {αZ : Type} {aZ xZ0 xZ1 xZ2 : αZ} {lZ : List αZ} : aZ ∈ xZ0 :: xZ1 :: xZ2 :: aZ :: lZ := .tail _ mem2
theorem mem4 {αZ : Type} {aZ xZ0 xZ1 xZ2 xZ3 : αZ} {lZ : List αZ} : aZ ∈ xZ0 :: xZ1 :: xZ2 :: xZ3 :: aZ :: lZ := .tail _ mem3
theorem mem5 {αZ : Type} {aZ xZ0 xZ1 xZ2 xZ3 xZ4 : αZ} {lZ : List αZ} : aZ ∈ xZ0 :: xZ1 :: xZ2 :: xZ3 :: xZ4 :: aZ :: lZ := .tail _ mem4
theorem mem6 {αZ : Type} {aZ xZ0 xZ1 xZ2 xZ3 xZ4 xZ5 : αZ} {lZ : List αZ} : aZ ∈ xZ0 :: xZ1 :: xZ2 :: xZ3 :: xZ4 :: xZ5 :: aZ :: lZ := .tail _ mem5
theorem mem7 {αZ : Type} {aZ xZ0 xZ1 xZ2 xZ3 xZ4 xZ5 xZ6 : αZ} {lZ : List αZ} : aZ ∈ xZ0 :: xZ1 :: xZ2 :: xZ3 :: xZ4 :: xZ5 :: xZ6 :: aZ :: lZ := .tail _ mem6
theorem mem8 {αZ : Type} {aZ xZ0 xZ1 xZ2 xZ3 xZ4 xZ5 xZ6 xZ7 : αZ} {lZ : List αZ} : aZ ∈ xZ0 :: xZ1 :: xZ2 :: xZ3 :: xZ4 :: xZ5 :: xZ6 :: xZ7 :: aZ :: lZ := .tail _ mem7
theorem mem9 {αZ : Type} {aZ xZ0 xZ1 xZ2 xZ3 xZ4 xZ5 xZ6 xZ7 xZ8 : αZ} {lZ : List αZ} : aZ ∈ xZ0 :: xZ1 :: xZ2 :: xZ3 :: xZ4 :: xZ5 :: xZ6 :: xZ7 :: xZ8 :: aZ :: lZ := .tail _ mem8
theorem mem10 {αZ : Type} {aZ xZ0 xZ1 xZ2 xZ3 xZ4 xZ5 xZ6 xZ7 xZ8 xZ9 : αZ} {lZ : List αZ} : aZ ∈ xZ0 :: xZ1 :: xZ2 :: xZ3 :: xZ4 :: xZ5 :: xZ6 :: xZ7 :: xZ8 :: xZ9 :: aZ :: lZ := .tail _ mem9
theorem mem11 {αZ : Type} {aZ xZ0 xZ1 xZ2 xZ3 xZ4 xZ5 xZ6 xZ7 xZ8 xZ9 xZ10 : αZ} {lZ : List αZ} : aZ ∈ xZ0 :: xZ1 :: xZ2 :: xZ3 :: xZ4 :: xZ5 :: xZ6 :: xZ7 :: xZ8 :: xZ9 :: xZ10 :: aZ :: lZ := .tail _ mem10
theorem mem12 {αZ : Type} {aZ xZ0 xZ1 xZ2 xZ3 xZ4 xZ5 xZ6 xZ7 xZ8 xZ9 xZ10 xZ11 : αZ} {lZ : List αZ} : aZ ∈ xZ0 :: xZ1 :: xZ2 :: xZ3 :: xZ4 :: xZ5 :: xZ6 :: xZ7 :: xZ8 :: xZ9 :: xZ10 :: xZ11 :: aZ :: lZ := .tail _ mem11
theorem mem13 {αZ : Type} {aZ xZ0 xZ1 xZ2 xZ3 xZ4 xZ5 xZ6 xZ7 xZ8 xZ9 xZ10 xZ11 xZ12 : αZ} {lZ : List αZ} : aZ ∈ xZ0 :: xZ1 :: xZ2 :: xZ3 :: xZ4 :: xZ5 :: xZ6 :: xZ7 :: xZ8 :: xZ9 :: xZ10 :: xZ11 :: xZ12 :: aZ :: lZ := .tail _ mem12
theorem mem14 {αZ : Type} {aZ xZ0 xZ1 xZ2 xZ3 xZ4 xZ5 xZ6 xZ7 xZ8 xZ9 xZ10 xZ11 xZ12 xZ13 : αZ} {lZ : List αZ} : aZ ∈ xZ0 :: xZ1 :: xZ2 :: xZ3 :: xZ4 :: xZ5 :: xZ6 :: xZ7 :: xZ8 :: xZ9 :: xZ10 :: xZ11 :: xZ12 :: xZ13 :: aZ :: lZ := .tail _ mem13
theorem mem15 {αZ : Type} {aZ xZ0 xZ1 xZ2 xZ3 xZ4 xZ5 xZ6 xZ7 xZ8 xZ9 xZ10 xZ11 xZ12 xZ13 xZ14 : αZ} {lZ : List αZ} : aZ ∈ xZ0 :: xZ1 :: xZ2 :: xZ3 :: xZ4 :: xZ5 :: xZ6 :: xZ7 :: xZ8 :: xZ9 :: xZ10 :: xZ11 :: xZ12 :: xZ13 :: xZ14 :: aZ :: lZ := .tail _ mem14
theorem mem16 {αZ : Type} {aZ xZ0 xZ1 xZ2 xZ3 xZ4 xZ5 xZ6 xZ7 xZ8 xZ9 xZ10 xZ11 xZ12 xZ13 xZ14 xZ15 : αZ} {lZ : List αZ} : aZ ∈ xZ0 :: xZ1 :: xZ2 :: xZ3 :: xZ4 :: xZ5 :: xZ6 :: xZ7 :: xZ8 :: xZ9 :: xZ10 :: xZ11 :: xZ12 :: xZ13 :: xZ14 :: xZ15 :: aZ :: lZ := .tail _ mem15
theorem mem17 {αZ : Type} {aZ xZ0 xZ1 xZ2 xZ3 xZ4 xZ5 xZ6 xZ7 xZ8 xZ9 xZ10 xZ11 xZ12 xZ13 xZ14 xZ15 xZ16 : αZ} {lZ : List αZ} : aZ ∈ xZ0 :: xZ1 :: xZ2 :: xZ3 :: xZ4 :: xZ5 :: xZ6 :: xZ7 :: xZ8 :: xZ9 :: xZ10 :: xZ11 :: xZ12 :: xZ13 :: xZ14 :: xZ15 :: xZ16 :: aZ :: lZ := .tail _ mem16
theorem mem18 {αZ : Type} {aZ xZ0 xZ1 xZ2 xZ3 xZ4 xZ5 xZ6 xZ7 xZ8 xZ9 xZ10 xZ11 xZ12 xZ13 xZ14 xZ15 xZ16 xZ17 : αZ} {lZ : List αZ} : aZ ∈ xZ0 :: xZ1 :: xZ2 :: xZ3 :: xZ4 :: xZ5 :: xZ6 :: xZ7 :: xZ8 :: xZ9 :: xZ10 :: xZ11 :: xZ12 :: xZ13 :: xZ14 :: xZ15 :: xZ16 :: xZ17 :: aZ :: lZ := .tail _ mem17
theorem mem19 {αZ : Type} {aZ xZ0 xZ1 xZ2 xZ3 xZ4 xZ5 xZ6 xZ7 xZ8 xZ9 xZ10 xZ11 xZ12 xZ13 xZ14 xZ15 xZ16 xZ17 xZ18 : αZ} {lZ : List αZ} : aZ ∈ xZ0 :: xZ1 :: xZ2 :: xZ3 :: xZ4 :: xZ5 :: xZ6 :: xZ7 :: xZ8 :: xZ9 :: xZ10 :: xZ11 :: xZ12 :: xZ13 :: xZ14 :: xZ15 :: xZ16 :: xZ17 :: xZ18 :: aZ :: lZ := .tail _ mem18
theorem mem20 {αZ : Type} {aZ xZ0 xZ1 xZ2 xZ3 xZ4 xZ5 xZ6 xZ7 xZ8 xZ9 xZ10 xZ11 xZ12 xZ13 xZ14 xZ15 xZ16 xZ17 xZ18 xZ19 : αZ} {lZ : List αZ} : aZ ∈ xZ0 :: xZ1 :: xZ2 :: xZ3 :: xZ4 :: xZ5 :: xZ6 :: xZ7 :: xZ8 :: xZ9 :: xZ10 :: xZ11 :: xZ12 :: xZ13 :: xZ14 :: xZ15 :: xZ16 :: xZ17 :: xZ18 :: xZ19 :: aZ :: lZ := .tail _ mem19
theorem mem21 {αZ : Type} {aZ xZ0 xZ1 xZ2 xZ3 xZ4 xZ5 xZ6 xZ7 xZ8 xZ9 xZ10 xZ11 xZ12 xZ13 xZ14 xZ15 xZ16 xZ17 xZ18 xZ19 xZ20 : αZ} {lZ : List αZ} : aZ ∈ xZ0 :: xZ1 :: xZ2 :: xZ3 :: xZ4 :: xZ5 :: xZ6 :: xZ7 :: xZ8 :: xZ9 :: xZ10 :: xZ11 :: xZ12 :: xZ13 :: xZ14 :: xZ15 :: xZ16 :: xZ17 :: xZ18 :: xZ19 :: xZ20 :: aZ :: lZ := .tail _ mem20
theorem mem22 {αZ : Type} {aZ xZ0 xZ1 xZ2 xZ3 xZ4 xZ5 xZ6 xZ7 xZ8 xZ9 xZ10 xZ11 xZ12 xZ13 xZ14 xZ15 xZ16 xZ17 xZ18 xZ19 xZ20 xZ21 : αZ} {lZ : List αZ} : aZ ∈ xZ0 :: xZ1 :: xZ2 :: xZ3 :: xZ4 :: xZ5 :: xZ6 :: xZ7 :: xZ8 :: xZ9 :: xZ10 :: xZ11 :: xZ12 :: xZ13 :: xZ14 :: xZ15 :: xZ16 :: xZ17 :: xZ18 :: xZ19 :: xZ20 :: xZ21 :: aZ :: lZ := .tail _ mem21
theorem ix0 {αZ : Type} {aZ : αZ} {lZ : List αZ} : (aZ :: lZ)[0]? = some aZ := rfl
theorem ix1 {αZ : Type} {aZ xZ0 : αZ} {lZ : List αZ} : (xZ0 :: aZ :: lZ)[1]? = some aZ := rfl
theorem ix2 {αZ : Type} {aZ xZ0 xZ1 : αZ} {lZ : List αZ} : (xZ0 :: xZ1 :: aZ :: lZ)[2]? = some aZ := rfl
theorem ix3 {αZ : Type} {aZ xZ0 xZ1 xZ2 : αZ} {lZ : List αZ} : (xZ0 :: xZ1 :: xZ2 :: aZ :: lZ)[3]? = some aZ := rfl
theorem ix4 {αZ : Type} {aZ xZ0 xZ1 xZ2 xZ3 : αZ} {lZ : List αZ} : (xZ0 :: xZ1 :: xZ2 :: xZ3 :: aZ :: lZ)[4]? = some aZ := rfl
theorem ix5 {αZ : Type} {aZ xZ0 xZ1 xZ2 xZ3 xZ4 : αZ} {lZ : List αZ} : (xZ0 :: xZ1 :: xZ2 :: xZ3 :: xZ4 :: aZ :: lZ)[5]? = some aZ := rfl
theorem ix6 {αZ : Type} {aZ xZ0 xZ1 xZ2 xZ3 xZ4 xZ5 : αZ} {lZ : List αZ} : (xZ0 :: xZ1 :: xZ2 :: xZ3 :: xZ4 :: xZ5 :: aZ :: lZ)[6]? = some aZ := rfl
theorem ix7 {αZ : Type} {aZ xZ0 xZ1 xZ2 xZ3 xZ4 xZ5 xZ6 : αZ} {lZ : List αZ} : (xZ0 :: xZ1 :: xZ2 :: xZ3 :: xZ4 :: xZ5 :: xZ6 :: aZ :: lZ)[7]? = some aZ := rfl
theorem ix8 {αZ : Type} {aZ xZ0 xZ1 xZ2 xZ3 xZ4 xZ5 xZ6 xZ7 : αZ} {lZ : List αZ} : (xZ0 :: xZ1 :: xZ2 :: xZ3 :: xZ4 :: xZ5 :: xZ6 :: xZ7 :: aZ :: lZ)[8]? = some aZ := rfl
theorem ix9 {αZ : Type} {aZ xZ0 xZ1 xZ2 xZ3 xZ4 xZ5 xZ6 xZ7 xZ8 : αZ} {lZ : List αZ} : (xZ0 :: xZ1 :: xZ2 :: xZ3 :: xZ4 :: xZ5 :: xZ6 :: xZ7 :: xZ8 :: aZ :: lZ)[9]? = some aZ := rfl
theorem ix10 {αZ : Type} {aZ xZ0 xZ1 xZ2 xZ3 xZ4 xZ5 xZ6 xZ7 xZ8 xZ9 : αZ} {lZ : List αZ} : (xZ0 :: xZ1 :: xZ2 :: xZ3 :: xZ4 :: xZ5 :: xZ6 :: xZ7 :: xZ8 :: xZ9 :: aZ :: lZ)[10]? = some aZ := rfl
theorem ix11 {αZ : Type} {aZ xZ0 xZ1 xZ2 xZ3 xZ4 xZ5 xZ6 xZ7 xZ8 xZ9 xZ10 : αZ} {lZ : List αZ} : (xZ0 :: xZ1 :: xZ2 :: xZ3 :: xZ4 :: xZ5 :: xZ6 :: xZ7 :: xZ8 :: xZ9 :: xZ10 :: aZ :: lZ)[11]? = some aZ := rfl
theorem ix12 {αZ : Type} {aZ xZ0 xZ1 xZ2 xZ3 xZ4 xZ5 xZ6 xZ7 xZ8 xZ9 xZ10 xZ11 : αZ} {lZ : List αZ} : (xZ0 :: xZ1 :: xZ2 :: xZ3 :: xZ4 :: xZ5 :: xZ6 :: xZ7 :: xZ8 :: xZ9 :: xZ10 :: xZ11 :: aZ :: lZ)[12]? = some aZ := rfl
theorem ix13 {αZ : Type} {aZ xZ0 xZ1 xZ2 xZ3 xZ4 xZ5 xZ6 xZ7 xZ8 xZ9 xZ10 xZ11 xZ12 : αZ} {lZ : List αZ} : (xZ0 :: xZ1 :: xZ2 :: xZ3 :: xZ4 :: xZ5 :: xZ6 :: xZ7 :: xZ8 :: xZ9 :: xZ10 :: xZ11 :: xZ12 :: aZ :: lZ)[13]? = some aZ := rfl
theorem memT1 {α : Type} {a x0 : α} {l : List α} (h : a ∈ l) : a ∈ x0 :: l := .tail _ h
theorem memT4 {α : Type} {a x0 x1 x2 x3 : α} {l : List α} (h : a ∈ l) : a ∈ x0 :: x1 :: x2 :: x3 :: l := memT1 (memT1 (memT1 (memT1 h)))
theorem memT8 {α : Type} {a x0 x1 x2 x3 x4 x5 x6 x7 : α} {l : List α} (h : a ∈ l) : a ∈ x0 :: x1 :: x2 :: x3 :: x4 :: x5 :: x6 :: x7 :: l := memT4 (memT4 h)
theorem updF_h {dZ : Addr} {oZ : Obj} {rZ : List (Addr × Obj)} (hZ : ∀ p ∈ rZ, p.1 ≠ dZ) : UpdF dZ oZ ((dZ, oZ) :: rZ) (fun o' => (dZ, o') :: rZ) := .head hZ
theorem updF_t {dZ : Addr} {oZ : Obj} {pZ : Addr × Obj} {rZ : List (Addr × Obj)} {gZ : Obj → List (Addr × Obj)} (hZ : pZ.1 ≠ dZ) (kZ : UpdF dZ oZ rZ gZ) : UpdF dZ oZ (pZ :: rZ) (fun o' => pZ :: gZ o') := .tail hZ kZ
theorem upd_h {dZ : Addr} {oZ nZ : Obj} {rZ : List (Addr × Obj)} (hZ : ∀ p ∈ rZ, p.1 ≠ dZ) : Upd dZ oZ nZ ((dZ, oZ) :: rZ) ((dZ, nZ) :: rZ) := .head hZ
theorem upd_t {dZ : Addr} {oZ nZ : Obj} {pZ : Addr × Obj} {rZ sZ : List (Addr × Obj)} (hZ : pZ.1 ≠ dZ) (kZ : Upd dZ oZ nZ rZ sZ) : Upd dZ oZ nZ (pZ :: rZ) (pZ :: sZ) := .tail hZ kZ
theorem all_nil {αZ : Type} {PZ : αZ → Prop} : ∀ q ∈ ([] : List αZ), PZ q := fun _ h => nomatch h
theorem all_cons {αZ : Type} {PZ : αZ → Prop} {xZ : αZ} {lZ : List αZ} (hZ : PZ xZ) (kZ : ∀ q ∈ lZ, PZ q) : ∀ q ∈ xZ :: lZ, PZ q := List.forall_mem_cons.mpr ⟨hZ, kZ⟩
theorem neS {a b : Nat} (h : @Ne Nat a b) : @Ne Nat b a := Ne.symm h
theorem ltD_one {x dx L : Nat} {l : List (Addr × Obj)} (h1 : ∀ p ∈ l, p.1 < dx) (h2 : @LT.lt Nat _ dx x ∧ @LT.lt Nat _ L dx) : LtD dx ((L, emptyDict) :: l) := List.forall_mem_cons.mpr ⟨h2.2, h1⟩
theorem ltD_two {x dx L : Nat} {l : List (Addr × Obj)} (h1 : ∀ p ∈ l, p.1 < dx) (h2 : @LT.lt Nat _ dx x ∧ @LT.lt Nat _ L dx) : LtD x ((dx, emptyDict) :: (L, emptyDict) :: l) := List.forall_mem_cons.mpr ⟨h2.1, List.forall_mem_cons.mpr ⟨Nat.lt_trans h2.2 h2.1, fun p hp => Nat.lt_trans (h1 p hp) h2.1⟩⟩
/-- the heap holds these -/
noncomputable def AllAt (h : Heap) (l : List (Addr × Obj)) : Prop := ∀ q ∈ l, h.get? q.1 = some q.2
theorem getM_nil {h : Heap} : AllAt h [] := fun _ h => nomatch h
theorem getM_cons {h : Heap} {a : Addr} {o : Obj} {l : List (Addr × Obj)} (x : h.get? a = some o) (y : AllAt h l) : AllAt h ((a, o) :: l) := fun q hq => by
  rcases List.mem_cons.mp hq with rfl | hq
  · exact x
  · exact y q hq
theorem gen_tok {α : Type} {M : Model} {A : Around} {t : Sem α} {Q : α → Shared → Prop} {E : Value → Shared → Prop} {h : Heap} {g : Array GenState} {d : Drawn} {X : Nat} {os : OsState} (k : ∀ tk, wpAny M A t Q E ⟨h, g, d, tk, os⟩) : wpAny M A t Q E ⟨h, g, d, X, os⟩ := k X
/-- addresses in their order -/
noncomputable def Asc : List Nat → Prop
  | a :: b :: l => a < b ∧ Asc (b :: l)
  | _ => True
theorem asc_tail {a : Nat} : ∀ {l : List Nat}, Asc (a :: l) → Asc l
  | [], _ => trivial
  | _ :: _, h => h.2
theorem asc_lt0 : ∀ {l : List Nat} {a : Nat}, Asc (a :: l) → ∀ {j b : Nat}, l[j]? = some b → a < b
  | [], _, _, _, _, e => by simp at e
  | c :: r, a, h, 0, b, e => by
    have e : c = b := by simpa using e
    exact e ▸ h.1
  | c :: r, a, h, j + 1, b, e => Nat.lt_trans h.1 (asc_lt0 h.2 (j := j) (by simpa using e))
theorem asc_lt : ∀ {l : List Nat}, Asc l → ∀ {i j a b : Nat}, l[i]? = some a → l[j]? = some b → i < j → a < b
  | [], _, _, _, _, _, e, _, _ => by simp at e
  | x :: r, h, 0, j + 1, a, b, e1, e2, _ => by
    have e1 : x = a := by simpa using e1
    exact e1 ▸ asc_lt0 h (j := j) (by simpa using e2)
  | x :: r, h, i + 1, j + 1, a, b, e1, e2, hij => asc_lt (asc_tail h) (i := i) (j := j) (by simpa using e1) (by simpa using e2) (Nat.lt_of_succ_lt_succ hij)
  | _, _, _, 0, _, _, _, _, hij => absurd hij (Nat.not_lt_zero _)
theorem asc_ne {l : List Nat} (h : Asc l) {i j a b : Nat} (e1 : l[i]? = some a) (e2 : l[j]? = some b) (hij : Nat.beq i j = false) : a ≠ b := by
  rcases Nat.lt_trichotomy i j with z | z | z
  · exact Nat.ne_of_lt (asc_lt h e1 e2 z)
  · rw [z, Nat.beq_refl] at hij; cases hij
  · exact Nat.ne_of_gt (asc_lt h e2 e1 z)
theorem asc_lt' {l : List Nat} (h : Asc l) {i j a b : Nat} (e1 : l[i]? = some a) (e2 : l[j]? = some b) (hij : Nat.blt i j = true) : a < b := asc_lt h e1 e2 (Nat.blt_eq.mp hij)
/-- one address off a list of them -/
noncomputable def OffB (c : Nat) (l : List Nat) : Prop := ∀ b ∈ l, c ≠ b
theorem offB_ne {c b : Nat} {l : List Nat} (h : OffB c l) (hb : b ∈ l) : c ≠ b := h b hb
theorem asc_off {l : List Nat} {a z c : Nat} (n : Nat) (h : Asc (a :: l)) (hz : (a :: l)[n]? = some z) (hn : n = l.length) (hc : c < a ∨ z < c) : OffB c (a :: l) := fun b hb => by
  obtain ⟨i, hi⟩ := List.getElem?_of_mem hb
  rcases hc with hc | hc
  · refine Nat.ne_of_lt (Nat.lt_of_lt_of_le hc ?_)
    cases i with
    | zero => exact Nat.le_of_eq (by simpa using hi)
    | succ i => exact Nat.le_of_lt (asc_lt h (i := 0) (j := i + 1) rfl hi (Nat.succ_pos _))
  · refine Nat.ne_of_gt (Nat.lt_of_le_of_lt ?_ hc)
    have hil : i < (a :: l).length := (List.getElem?_eq_some_iff.mp hi).1
    by_cases q : i = n
    · subst q; exact Nat.le_of_eq (Option.some.inj (hi.symm.trans hz))
    · exact Nat.le_of_lt (asc_lt h hi hz (by rw [List.length_cons] at hil; omega))
section
variable {dp a b c d k r : Nat}
theorem room0 (h : dp + k < r) : dp < r := Nat.lt_of_le_of_lt (Nat.le_add_right _ _) h
theorem room1 (h : dp + k < r) (e : Nat.ble a k = true) : dp + a < r := Nat.lt_of_le_of_lt (Nat.add_le_add_left (Nat.le_of_ble_eq_true e) _) h
theorem room2 (h : dp + k < r) (e : Nat.ble (a + b) k = true) : dp + a + b < r := by rw [Nat.add_assoc]; exact room1 h e
theorem room4 (h : dp + k < r) (e : Nat.ble (a + b + c + d) k = true) : dp + a + b + c + d < r := by rw [Nat.add_assoc, Nat.add_assoc, Nat.add_assoc, ← Nat.add_assoc b, ← Nat.add_assoc a, ← Nat.add_assoc a]; exact room1 h e
end
theorem sub_step {n i : Nat} (h : i < n) : n - i = (n - (i + 1)) + 1 := by omega
theorem rng0 {f l : Int} (h : f ≤ l) : 0 ≤ l - f + 1 := by omega
theorem rng1 {f l : Int} (h : 0 ≤ f) (k : l < 100000) : l - f + 1 ≤ 1000000 := by omega
theorem toNat30 {m : Int} : (29 + m - 30 + 1).toNat = m.toNat := congrArg Int.toNat (by omega)
theorem ixc {l : List Nat} {a : Nat} (i : Nat) (e : l[i]? = some a) : l[i]? = some a := e
end
section -- KX
set_option maxHeartbeats 0
noncomputable def K (P : Params) : Frag :=
  (nat_lit 2, (Obj.mk Value.none none (Data.dict (List.toArray [(DictEntry.mk (PyData.keyHash P (Str.ofString "type.__subclasses__.Exception.0")) (Value.str (Str.ofString "type.__subclasses__.Exception.0") 221) (Value.int 38 0)), (DictEntry.mk (PyData.keyHash P (Str.ofString "type.__subclasses__.Exception.n")) (Value.str (Str.ofString "type.__subclasses__.Exception.n") 222) (Value.int 1 0))]) 2) (List.toArray []))) ::
  (nat_lit 3, (Obj.mk (Value.type "dict") none (Data.dict (List.toArray ((DictEntry.mk (PyData.keyHash P (Str.ofString "__name__")) (Value.str (Str.ofString "__name__") 165) (Value.str (Str.ofString "law_pq1204_01") 2156)) :: (DictEntry.mk (PyData.keyHash P (Str.ofString "__doc__")) (Value.str (Str.ofString "__doc__") 166) Value.none) :: (DictEntry.mk (PyData.keyHash P (Str.ofString "__package__")) (Value.str (Str.ofString "__package__") 167) Value.none) :: (DictEntry.mk (PyData.keyHash P (Str.ofString "__loader__")) (Value.str (Str.ofString "__loader__") 168) (Value.builtin "__main__.__loader__#opaque")) :: (DictEntry.mk (PyData.keyHash P (Str.ofString "__spec__")) (Value.str (Str.ofString "__spec__") 169) Value.none) :: (DictEntry.mk (PyData.keyHash P (Str.ofString "__annotations__")) (Value.str (Str.ofString "__annotations__") 170) (Value.ref 6)) :: (DictEntry.mk (PyData.keyHash P (Str.ofString "__builtins__")) (Value.str (Str.ofString "__builtins__") 171) (Value.ref 4)) :: (DictEntry.mk (PyData.keyHash P (Str.ofString "__file__")) (Value.str (Str.ofString "__file__") 173) (Value.str (Str.ofString "/claim/cut.py") 172)) :: (DictEntry.mk (PyData.keyHash P (Str.ofString "__cached__")) (Value.str (Str.ofString "__cached__") 174) Value.none) :: (DictEntry.mk (PyData.keyHash P (Str.ofString "_wall")) (Value.str (Str.ofString "_wall") 193) (Value.ref 21)) :: (DictEntry.mk (PyData.keyHash P (Str.ofString "StackError")) (Value.str (Str.ofString "StackError") 224) (Value.ref 38)) :: (DictEntry.mk (PyData.keyHash P (Str.ofString "SizeError")) (Value.str (Str.ofString "SizeError") 240) (Value.ref 51)) :: (DictEntry.mk (PyData.keyHash P (Str.ofString "PortError")) (Value.str (Str.ofString "PortError") 256) (Value.ref 63)) :: (DictEntry.mk (PyData.keyHash P (Str.ofString "StateError")) (Value.str (Str.ofString "StateError") 272) (Value.ref 75)) :: (DictEntry.mk (PyData.keyHash P (Str.ofString "ResetError")) (Value.str (Str.ofString "ResetError") 288) (Value.ref 87)) :: (DictEntry.mk (PyData.keyHash P (Str.ofString "TimedOutError")) (Value.str (Str.ofString "TimedOutError") 304) (Value.ref 99)) :: (DictEntry.mk (PyData.keyHash P (Str.ofString "MOST_PORT")) (Value.str (Str.ofString "MOST_PORT") 308) (Value.int 65535 307)) :: (DictEntry.mk (PyData.keyHash P (Str.ofString "Ports")) (Value.str (Str.ofString "Ports") 383) (Value.ref 154)) :: (DictEntry.mk (PyData.keyHash P (Str.ofString "AckPolicy")) (Value.str (Str.ofString "AckPolicy") 456) (Value.ref 211)) :: (DictEntry.mk (PyData.keyHash P (Str.ofString "Congestion")) (Value.str (Str.ofString "Congestion") 567) (Value.ref 295)) :: (DictEntry.mk (PyData.keyHash P (Str.ofString "plus")) (Value.str (Str.ofString "plus") 578) (Value.ref 306)) :: (DictEntry.mk (PyData.keyHash P (Str.ofString "distance")) (Value.str (Str.ofString "distance") 587) (Value.ref 313)) :: (DictEntry.mk (PyData.keyHash P (Str.ofString "is_before")) (Value.str (Str.ofString "is_before") 597) (Value.ref 320)) :: (DictEntry.mk (PyData.keyHash P (Str.ofString "is_at_most")) (Value.str (Str.ofString "is_at_most") 606) (Value.ref 327)) :: (DictEntry.mk (PyData.keyHash P (Str.ofString "latest")) (Value.str (Str.ofString "latest") 615) (Value.ref 334)) :: (DictEntry.mk (PyData.keyHash P (Str.ofString "MOST_SHIFT_retransmit")) (Value.str (Str.ofString "MOST_SHIFT_retransmit") 619) (Value.int 7 618)) :: (DictEntry.mk (PyData.keyHash P (Str.ofString "RetransmitClock")) (Value.str (Str.ofString "RetransmitClock") 718) (Value.ref 407)) :: (DictEntry.mk (PyData.keyHash P (Str.ofString "RttEstimate")) (Value.str (Str.ofString "RttEstimate") 794) (Value.ref 463)) :: (DictEntry.mk (PyData.keyHash P (Str.ofString "SendQueue")) (Value.str (Str.ofString "SendQueue") 866) (Value.ref 519)) :: (DictEntry.mk (PyData.keyHash P (Str.ofString "PeerWindow")) (Value.str (Str.ofString "PeerWindow") 921) (Value.ref 554)) :: (DictEntry.mk (PyData.keyHash P (Str.ofString "Sender")) (Value.str (Str.ofString "Sender") 1159) (Value.ref 745)) :: (DictEntry.mk (PyData.keyHash P (Str.ofString "put16")) (Value.str (Str.ofString "put16") 1168) (Value.ref 756)) :: (DictEntry.mk (PyData.keyHash P (Str.ofString "FIN")) (Value.str (Str.ofString "FIN") 1172) (Value.int 1 1171)) :: (DictEntry.mk (PyData.keyHash P (Str.ofString "SYN")) (Value.str (Str.ofString "SYN") 1174) (Value.int 2 1173)) :: (DictEntry.mk (PyData.keyHash P (Str.ofString "RST")) (Value.str (Str.ofString "RST") 1176) (Value.int 4 1175)) :: (DictEntry.mk (PyData.keyHash P (Str.ofString "PSH")) (Value.str (Str.ofString "PSH") 1178) (Value.int 8 1177)) :: (DictEntry.mk (PyData.keyHash P (Str.ofString "ACK")) (Value.str (Str.ofString "ACK") 1180) (Value.int 16 1179)) :: (DictEntry.mk (PyData.keyHash P (Str.ofString "OPTION_MSS")) (Value.str (Str.ofString "OPTION_MSS") 1182) (Value.int 2 1181)) :: (DictEntry.mk (PyData.keyHash P (Str.ofString "MSS_SIZE")) (Value.str (Str.ofString "MSS_SIZE") 1184) (Value.int 4 1183)) :: (DictEntry.mk (PyData.keyHash P (Str.ofString "Segment")) (Value.str (Str.ofString "Segment") 1255) (Value.ref 795)) :: (DictEntry.mk (PyData.keyHash P (Str.ofString "check_number")) (Value.str (Str.ofString "check_number") 1263) (Value.ref 806)) :: (DictEntry.mk (PyData.keyHash P (Str.ofString "mss_option")) (Value.str (Str.ofString "mss_option") 1270) (Value.ref 813)) :: (DictEntry.mk (PyData.keyHash P (Str.ofString "CLOSED")) (Value.str (Str.ofString "CLOSED") 1274) (Value.str (Str.ofString "closed") 1273)) :: (DictEntry.mk (PyData.keyHash P (Str.ofString "LISTEN")) (Value.str (Str.ofString "LISTEN") 1276) (Value.str (Str.ofString "listen") 1275)) :: (DictEntry.mk (PyData.keyHash P (Str.ofString "SYN_SENT")) (Value.str (Str.ofString "SYN_SENT") 1278) (Value.str (Str.ofString "syn sent") 1277)) :: (DictEntry.mk (PyData.keyHash P (Str.ofString "SYN_RECEIVED")) (Value.str (Str.ofString "SYN_RECEIVED") 1280) (Value.str (Str.ofString "syn received") 1279)) :: (DictEntry.mk (PyData.keyHash P (Str.ofString "ESTABLISHED")) (Value.str (Str.ofString "ESTABLISHED") 1282) (Value.str (Str.ofString "established") 1281)) :: (DictEntry.mk (PyData.keyHash P (Str.ofString "FIN_WAIT_1")) (Value.str (Str.ofString "FIN_WAIT_1") 1284) (Value.str (Str.ofString "fin wait 1") 1283)) :: (DictEntry.mk (PyData.keyHash P (Str.ofString "FIN_WAIT_2")) (Value.str (Str.ofString "FIN_WAIT_2") 1286) (Value.str (Str.ofString "fin wait 2") 1285)) :: (DictEntry.mk (PyData.keyHash P (Str.ofString "CLOSE_WAIT")) (Value.str (Str.ofString "CLOSE_WAIT") 1288) (Value.str (Str.ofString "close wait") 1287)) :: (DictEntry.mk (PyData.keyHash P (Str.ofString "CLOSING")) (Value.str (Str.ofString "CLOSING") 1290) (Value.str (Str.ofString "closing") 1289)) :: (DictEntry.mk (PyData.keyHash P (Str.ofString "LAST_ACK")) (Value.str (Str.ofString "LAST_ACK") 1292) (Value.str (Str.ofString "last ack") 1291)) :: (DictEntry.mk (PyData.keyHash P (Str.ofString "TIME_WAIT")) (Value.str (Str.ofString "TIME_WAIT") 1294) (Value.str (Str.ofString "time wait") 1293)) :: (DictEntry.mk (PyData.keyHash P (Str.ofString "opening_steps")) (Value.str (Str.ofString "opening_steps") 1300) (Value.ref 820)) :: (DictEntry.mk (PyData.keyHash P (Str.ofString "closing_steps")) (Value.str (Str.ofString "closing_steps") 1306) (Value.ref 827)) :: (DictEntry.mk (PyData.keyHash P (Str.ofString "follow")) (Value.str (Str.ofString "follow") 1315) (Value.ref 834)) :: (DictEntry.mk (PyData.keyHash P (Str.ofString "may_send")) (Value.str (Str.ofString "may_send") 1322) (Value.ref 841)) :: (DictEntry.mk (PyData.keyHash P (Str.ofString "is_sending")) (Value.str (Str.ofString "is_sending") 1329) (Value.ref 848)) :: (DictEntry.mk (PyData.keyHash P (Str.ofString "Wheel")) (Value.str (Str.ofString "Wheel") 1423) (Value.ref 911)) :: (DictEntry.mk (PyData.keyHash P (Str.ofString "RESEND")) (Value.str (Str.ofString "RESEND") 1427) (Value.int 1 1426)) :: (DictEntry.mk (PyData.keyHash P (Str.ofString "PERSIST")) (Value.str (Str.ofString "PERSIST") 1429) (Value.int 2 1428)) :: (DictEntry.mk (PyData.keyHash P (Str.ofString "DELAYED")) (Value.str (Str.ofString "DELAYED") 1431) (Value.int 3 1430)) :: (DictEntry.mk (PyData.keyHash P (Str.ofString "WAIT")) (Value.str (Str.ofString "WAIT") 1433) (Value.int 4 1432)) :: (DictEntry.mk (PyData.keyHash P (Str.ofString "MOST_WINDOW")) (Value.str (Str.ofString "MOST_WINDOW") 1435) (Value.int 65535 1434)) :: (DictEntry.mk (PyData.keyHash P (Str.ofString "Limits")) (Value.str (Str.ofString "Limits") 1482) (Value.ref 932)) :: (DictEntry.mk (PyData.keyHash P (Str.ofString "clock_of")) (Value.str (Str.ofString "clock_of") 1490) (Value.ref 943)) :: (DictEntry.mk (PyData.keyHash P (Str.ofString "Tcb")) (Value.str (Str.ofString "Tcb") 1556) (Value.ref 975)) :: (DictEntry.mk (PyData.keyHash P (Str.ofString "MOST_SHIFT_tcp_user")) (Value.str (Str.ofString "MOST_SHIFT_tcp_user") 1560) (Value.int 7 1559)) :: (DictEntry.mk (PyData.keyHash P (Str.ofString "change_state")) (Value.str (Str.ofString "change_state") 1569) (Value.ref 986)) :: (DictEntry.mk (PyData.keyHash P (Str.ofString "closed")) (Value.str (Str.ofString "closed") 1578) (Value.ref 993)) :: (DictEntry.mk (PyData.keyHash P (Str.ofString "check_error")) (Value.str (Str.ofString "check_error") 1585) (Value.ref 1000)) :: (DictEntry.mk (PyData.keyHash P (Str.ofString "open_active")) (Value.str (Str.ofString "open_active") 1593) (Value.ref 1007)) :: (DictEntry.mk (PyData.keyHash P (Str.ofString "send")) (Value.str (Str.ofString "send") 1603) (Value.ref 1014)) :: (DictEntry.mk (PyData.keyHash P (Str.ofString "send_tcp_user")) (Value.str (Str.ofString "send_tcp_user") 1604) (Value.ref 1014)) :: (DictEntry.mk (PyData.keyHash P (Str.ofString "close")) (Value.str (Str.ofString "close") 1612) (Value.ref 1021)) :: (DictEntry.mk (PyData.keyHash P (Str.ofString "close_tcp_user")) (Value.str (Str.ofString "close_tcp_user") 1613) (Value.ref 1021)) :: (DictEntry.mk (PyData.keyHash P (Str.ofString "abort")) (Value.str (Str.ofString "abort") 1622) (Value.ref 1028)) :: (DictEntry.mk (PyData.keyHash P (Str.ofString "abort_tcp_user")) (Value.str (Str.ofString "abort_tcp_user") 1623) (Value.ref 1028)) :: (DictEntry.mk (PyData.keyHash P (Str.ofString "syn_segment")) (Value.str (Str.ofString "syn_segment") 1630) (Value.ref 1035)) :: (DictEntry.mk (PyData.keyHash P (Str.ofString "flags_of")) (Value.str (Str.ofString "flags_of") 1639) (Value.ref 1042)) :: (DictEntry.mk (PyData.keyHash P (Str.ofString "take_asked_fin")) (Value.str (Str.ofString "take_asked_fin") 1647) (Value.ref 1049)) :: (DictEntry.mk (PyData.keyHash P (Str.ofString "data_segments")) (Value.str (Str.ofString "data_segments") 1663) (Value.ref 1056)) :: (DictEntry.mk (PyData.keyHash P (Str.ofString "output")) (Value.str (Str.ofString "output") 1672) (Value.ref 1063)) :: (DictEntry.mk (PyData.keyHash P (Str.ofString "keep_timers")) (Value.str (Str.ofString "keep_timers") 1680) (Value.ref 1070)) :: (DictEntry.mk (PyData.keyHash P (Str.ofString "probe_wait")) (Value.str (Str.ofString "probe_wait") 1688) (Value.ref 1077)) :: (DictEntry.mk (PyData.keyHash P (Str.ofString "WHOLE_RING")) (Value.str (Str.ofString "WHOLE_RING") 1692) (Value.int 4294967296 1691)) :: (DictEntry.mk (PyData.keyHash P (Str.ofString "reset_for")) (Value.str (Str.ofString "reset_for") 1701) (Value.ref 1085)) :: (DictEntry.mk (PyData.keyHash P (Str.ofString "TcpTable")) (Value.str (Str.ofString "TcpTable") 1781) (Value.ref 1138)) :: (DictEntry.mk (PyData.keyHash P (Str.ofString "ISS_STEP")) (Value.str (Str.ofString "ISS_STEP") 1785) (Value.int 64 1784)) :: (DictEntry.mk (PyData.keyHash P (Str.ofString "Listener")) (Value.str (Str.ofString "Listener") 1844) (Value.ref 1180)) :: (DictEntry.mk (PyData.keyHash P (Str.ofString "Link")) (Value.str (Str.ofString "Link") 1886) (Value.ref 1208)) :: (DictEntry.mk (PyData.keyHash P (Str.ofString "rows_out")) (Value.str (Str.ofString "rows_out") 1892) (Value.ref 1217)) :: (DictEntry.mk (PyData.keyHash P (Str.ofString "TcpSockets")) (Value.str (Str.ofString "TcpSockets") 2155) (Value.ref 1396)) :: (DictEntry.mk (PyData.keyHash P (Str.ofString "_law_pool")) (Value.str (Str.ofString "_law_pool") 2168) (Value.ref 1407)) :: (DictEntry.mk (PyData.keyHash P (Str.ofString "_law_take")) (Value.str (Str.ofString "_law_take") 2177) (Value.ref 1414)) :: (DictEntry.mk (PyData.keyHash P (Str.ofString "_law_one")) (Value.str (Str.ofString "_law_one") 2185) (Value.ref 1421)) :: (DictEntry.mk (PyData.keyHash P (Str.ofString "_law_refused")) (Value.str (Str.ofString "_law_refused") 2192) (Value.ref 1428)) :: (DictEntry.mk (PyData.keyHash P (Str.ofString "_law_behind")) (Value.str (Str.ofString "_law_behind") 2200) (Value.ref 1435)) :: (DictEntry.mk (PyData.keyHash P (Str.ofString "_law_asked_right")) (Value.str (Str.ofString "_law_asked_right") 2206) (Value.ref 1440)) :: (DictEntry.mk (PyData.keyHash P (Str.ofString "_law_turn_right")) (Value.str (Str.ofString "_law_turn_right") 2222) (Value.ref 1447)) :: (DictEntry.mk (PyData.keyHash P (Str.ofString "_law_sockets")) (Value.str (Str.ofString "_law_sockets") 2229) (Value.ref 1454)) :: (DictEntry.mk (PyData.keyHash P (Str.ofString "_law_own_ports_right")) (Value.str (Str.ofString "_law_own_ports_right") 2242) (Value.ref 1461)) :: (DictEntry.mk (PyData.keyHash P (Str.ofString "_law_told")) (Value.str (Str.ofString "_law_told") 2249) (Value.ref 1468)) :: (DictEntry.mk (PyData.keyHash P (Str.ofString "law")) (Value.str (Str.ofString "law") 2258) (Value.ref 1475)) :: [])) 104) (List.toArray []))) ::
  (nat_lit 34, (Obj.mk (Value.type "code") none (Data.fields (List.toArray [(Value.str (Str.ofString "__init__") 208), (Value.str (Str.ofString "StackError.__init__") 209), (Value.str (Str.ofString "/claim/cut.py") 210), (Value.int 7 0), (Value.int 2 0), (Value.int 0 0), (Value.int 0 0), (Value.int 3 0), (Value.ref 29), (Value.bool true), (Value.int 181 0), (Value.ref 30), Value.none, (Value.ref 31), (Value.ref 32), (Value.ref 33), (Value.int 213 0), (Value.int 7 0), (Value.str (Str.ofString "/claim/cut.py") 214)])) (List.toArray []))) ::
  (nat_lit 35, (Obj.mk (Value.type "function") none (Data.func (FuncData.mk (Str.ofString "__init__") (Str.ofString "StackError.__init__") (Arguments.mk [] [(Arg.mk (Str.ofString "self") none ⟨7, 17, 7, 21⟩), (Arg.mk (Str.ofString "message") none ⟨7, 23, 7, 30⟩)] none [] [] none []) (FuncBody.stmts [(Stmt.Assign [(Expr.Attribute (Expr.Name (Str.ofString "self") ⟨8, 8, 8, 12⟩) (Str.ofString "message") ⟨8, 8, 8, 20⟩)] (Expr.Name (Str.ofString "message") ⟨8, 23, 8, 30⟩) ⟨8, 8, 8, 30⟩)]) (Scope.mk ScopeKind.function [((Str.ofString "self"), NameKind.local), ((Str.ofString "message"), NameKind.local)] false false []) 3 [] Value.none Value.none Value.none (Value.str (Str.ofString "thinstack.errors") 194) none (Value.ref 34) Value.none 0)) (List.toArray []))) ::
  (nat_lit 37, (Obj.mk (Value.type "dict") none (Data.dict (List.toArray [(DictEntry.mk (PyData.keyHash P (Str.ofString "__module__")) (Value.str (Str.ofString "__module__") 203) (Value.str (Str.ofString "thinstack.errors") 194)), (DictEntry.mk (PyData.keyHash P (Str.ofString "__firstlineno__")) (Value.str (Str.ofString "__firstlineno__") 207) (Value.int 5 206)), (DictEntry.mk (PyData.keyHash P (Str.ofString "__init__")) (Value.str (Str.ofString "__init__") 215) (Value.ref 35)), (DictEntry.mk (PyData.keyHash P (Str.ofString "__static_attributes__")) (Value.str (Str.ofString "__static_attributes__") 217) (Value.ref 36)), (DictEntry.mk (PyData.keyHash P (Str.ofString "__weakref__")) (Value.str (Str.ofString "__weakref__") 219) (Value.ref 39)), (DictEntry.mk (PyData.keyHash P (Str.ofString "__doc__")) (Value.str (Str.ofString "__doc__") 220) Value.none)]) 3) (List.toArray []))) ::
  (nat_lit 38, (Obj.mk (Value.type "type") none (Data.cls (ClassData.mk (Str.ofString "StackError") [(Value.type "Exception")] [(Value.ref 38), (Value.type "Exception"), (Value.type "BaseException"), (Value.type "object")] 37 (Str.ofString "StackError") true [] [(Value.ref 51), (Value.ref 63), (Value.ref 75), (Value.ref 87), (Value.ref 99)] false none false)) (List.toArray [(some (Value.ref 22)), none, (some (Value.str (Str.ofString "StackError") 196)), (some (Value.str (Str.ofString "StackError") 204)), (some (Value.builtin "Exception.__new__")), (some (Value.bool true))]))) ::
  (nat_lit 61, (Obj.mk (Value.type "tuple") none (Data.seq (List.toArray []) 0) (List.toArray []))) ::
  (nat_lit 62, (Obj.mk (Value.type "dict") none (Data.dict (List.toArray [(DictEntry.mk (PyData.keyHash P (Str.ofString "__module__")) (Value.str (Str.ofString "__module__") 248) (Value.str (Str.ofString "thinstack.errors") 194)), (DictEntry.mk (PyData.keyHash P (Str.ofString "__firstlineno__")) (Value.str (Str.ofString "__firstlineno__") 252) (Value.int 11 251)), (DictEntry.mk (PyData.keyHash P (Str.ofString "__static_attributes__")) (Value.str (Str.ofString "__static_attributes__") 253) (Value.ref 61)), (DictEntry.mk (PyData.keyHash P (Str.ofString "__doc__")) (Value.str (Str.ofString "__doc__") 254) Value.none)]) 2) (List.toArray []))) ::
  (nat_lit 63, (Obj.mk (Value.type "type") none (Data.cls (ClassData.mk (Str.ofString "PortError") [(Value.ref 38)] [(Value.ref 63), (Value.ref 38), (Value.type "Exception"), (Value.type "BaseException"), (Value.type "object")] 62 (Str.ofString "PortError") true [] [] false none false)) (List.toArray [(some (Value.ref 54)), none, (some (Value.str (Str.ofString "PortError") 241)), (some (Value.str (Str.ofString "PortError") 249)), (some (Value.builtin "Exception.__new__")), (some (Value.bool true))]))) ::
  (nat_lit 114, (Obj.mk (Value.type "code") none (Data.fields (List.toArray [(Value.str (Str.ofString "__init__") 321), (Value.str (Str.ofString "Ports.__init__") 322), (Value.str (Str.ofString "/claim/cut.py") 323), (Value.int 23 0), (Value.int 3 0), (Value.int 0 0), (Value.int 0 0), (Value.int 3 0), (Value.ref 109), (Value.bool true), (Value.int 181 0), (Value.ref 110), Value.none, (Value.ref 111), (Value.ref 112), (Value.ref 113), (Value.int 327 0), (Value.int 23 0), (Value.str (Str.ofString "/claim/cut.py") 328)])) (List.toArray []))) ::
  (nat_lit 115, (Obj.mk (Value.type "function") none (Data.func (FuncData.mk (Str.ofString "__init__") (Str.ofString "Ports.__init__") (Arguments.mk [] [(Arg.mk (Str.ofString "self") none ⟨23, 17, 23, 21⟩), (Arg.mk (Str.ofString "first") none ⟨23, 23, 23, 28⟩), (Arg.mk (Str.ofString "last") none ⟨23, 30, 23, 34⟩)] none [] [] none []) (FuncBody.stmts [(Stmt.If (Expr.UnaryOp UnaryOp.Not (Expr.Compare (Expr.Constant (Const.int 1) 0 ⟨24, 15, 24, 16⟩) [CmpOp.LtE, CmpOp.LtE, CmpOp.LtE] [(Expr.Name (Str.ofString "first") ⟨24, 20, 24, 25⟩), (Expr.Name (Str.ofString "last") ⟨24, 29, 24, 33⟩), (Expr.Name (Str.ofString "MOST_PORT") ⟨24, 37, 24, 46⟩)] ⟨24, 15, 24, 46⟩) ⟨24, 11, 24, 46⟩) [(Stmt.Raise (some (Expr.Call (Expr.Name (Str.ofString "PortError") ⟨25, 18, 25, 27⟩) [(Expr.Constant (Const.str (Str.ofString "no such range of ports")) 0 ⟨25, 28, 25, 52⟩)] [] ⟨25, 18, 25, 53⟩)) none ⟨25, 12, 25, 53⟩)] [] ⟨24, 8, 25, 53⟩), (Stmt.Assign [(Expr.Attribute (Expr.Name (Str.ofString "self") ⟨26, 8, 26, 12⟩) (Str.ofString "first") ⟨26, 8, 26, 18⟩)] (Expr.Name (Str.ofString "first") ⟨26, 21, 26, 26⟩) ⟨26, 8, 26, 26⟩), (Stmt.Assign [(Expr.Attribute (Expr.Name (Str.ofString "self") ⟨27, 8, 27, 12⟩) (Str.ofString "last") ⟨27, 8, 27, 17⟩)] (Expr.Name (Str.ofString "last") ⟨27, 20, 27, 24⟩) ⟨27, 8, 27, 24⟩), (Stmt.Assign [(Expr.Attribute (Expr.Name (Str.ofString "self") ⟨28, 8, 28, 12⟩) (Str.ofString "following") ⟨28, 8, 28, 22⟩)] (Expr.Name (Str.ofString "first") ⟨28, 25, 28, 30⟩) ⟨28, 8, 28, 30⟩), (Stmt.Assign [(Expr.Attribute (Expr.Name (Str.ofString "self") ⟨29, 8, 29, 12⟩) (Str.ofString "taken") ⟨29, 8, 29, 18⟩)] (Expr.Dict [] [] ⟨29, 21, 29, 23⟩) ⟨29, 8, 29, 23⟩)]) (Scope.mk ScopeKind.function [((Str.ofString "self"), NameKind.local), ((Str.ofString "first"), NameKind.local), ((Str.ofString "last"), NameKind.local), ((Str.ofString "MOST_PORT"), NameKind.globalImplicit), ((Str.ofString "PortError"), NameKind.globalImplicit)] false false []) 3 [] Value.none Value.none Value.none (Value.str (Str.ofString "thinstack.ports") 305) none (Value.ref 114) Value.none 0)) (List.toArray []))) ::
  (nat_lit 121, (Obj.mk (Value.type "code") none (Data.fields (List.toArray [(Value.str (Str.ofString "is_taken") 330), (Value.str (Str.ofString "Ports.is_taken") 331), (Value.str (Str.ofString "/claim/cut.py") 332), (Value.int 31 0), (Value.int 2 0), (Value.int 0 0), (Value.int 0 0), (Value.int 3 0), (Value.ref 116), (Value.bool true), (Value.int 181 0), (Value.ref 117), Value.none, (Value.ref 118), (Value.ref 119), (Value.ref 120), (Value.int 335 0), (Value.int 31 0), (Value.str (Str.ofString "/claim/cut.py") 336)])) (List.toArray []))) ::
  (nat_lit 122, (Obj.mk (Value.type "function") none (Data.func (FuncData.mk (Str.ofString "is_taken") (Str.ofString "Ports.is_taken") (Arguments.mk [] [(Arg.mk (Str.ofString "self") none ⟨31, 17, 31, 21⟩), (Arg.mk (Str.ofString "number") none ⟨31, 23, 31, 29⟩)] none [] [] none []) (FuncBody.stmts [(Stmt.Return (some (Expr.Compare (Expr.Name (Str.ofString "number") ⟨32, 15, 32, 21⟩) [CmpOp.In] [(Expr.Attribute (Expr.Name (Str.ofString "self") ⟨32, 25, 32, 29⟩) (Str.ofString "taken") ⟨32, 25, 32, 35⟩)] ⟨32, 15, 32, 35⟩)) ⟨32, 8, 32, 35⟩)]) (Scope.mk ScopeKind.function [((Str.ofString "self"), NameKind.local), ((Str.ofString "number"), NameKind.local)] false false []) 3 [] Value.none Value.none Value.none (Value.str (Str.ofString "thinstack.ports") 305) none (Value.ref 121) Value.none 0)) (List.toArray []))) ::
  (nat_lit 123, (Obj.mk (Value.type "tuple") none (Data.seq (List.toArray [(Value.int 0 338)]) 0) (List.toArray []))) ::
  (nat_lit 129, (Obj.mk (Value.type "code") none (Data.fields (List.toArray [(Value.str (Str.ofString "take") 339), (Value.str (Str.ofString "Ports.take") 340), (Value.str (Str.ofString "/claim/cut.py") 341), (Value.int 34 0), (Value.int 2 0), (Value.int 0 0), (Value.int 0 0), (Value.int 3 0), (Value.ref 124), (Value.bool true), (Value.int 181 0), (Value.ref 125), Value.none, (Value.ref 126), (Value.ref 127), (Value.ref 128), (Value.int 344 0), (Value.int 34 0), (Value.str (Str.ofString "/claim/cut.py") 345)])) (List.toArray []))) ::
  (nat_lit 130, (Obj.mk (Value.type "function") none (Data.func (FuncData.mk (Str.ofString "take") (Str.ofString "Ports.take") (Arguments.mk [] [(Arg.mk (Str.ofString "self") none ⟨34, 13, 34, 17⟩), (Arg.mk (Str.ofString "number") none ⟨34, 19, 34, 25⟩)] none [] [] none [(Expr.Constant (Const.int 0) 0 ⟨34, 26, 34, 27⟩)]) (FuncBody.stmts [(Stmt.If (Expr.Compare (Expr.Name (Str.ofString "number") ⟨35, 11, 35, 17⟩) [CmpOp.Eq] [(Expr.Constant (Const.int 0) 0 ⟨35, 21, 35, 22⟩)] ⟨35, 11, 35, 22⟩) [(Stmt.Assign [(Expr.Name (Str.ofString "number") ⟨36, 12, 36, 18⟩)] (Expr.Call (Expr.Attribute (Expr.Name (Str.ofString "self") ⟨36, 21, 36, 25⟩) (Str.ofString "next_free") ⟨36, 21, 36, 35⟩) [] [] ⟨36, 21, 36, 37⟩) ⟨36, 12, 36, 37⟩)] [(Stmt.If (Expr.UnaryOp UnaryOp.Not (Expr.Compare (Expr.Constant (Const.int 1) 0 ⟨37, 17, 37, 18⟩) [CmpOp.LtE, CmpOp.LtE] [(Expr.Name (Str.ofString "number") ⟨37, 22, 37, 28⟩), (Expr.Name (Str.ofString "MOST_PORT") ⟨37, 32, 37, 41⟩)] ⟨37, 17, 37, 41⟩) ⟨37, 13, 37, 41⟩) [(Stmt.Raise (some (Expr.Call (Expr.Name (Str.ofString "PortError") ⟨38, 18, 38, 27⟩) [(Expr.BinOp (Expr.Constant (Const.str (Str.ofString "no such port: ")) 0 ⟨38, 28, 38, 44⟩) Operator.Add (Expr.Call (Expr.Name (Str.ofString "str") ⟨38, 47, 38, 50⟩) [(Expr.Name (Str.ofString "number") ⟨38, 51, 38, 57⟩)] [] ⟨38, 47, 38, 58⟩) ⟨38, 28, 38, 58⟩)] [] ⟨38, 18, 38, 59⟩)) none ⟨38, 12, 38, 59⟩)] [(Stmt.If (Expr.Call (Expr.Attribute (Expr.Name (Str.ofString "self") ⟨39, 13, 39, 17⟩) (Str.ofString "is_taken") ⟨39, 13, 39, 26⟩) [(Expr.Name (Str.ofString "number") ⟨39, 27, 39, 33⟩)] [] ⟨39, 13, 39, 34⟩) [(Stmt.Raise (some (Expr.Call (Expr.Name (Str.ofString "PortError") ⟨40, 18, 40, 27⟩) [(Expr.BinOp (Expr.BinOp (Expr.Constant (Const.str (Str.ofString "port ")) 0 ⟨40, 28, 40, 35⟩) Operator.Add (Expr.Call (Expr.Name (Str.ofString "str") ⟨40, 38, 40, 41⟩) [(Expr.Name (Str.ofString "number") ⟨40, 42, 40, 48⟩)] [] ⟨40, 38, 40, 49⟩) ⟨40, 28, 40, 49⟩) Operator.Add (Expr.Constant (Const.str (Str.ofString " is taken")) 0 ⟨40, 52, 40, 63⟩) ⟨40, 28, 40, 63⟩)] [] ⟨40, 18, 40, 64⟩)) none ⟨40, 12, 40, 64⟩)] [] ⟨39, 8, 40, 64⟩)] ⟨37, 8, 40, 64⟩)] ⟨35, 8, 40, 64⟩), (Stmt.Assign [(Expr.Subscript (Expr.Attribute (Expr.Name (Str.ofString "self") ⟨41, 8, 41, 12⟩) (Str.ofString "taken") ⟨41, 8, 41, 18⟩) (Expr.Name (Str.ofString "number") ⟨41, 19, 41, 25⟩) ⟨41, 8, 41, 26⟩)] (Expr.Constant (Const.bool true) 0 ⟨41, 29, 41, 33⟩) ⟨41, 8, 41, 33⟩), (Stmt.Return (some (Expr.Name (Str.ofString "number") ⟨42, 15, 42, 21⟩)) ⟨42, 8, 42, 21⟩)]) (Scope.mk ScopeKind.function [((Str.ofString "self"), NameKind.local), ((Str.ofString "number"), NameKind.local), ((Str.ofString "MOST_PORT"), NameKind.globalImplicit), ((Str.ofString "PortError"), NameKind.globalImplicit), ((Str.ofString "str"), NameKind.globalImplicit)] false false []) 3 [] (Value.ref 123) Value.none Value.none (Value.str (Str.ofString "thinstack.ports") 305) none (Value.ref 129) Value.none 0)) (List.toArray []))) ::
  (nat_lit 136, (Obj.mk (Value.type "code") none (Data.fields (List.toArray [(Value.str (Str.ofString "next_free") 347), (Value.str (Str.ofString "Ports.next_free") 348), (Value.str (Str.ofString "/claim/cut.py") 349), (Value.int 44 0), (Value.int 1 0), (Value.int 0 0), (Value.int 0 0), (Value.int 3 0), (Value.ref 131), (Value.bool true), (Value.int 181 0), (Value.ref 132), Value.none, (Value.ref 133), (Value.ref 134), (Value.ref 135), (Value.int 353 0), (Value.int 44 0), (Value.str (Str.ofString "/claim/cut.py") 354)])) (List.toArray []))) ::
  (nat_lit 137, (Obj.mk (Value.type "function") none (Data.func (FuncData.mk (Str.ofString "next_free") (Str.ofString "Ports.next_free") (Arguments.mk [] [(Arg.mk (Str.ofString "self") none ⟨44, 18, 44, 22⟩)] none [] [] none []) (FuncBody.stmts [(Stmt.Assign [(Expr.Name (Str.ofString "number") ⟨45, 8, 45, 14⟩)] (Expr.Attribute (Expr.Name (Str.ofString "self") ⟨45, 17, 45, 21⟩) (Str.ofString "following") ⟨45, 17, 45, 31⟩) ⟨45, 8, 45, 31⟩), (Stmt.For (Expr.Name (Str.ofString "turn") ⟨46, 12, 46, 16⟩) (Expr.Call (Expr.Name (Str.ofString "range") ⟨46, 20, 46, 25⟩) [(Expr.BinOp (Expr.BinOp (Expr.Attribute (Expr.Name (Str.ofString "self") ⟨46, 26, 46, 30⟩) (Str.ofString "last") ⟨46, 26, 46, 35⟩) Operator.Sub (Expr.Attribute (Expr.Name (Str.ofString "self") ⟨46, 38, 46, 42⟩) (Str.ofString "first") ⟨46, 38, 46, 48⟩) ⟨46, 26, 46, 48⟩) Operator.Add (Expr.Constant (Const.int 1) 0 ⟨46, 51, 46, 52⟩) ⟨46, 26, 46, 52⟩)] [] ⟨46, 20, 46, 53⟩) [(Stmt.If (Expr.UnaryOp UnaryOp.Not (Expr.Call (Expr.Attribute (Expr.Name (Str.ofString "self") ⟨47, 19, 47, 23⟩) (Str.ofString "is_taken") ⟨47, 19, 47, 32⟩) [(Expr.Name (Str.ofString "number") ⟨47, 33, 47, 39⟩)] [] ⟨47, 19, 47, 40⟩) ⟨47, 15, 47, 40⟩) [(Stmt.Assign [(Expr.Attribute (Expr.Name (Str.ofString "self") ⟨48, 16, 48, 20⟩) (Str.ofString "following") ⟨48, 16, 48, 30⟩)] (Expr.Call (Expr.Attribute (Expr.Name (Str.ofString "self") ⟨48, 33, 48, 37⟩) (Str.ofString "behind") ⟨48, 33, 48, 44⟩) [(Expr.Name (Str.ofString "number") ⟨48, 45, 48, 51⟩)] [] ⟨48, 33, 48, 52⟩) ⟨48, 16, 48, 52⟩), (Stmt.Return (some (Expr.Name (Str.ofString "number") ⟨49, 23, 49, 29⟩)) ⟨49, 16, 49, 29⟩)] [] ⟨47, 12, 49, 29⟩), (Stmt.Assign [(Expr.Name (Str.ofString "number") ⟨50, 12, 50, 18⟩)] (Expr.Call (Expr.Attribute (Expr.Name (Str.ofString "self") ⟨50, 21, 50, 25⟩) (Str.ofString "behind") ⟨50, 21, 50, 32⟩) [(Expr.Name (Str.ofString "number") ⟨50, 33, 50, 39⟩)] [] ⟨50, 21, 50, 40⟩) ⟨50, 12, 50, 40⟩)] [] ⟨46, 8, 50, 40⟩), (Stmt.Raise (some (Expr.Call (Expr.Name (Str.ofString "PortError") ⟨51, 14, 51, 23⟩) [(Expr.Constant (Const.str (Str.ofString "all ports are taken")) 0 ⟨51, 24, 51, 45⟩)] [] ⟨51, 14, 51, 46⟩)) none ⟨51, 8, 51, 46⟩)]) (Scope.mk ScopeKind.function [((Str.ofString "self"), NameKind.local), ((Str.ofString "number"), NameKind.local), ((Str.ofString "turn"), NameKind.local), ((Str.ofString "range"), NameKind.globalImplicit), ((Str.ofString "PortError"), NameKind.globalImplicit)] false false []) 3 [] Value.none Value.none Value.none (Value.str (Str.ofString "thinstack.ports") 305) none (Value.ref 136) Value.none 0)) (List.toArray []))) ::
  (nat_lit 143, (Obj.mk (Value.type "code") none (Data.fields (List.toArray [(Value.str (Str.ofString "behind") 356), (Value.str (Str.ofString "Ports.behind") 357), (Value.str (Str.ofString "/claim/cut.py") 358), (Value.int 53 0), (Value.int 2 0), (Value.int 0 0), (Value.int 0 0), (Value.int 3 0), (Value.ref 138), (Value.bool true), (Value.int 181 0), (Value.ref 139), Value.none, (Value.ref 140), (Value.ref 141), (Value.ref 142), (Value.int 361 0), (Value.int 53 0), (Value.str (Str.ofString "/claim/cut.py") 362)])) (List.toArray []))) ::
  (nat_lit 144, (Obj.mk (Value.type "function") none (Data.func (FuncData.mk (Str.ofString "behind") (Str.ofString "Ports.behind") (Arguments.mk [] [(Arg.mk (Str.ofString "self") none ⟨53, 15, 53, 19⟩), (Arg.mk (Str.ofString "number") none ⟨53, 21, 53, 27⟩)] none [] [] none []) (FuncBody.stmts [(Stmt.Return (some (Expr.IfExp (Expr.Compare (Expr.Name (Str.ofString "number") ⟨54, 29, 54, 35⟩) [CmpOp.Eq] [(Expr.Attribute (Expr.Name (Str.ofString "self") ⟨54, 39, 54, 43⟩) (Str.ofString "last") ⟨54, 39, 54, 48⟩)] ⟨54, 29, 54, 48⟩) (Expr.Attribute (Expr.Name (Str.ofString "self") ⟨54, 15, 54, 19⟩) (Str.ofString "first") ⟨54, 15, 54, 25⟩) (Expr.BinOp (Expr.Name (Str.ofString "number") ⟨54, 54, 54, 60⟩) Operator.Add (Expr.Constant (Const.int 1) 0 ⟨54, 63, 54, 64⟩) ⟨54, 54, 54, 64⟩) ⟨54, 15, 54, 64⟩)) ⟨54, 8, 54, 64⟩)]) (Scope.mk ScopeKind.function [((Str.ofString "self"), NameKind.local), ((Str.ofString "number"), NameKind.local)] false false []) 3 [] Value.none Value.none Value.none (Value.str (Str.ofString "thinstack.ports") 305) none (Value.ref 143) Value.none 0)) (List.toArray []))) ::
  (nat_lit 150, (Obj.mk (Value.type "code") none (Data.fields (List.toArray [(Value.str (Str.ofString "free") 364), (Value.str (Str.ofString "Ports.free") 365), (Value.str (Str.ofString "/claim/cut.py") 366), (Value.int 56 0), (Value.int 2 0), (Value.int 0 0), (Value.int 0 0), (Value.int 3 0), (Value.ref 145), (Value.bool true), (Value.int 181 0), (Value.ref 146), Value.none, (Value.ref 147), (Value.ref 148), (Value.ref 149), (Value.int 369 0), (Value.int 56 0), (Value.str (Str.ofString "/claim/cut.py") 370)])) (List.toArray []))) ::
  (nat_lit 151, (Obj.mk (Value.type "function") none (Data.func (FuncData.mk (Str.ofString "free") (Str.ofString "Ports.free") (Arguments.mk [] [(Arg.mk (Str.ofString "self") none ⟨56, 13, 56, 17⟩), (Arg.mk (Str.ofString "number") none ⟨56, 19, 56, 25⟩)] none [] [] none []) (FuncBody.stmts [(Stmt.If (Expr.Compare (Expr.Name (Str.ofString "number") ⟨57, 11, 57, 17⟩) [CmpOp.NotIn] [(Expr.Attribute (Expr.Name (Str.ofString "self") ⟨57, 25, 57, 29⟩) (Str.ofString "taken") ⟨57, 25, 57, 35⟩)] ⟨57, 11, 57, 35⟩) [(Stmt.Raise (some (Expr.Call (Expr.Name (Str.ofString "PortError") ⟨58, 18, 58, 27⟩) [(Expr.BinOp (Expr.BinOp (Expr.Constant (Const.str (Str.ofString "port ")) 0 ⟨58, 28, 58, 35⟩) Operator.Add (Expr.Call (Expr.Name (Str.ofString "str") ⟨58, 38, 58, 41⟩) [(Expr.Name (Str.ofString "number") ⟨58, 42, 58, 48⟩)] [] ⟨58, 38, 58, 49⟩) ⟨58, 28, 58, 49⟩) Operator.Add (Expr.Constant (Const.str (Str.ofString " is not taken")) 0 ⟨58, 52, 58, 67⟩) ⟨58, 28, 58, 67⟩)] [] ⟨58, 18, 58, 68⟩)) none ⟨58, 12, 58, 68⟩)] [] ⟨57, 8, 58, 68⟩), (Stmt.Expr (Expr.Call (Expr.Attribute (Expr.Attribute (Expr.Name (Str.ofString "self") ⟨59, 8, 59, 12⟩) (Str.ofString "taken") ⟨59, 8, 59, 18⟩) (Str.ofString "pop") ⟨59, 8, 59, 22⟩) [(Expr.Name (Str.ofString "number") ⟨59, 23, 59, 29⟩)] [] ⟨59, 8, 59, 30⟩) ⟨59, 8, 59, 30⟩)]) (Scope.mk ScopeKind.function [((Str.ofString "self"), NameKind.local), ((Str.ofString "number"), NameKind.local), ((Str.ofString "PortError"), NameKind.globalImplicit), ((Str.ofString "str"), NameKind.globalImplicit)] false false []) 3 [] Value.none Value.none Value.none (Value.str (Str.ofString "thinstack.ports") 305) none (Value.ref 150) Value.none 0)) (List.toArray []))) ::
  (nat_lit 153, (Obj.mk (Value.type "dict") none (Data.dict (List.toArray [(DictEntry.mk (PyData.keyHash P (Str.ofString "__module__")) (Value.str (Str.ofString "__module__") 316) (Value.str (Str.ofString "thinstack.ports") 305)), (DictEntry.mk (PyData.keyHash P (Str.ofString "__firstlineno__")) (Value.str (Str.ofString "__firstlineno__") 320) (Value.int 21 319)), (DictEntry.mk (PyData.keyHash P (Str.ofString "__init__")) (Value.str (Str.ofString "__init__") 329) (Value.ref 115)), (DictEntry.mk (PyData.keyHash P (Str.ofString "is_taken")) (Value.str (Str.ofString "is_taken") 337) (Value.ref 122)), (DictEntry.mk (PyData.keyHash P (Str.ofString "take")) (Value.str (Str.ofString "take") 346) (Value.ref 130)), (DictEntry.mk (PyData.keyHash P (Str.ofString "next_free")) (Value.str (Str.ofString "next_free") 355) (Value.ref 137)), (DictEntry.mk (PyData.keyHash P (Str.ofString "behind")) (Value.str (Str.ofString "behind") 363) (Value.ref 144)), (DictEntry.mk (PyData.keyHash P (Str.ofString "free")) (Value.str (Str.ofString "free") 371) (Value.ref 151)), (DictEntry.mk (PyData.keyHash P (Str.ofString "__static_attributes__")) (Value.str (Str.ofString "__static_attributes__") 376) (Value.ref 152)), (DictEntry.mk (PyData.keyHash P (Str.ofString "__dict__")) (Value.str (Str.ofString "__dict__") 378) (Value.ref 155)), (DictEntry.mk (PyData.keyHash P (Str.ofString "__weakref__")) (Value.str (Str.ofString "__weakref__") 380) (Value.ref 156)), (DictEntry.mk (PyData.keyHash P (Str.ofString "__doc__")) (Value.str (Str.ofString "__doc__") 381) Value.none)]) 4) (List.toArray []))) ::
  (nat_lit 154, (Obj.mk (Value.type "type") none (Data.cls (ClassData.mk (Str.ofString "Ports") [(Value.type "object")] [(Value.ref 154), (Value.type "object")] 153 (Str.ofString "Ports") true [] [] false none false)) (List.toArray [none, none, (some (Value.str (Str.ofString "Ports") 309)), (some (Value.str (Str.ofString "Ports") 317)), (some (Value.builtin "object.__new__")), (some (Value.bool true))]))) ::
  (nat_lit 928, (Obj.mk (Value.type "code") none (Data.fields (List.toArray [(Value.str (Str.ofString "__init__") 1448), (Value.str (Str.ofString "Limits.__init__") 1449), (Value.str (Str.ofString "/claim/cut.py") 1450), (Value.int 569 0), (Value.int 11 0), (Value.int 0 0), (Value.int 0 0), (Value.int 3 0), (Value.ref 923), (Value.bool true), (Value.int 181 0), (Value.ref 924), Value.none, (Value.ref 925), (Value.ref 926), (Value.ref 927), (Value.int 1462 0), (Value.int 569 0), (Value.str (Str.ofString "/claim/cut.py") 1463)])) (List.toArray []))) ::
  (nat_lit 929, (Obj.mk (Value.type "function") none (Data.func (FuncData.mk (Str.ofString "__init__") (Str.ofString "Limits.__init__") (Arguments.mk [] [(Arg.mk (Str.ofString "self") none ⟨569, 17, 569, 21⟩), (Arg.mk (Str.ofString "ring") none ⟨569, 23, 569, 27⟩), (Arg.mk (Str.ofString "mss") none ⟨569, 29, 569, 32⟩), (Arg.mk (Str.ofString "send_room") none ⟨569, 34, 569, 43⟩), (Arg.mk (Str.ofString "receive_room") none ⟨569, 45, 569, 57⟩), (Arg.mk (Str.ofString "first_timeout") none ⟨569, 59, 569, 72⟩), (Arg.mk (Str.ofString "least_timeout") none ⟨569, 74, 569, 87⟩), (Arg.mk (Str.ofString "most_timeout") none ⟨569, 89, 569, 101⟩), (Arg.mk (Str.ofString "most_tries") none ⟨569, 103, 569, 113⟩), (Arg.mk (Str.ofString "ack_delay") none ⟨569, 115, 569, 124⟩), (Arg.mk (Str.ofString "time_wait") none ⟨569, 126, 569, 135⟩)] none [] [] none []) (FuncBody.stmts [(Stmt.Assign [(Expr.Attribute (Expr.Name (Str.ofString "self") ⟨570, 8, 570, 12⟩) (Str.ofString "ring") ⟨570, 8, 570, 17⟩)] (Expr.Name (Str.ofString "ring") ⟨570, 20, 570, 24⟩) ⟨570, 8, 570, 24⟩), (Stmt.Assign [(Expr.Attribute (Expr.Name (Str.ofString "self") ⟨571, 8, 571, 12⟩) (Str.ofString "mss") ⟨571, 8, 571, 16⟩)] (Expr.Name (Str.ofString "mss") ⟨571, 19, 571, 22⟩) ⟨571, 8, 571, 22⟩), (Stmt.Assign [(Expr.Attribute (Expr.Name (Str.ofString "self") ⟨572, 8, 572, 12⟩) (Str.ofString "send_room") ⟨572, 8, 572, 22⟩)] (Expr.Name (Str.ofString "send_room") ⟨572, 25, 572, 34⟩) ⟨572, 8, 572, 34⟩), (Stmt.Assign [(Expr.Attribute (Expr.Name (Str.ofString "self") ⟨573, 8, 573, 12⟩) (Str.ofString "receive_room") ⟨573, 8, 573, 25⟩)] (Expr.Name (Str.ofString "receive_room") ⟨573, 28, 573, 40⟩) ⟨573, 8, 573, 40⟩), (Stmt.Assign [(Expr.Attribute (Expr.Name (Str.ofString "self") ⟨574, 8, 574, 12⟩) (Str.ofString "first_timeout") ⟨574, 8, 574, 26⟩)] (Expr.Name (Str.ofString "first_timeout") ⟨574, 29, 574, 42⟩) ⟨574, 8, 574, 42⟩), (Stmt.Assign [(Expr.Attribute (Expr.Name (Str.ofString "self") ⟨575, 8, 575, 12⟩) (Str.ofString "least_timeout") ⟨575, 8, 575, 26⟩)] (Expr.Name (Str.ofString "least_timeout") ⟨575, 29, 575, 42⟩) ⟨575, 8, 575, 42⟩), (Stmt.Assign [(Expr.Attribute (Expr.Name (Str.ofString "self") ⟨576, 8, 576, 12⟩) (Str.ofString "most_timeout") ⟨576, 8, 576, 25⟩)] (Expr.Name (Str.ofString "most_timeout") ⟨576, 28, 576, 40⟩) ⟨576, 8, 576, 40⟩), (Stmt.Assign [(Expr.Attribute (Expr.Name (Str.ofString "self") ⟨577, 8, 577, 12⟩) (Str.ofString "most_tries") ⟨577, 8, 577, 23⟩)] (Expr.Name (Str.ofString "most_tries") ⟨577, 26, 577, 36⟩) ⟨577, 8, 577, 36⟩), (Stmt.Assign [(Expr.Attribute (Expr.Name (Str.ofString "self") ⟨578, 8, 578, 12⟩) (Str.ofString "ack_delay") ⟨578, 8, 578, 22⟩)] (Expr.Name (Str.ofString "ack_delay") ⟨578, 25, 578, 34⟩) ⟨578, 8, 578, 34⟩), (Stmt.Assign [(Expr.Attribute (Expr.Name (Str.ofString "self") ⟨579, 8, 579, 12⟩) (Str.ofString "time_wait") ⟨579, 8, 579, 22⟩)] (Expr.Name (Str.ofString "time_wait") ⟨579, 25, 579, 34⟩) ⟨579, 8, 579, 34⟩)]) (Scope.mk ScopeKind.function [((Str.ofString "self"), NameKind.local), ((Str.ofString "ring"), NameKind.local), ((Str.ofString "mss"), NameKind.local), ((Str.ofString "send_room"), NameKind.local), ((Str.ofString "receive_room"), NameKind.local), ((Str.ofString "first_timeout"), NameKind.local), ((Str.ofString "least_timeout"), NameKind.local), ((Str.ofString "most_timeout"), NameKind.local), ((Str.ofString "most_tries"), NameKind.local), ((Str.ofString "ack_delay"), NameKind.local), ((Str.ofString "time_wait"), NameKind.local)] false false []) 3 [] Value.none Value.none Value.none (Value.str (Str.ofString "thinstack.tcb") 1424) none (Value.ref 928) Value.none 0)) (List.toArray []))) ::
  (nat_lit 931, (Obj.mk (Value.type "dict") none (Data.dict (List.toArray [(DictEntry.mk (PyData.keyHash P (Str.ofString "__module__")) (Value.str (Str.ofString "__module__") 1443) (Value.str (Str.ofString "thinstack.tcb") 1424)), (DictEntry.mk (PyData.keyHash P (Str.ofString "__firstlineno__")) (Value.str (Str.ofString "__firstlineno__") 1447) (Value.int 567 1446)), (DictEntry.mk (PyData.keyHash P (Str.ofString "__init__")) (Value.str (Str.ofString "__init__") 1464) (Value.ref 929)), (DictEntry.mk (PyData.keyHash P (Str.ofString "__static_attributes__")) (Value.str (Str.ofString "__static_attributes__") 1475) (Value.ref 930)), (DictEntry.mk (PyData.keyHash P (Str.ofString "__dict__")) (Value.str (Str.ofString "__dict__") 1477) (Value.ref 933)), (DictEntry.mk (PyData.keyHash P (Str.ofString "__weakref__")) (Value.str (Str.ofString "__weakref__") 1479) (Value.ref 934)), (DictEntry.mk (PyData.keyHash P (Str.ofString "__doc__")) (Value.str (Str.ofString "__doc__") 1480) Value.none)]) 4) (List.toArray []))) ::
  (nat_lit 932, (Obj.mk (Value.type "type") none (Data.cls (ClassData.mk (Str.ofString "Limits") [(Value.type "object")] [(Value.ref 932), (Value.type "object")] 931 (Str.ofString "Limits") true [] [] false none false)) (List.toArray [none, none, (some (Value.str (Str.ofString "Limits") 1436)), (some (Value.str (Str.ofString "Limits") 1444)), (some (Value.builtin "object.__new__")), (some (Value.bool true))]))) ::
  (nat_lit 1098, (Obj.mk (Value.type "code") none (Data.fields (List.toArray [(Value.str (Str.ofString "__init__") 1716), (Value.str (Str.ofString "TcpTable.__init__") 1717), (Value.str (Str.ofString "/claim/cut.py") 1718), (Value.int 726 0), (Value.int 1 0), (Value.int 0 0), (Value.int 0 0), (Value.int 3 0), (Value.ref 1093), (Value.bool true), (Value.int 181 0), (Value.ref 1094), Value.none, (Value.ref 1095), (Value.ref 1096), (Value.ref 1097), (Value.int 1720 0), (Value.int 726 0), (Value.str (Str.ofString "/claim/cut.py") 1721)])) (List.toArray []))) ::
  (nat_lit 1099, (Obj.mk (Value.type "function") none (Data.func (FuncData.mk (Str.ofString "__init__") (Str.ofString "TcpTable.__init__") (Arguments.mk [] [(Arg.mk (Str.ofString "self") none ⟨726, 17, 726, 21⟩)] none [] [] none []) (FuncBody.stmts [(Stmt.Assign [(Expr.Attribute (Expr.Name (Str.ofString "self") ⟨727, 8, 727, 12⟩) (Str.ofString "connections") ⟨727, 8, 727, 24⟩)] (Expr.Dict [] [] ⟨727, 27, 727, 29⟩) ⟨727, 8, 727, 29⟩), (Stmt.Assign [(Expr.Attribute (Expr.Name (Str.ofString "self") ⟨728, 8, 728, 12⟩) (Str.ofString "listeners") ⟨728, 8, 728, 22⟩)] (Expr.Dict [] [] ⟨728, 25, 728, 27⟩) ⟨728, 8, 728, 27⟩)]) (Scope.mk ScopeKind.function [((Str.ofString "self"), NameKind.local)] false false []) 3 [] Value.none Value.none Value.none (Value.str (Str.ofString "thinstack.tcp_table") 1702) none (Value.ref 1098) Value.none 0)) (List.toArray []))) ::
  (nat_lit 1105, (Obj.mk (Value.type "code") none (Data.fields (List.toArray [(Value.str (Str.ofString "listen") 1723), (Value.str (Str.ofString "TcpTable.listen") 1724), (Value.str (Str.ofString "/claim/cut.py") 1725), (Value.int 730 0), (Value.int 4 0), (Value.int 0 0), (Value.int 0 0), (Value.int 3 0), (Value.ref 1100), (Value.bool true), (Value.int 181 0), (Value.ref 1101), Value.none, (Value.ref 1102), (Value.ref 1103), (Value.ref 1104), (Value.int 1730 0), (Value.int 730 0), (Value.str (Str.ofString "/claim/cut.py") 1731)])) (List.toArray []))) ::
  (nat_lit 1106, (Obj.mk (Value.type "function") none (Data.func (FuncData.mk (Str.ofString "listen") (Str.ofString "TcpTable.listen") (Arguments.mk [] [(Arg.mk (Str.ofString "self") none ⟨730, 15, 730, 19⟩), (Arg.mk (Str.ofString "address") none ⟨730, 21, 730, 28⟩), (Arg.mk (Str.ofString "port") none ⟨730, 30, 730, 34⟩), (Arg.mk (Str.ofString "owner") none ⟨730, 36, 730, 41⟩)] none [] [] none []) (FuncBody.stmts [(Stmt.If (Expr.Compare (Expr.Tuple [(Expr.Name (Str.ofString "address") ⟨731, 12, 731, 19⟩), (Expr.Name (Str.ofString "port") ⟨731, 21, 731, 25⟩)] 0 ⟨731, 11, 731, 26⟩) [CmpOp.In] [(Expr.Attribute (Expr.Name (Str.ofString "self") ⟨731, 30, 731, 34⟩) (Str.ofString "listeners") ⟨731, 30, 731, 44⟩)] ⟨731, 11, 731, 44⟩) [(Stmt.Raise (some (Expr.Call (Expr.Name (Str.ofString "PortError") ⟨732, 18, 732, 27⟩) [(Expr.Constant (Const.str (Str.ofString "a listener is there already")) 0 ⟨732, 28, 732, 57⟩)] [] ⟨732, 18, 732, 58⟩)) none ⟨732, 12, 732, 58⟩)] [] ⟨731, 8, 732, 58⟩), (Stmt.Assign [(Expr.Subscript (Expr.Attribute (Expr.Name (Str.ofString "self") ⟨733, 8, 733, 12⟩) (Str.ofString "listeners") ⟨733, 8, 733, 22⟩) (Expr.Tuple [(Expr.Name (Str.ofString "address") ⟨733, 23, 733, 30⟩), (Expr.Name (Str.ofString "port") ⟨733, 32, 733, 36⟩)] 0 ⟨733, 23, 733, 36⟩) ⟨733, 8, 733, 37⟩)] (Expr.Name (Str.ofString "owner") ⟨733, 40, 733, 45⟩) ⟨733, 8, 733, 45⟩)]) (Scope.mk ScopeKind.function [((Str.ofString "self"), NameKind.local), ((Str.ofString "address"), NameKind.local), ((Str.ofString "port"), NameKind.local), ((Str.ofString "owner"), NameKind.local), ((Str.ofString "PortError"), NameKind.globalImplicit)] false false []) 3 [] Value.none Value.none Value.none (Value.str (Str.ofString "thinstack.tcp_table") 1702) none (Value.ref 1105) Value.none 0)) (List.toArray []))) ::
  (nat_lit 1112, (Obj.mk (Value.type "code") none (Data.fields (List.toArray [(Value.str (Str.ofString "connect") 1733), (Value.str (Str.ofString "TcpTable.connect") 1734), (Value.str (Str.ofString "/claim/cut.py") 1735), (Value.int 735 0), (Value.int 4 0), (Value.int 0 0), (Value.int 0 0), (Value.int 3 0), (Value.ref 1107), (Value.bool true), (Value.int 181 0), (Value.ref 1108), Value.none, (Value.ref 1109), (Value.ref 1110), (Value.ref 1111), (Value.int 1740 0), (Value.int 735 0), (Value.str (Str.ofString "/claim/cut.py") 1741)])) (List.toArray []))) ::
  (nat_lit 1113, (Obj.mk (Value.type "function") none (Data.func (FuncData.mk (Str.ofString "connect") (Str.ofString "TcpTable.connect") (Arguments.mk [] [(Arg.mk (Str.ofString "self") none ⟨735, 16, 735, 20⟩), (Arg.mk (Str.ofString "local") none ⟨735, 22, 735, 27⟩), (Arg.mk (Str.ofString "remote") none ⟨735, 29, 735, 35⟩), (Arg.mk (Str.ofString "owner") none ⟨735, 37, 735, 42⟩)] none [] [] none []) (FuncBody.stmts [(Stmt.If (Expr.Compare (Expr.Tuple [(Expr.Name (Str.ofString "local") ⟨736, 12, 736, 17⟩), (Expr.Name (Str.ofString "remote") ⟨736, 19, 736, 25⟩)] 0 ⟨736, 11, 736, 26⟩) [CmpOp.In] [(Expr.Attribute (Expr.Name (Str.ofString "self") ⟨736, 30, 736, 34⟩) (Str.ofString "connections") ⟨736, 30, 736, 46⟩)] ⟨736, 11, 736, 46⟩) [(Stmt.Raise (some (Expr.Call (Expr.Name (Str.ofString "PortError") ⟨737, 18, 737, 27⟩) [(Expr.Constant (Const.str (Str.ofString "a connection is there already")) 0 ⟨737, 28, 737, 59⟩)] [] ⟨737, 18, 737, 60⟩)) none ⟨737, 12, 737, 60⟩)] [] ⟨736, 8, 737, 60⟩), (Stmt.Assign [(Expr.Subscript (Expr.Attribute (Expr.Name (Str.ofString "self") ⟨738, 8, 738, 12⟩) (Str.ofString "connections") ⟨738, 8, 738, 24⟩) (Expr.Tuple [(Expr.Name (Str.ofString "local") ⟨738, 25, 738, 30⟩), (Expr.Name (Str.ofString "remote") ⟨738, 32, 738, 38⟩)] 0 ⟨738, 25, 738, 38⟩) ⟨738, 8, 738, 39⟩)] (Expr.Name (Str.ofString "owner") ⟨738, 42, 738, 47⟩) ⟨738, 8, 738, 47⟩)]) (Scope.mk ScopeKind.function [((Str.ofString "self"), NameKind.local), ((Str.ofString "local"), NameKind.local), ((Str.ofString "remote"), NameKind.local), ((Str.ofString "owner"), NameKind.local), ((Str.ofString "PortError"), NameKind.globalImplicit)] false false []) 3 [] Value.none Value.none Value.none (Value.str (Str.ofString "thinstack.tcp_table") 1702) none (Value.ref 1112) Value.none 0)) (List.toArray []))) ::
  (nat_lit 1117, (Obj.mk (Value.type "code") none (Data.fields (List.toArray [(Value.str (Str.ofString "remove") 1743), (Value.str (Str.ofString "TcpTable.remove") 1744), (Value.str (Str.ofString "/claim/cut.py") 1745), (Value.int 740 0), (Value.int 2 0), (Value.int 0 0), (Value.int 0 0), (Value.int 3 0), (Value.ref 1114), (Value.bool true), (Value.int 181 0), (Value.ref 1115), Value.none, Value.none, Value.none, (Value.ref 1116), (Value.int 1746 0), (Value.int 740 0), (Value.str (Str.ofString "/claim/cut.py") 1747)])) (List.toArray []))) ::
  (nat_lit 1118, (Obj.mk (Value.type "function") none (Data.func (FuncData.mk (Str.ofString "remove") (Str.ofString "TcpTable.remove") (Arguments.mk [] [(Arg.mk (Str.ofString "self") none ⟨740, 15, 740, 19⟩), (Arg.mk (Str.ofString "owner") none ⟨740, 21, 740, 26⟩)] none [] [] none []) (FuncBody.stmts [(Stmt.Assign [(Expr.Name (Str.ofString "many") ⟨741, 8, 741, 12⟩)] (Expr.Constant (Const.int 0) 0 ⟨741, 15, 741, 16⟩) ⟨741, 8, 741, 16⟩), (Stmt.For (Expr.Name (Str.ofString "rows") ⟨742, 12, 742, 16⟩) (Expr.Tuple [(Expr.Attribute (Expr.Name (Str.ofString "self") ⟨742, 21, 742, 25⟩) (Str.ofString "connections") ⟨742, 21, 742, 37⟩), (Expr.Attribute (Expr.Name (Str.ofString "self") ⟨742, 39, 742, 43⟩) (Str.ofString "listeners") ⟨742, 39, 742, 53⟩)] 0 ⟨742, 20, 742, 54⟩) [(Stmt.For (Expr.Name (Str.ofString "key") ⟨743, 16, 743, 19⟩) (Expr.ListComp (Expr.Name (Str.ofString "key") ⟨743, 24, 743, 27⟩) [(Comprehension.mk (Expr.Name (Str.ofString "key") ⟨743, 32, 743, 35⟩) (Expr.Name (Str.ofString "rows") ⟨743, 39, 743, 43⟩) [(Expr.Compare (Expr.Subscript (Expr.Name (Str.ofString "rows") ⟨743, 47, 743, 51⟩) (Expr.Name (Str.ofString "key") ⟨743, 52, 743, 55⟩) ⟨743, 47, 743, 56⟩) [CmpOp.Eq] [(Expr.Name (Str.ofString "owner") ⟨743, 60, 743, 65⟩)] ⟨743, 47, 743, 65⟩)] 0)] (Scope.mk ScopeKind.function [((Str.ofString ".0"), NameKind.local), ((Str.ofString "key"), NameKind.local), ((Str.ofString "owner"), NameKind.free), ((Str.ofString "rows"), NameKind.free)] false false []) ⟨743, 23, 743, 66⟩) [(Stmt.Expr (Expr.Call (Expr.Attribute (Expr.Name (Str.ofString "rows") ⟨744, 16, 744, 20⟩) (Str.ofString "pop") ⟨744, 16, 744, 24⟩) [(Expr.Name (Str.ofString "key") ⟨744, 25, 744, 28⟩)] [] ⟨744, 16, 744, 29⟩) ⟨744, 16, 744, 29⟩), (Stmt.Assign [(Expr.Name (Str.ofString "many") ⟨745, 16, 745, 20⟩)] (Expr.BinOp (Expr.Name (Str.ofString "many") ⟨745, 23, 745, 27⟩) Operator.Add (Expr.Constant (Const.int 1) 0 ⟨745, 30, 745, 31⟩) ⟨745, 23, 745, 31⟩) ⟨745, 16, 745, 31⟩)] [] ⟨743, 12, 745, 31⟩)] [] ⟨742, 8, 745, 31⟩), (Stmt.Return (some (Expr.Name (Str.ofString "many") ⟨746, 15, 746, 19⟩)) ⟨746, 8, 746, 19⟩)]) (Scope.mk ScopeKind.function [((Str.ofString "self"), NameKind.local), ((Str.ofString "owner"), NameKind.cell), ((Str.ofString "many"), NameKind.local), ((Str.ofString "rows"), NameKind.cell), ((Str.ofString "key"), NameKind.local)] false false [((Str.ofString "fast"), (Const.str (Str.ofString "self"))), ((Str.ofString "fast"), (Const.str (Str.ofString "owner"))), ((Str.ofString "fast"), (Const.str (Str.ofString "many"))), ((Str.ofString "fast"), (Const.str (Str.ofString "rows"))), ((Str.ofString "fast"), (Const.str (Str.ofString "key")))]) 3 [] Value.none Value.none Value.none (Value.str (Str.ofString "thinstack.tcp_table") 1702) none (Value.ref 1117) Value.none 0)) (List.toArray []))) ::
  (nat_lit 1129, (Obj.mk (Value.type "code") none (Data.fields (List.toArray [(Value.str (Str.ofString "is_port_used") 1760), (Value.str (Str.ofString "TcpTable.is_port_used") 1761), (Value.str (Str.ofString "/claim/cut.py") 1762), (Value.int 751 0), (Value.int 2 0), (Value.int 0 0), (Value.int 0 0), (Value.int 3 0), (Value.ref 1126), (Value.bool true), (Value.int 181 0), (Value.ref 1127), Value.none, Value.none, Value.none, (Value.ref 1128), (Value.int 1763 0), (Value.int 751 0), (Value.str (Str.ofString "/claim/cut.py") 1764)])) (List.toArray []))) ::
  (nat_lit 1130, (Obj.mk (Value.type "function") none (Data.func (FuncData.mk (Str.ofString "is_port_used") (Str.ofString "TcpTable.is_port_used") (Arguments.mk [] [(Arg.mk (Str.ofString "self") none ⟨751, 21, 751, 25⟩), (Arg.mk (Str.ofString "port") none ⟨751, 27, 751, 31⟩)] none [] [] none []) (FuncBody.stmts [(Stmt.For (Expr.Tuple [(Expr.Name (Str.ofString "local") ⟨752, 12, 752, 17⟩), (Expr.Name (Str.ofString "remote") ⟨752, 19, 752, 25⟩)] 0 ⟨752, 12, 752, 25⟩) (Expr.Attribute (Expr.Name (Str.ofString "self") ⟨752, 29, 752, 33⟩) (Str.ofString "connections") ⟨752, 29, 752, 45⟩) [(Stmt.If (Expr.Compare (Expr.Subscript (Expr.Name (Str.ofString "local") ⟨753, 15, 753, 20⟩) (Expr.Constant (Const.int 1) 0 ⟨753, 21, 753, 22⟩) ⟨753, 15, 753, 23⟩) [CmpOp.Eq] [(Expr.Name (Str.ofString "port") ⟨753, 27, 753, 31⟩)] ⟨753, 15, 753, 31⟩) [(Stmt.Return (some (Expr.Constant (Const.bool true) 0 ⟨754, 23, 754, 27⟩)) ⟨754, 16, 754, 27⟩)] [] ⟨753, 12, 754, 27⟩)] [] ⟨752, 8, 754, 27⟩), (Stmt.Return (some (Expr.Call (Expr.Name (Str.ofString "any") ⟨755, 15, 755, 18⟩) [(Expr.ListComp (Expr.Compare (Expr.Subscript (Expr.Name (Str.ofString "place") ⟨755, 20, 755, 25⟩) (Expr.Constant (Const.int 1) 0 ⟨755, 26, 755, 27⟩) ⟨755, 20, 755, 28⟩) [CmpOp.Eq] [(Expr.Name (Str.ofString "port") ⟨755, 32, 755, 36⟩)] ⟨755, 20, 755, 36⟩) [(Comprehension.mk (Expr.Name (Str.ofString "place") ⟨755, 41, 755, 46⟩) (Expr.Attribute (Expr.Name (Str.ofString "self") ⟨755, 50, 755, 54⟩) (Str.ofString "listeners") ⟨755, 50, 755, 64⟩) [] 0)] (Scope.mk ScopeKind.function [((Str.ofString ".0"), NameKind.local), ((Str.ofString "place"), NameKind.local), ((Str.ofString "port"), NameKind.free)] false false []) ⟨755, 19, 755, 65⟩)] [] ⟨755, 15, 755, 66⟩)) ⟨755, 8, 755, 66⟩)]) (Scope.mk ScopeKind.function [((Str.ofString "self"), NameKind.local), ((Str.ofString "port"), NameKind.cell), ((Str.ofString "local"), NameKind.local), ((Str.ofString "remote"), NameKind.local), ((Str.ofString "any"), NameKind.globalImplicit)] false false [((Str.ofString "fast"), (Const.str (Str.ofString "self"))), ((Str.ofString "fast"), (Const.str (Str.ofString "port"))), ((Str.ofString "fast"), (Const.str (Str.ofString "local"))), ((Str.ofString "fast"), (Const.str (Str.ofString "remote"))), ((Str.ofString "fast"), (Const.str (Str.ofString "place")))]) 3 [] Value.none Value.none Value.none (Value.str (Str.ofString "thinstack.tcp_table") 1702) none (Value.ref 1129) Value.none 0)) (List.toArray []))) ::
  (nat_lit 1137, (Obj.mk (Value.type "dict") none (Data.dict (List.toArray [(DictEntry.mk (PyData.keyHash P (Str.ofString "__module__")) (Value.str (Str.ofString "__module__") 1711) (Value.str (Str.ofString "thinstack.tcp_table") 1702)), (DictEntry.mk (PyData.keyHash P (Str.ofString "__firstlineno__")) (Value.str (Str.ofString "__firstlineno__") 1715) (Value.int 724 1714)), (DictEntry.mk (PyData.keyHash P (Str.ofString "__init__")) (Value.str (Str.ofString "__init__") 1722) (Value.ref 1099)), (DictEntry.mk (PyData.keyHash P (Str.ofString "listen")) (Value.str (Str.ofString "listen") 1732) (Value.ref 1106)), (DictEntry.mk (PyData.keyHash P (Str.ofString "connect")) (Value.str (Str.ofString "connect") 1742) (Value.ref 1113)), (DictEntry.mk (PyData.keyHash P (Str.ofString "remove")) (Value.str (Str.ofString "remove") 1748) (Value.ref 1118)), (DictEntry.mk (PyData.keyHash P (Str.ofString "find")) (Value.str (Str.ofString "find") 1759) (Value.ref 1125)), (DictEntry.mk (PyData.keyHash P (Str.ofString "is_port_used")) (Value.str (Str.ofString "is_port_used") 1765) (Value.ref 1130)), (DictEntry.mk (PyData.keyHash P (Str.ofString "rows")) (Value.str (Str.ofString "rows") 1771) (Value.ref 1135)), (DictEntry.mk (PyData.keyHash P (Str.ofString "__static_attributes__")) (Value.str (Str.ofString "__static_attributes__") 1774) (Value.ref 1136)), (DictEntry.mk (PyData.keyHash P (Str.ofString "__dict__")) (Value.str (Str.ofString "__dict__") 1776) (Value.ref 1139)), (DictEntry.mk (PyData.keyHash P (Str.ofString "__weakref__")) (Value.str (Str.ofString "__weakref__") 1778) (Value.ref 1140)), (DictEntry.mk (PyData.keyHash P (Str.ofString "__doc__")) (Value.str (Str.ofString "__doc__") 1779) Value.none)]) 4) (List.toArray []))) ::
  (nat_lit 1138, (Obj.mk (Value.type "type") none (Data.cls (ClassData.mk (Str.ofString "TcpTable") [(Value.type "object")] [(Value.ref 1138), (Value.type "object")] 1137 (Str.ofString "TcpTable") true [] [] false none false)) (List.toArray [none, none, (some (Value.str (Str.ofString "TcpTable") 1704)), (some (Value.str (Str.ofString "TcpTable") 1712)), (some (Value.builtin "object.__new__")), (some (Value.bool true))]))) ::
  (nat_lit 1230, (Obj.mk (Value.type "code") none (Data.fields (List.toArray [(Value.str (Str.ofString "__init__") 1905), (Value.str (Str.ofString "TcpSockets.__init__") 1906), (Value.str (Str.ofString "/claim/cut.py") 1907), (Value.int 800 0), (Value.int 5 0), (Value.int 0 0), (Value.int 0 0), (Value.int 3 0), (Value.ref 1225), (Value.bool true), (Value.int 181 0), (Value.ref 1226), Value.none, (Value.ref 1227), (Value.ref 1228), (Value.ref 1229), (Value.int 1913 0), (Value.int 800 0), (Value.str (Str.ofString "/claim/cut.py") 1914)])) (List.toArray []))) ::
  (nat_lit 1231, (Obj.mk (Value.type "function") none (Data.func (FuncData.mk (Str.ofString "__init__") (Str.ofString "TcpSockets.__init__") (Arguments.mk [] [(Arg.mk (Str.ofString "self") none ⟨800, 17, 800, 21⟩), (Arg.mk (Str.ofString "limits") none ⟨800, 23, 800, 29⟩), (Arg.mk (Str.ofString "seed") none ⟨800, 31, 800, 35⟩), (Arg.mk (Str.ofString "first_port") none ⟨800, 37, 800, 47⟩), (Arg.mk (Str.ofString "last_port") none ⟨800, 49, 800, 58⟩)] none [] [] none []) (FuncBody.stmts [(Stmt.Assign [(Expr.Attribute (Expr.Name (Str.ofString "self") ⟨801, 8, 801, 12⟩) (Str.ofString "limits") ⟨801, 8, 801, 19⟩)] (Expr.Name (Str.ofString "limits") ⟨801, 22, 801, 28⟩) ⟨801, 8, 801, 28⟩), (Stmt.Assign [(Expr.Attribute (Expr.Name (Str.ofString "self") ⟨802, 8, 802, 12⟩) (Str.ofString "iss") ⟨802, 8, 802, 16⟩)] (Expr.Name (Str.ofString "seed") ⟨802, 19, 802, 23⟩) ⟨802, 8, 802, 23⟩), (Stmt.Assign [(Expr.Attribute (Expr.Name (Str.ofString "self") ⟨803, 8, 803, 12⟩) (Str.ofString "ports") ⟨803, 8, 803, 18⟩)] (Expr.Call (Expr.Name (Str.ofString "Ports") ⟨803, 21, 803, 26⟩) [(Expr.Name (Str.ofString "first_port") ⟨803, 27, 803, 37⟩), (Expr.Name (Str.ofString "last_port") ⟨803, 39, 803, 48⟩)] [] ⟨803, 21, 803, 49⟩) ⟨803, 8, 803, 49⟩), (Stmt.Assign [(Expr.Attribute (Expr.Name (Str.ofString "self") ⟨804, 8, 804, 12⟩) (Str.ofString "table") ⟨804, 8, 804, 18⟩)] (Expr.Call (Expr.Name (Str.ofString "TcpTable") ⟨804, 21, 804, 29⟩) [] [] ⟨804, 21, 804, 31⟩) ⟨804, 8, 804, 31⟩), (Stmt.Assign [(Expr.Attribute (Expr.Name (Str.ofString "self") ⟨805, 8, 805, 12⟩) (Str.ofString "listeners") ⟨805, 8, 805, 22⟩)] (Expr.Dict [] [] ⟨805, 25, 805, 27⟩) ⟨805, 8, 805, 27⟩), (Stmt.Assign [(Expr.Attribute (Expr.Name (Str.ofString "self") ⟨806, 8, 806, 12⟩) (Str.ofString "links") ⟨806, 8, 806, 18⟩)] (Expr.Dict [] [] ⟨806, 21, 806, 23⟩) ⟨806, 8, 806, 23⟩), (Stmt.Assign [(Expr.Attribute (Expr.Name (Str.ofString "self") ⟨807, 8, 807, 12⟩) (Str.ofString "given") ⟨807, 8, 807, 18⟩)] (Expr.Constant (Const.int 0) 0 ⟨807, 21, 807, 22⟩) ⟨807, 8, 807, 22⟩)]) (Scope.mk ScopeKind.function [((Str.ofString "self"), NameKind.local), ((Str.ofString "limits"), NameKind.local), ((Str.ofString "seed"), NameKind.local), ((Str.ofString "first_port"), NameKind.local), ((Str.ofString "last_port"), NameKind.local), ((Str.ofString "Ports"), NameKind.globalImplicit), ((Str.ofString "TcpTable"), NameKind.globalImplicit)] false false []) 3 [] Value.none Value.none Value.none (Value.str (Str.ofString "thinstack.tcp_sockets") 1782) none (Value.ref 1230) Value.none 0)) (List.toArray []))) ::
  (nat_lit 1273, (Obj.mk (Value.type "code") none (Data.fields (List.toArray [(Value.str (Str.ofString "own_port") 1965), (Value.str (Str.ofString "TcpSockets.own_port") 1966), (Value.str (Str.ofString "/claim/cut.py") 1967), (Value.int 836 0), (Value.int 2 0), (Value.int 0 0), (Value.int 0 0), (Value.int 3 0), (Value.ref 1268), (Value.bool true), (Value.int 181 0), (Value.ref 1269), Value.none, (Value.ref 1270), (Value.ref 1271), (Value.ref 1272), (Value.int 1972 0), (Value.int 836 0), (Value.str (Str.ofString "/claim/cut.py") 1973)])) (List.toArray []))) ::
  (nat_lit 1274, (Obj.mk (Value.type "function") none (Data.func (FuncData.mk (Str.ofString "own_port") (Str.ofString "TcpSockets.own_port") (Arguments.mk [] [(Arg.mk (Str.ofString "self") none ⟨836, 17, 836, 21⟩), (Arg.mk (Str.ofString "local_port") none ⟨836, 23, 836, 33⟩)] none [] [] none []) (FuncBody.stmts [(Stmt.If (Expr.Compare (Expr.Name (Str.ofString "local_port") ⟨837, 11, 837, 21⟩) [CmpOp.NotEq] [(Expr.Constant (Const.int 0) 0 ⟨837, 25, 837, 26⟩)] ⟨837, 11, 837, 26⟩) [(Stmt.Return (some (Expr.Name (Str.ofString "local_port") ⟨838, 19, 838, 29⟩)) ⟨838, 12, 838, 29⟩)] [] ⟨837, 8, 838, 29⟩), (Stmt.For (Expr.Name (Str.ofString "turn") ⟨839, 12, 839, 16⟩) (Expr.Call (Expr.Name (Str.ofString "range") ⟨839, 20, 839, 25⟩) [(Expr.BinOp (Expr.BinOp (Expr.Attribute (Expr.Attribute (Expr.Name (Str.ofString "self") ⟨839, 26, 839, 30⟩) (Str.ofString "ports") ⟨839, 26, 839, 36⟩) (Str.ofString "last") ⟨839, 26, 839, 41⟩) Operator.Sub (Expr.Attribute (Expr.Attribute (Expr.Name (Str.ofString "self") ⟨839, 44, 839, 48⟩) (Str.ofString "ports") ⟨839, 44, 839, 54⟩) (Str.ofString "first") ⟨839, 44, 839, 60⟩) ⟨839, 26, 839, 60⟩) Operator.Add (Expr.Constant (Const.int 1) 0 ⟨839, 63, 839, 64⟩) ⟨839, 26, 839, 64⟩)] [] ⟨839, 20, 839, 65⟩) [(Stmt.Assign [(Expr.Name (Str.ofString "found") ⟨840, 12, 840, 17⟩)] (Expr.Call (Expr.Attribute (Expr.Attribute (Expr.Name (Str.ofString "self") ⟨840, 20, 840, 24⟩) (Str.ofString "ports") ⟨840, 20, 840, 30⟩) (Str.ofString "take") ⟨840, 20, 840, 35⟩) [(Expr.Constant (Const.int 0) 0 ⟨840, 36, 840, 37⟩)] [] ⟨840, 20, 840, 38⟩) ⟨840, 12, 840, 38⟩), (Stmt.If (Expr.UnaryOp UnaryOp.Not (Expr.Call (Expr.Attribute (Expr.Attribute (Expr.Name (Str.ofString "self") ⟨841, 19, 841, 23⟩) (Str.ofString "table") ⟨841, 19, 841, 29⟩) (Str.ofString "is_port_used") ⟨841, 19, 841, 42⟩) [(Expr.Name (Str.ofString "found") ⟨841, 43, 841, 48⟩)] [] ⟨841, 19, 841, 49⟩) ⟨841, 15, 841, 49⟩) [(Stmt.Return (some (Expr.Name (Str.ofString "found") ⟨842, 23, 842, 28⟩)) ⟨842, 16, 842, 28⟩)] [] ⟨841, 12, 842, 28⟩), (Stmt.Expr (Expr.Call (Expr.Attribute (Expr.Attribute (Expr.Name (Str.ofString "self") ⟨843, 12, 843, 16⟩) (Str.ofString "ports") ⟨843, 12, 843, 22⟩) (Str.ofString "free") ⟨843, 12, 843, 27⟩) [(Expr.Name (Str.ofString "found") ⟨843, 28, 843, 33⟩)] [] ⟨843, 12, 843, 34⟩) ⟨843, 12, 843, 34⟩)] [] ⟨839, 8, 843, 34⟩), (Stmt.Raise (some (Expr.Call (Expr.Name (Str.ofString "PortError") ⟨844, 14, 844, 23⟩) [(Expr.Constant (Const.str (Str.ofString "all ports are taken")) 0 ⟨844, 24, 844, 45⟩)] [] ⟨844, 14, 844, 46⟩)) none ⟨844, 8, 844, 46⟩)]) (Scope.mk ScopeKind.function [((Str.ofString "self"), NameKind.local), ((Str.ofString "local_port"), NameKind.local), ((Str.ofString "turn"), NameKind.local), ((Str.ofString "found"), NameKind.local), ((Str.ofString "range"), NameKind.globalImplicit), ((Str.ofString "PortError"), NameKind.globalImplicit)] false false []) 3 [] Value.none Value.none Value.none (Value.str (Str.ofString "thinstack.tcp_sockets") 1782) none (Value.ref 1273) Value.none 0)) (List.toArray []))) ::
  (nat_lit 1395, (Obj.mk (Value.type "dict") none (Data.dict (List.toArray [(DictEntry.mk (PyData.keyHash P (Str.ofString "__module__")) (Value.str (Str.ofString "__module__") 1900) (Value.str (Str.ofString "thinstack.tcp_sockets") 1782)), (DictEntry.mk (PyData.keyHash P (Str.ofString "__firstlineno__")) (Value.str (Str.ofString "__firstlineno__") 1904) (Value.int 798 1903)), (DictEntry.mk (PyData.keyHash P (Str.ofString "__init__")) (Value.str (Str.ofString "__init__") 1915) (Value.ref 1231)), (DictEntry.mk (PyData.keyHash P (Str.ofString "new_number")) (Value.str (Str.ofString "new_number") 1922) (Value.ref 1238)), (DictEntry.mk (PyData.keyHash P (Str.ofString "new_iss")) (Value.str (Str.ofString "new_iss") 1929) (Value.ref 1245)), (DictEntry.mk (PyData.keyHash P (Str.ofString "link")) (Value.str (Str.ofString "link") 1937) (Value.ref 1252)), (DictEntry.mk (PyData.keyHash P (Str.ofString "listen")) (Value.str (Str.ofString "listen") 1948) (Value.ref 1259)), (DictEntry.mk (PyData.keyHash P (Str.ofString "connect")) (Value.str (Str.ofString "connect") 1964) (Value.ref 1267)), (DictEntry.mk (PyData.keyHash P (Str.ofString "own_port")) (Value.str (Str.ofString "own_port") 1974) (Value.ref 1274)), (DictEntry.mk (PyData.keyHash P (Str.ofString "accept")) (Value.str (Str.ofString "accept") 1982) (Value.ref 1281)), (DictEntry.mk (PyData.keyHash P (Str.ofString "send")) (Value.str (Str.ofString "send") 1995) (Value.ref 1288)), (DictEntry.mk (PyData.keyHash P (Str.ofString "receive")) (Value.str (Str.ofString "receive") 2005) (Value.ref 1295)), (DictEntry.mk (PyData.keyHash P (Str.ofString "refuse_failed")) (Value.str (Str.ofString "refuse_failed") 2013) (Value.ref 1302)), (DictEntry.mk (PyData.keyHash P (Str.ofString "status")) (Value.str (Str.ofString "status") 2021) (Value.ref 1309)), (DictEntry.mk (PyData.keyHash P (Str.ofString "is_ended")) (Value.str (Str.ofString "is_ended") 2029) (Value.ref 1316)), (DictEntry.mk (PyData.keyHash P (Str.ofString "close")) (Value.str (Str.ofString "close") 2038) (Value.ref 1323)), (DictEntry.mk (PyData.keyHash P (Str.ofString "abort")) (Value.str (Str.ofString "abort") 2047) (Value.ref 1330)), (DictEntry.mk (PyData.keyHash P (Str.ofString "leave")) (Value.str (Str.ofString "leave") 2060) (Value.ref 1337)), (DictEntry.mk (PyData.keyHash P (Str.ofString "close_listener")) (Value.str (Str.ofString "close_listener") 2072) (Value.ref 1344)), (DictEntry.mk (PyData.keyHash P (Str.ofString "look_at")) (Value.str (Str.ofString "look_at") 2082) (Value.ref 1351)), (DictEntry.mk (PyData.keyHash P (Str.ofString "end")) (Value.str (Str.ofString "end") 2091) (Value.ref 1358)), (DictEntry.mk (PyData.keyHash P (Str.ofString "input")) (Value.str (Str.ofString "input") 2102) (Value.ref 1365)), (DictEntry.mk (PyData.keyHash P (Str.ofString "refused")) (Value.str (Str.ofString "refused") 2113) (Value.ref 1372)), (DictEntry.mk (PyData.keyHash P (Str.ofString "input_new")) (Value.str (Str.ofString "input_new") 2125) (Value.ref 1379)), (DictEntry.mk (PyData.keyHash P (Str.ofString "on_time")) (Value.str (Str.ofString "on_time") 2133) (Value.ref 1386)), (DictEntry.mk (PyData.keyHash P (Str.ofString "next_time")) (Value.str (Str.ofString "next_time") 2140) (Value.ref 1393)), (DictEntry.mk (PyData.keyHash P (Str.ofString "__static_attributes__")) (Value.str (Str.ofString "__static_attributes__") 2148) (Value.ref 1394)), (DictEntry.mk (PyData.keyHash P (Str.ofString "__dict__")) (Value.str (Str.ofString "__dict__") 2150) (Value.ref 1397)), (DictEntry.mk (PyData.keyHash P (Str.ofString "__weakref__")) (Value.str (Str.ofString "__weakref__") 2152) (Value.ref 1398)), (DictEntry.mk (PyData.keyHash P (Str.ofString "__doc__")) (Value.str (Str.ofString "__doc__") 2153) Value.none)]) 4) (List.toArray []))) ::
  (nat_lit 1396, (Obj.mk (Value.type "type") none (Data.cls (ClassData.mk (Str.ofString "TcpSockets") [(Value.type "object")] [(Value.ref 1396), (Value.type "object")] 1395 (Str.ofString "TcpSockets") true [] [] false none false)) (List.toArray [none, none, (some (Value.str (Str.ofString "TcpSockets") 1893)), (some (Value.str (Str.ofString "TcpSockets") 1901)), (some (Value.builtin "object.__new__")), (some (Value.bool true))]))) ::
  (nat_lit 1406, (Obj.mk (Value.type "code") none (Data.fields (List.toArray [(Value.str (Str.ofString "_law_pool") 2158), (Value.str (Str.ofString "_law_pool") 2159), (Value.str (Str.ofString "/claim/cut.py") 2160), (Value.int 933 0), (Value.int 2 0), (Value.int 0 0), (Value.int 0 0), (Value.int 3 0), (Value.ref 1401), (Value.bool true), (Value.int 181 0), (Value.ref 1402), Value.none, (Value.ref 1403), (Value.ref 1404), (Value.ref 1405), (Value.int 2166 0), (Value.int 933 0), (Value.str (Str.ofString "/claim/cut.py") 2167)])) (List.toArray []))) ::
  (nat_lit 1407, (Obj.mk (Value.type "function") none (Data.func (FuncData.mk (Str.ofString "_law_pool") (Str.ofString "_law_pool") (Arguments.mk [] [(Arg.mk (Str.ofString "script") none ⟨933, 14, 933, 20⟩), (Arg.mk (Str.ofString "k") none ⟨933, 22, 933, 23⟩)] none [] [] none []) (FuncBody.stmts [(Stmt.Assign [(Expr.Name (Str.ofString "cell") ⟨934, 4, 934, 8⟩)] (Expr.IfExp (Expr.Compare (Expr.Name (Str.ofString "k") ⟨934, 24, 934, 25⟩) [CmpOp.Lt] [(Expr.Call (Expr.Name (Str.ofString "len") ⟨934, 28, 934, 31⟩) [(Expr.Name (Str.ofString "script") ⟨934, 32, 934, 38⟩)] [] ⟨934, 28, 934, 39⟩)] ⟨934, 24, 934, 39⟩) (Expr.Subscript (Expr.Name (Str.ofString "script") ⟨934, 11, 934, 17⟩) (Expr.Name (Str.ofString "k") ⟨934, 18, 934, 19⟩) ⟨934, 11, 934, 20⟩) (Expr.Constant (Const.int 0) 0 ⟨934, 45, 934, 46⟩) ⟨934, 11, 934, 46⟩) ⟨934, 4, 934, 46⟩), (Stmt.Assign [(Expr.Name (Str.ofString "size") ⟨935, 4, 935, 8⟩)] (Expr.IfExp (Expr.Compare (Expr.Name (Str.ofString "cell") ⟨935, 19, 935, 23⟩) [CmpOp.GtE] [(Expr.Constant (Const.int 0) 0 ⟨935, 27, 935, 28⟩)] ⟨935, 19, 935, 28⟩) (Expr.Name (Str.ofString "cell") ⟨935, 11, 935, 15⟩) (Expr.BinOp (Expr.UnaryOp UnaryOp.USub (Expr.Constant (Const.int 1) 0 ⟨935, 35, 935, 36⟩) ⟨935, 34, 935, 36⟩) Operator.Sub (Expr.Name (Str.ofString "cell") ⟨935, 39, 935, 43⟩) ⟨935, 34, 935, 43⟩) ⟨935, 11, 935, 43⟩) ⟨935, 4, 935, 43⟩), (Stmt.Assign [(Expr.Name (Str.ofString "stirred") ⟨936, 4, 936, 11⟩)] (Expr.BinOp (Expr.BinOp (Expr.BinOp (Expr.BinOp (Expr.BinOp (Expr.BinOp (Expr.Name (Str.ofString "size") ⟨936, 15, 936, 19⟩) Operator.Mod (Expr.Constant (Const.int 2147483629) 0 ⟨936, 22, 936, 32⟩) ⟨936, 15, 936, 32⟩) Operator.Add (Expr.BinOp (Expr.BinOp (Expr.Constant (Const.int 7919) 0 ⟨936, 35, 936, 39⟩) Operator.Mult (Expr.Name (Str.ofString "k") ⟨936, 42, 936, 43⟩) ⟨936, 35, 936, 43⟩) Operator.Mult (Expr.Name (Str.ofString "k") ⟨936, 46, 936, 47⟩) ⟨936, 35, 936, 47⟩) ⟨936, 15, 936, 47⟩) Operator.Add (Expr.BinOp (Expr.Constant (Const.int 31) 0 ⟨936, 50, 936, 52⟩) Operator.Mult (Expr.Name (Str.ofString "k") ⟨936, 55, 936, 56⟩) ⟨936, 50, 936, 56⟩) ⟨936, 15, 936, 56⟩) Operator.Add (Expr.Constant (Const.int 17) 0 ⟨936, 59, 936, 61⟩) ⟨936, 15, 936, 61⟩) Operator.Mult (Expr.Constant (Const.int 48271) 0 ⟨936, 65, 936, 70⟩) ⟨936, 14, 936, 70⟩) Operator.Mod (Expr.Constant (Const.int 2147483647) 0 ⟨936, 73, 936, 83⟩) ⟨936, 14, 936, 83⟩) ⟨936, 4, 936, 83⟩), (Stmt.Return (some (Expr.List [(Expr.IfExp (Expr.Compare (Expr.Name (Str.ofString "size") ⟨937, 20, 937, 24⟩) [CmpOp.GtE] [(Expr.BinOp (Expr.Constant (Const.int 10) 0 ⟨937, 28, 937, 30⟩) Operator.Pow (Expr.Constant (Const.int 18) 0 ⟨937, 34, 937, 36⟩) ⟨937, 28, 937, 36⟩)] ⟨937, 20, 937, 36⟩) (Expr.Name (Str.ofString "size") ⟨937, 12, 937, 16⟩) (Expr.Constant (Const.int 0) 0 ⟨937, 42, 937, 43⟩) ⟨937, 12, 937, 43⟩), (Expr.Name (Str.ofString "stirred") ⟨937, 45, 937, 52⟩)] ⟨937, 11, 937, 53⟩)) ⟨937, 4, 937, 53⟩)]) (Scope.mk ScopeKind.function [((Str.ofString "script"), NameKind.local), ((Str.ofString "k"), NameKind.local), ((Str.ofString "cell"), NameKind.local), ((Str.ofString "size"), NameKind.local), ((Str.ofString "stirred"), NameKind.local), ((Str.ofString "len"), NameKind.globalImplicit)] false false []) 3 [] Value.none Value.none Value.none (Value.str (Str.ofString "law_pq1204_01") 2156) none (Value.ref 1406) Value.none 0)) (List.toArray []))) ::
  (nat_lit 1413, (Obj.mk (Value.type "code") none (Data.fields (List.toArray [(Value.str (Str.ofString "_law_take") 2169), (Value.str (Str.ofString "_law_take") 2170), (Value.str (Str.ofString "/claim/cut.py") 2171), (Value.int 938 0), (Value.int 2 0), (Value.int 0 0), (Value.int 0 0), (Value.int 3 0), (Value.ref 1408), (Value.bool true), (Value.int 181 0), (Value.ref 1409), Value.none, (Value.ref 1410), (Value.ref 1411), (Value.ref 1412), (Value.int 2175 0), (Value.int 938 0), (Value.str (Str.ofString "/claim/cut.py") 2176)])) (List.toArray []))) ::
  (nat_lit 1414, (Obj.mk (Value.type "function") none (Data.func (FuncData.mk (Str.ofString "_law_take") (Str.ofString "_law_take") (Arguments.mk [] [(Arg.mk (Str.ofString "source") none ⟨938, 14, 938, 20⟩), (Arg.mk (Str.ofString "top") none ⟨938, 22, 938, 25⟩)] none [] [] none []) (FuncBody.stmts [(Stmt.If (Expr.Compare (Expr.Subscript (Expr.Name (Str.ofString "source") ⟨939, 7, 939, 13⟩) (Expr.Constant (Const.int 0) 0 ⟨939, 14, 939, 15⟩) ⟨939, 7, 939, 16⟩) [CmpOp.Gt] [(Expr.Constant (Const.int 0) 0 ⟨939, 19, 939, 20⟩)] ⟨939, 7, 939, 20⟩) [(Stmt.Assign [(Expr.Name (Str.ofString "drawn") ⟨940, 8, 940, 13⟩)] (Expr.BinOp (Expr.Subscript (Expr.Name (Str.ofString "source") ⟨940, 16, 940, 22⟩) (Expr.Constant (Const.int 0) 0 ⟨940, 23, 940, 24⟩) ⟨940, 16, 940, 25⟩) Operator.Mod (Expr.Name (Str.ofString "top") ⟨940, 28, 940, 31⟩) ⟨940, 16, 940, 31⟩) ⟨940, 8, 940, 31⟩), (Stmt.Assign [(Expr.Subscript (Expr.Name (Str.ofString "source") ⟨941, 8, 941, 14⟩) (Expr.Constant (Const.int 0) 0 ⟨941, 15, 941, 16⟩) ⟨941, 8, 941, 17⟩)] (Expr.BinOp (Expr.Subscript (Expr.Name (Str.ofString "source") ⟨941, 20, 941, 26⟩) (Expr.Constant (Const.int 0) 0 ⟨941, 27, 941, 28⟩) ⟨941, 20, 941, 29⟩) Operator.FloorDiv (Expr.Name (Str.ofString "top") ⟨941, 33, 941, 36⟩) ⟨941, 20, 941, 36⟩) ⟨941, 8, 941, 36⟩), (Stmt.Return (some (Expr.Name (Str.ofString "drawn") ⟨942, 15, 942, 20⟩)) ⟨942, 8, 942, 20⟩)] [] ⟨939, 4, 942, 20⟩), (Stmt.Assign [(Expr.Subscript (Expr.Name (Str.ofString "source") ⟨943, 4, 943, 10⟩) (Expr.Constant (Const.int 1) 0 ⟨943, 11, 943, 12⟩) ⟨943, 4, 943, 13⟩)] (Expr.BinOp (Expr.BinOp (Expr.BinOp (Expr.Subscript (Expr.Name (Str.ofString "source") ⟨943, 17, 943, 23⟩) (Expr.Constant (Const.int 1) 0 ⟨943, 24, 943, 25⟩) ⟨943, 17, 943, 26⟩) Operator.Mult (Expr.Constant (Const.int 39373) 0 ⟨943, 29, 943, 34⟩) ⟨943, 17, 943, 34⟩) Operator.Add (Expr.Constant (Const.int 7) 0 ⟨943, 37, 943, 38⟩) ⟨943, 17, 943, 38⟩) Operator.Mod (Expr.Constant (Const.int 2147483647) 0 ⟨943, 42, 943, 52⟩) ⟨943, 16, 943, 52⟩) ⟨943, 4, 943, 52⟩), (Stmt.Return (some (Expr.BinOp (Expr.BinOp (Expr.BinOp (Expr.BinOp (Expr.Subscript (Expr.Name (Str.ofString "source") ⟨944, 11, 944, 17⟩) (Expr.Constant (Const.int 1) 0 ⟨944, 18, 944, 19⟩) ⟨944, 11, 944, 20⟩) Operator.Mult (Expr.Subscript (Expr.Name (Str.ofString "source") ⟨944, 23, 944, 29⟩) (Expr.Constant (Const.int 1) 0 ⟨944, 30, 944, 31⟩) ⟨944, 23, 944, 32⟩) ⟨944, 11, 944, 32⟩) Operator.Mod (Expr.Constant (Const.int 2147483629) 0 ⟨944, 35, 944, 45⟩) ⟨944, 11, 944, 45⟩) Operator.FloorDiv (Expr.Constant (Const.int 32) 0 ⟨944, 49, 944, 51⟩) ⟨944, 11, 944, 51⟩) Operator.Mod (Expr.Name (Str.ofString "top") ⟨944, 54, 944, 57⟩) ⟨944, 11, 944, 57⟩)) ⟨944, 4, 944, 57⟩)]) (Scope.mk ScopeKind.function [((Str.ofString "source"), NameKind.local), ((Str.ofString "top"), NameKind.local), ((Str.ofString "drawn"), NameKind.local)] false false []) 3 [] Value.none Value.none Value.none (Value.str (Str.ofString "law_pq1204_01") 2156) none (Value.ref 1413) Value.none 0)) (List.toArray []))) ::
  (nat_lit 1420, (Obj.mk (Value.type "code") none (Data.fields (List.toArray [(Value.str (Str.ofString "_law_one") 2178), (Value.str (Str.ofString "_law_one") 2179), (Value.str (Str.ofString "/claim/cut.py") 2180), (Value.int 945 0), (Value.int 2 0), (Value.int 0 0), (Value.int 0 0), (Value.int 3 0), (Value.ref 1415), (Value.bool true), (Value.int 181 0), (Value.ref 1416), Value.none, (Value.ref 1417), (Value.ref 1418), (Value.ref 1419), (Value.int 2183 0), (Value.int 945 0), (Value.str (Str.ofString "/claim/cut.py") 2184)])) (List.toArray []))) ::
  (nat_lit 1421, (Obj.mk (Value.type "function") none (Data.func (FuncData.mk (Str.ofString "_law_one") (Str.ofString "_law_one") (Arguments.mk [] [(Arg.mk (Str.ofString "source") none ⟨945, 13, 945, 19⟩), (Arg.mk (Str.ofString "things") none ⟨945, 21, 945, 27⟩)] none [] [] none []) (FuncBody.stmts [(Stmt.Return (some (Expr.Subscript (Expr.Name (Str.ofString "things") ⟨946, 11, 946, 17⟩) (Expr.Call (Expr.Name (Str.ofString "_law_take") ⟨946, 18, 946, 27⟩) [(Expr.Name (Str.ofString "source") ⟨946, 28, 946, 34⟩), (Expr.Call (Expr.Name (Str.ofString "len") ⟨946, 36, 946, 39⟩) [(Expr.Name (Str.ofString "things") ⟨946, 40, 946, 46⟩)] [] ⟨946, 36, 946, 47⟩)] [] ⟨946, 18, 946, 48⟩) ⟨946, 11, 946, 49⟩)) ⟨946, 4, 946, 49⟩)]) (Scope.mk ScopeKind.function [((Str.ofString "source"), NameKind.local), ((Str.ofString "things"), NameKind.local), ((Str.ofString "_law_take"), NameKind.globalImplicit), ((Str.ofString "len"), NameKind.globalImplicit)] false false []) 3 [] Value.none Value.none Value.none (Value.str (Str.ofString "law_pq1204_01") 2156) none (Value.ref 1420) Value.none 0)) (List.toArray []))) ::
  (nat_lit 1427, (Obj.mk (Value.type "code") none (Data.fields (List.toArray [(Value.str (Str.ofString "_law_refused") 2186), (Value.str (Str.ofString "_law_refused") 2187), (Value.str (Str.ofString "/claim/cut.py") 2188), (Value.int 947 0), (Value.int 1 0), (Value.int 0 0), (Value.int 0 0), (Value.int 3 0), (Value.ref 1422), (Value.bool true), (Value.int 181 0), (Value.ref 1423), Value.none, (Value.ref 1424), (Value.ref 1425), (Value.ref 1426), (Value.int 2190 0), (Value.int 947 0), (Value.str (Str.ofString "/claim/cut.py") 2191)])) (List.toArray []))) ::
  (nat_lit 1428, (Obj.mk (Value.type "function") none (Data.func (FuncData.mk (Str.ofString "_law_refused") (Str.ofString "_law_refused") (Arguments.mk [] [(Arg.mk (Str.ofString "deed") none ⟨947, 17, 947, 21⟩)] none [] [] none []) (FuncBody.stmts [(Stmt.Try [(Stmt.Expr (Expr.Call (Expr.Name (Str.ofString "deed") ⟨949, 8, 949, 12⟩) [] [] ⟨949, 8, 949, 14⟩) ⟨949, 8, 949, 14⟩)] [(ExceptHandler.ExceptHandler (some (Expr.Name (Str.ofString "PortError") ⟨950, 11, 950, 20⟩)) none [(Stmt.Return (some (Expr.Constant (Const.bool true) 0 ⟨951, 15, 951, 19⟩)) ⟨951, 8, 951, 19⟩)] ⟨950, 4, 951, 19⟩)] [] [] ⟨948, 4, 951, 19⟩), (Stmt.Return (some (Expr.Constant (Const.bool false) 0 ⟨952, 11, 952, 16⟩)) ⟨952, 4, 952, 16⟩)]) (Scope.mk ScopeKind.function [((Str.ofString "deed"), NameKind.local), ((Str.ofString "PortError"), NameKind.globalImplicit)] false false []) 3 [] Value.none Value.none Value.none (Value.str (Str.ofString "law_pq1204_01") 2156) none (Value.ref 1427) Value.none 0)) (List.toArray []))) ::
  (nat_lit 1434, (Obj.mk (Value.type "code") none (Data.fields (List.toArray [(Value.str (Str.ofString "_law_behind") 2193), (Value.str (Str.ofString "_law_behind") 2194), (Value.str (Str.ofString "/claim/cut.py") 2195), (Value.int 953 0), (Value.int 2 0), (Value.int 0 0), (Value.int 0 0), (Value.int 3 0), (Value.ref 1429), (Value.bool true), (Value.int 181 0), (Value.ref 1430), Value.none, (Value.ref 1431), (Value.ref 1432), (Value.ref 1433), (Value.int 2198 0), (Value.int 953 0), (Value.str (Str.ofString "/claim/cut.py") 2199)])) (List.toArray []))) ::
  (nat_lit 1435, (Obj.mk (Value.type "function") none (Data.func (FuncData.mk (Str.ofString "_law_behind") (Str.ofString "_law_behind") (Arguments.mk [] [(Arg.mk (Str.ofString "port") none ⟨953, 16, 953, 20⟩), (Arg.mk (Str.ofString "many") none ⟨953, 22, 953, 26⟩)] none [] [] none []) (FuncBody.stmts [(Stmt.Return (some (Expr.BinOp (Expr.Constant (Const.int 30) 0 ⟨954, 11, 954, 13⟩) Operator.Add (Expr.BinOp (Expr.BinOp (Expr.Name (Str.ofString "port") ⟨954, 17, 954, 21⟩) Operator.Sub (Expr.Constant (Const.int 29) 0 ⟨954, 24, 954, 26⟩) ⟨954, 17, 954, 26⟩) Operator.Mod (Expr.Name (Str.ofString "many") ⟨954, 30, 954, 34⟩) ⟨954, 16, 954, 34⟩) ⟨954, 11, 954, 34⟩)) ⟨954, 4, 954, 34⟩)]) (Scope.mk ScopeKind.function [((Str.ofString "port"), NameKind.local), ((Str.ofString "many"), NameKind.local)] false false []) 3 [] Value.none Value.none Value.none (Value.str (Str.ofString "law_pq1204_01") 2156) none (Value.ref 1434) Value.none 0)) (List.toArray []))) ::
  (nat_lit 1439, (Obj.mk (Value.type "code") none (Data.fields (List.toArray [(Value.str (Str.ofString "_law_asked_right") 2201), (Value.str (Str.ofString "_law_asked_right") 2202), (Value.str (Str.ofString "/claim/cut.py") 2203), (Value.int 955 0), (Value.int 5 0), (Value.int 0 0), (Value.int 0 0), (Value.int 3 0), (Value.ref 1436), (Value.bool true), (Value.int 181 0), (Value.ref 1437), Value.none, Value.none, Value.none, (Value.ref 1438), (Value.int 2204 0), (Value.int 955 0), (Value.str (Str.ofString "/claim/cut.py") 2205)])) (List.toArray []))) ::
  (nat_lit 1440, (Obj.mk (Value.type "function") none (Data.func (FuncData.mk (Str.ofString "_law_asked_right") (Str.ofString "_law_asked_right") (Arguments.mk [] [(Arg.mk (Str.ofString "sockets") none ⟨955, 21, 955, 28⟩), (Arg.mk (Str.ofString "used") none ⟨955, 30, 955, 34⟩), (Arg.mk (Str.ofString "held") none ⟨955, 36, 955, 40⟩), (Arg.mk (Str.ofString "begin") none ⟨955, 42, 955, 47⟩), (Arg.mk (Str.ofString "many") none ⟨955, 49, 955, 53⟩)] none [] [] none []) (FuncBody.stmts [(Stmt.Assign [(Expr.Name (Str.ofString "free") ⟨956, 4, 956, 8⟩)] (Expr.ListComp (Expr.Name (Str.ofString "port") ⟨956, 12, 956, 16⟩) [(Comprehension.mk (Expr.Name (Str.ofString "port") ⟨956, 21, 956, 25⟩) (Expr.ListComp (Expr.BinOp (Expr.Constant (Const.int 30) 0 ⟨956, 30, 956, 32⟩) Operator.Add (Expr.BinOp (Expr.BinOp (Expr.BinOp (Expr.Name (Str.ofString "begin") ⟨956, 36, 956, 41⟩) Operator.Sub (Expr.Constant (Const.int 30) 0 ⟨956, 44, 956, 46⟩) ⟨956, 36, 956, 46⟩) Operator.Add (Expr.Name (Str.ofString "step") ⟨956, 49, 956, 53⟩) ⟨956, 36, 956, 53⟩) Operator.Mod (Expr.Name (Str.ofString "many") ⟨956, 57, 956, 61⟩) ⟨956, 35, 956, 61⟩) ⟨956, 30, 956, 61⟩) [(Comprehension.mk (Expr.Name (Str.ofString "step") ⟨956, 66, 956, 70⟩) (Expr.Call (Expr.Name (Str.ofString "range") ⟨956, 74, 956, 79⟩) [(Expr.Name (Str.ofString "many") ⟨956, 80, 956, 84⟩)] [] ⟨956, 74, 956, 85⟩) [] 0)] (Scope.mk ScopeKind.function [((Str.ofString ".0"), NameKind.local), ((Str.ofString "step"), NameKind.local), ((Str.ofString "begin"), NameKind.free), ((Str.ofString "many"), NameKind.free)] false false []) ⟨956, 29, 956, 86⟩) [(Expr.Compare (Expr.Name (Str.ofString "port") ⟨956, 90, 956, 94⟩) [CmpOp.NotIn] [(Expr.Name (Str.ofString "held") ⟨956, 102, 956, 106⟩)] ⟨956, 90, 956, 106⟩)] 0)] (Scope.mk ScopeKind.function [((Str.ofString ".0"), NameKind.local), ((Str.ofString "port"), NameKind.local), ((Str.ofString "held"), NameKind.free)] false false []) ⟨956, 11, 956, 107⟩) ⟨956, 4, 956, 107⟩), (Stmt.Assign [(Expr.Name (Str.ofString "good") ⟨957, 4, 957, 8⟩)] (Expr.ListComp (Expr.Name (Str.ofString "port") ⟨957, 12, 957, 16⟩) [(Comprehension.mk (Expr.Name (Str.ofString "port") ⟨957, 21, 957, 25⟩) (Expr.Name (Str.ofString "free") ⟨957, 29, 957, 33⟩) [(Expr.Compare (Expr.Name (Str.ofString "port") ⟨957, 37, 957, 41⟩) [CmpOp.NotIn] [(Expr.Call (Expr.Attribute (Expr.Name (Str.ofString "used") ⟨957, 49, 957, 53⟩) (Str.ofString "values") ⟨957, 49, 957, 60⟩) [] [] ⟨957, 49, 957, 62⟩)] ⟨957, 37, 957, 62⟩)] 0)] (Scope.mk ScopeKind.function [((Str.ofString ".0"), NameKind.local), ((Str.ofString "port"), NameKind.local), ((Str.ofString "used"), NameKind.free)] false false []) ⟨957, 11, 957, 63⟩) ⟨957, 4, 957, 63⟩), (Stmt.If (Expr.Compare (Expr.Name (Str.ofString "good") ⟨958, 7, 958, 11⟩) [CmpOp.NotEq] [(Expr.List [] ⟨958, 15, 958, 17⟩)] ⟨958, 7, 958, 17⟩) [(Stmt.If (Expr.Compare (Expr.Call (Expr.Attribute (Expr.Name (Str.ofString "sockets") ⟨959, 11, 959, 18⟩) (Str.ofString "own_port") ⟨959, 11, 959, 27⟩) [(Expr.Constant (Const.int 0) 0 ⟨959, 28, 959, 29⟩)] [] ⟨959, 11, 959, 30⟩) [CmpOp.NotEq] [(Expr.Subscript (Expr.Name (Str.ofString "good") ⟨959, 34, 959, 38⟩) (Expr.Constant (Const.int 0) 0 ⟨959, 39, 959, 40⟩) ⟨959, 34, 959, 41⟩)] ⟨959, 11, 959, 41⟩) [(Stmt.Return (some (Expr.Constant Const.none 0 ⟨960, 19, 960, 23⟩)) ⟨960, 12, 960, 23⟩)] [] ⟨959, 8, 960, 23⟩), (Stmt.Expr (Expr.Call (Expr.Attribute (Expr.Name (Str.ofString "held") ⟨961, 8, 961, 12⟩) (Str.ofString "append") ⟨961, 8, 961, 19⟩) [(Expr.Subscript (Expr.Name (Str.ofString "good") ⟨961, 20, 961, 24⟩) (Expr.Constant (Const.int 0) 0 ⟨961, 25, 961, 26⟩) ⟨961, 20, 961, 27⟩)] [] ⟨961, 8, 961, 28⟩) ⟨961, 8, 961, 28⟩), (Stmt.Return (some (Expr.Call (Expr.Name (Str.ofString "_law_behind") ⟨962, 15, 962, 26⟩) [(Expr.Subscript (Expr.Name (Str.ofString "good") ⟨962, 27, 962, 31⟩) (Expr.Constant (Const.int 0) 0 ⟨962, 32, 962, 33⟩) ⟨962, 27, 962, 34⟩), (Expr.Name (Str.ofString "many") ⟨962, 36, 962, 40⟩)] [] ⟨962, 15, 962, 41⟩)) ⟨962, 8, 962, 41⟩)] [] ⟨958, 4, 962, 41⟩), (Stmt.If (Expr.UnaryOp UnaryOp.Not (Expr.Call (Expr.Name (Str.ofString "_law_refused") ⟨963, 11, 963, 23⟩) [(Expr.Lambda (Arguments.mk [] [] none [] [] none []) (Expr.Call (Expr.Attribute (Expr.Name (Str.ofString "sockets") ⟨963, 32, 963, 39⟩) (Str.ofString "own_port") ⟨963, 32, 963, 48⟩) [(Expr.Constant (Const.int 0) 0 ⟨963, 49, 963, 50⟩)] [] ⟨963, 32, 963, 51⟩) (Scope.mk ScopeKind.function [((Str.ofString "sockets"), NameKind.free)] false false []) ⟨963, 24, 963, 51⟩)] [] ⟨963, 11, 963, 52⟩) ⟨963, 7, 963, 52⟩) [(Stmt.Return (some (Expr.Constant Const.none 0 ⟨964, 15, 964, 19⟩)) ⟨964, 8, 964, 19⟩)] [] ⟨963, 4, 964, 19⟩), (Stmt.Return (some (Expr.IfExp (Expr.Compare (Expr.Name (Str.ofString "free") ⟨965, 20, 965, 24⟩) [CmpOp.Eq] [(Expr.List [] ⟨965, 28, 965, 30⟩)] ⟨965, 20, 965, 30⟩) (Expr.Name (Str.ofString "begin") ⟨965, 11, 965, 16⟩) (Expr.Call (Expr.Name (Str.ofString "_law_behind") ⟨965, 36, 965, 47⟩) [(Expr.Subscript (Expr.Name (Str.ofString "free") ⟨965, 48, 965, 52⟩) (Expr.BinOp (Expr.BinOp (Expr.Name (Str.ofString "many") ⟨965, 54, 965, 58⟩) Operator.Sub (Expr.Constant (Const.int 1) 0 ⟨965, 61, 965, 62⟩) ⟨965, 54, 965, 62⟩) Operator.Mod (Expr.Call (Expr.Name (Str.ofString "len") ⟨965, 66, 965, 69⟩) [(Expr.Name (Str.ofString "free") ⟨965, 70, 965, 74⟩)] [] ⟨965, 66, 965, 75⟩) ⟨965, 53, 965, 75⟩) ⟨965, 48, 965, 76⟩), (Expr.Name (Str.ofString "many") ⟨965, 78, 965, 82⟩)] [] ⟨965, 36, 965, 83⟩) ⟨965, 11, 965, 83⟩)) ⟨965, 4, 965, 83⟩)]) (Scope.mk ScopeKind.function [((Str.ofString "sockets"), NameKind.cell), ((Str.ofString "used"), NameKind.cell), ((Str.ofString "held"), NameKind.cell), ((Str.ofString "begin"), NameKind.cell), ((Str.ofString "many"), NameKind.cell), ((Str.ofString "free"), NameKind.local), ((Str.ofString "good"), NameKind.local), ((Str.ofString "range"), NameKind.globalImplicit), ((Str.ofString "_law_behind"), NameKind.globalImplicit), ((Str.ofString "_law_refused"), NameKind.globalImplicit), ((Str.ofString "len"), NameKind.globalImplicit)] false false [((Str.ofString "fast"), (Const.str (Str.ofString "sockets"))), ((Str.ofString "fast"), (Const.str (Str.ofString "used"))), ((Str.ofString "fast"), (Const.str (Str.ofString "held"))), ((Str.ofString "fast"), (Const.str (Str.ofString "begin"))), ((Str.ofString "fast"), (Const.str (Str.ofString "many"))), ((Str.ofString "fast"), (Const.str (Str.ofString "step"))), ((Str.ofString "fast"), (Const.str (Str.ofString "port"))), ((Str.ofString "fast"), (Const.str (Str.ofString "free"))), ((Str.ofString "fast"), (Const.str (Str.ofString "good")))]) 3 [] Value.none Value.none Value.none (Value.str (Str.ofString "law_pq1204_01") 2156) none (Value.ref 1439) Value.none 0)) (List.toArray []))) ::
  (nat_lit 1446, (Obj.mk (Value.type "code") none (Data.fields (List.toArray [(Value.str (Str.ofString "_law_turn_right") 2207), (Value.str (Str.ofString "_law_turn_right") 2208), (Value.str (Str.ofString "/claim/cut.py") 2209), (Value.int 966 0), (Value.int 5 0), (Value.int 0 0), (Value.int 0 0), (Value.int 3 0), (Value.ref 1441), (Value.bool true), (Value.int 181 0), (Value.ref 1442), Value.none, (Value.ref 1443), (Value.ref 1444), (Value.ref 1445), (Value.int 2220 0), (Value.int 966 0), (Value.str (Str.ofString "/claim/cut.py") 2221)])) (List.toArray []))) ::
  (nat_lit 1447, (Obj.mk (Value.type "function") none (Data.func (FuncData.mk (Str.ofString "_law_turn_right") (Str.ofString "_law_turn_right") (Arguments.mk [] [(Arg.mk (Str.ofString "source") none ⟨966, 20, 966, 26⟩), (Arg.mk (Str.ofString "sockets") none ⟨966, 28, 966, 35⟩), (Arg.mk (Str.ofString "used") none ⟨966, 37, 966, 41⟩), (Arg.mk (Str.ofString "held") none ⟨966, 43, 966, 47⟩), (Arg.mk (Str.ofString "turn") none ⟨966, 49, 966, 53⟩)] none [] [] none []) (FuncBody.stmts [(Stmt.Assign [(Expr.Tuple [(Expr.Name (Str.ofString "way") ⟨967, 4, 967, 7⟩), (Expr.Name (Str.ofString "port") ⟨967, 9, 967, 13⟩)] 0 ⟨967, 4, 967, 13⟩)] (Expr.Tuple [(Expr.Call (Expr.Name (Str.ofString "_law_take") ⟨967, 17, 967, 26⟩) [(Expr.Name (Str.ofString "source") ⟨967, 27, 967, 33⟩), (Expr.Constant (Const.int 4) 0 ⟨967, 35, 967, 36⟩)] [] ⟨967, 17, 967, 37⟩), (Expr.BinOp (Expr.Constant (Const.int 29) 0 ⟨967, 39, 967, 41⟩) Operator.Add (Expr.Call (Expr.Name (Str.ofString "_law_take") ⟨967, 44, 967, 53⟩) [(Expr.Name (Str.ofString "source") ⟨967, 54, 967, 60⟩), (Expr.Constant (Const.int 6) 0 ⟨967, 62, 967, 63⟩)] [] ⟨967, 44, 967, 64⟩) ⟨967, 39, 967, 64⟩)] 0 ⟨967, 16, 967, 65⟩) ⟨967, 4, 967, 65⟩), (Stmt.If (Expr.Compare (Expr.Name (Str.ofString "way") ⟨968, 7, 968, 10⟩) [CmpOp.Eq] [(Expr.Constant (Const.int 0) 0 ⟨968, 14, 968, 15⟩)] ⟨968, 7, 968, 15⟩) [(Stmt.Expr (Expr.Call (Expr.Attribute (Expr.Attribute (Expr.Name (Str.ofString "sockets") ⟨969, 8, 969, 15⟩) (Str.ofString "table") ⟨969, 8, 969, 21⟩) (Str.ofString "listen") ⟨969, 8, 969, 28⟩) [(Expr.Name (Str.ofString "turn") ⟨969, 29, 969, 33⟩), (Expr.Name (Str.ofString "port") ⟨969, 35, 969, 39⟩), (Expr.Name (Str.ofString "turn") ⟨969, 41, 969, 45⟩)] [] ⟨969, 8, 969, 46⟩) ⟨969, 8, 969, 46⟩), (Stmt.Assign [(Expr.Subscript (Expr.Name (Str.ofString "used") ⟨970, 8, 970, 12⟩) (Expr.Name (Str.ofString "turn") ⟨970, 13, 970, 17⟩) ⟨970, 8, 970, 18⟩)] (Expr.Name (Str.ofString "port") ⟨970, 21, 970, 25⟩) ⟨970, 8, 970, 25⟩)] [(Stmt.If (Expr.Compare (Expr.Name (Str.ofString "way") ⟨971, 9, 971, 12⟩) [CmpOp.Eq] [(Expr.Constant (Const.int 1) 0 ⟨971, 16, 971, 17⟩)] ⟨971, 9, 971, 17⟩) [(Stmt.Expr (Expr.Call (Expr.Attribute (Expr.Attribute (Expr.Name (Str.ofString "sockets") ⟨972, 8, 972, 15⟩) (Str.ofString "table") ⟨972, 8, 972, 21⟩) (Str.ofString "connect") ⟨972, 8, 972, 29⟩) [(Expr.Tuple [(Expr.BinOp (Expr.Constant (Const.int 100) 0 ⟨972, 31, 972, 34⟩) Operator.Add (Expr.Name (Str.ofString "turn") ⟨972, 37, 972, 41⟩) ⟨972, 31, 972, 41⟩), (Expr.Name (Str.ofString "port") ⟨972, 43, 972, 47⟩)] 0 ⟨972, 30, 972, 48⟩), (Expr.Tuple [(Expr.Constant (Const.int 8) 0 ⟨972, 51, 972, 52⟩), (Expr.BinOp (Expr.Constant (Const.int 30) 0 ⟨972, 54, 972, 56⟩) Operator.Add (Expr.BinOp (Expr.Name (Str.ofString "turn") ⟨972, 59, 972, 63⟩) Operator.Mod (Expr.Constant (Const.int 4) 0 ⟨972, 66, 972, 67⟩) ⟨972, 59, 972, 67⟩) ⟨972, 54, 972, 67⟩)] 0 ⟨972, 50, 972, 68⟩), (Expr.Name (Str.ofString "turn") ⟨972, 70, 972, 74⟩)] [] ⟨972, 8, 972, 75⟩) ⟨972, 8, 972, 75⟩), (Stmt.Assign [(Expr.Subscript (Expr.Name (Str.ofString "used") ⟨973, 8, 973, 12⟩) (Expr.Name (Str.ofString "turn") ⟨973, 13, 973, 17⟩) ⟨973, 8, 973, 18⟩)] (Expr.Name (Str.ofString "port") ⟨973, 21, 973, 25⟩) ⟨973, 8, 973, 25⟩)] [(Stmt.If (Expr.BoolOp BoolOp.And [(Expr.Compare (Expr.Name (Str.ofString "way") ⟨974, 9, 974, 12⟩) [CmpOp.Eq] [(Expr.Constant (Const.int 2) 0 ⟨974, 16, 974, 17⟩)] ⟨974, 9, 974, 17⟩), (Expr.Compare (Expr.Name (Str.ofString "used") ⟨974, 22, 974, 26⟩) [CmpOp.NotEq] [(Expr.Dict [] [] ⟨974, 30, 974, 32⟩)] ⟨974, 22, 974, 32⟩)] ⟨974, 9, 974, 32⟩) [(Stmt.Assign [(Expr.Name (Str.ofString "owner") ⟨975, 8, 975, 13⟩)] (Expr.Call (Expr.Name (Str.ofString "_law_one") ⟨975, 16, 975, 24⟩) [(Expr.Name (Str.ofString "source") ⟨975, 25, 975, 31⟩), (Expr.Call (Expr.Name (Str.ofString "sorted") ⟨975, 33, 975, 39⟩) [(Expr.Name (Str.ofString "used") ⟨975, 40, 975, 44⟩)] [] ⟨975, 33, 975, 45⟩)] [] ⟨975, 16, 975, 46⟩) ⟨975, 8, 975, 46⟩), (Stmt.Expr (Expr.Call (Expr.Attribute (Expr.Name (Str.ofString "used") ⟨976, 8, 976, 12⟩) (Str.ofString "pop") ⟨976, 8, 976, 16⟩) [(Expr.Name (Str.ofString "owner") ⟨976, 17, 976, 22⟩)] [] ⟨976, 8, 976, 23⟩) ⟨976, 8, 976, 23⟩), (Stmt.Return (some (Expr.Compare (Expr.Call (Expr.Attribute (Expr.Attribute (Expr.Name (Str.ofString "sockets") ⟨977, 15, 977, 22⟩) (Str.ofString "table") ⟨977, 15, 977, 28⟩) (Str.ofString "remove") ⟨977, 15, 977, 35⟩) [(Expr.Name (Str.ofString "owner") ⟨977, 36, 977, 41⟩)] [] ⟨977, 15, 977, 42⟩) [CmpOp.Eq] [(Expr.Constant (Const.int 1) 0 ⟨977, 46, 977, 47⟩)] ⟨977, 15, 977, 47⟩)) ⟨977, 8, 977, 47⟩)] [(Stmt.If (Expr.Compare (Expr.Name (Str.ofString "held") ⟨978, 9, 978, 13⟩) [CmpOp.NotEq] [(Expr.List [] ⟨978, 17, 978, 19⟩)] ⟨978, 9, 978, 19⟩) [(Stmt.Assign [(Expr.Name (Str.ofString "one") ⟨979, 8, 979, 11⟩)] (Expr.Call (Expr.Attribute (Expr.Name (Str.ofString "held") ⟨979, 14, 979, 18⟩) (Str.ofString "pop") ⟨979, 14, 979, 22⟩) [(Expr.Call (Expr.Name (Str.ofString "_law_take") ⟨979, 23, 979, 32⟩) [(Expr.Name (Str.ofString "source") ⟨979, 33, 979, 39⟩), (Expr.Call (Expr.Name (Str.ofString "len") ⟨979, 41, 979, 44⟩) [(Expr.Name (Str.ofString "held") ⟨979, 45, 979, 49⟩)] [] ⟨979, 41, 979, 50⟩)] [] ⟨979, 23, 979, 51⟩)] [] ⟨979, 14, 979, 52⟩) ⟨979, 8, 979, 52⟩), (Stmt.Expr (Expr.Call (Expr.Attribute (Expr.Attribute (Expr.Name (Str.ofString "sockets") ⟨980, 8, 980, 15⟩) (Str.ofString "ports") ⟨980, 8, 980, 21⟩) (Str.ofString "free") ⟨980, 8, 980, 26⟩) [(Expr.Name (Str.ofString "one") ⟨980, 27, 980, 30⟩)] [] ⟨980, 8, 980, 31⟩) ⟨980, 8, 980, 31⟩), (Stmt.Return (some (Expr.Call (Expr.Name (Str.ofString "_law_refused") ⟨981, 15, 981, 27⟩) [(Expr.Lambda (Arguments.mk [] [] none [] [] none []) (Expr.Call (Expr.Attribute (Expr.Attribute (Expr.Name (Str.ofString "sockets") ⟨981, 36, 981, 43⟩) (Str.ofString "ports") ⟨981, 36, 981, 49⟩) (Str.ofString "free") ⟨981, 36, 981, 54⟩) [(Expr.Name (Str.ofString "one") ⟨981, 55, 981, 58⟩)] [] ⟨981, 36, 981, 59⟩) (Scope.mk ScopeKind.function [((Str.ofString "one"), NameKind.free), ((Str.ofString "sockets"), NameKind.free)] false false []) ⟨981, 28, 981, 59⟩)] [] ⟨981, 15, 981, 60⟩)) ⟨981, 8, 981, 60⟩)] [] ⟨978, 4, 981, 60⟩)] ⟨974, 4, 981, 60⟩)] ⟨971, 4, 981, 60⟩)] ⟨968, 4, 981, 60⟩), (Stmt.Return (some (Expr.Compare (Expr.Call (Expr.Attribute (Expr.Name (Str.ofString "sockets") ⟨982, 11, 982, 18⟩) (Str.ofString "own_port") ⟨982, 11, 982, 27⟩) [(Expr.Constant (Const.int 77) 0 ⟨982, 28, 982, 30⟩)] [] ⟨982, 11, 982, 31⟩) [CmpOp.Eq] [(Expr.Constant (Const.int 77) 0 ⟨982, 35, 982, 37⟩)] ⟨982, 11, 982, 37⟩)) ⟨982, 4, 982, 37⟩)]) (Scope.mk ScopeKind.function [((Str.ofString "source"), NameKind.local), ((Str.ofString "sockets"), NameKind.cell), ((Str.ofString "used"), NameKind.local), ((Str.ofString "held"), NameKind.local), ((Str.ofString "turn"), NameKind.local), ((Str.ofString "way"), NameKind.local), ((Str.ofString "port"), NameKind.local), ((Str.ofString "owner"), NameKind.local), ((Str.ofString "one"), NameKind.cell), ((Str.ofString "_law_take"), NameKind.globalImplicit), ((Str.ofString "_law_one"), NameKind.globalImplicit), ((Str.ofString "sorted"), NameKind.globalImplicit), ((Str.ofString "len"), NameKind.globalImplicit), ((Str.ofString "_law_refused"), NameKind.globalImplicit)] false false []) 3 [] Value.none Value.none Value.none (Value.str (Str.ofString "law_pq1204_01") 2156) none (Value.ref 1446) Value.none 0)) (List.toArray []))) ::
  (nat_lit 1453, (Obj.mk (Value.type "code") none (Data.fields (List.toArray [(Value.str (Str.ofString "_law_sockets") 2223), (Value.str (Str.ofString "_law_sockets") 2224), (Value.str (Str.ofString "/claim/cut.py") 2225), (Value.int 983 0), (Value.int 1 0), (Value.int 0 0), (Value.int 0 0), (Value.int 3 0), (Value.ref 1448), (Value.bool true), (Value.int 181 0), (Value.ref 1449), Value.none, (Value.ref 1450), (Value.ref 1451), (Value.ref 1452), (Value.int 2227 0), (Value.int 983 0), (Value.str (Str.ofString "/claim/cut.py") 2228)])) (List.toArray []))) ::
  (nat_lit 1454, (Obj.mk (Value.type "function") none (Data.func (FuncData.mk (Str.ofString "_law_sockets") (Str.ofString "_law_sockets") (Arguments.mk [] [(Arg.mk (Str.ofString "many") none ⟨983, 17, 983, 21⟩)] none [] [] none []) (FuncBody.stmts [(Stmt.Return (some (Expr.Call (Expr.Name (Str.ofString "TcpSockets") ⟨984, 11, 984, 21⟩) [(Expr.Call (Expr.Name (Str.ofString "Limits") ⟨984, 22, 984, 28⟩) [(Expr.Constant (Const.int 256) 0 ⟨984, 29, 984, 32⟩), (Expr.Constant (Const.int 4) 0 ⟨984, 34, 984, 35⟩), (Expr.Constant (Const.int 16) 0 ⟨984, 37, 984, 39⟩), (Expr.Constant (Const.int 16) 0 ⟨984, 41, 984, 43⟩), (Expr.Constant (Const.int 6) 0 ⟨984, 45, 984, 46⟩), (Expr.Constant (Const.int 3) 0 ⟨984, 48, 984, 49⟩), (Expr.Constant (Const.int 20) 0 ⟨984, 51, 984, 53⟩), (Expr.Constant (Const.int 4) 0 ⟨984, 55, 984, 56⟩), (Expr.Constant (Const.int 1) 0 ⟨984, 58, 984, 59⟩), (Expr.Constant (Const.int 5) 0 ⟨984, 61, 984, 62⟩)] [] ⟨984, 22, 984, 63⟩), (Expr.Constant (Const.int 5) 0 ⟨984, 65, 984, 66⟩), (Expr.Constant (Const.int 30) 0 ⟨984, 68, 984, 70⟩), (Expr.BinOp (Expr.Constant (Const.int 29) 0 ⟨984, 72, 984, 74⟩) Operator.Add (Expr.Name (Str.ofString "many") ⟨984, 77, 984, 81⟩) ⟨984, 72, 984, 81⟩)] [] ⟨984, 11, 984, 82⟩)) ⟨984, 4, 984, 82⟩)]) (Scope.mk ScopeKind.function [((Str.ofString "many"), NameKind.local), ((Str.ofString "TcpSockets"), NameKind.globalImplicit), ((Str.ofString "Limits"), NameKind.globalImplicit)] false false []) 3 [] Value.none Value.none Value.none (Value.str (Str.ofString "law_pq1204_01") 2156) none (Value.ref 1453) Value.none 0)) (List.toArray []))) ::
  (nat_lit 1460, (Obj.mk (Value.type "code") none (Data.fields (List.toArray [(Value.str (Str.ofString "_law_own_ports_right") 2230), (Value.str (Str.ofString "_law_own_ports_right") 2231), (Value.str (Str.ofString "/claim/cut.py") 2232), (Value.int 985 0), (Value.int 1 0), (Value.int 0 0), (Value.int 0 0), (Value.int 3 0), (Value.ref 1455), (Value.bool true), (Value.int 181 0), (Value.ref 1456), Value.none, (Value.ref 1457), (Value.ref 1458), (Value.ref 1459), (Value.int 2240 0), (Value.int 985 0), (Value.str (Str.ofString "/claim/cut.py") 2241)])) (List.toArray []))) ::
  (nat_lit 1461, (Obj.mk (Value.type "function") none (Data.func (FuncData.mk (Str.ofString "_law_own_ports_right") (Str.ofString "_law_own_ports_right") (Arguments.mk [] [(Arg.mk (Str.ofString "source") none ⟨985, 25, 985, 31⟩)] none [] [] none []) (FuncBody.stmts [(Stmt.Assign [(Expr.Name (Str.ofString "many") ⟨986, 4, 986, 8⟩)] (Expr.BinOp (Expr.Constant (Const.int 1) 0 ⟨986, 11, 986, 12⟩) Operator.Add (Expr.Call (Expr.Name (Str.ofString "_law_take") ⟨986, 15, 986, 24⟩) [(Expr.Name (Str.ofString "source") ⟨986, 25, 986, 31⟩), (Expr.Constant (Const.int 4) 0 ⟨986, 33, 986, 34⟩)] [] ⟨986, 15, 986, 35⟩) ⟨986, 11, 986, 35⟩) ⟨986, 4, 986, 35⟩), (Stmt.Assign [(Expr.Tuple [(Expr.Name (Str.ofString "sockets") ⟨987, 4, 987, 11⟩), (Expr.Name (Str.ofString "used") ⟨987, 13, 987, 17⟩), (Expr.Name (Str.ofString "held") ⟨987, 19, 987, 23⟩), (Expr.Name (Str.ofString "begin") ⟨987, 25, 987, 30⟩)] 0 ⟨987, 4, 987, 30⟩)] (Expr.Tuple [(Expr.Call (Expr.Name (Str.ofString "_law_sockets") ⟨987, 34, 987, 46⟩) [(Expr.Name (Str.ofString "many") ⟨987, 47, 987, 51⟩)] [] ⟨987, 34, 987, 52⟩), (Expr.Dict [] [] ⟨987, 54, 987, 56⟩), (Expr.List [] ⟨987, 58, 987, 60⟩), (Expr.Constant (Const.int 30) 0 ⟨987, 62, 987, 64⟩)] 0 ⟨987, 33, 987, 65⟩) ⟨987, 4, 987, 65⟩), (Stmt.For (Expr.Name (Str.ofString "turn") ⟨988, 8, 988, 12⟩) (Expr.Call (Expr.Name (Str.ofString "range") ⟨988, 16, 988, 21⟩) [(Expr.BinOp (Expr.Constant (Const.int 5) 0 ⟨988, 22, 988, 23⟩) Operator.Add (Expr.Call (Expr.Name (Str.ofString "_law_take") ⟨988, 26, 988, 35⟩) [(Expr.Name (Str.ofString "source") ⟨988, 36, 988, 42⟩), (Expr.Constant (Const.int 12) 0 ⟨988, 44, 988, 46⟩)] [] ⟨988, 26, 988, 47⟩) ⟨988, 22, 988, 47⟩)] [] ⟨988, 16, 988, 48⟩) [(Stmt.If (Expr.Compare (Expr.Call (Expr.Name (Str.ofString "_law_take") ⟨989, 11, 989, 20⟩) [(Expr.Name (Str.ofString "source") ⟨989, 21, 989, 27⟩), (Expr.Constant (Const.int 2) 0 ⟨989, 29, 989, 30⟩)] [] ⟨989, 11, 989, 31⟩) [CmpOp.Eq] [(Expr.Constant (Const.int 0) 0 ⟨989, 35, 989, 36⟩)] ⟨989, 11, 989, 36⟩) [(Stmt.Assign [(Expr.Name (Str.ofString "begin") ⟨990, 12, 990, 17⟩)] (Expr.Call (Expr.Name (Str.ofString "_law_asked_right") ⟨990, 20, 990, 36⟩) [(Expr.Name (Str.ofString "sockets") ⟨990, 37, 990, 44⟩), (Expr.Name (Str.ofString "used") ⟨990, 46, 990, 50⟩), (Expr.Name (Str.ofString "held") ⟨990, 52, 990, 56⟩), (Expr.Name (Str.ofString "begin") ⟨990, 58, 990, 63⟩), (Expr.Name (Str.ofString "many") ⟨990, 65, 990, 69⟩)] [] ⟨990, 20, 990, 70⟩) ⟨990, 12, 990, 70⟩), (Stmt.If (Expr.Compare (Expr.Name (Str.ofString "begin") ⟨991, 15, 991, 20⟩) [CmpOp.Is] [(Expr.Constant Const.none 0 ⟨991, 24, 991, 28⟩)] ⟨991, 15, 991, 28⟩) [(Stmt.Return (some (Expr.Constant (Const.bool false) 0 ⟨992, 23, 992, 28⟩)) ⟨992, 16, 992, 28⟩)] [] ⟨991, 12, 992, 28⟩)] [(Stmt.If (Expr.UnaryOp UnaryOp.Not (Expr.Call (Expr.Name (Str.ofString "_law_turn_right") ⟨993, 17, 993, 32⟩) [(Expr.Name (Str.ofString "source") ⟨993, 33, 993, 39⟩), (Expr.Name (Str.ofString "sockets") ⟨993, 41, 993, 48⟩), (Expr.Name (Str.ofString "used") ⟨993, 50, 993, 54⟩), (Expr.Name (Str.ofString "held") ⟨993, 56, 993, 60⟩), (Expr.Name (Str.ofString "turn") ⟨993, 62, 993, 66⟩)] [] ⟨993, 17, 993, 67⟩) ⟨993, 13, 993, 67⟩) [(Stmt.Return (some (Expr.Constant (Const.bool false) 0 ⟨994, 19, 994, 24⟩)) ⟨994, 12, 994, 24⟩)] [] ⟨993, 8, 994, 24⟩)] ⟨989, 8, 994, 24⟩), (Stmt.If (Expr.BoolOp BoolOp.Or [(Expr.Compare (Expr.Call (Expr.Name (Str.ofString "sorted") ⟨995, 11, 995, 17⟩) [(Expr.Attribute (Expr.Attribute (Expr.Name (Str.ofString "sockets") ⟨995, 18, 995, 25⟩) (Str.ofString "ports") ⟨995, 18, 995, 31⟩) (Str.ofString "taken") ⟨995, 18, 995, 37⟩)] [] ⟨995, 11, 995, 38⟩) [CmpOp.NotEq] [(Expr.Call (Expr.Name (Str.ofString "sorted") ⟨995, 42, 995, 48⟩) [(Expr.Name (Str.ofString "held") ⟨995, 49, 995, 53⟩)] [] ⟨995, 42, 995, 54⟩)] ⟨995, 11, 995, 54⟩), (Expr.Compare (Expr.Attribute (Expr.Attribute (Expr.Name (Str.ofString "sockets") ⟨995, 58, 995, 65⟩) (Str.ofString "ports") ⟨995, 58, 995, 71⟩) (Str.ofString "following") ⟨995, 58, 995, 81⟩) [CmpOp.NotEq] [(Expr.Name (Str.ofString "begin") ⟨995, 85, 995, 90⟩)] ⟨995, 58, 995, 90⟩)] ⟨995, 11, 995, 90⟩) [(Stmt.Return (some (Expr.Constant (Const.bool false) 0 ⟨996, 19, 996, 24⟩)) ⟨996, 12, 996, 24⟩)] [] ⟨995, 8, 996, 24⟩)] [] ⟨988, 4, 996, 24⟩), (Stmt.Return (some (Expr.Constant (Const.bool true) 0 ⟨997, 11, 997, 15⟩)) ⟨997, 4, 997, 15⟩)]) (Scope.mk ScopeKind.function [((Str.ofString "source"), NameKind.local), ((Str.ofString "many"), NameKind.local), ((Str.ofString "sockets"), NameKind.local), ((Str.ofString "used"), NameKind.local), ((Str.ofString "held"), NameKind.local), ((Str.ofString "begin"), NameKind.local), ((Str.ofString "turn"), NameKind.local), ((Str.ofString "_law_take"), NameKind.globalImplicit), ((Str.ofString "_law_sockets"), NameKind.globalImplicit), ((Str.ofString "range"), NameKind.globalImplicit), ((Str.ofString "_law_asked_right"), NameKind.globalImplicit), ((Str.ofString "_law_turn_right"), NameKind.globalImplicit), ((Str.ofString "sorted"), NameKind.globalImplicit)] false false []) 3 [] Value.none Value.none Value.none (Value.str (Str.ofString "law_pq1204_01") 2156) none (Value.ref 1460) Value.none 0)) (List.toArray []))) ::
  (nat_lit 1467, (Obj.mk (Value.type "code") none (Data.fields (List.toArray [(Value.str (Str.ofString "_law_told") 2243), (Value.str (Str.ofString "_law_told") 2244), (Value.str (Str.ofString "/claim/cut.py") 2245), (Value.int 998 0), (Value.int 1 0), (Value.int 0 0), (Value.int 0 0), (Value.int 3 0), (Value.ref 1462), (Value.bool true), (Value.int 181 0), (Value.ref 1463), Value.none, (Value.ref 1464), (Value.ref 1465), (Value.ref 1466), (Value.int 2247 0), (Value.int 998 0), (Value.str (Str.ofString "/claim/cut.py") 2248)])) (List.toArray []))) ::
  (nat_lit 1468, (Obj.mk (Value.type "function") none (Data.func (FuncData.mk (Str.ofString "_law_told") (Str.ofString "_law_told") (Arguments.mk [] [(Arg.mk (Str.ofString "ports") none ⟨998, 14, 998, 19⟩)] none [] [] none []) (FuncBody.stmts [(Stmt.Try [(Stmt.Return (some (Expr.Call (Expr.Attribute (Expr.Name (Str.ofString "ports") ⟨1000, 15, 1000, 20⟩) (Str.ofString "next_free") ⟨1000, 15, 1000, 30⟩) [] [] ⟨1000, 15, 1000, 32⟩)) ⟨1000, 8, 1000, 32⟩)] [(ExceptHandler.ExceptHandler (some (Expr.Name (Str.ofString "PortError") ⟨1001, 11, 1001, 20⟩)) none [(Stmt.Return (some (Expr.Constant Const.none 0 ⟨1002, 15, 1002, 19⟩)) ⟨1002, 8, 1002, 19⟩)] ⟨1001, 4, 1002, 19⟩)] [] [] ⟨999, 4, 1002, 19⟩)]) (Scope.mk ScopeKind.function [((Str.ofString "ports"), NameKind.local), ((Str.ofString "PortError"), NameKind.globalImplicit)] false false []) 3 [] Value.none Value.none Value.none (Value.str (Str.ofString "law_pq1204_01") 2156) none (Value.ref 1467) Value.none 0)) (List.toArray []))) ::
  (nat_lit 1474, (Obj.mk (Value.type "code") none (Data.fields (List.toArray [(Value.str (Str.ofString "law") 2250), (Value.str (Str.ofString "law") 2251), (Value.str (Str.ofString "/claim/cut.py") 2252), (Value.int 1003 0), (Value.int 1 0), (Value.int 0 0), (Value.int 0 0), (Value.int 3 0), (Value.ref 1469), (Value.bool true), (Value.int 181 0), (Value.ref 1470), Value.none, (Value.ref 1471), (Value.ref 1472), (Value.ref 1473), (Value.int 2256 0), (Value.int 1003 0), (Value.str (Str.ofString "/claim/cut.py") 2257)])) (List.toArray []))) ::
  (nat_lit 1475, (Obj.mk (Value.type "function") none (Data.func (FuncData.mk (Str.ofString "law") (Str.ofString "law") (Arguments.mk [] [(Arg.mk (Str.ofString "script") none ⟨1003, 8, 1003, 14⟩)] none [] [] none []) (FuncBody.stmts [(Stmt.Assign [(Expr.Name (Str.ofString "few") ⟨1004, 4, 1004, 7⟩)] (Expr.Call (Expr.Name (Str.ofString "_law_sockets") ⟨1004, 10, 1004, 22⟩) [(Expr.Constant (Const.int 3) 0 ⟨1004, 23, 1004, 24⟩)] [] ⟨1004, 10, 1004, 25⟩) ⟨1004, 4, 1004, 25⟩), (Stmt.Expr (Expr.Call (Expr.Attribute (Expr.Attribute (Expr.Name (Str.ofString "few") ⟨1005, 4, 1005, 7⟩) (Str.ofString "table") ⟨1005, 4, 1005, 13⟩) (Str.ofString "connect") ⟨1005, 4, 1005, 21⟩) [(Expr.Tuple [(Expr.Constant (Const.int 7) 0 ⟨1005, 23, 1005, 24⟩), (Expr.Constant (Const.int 30) 0 ⟨1005, 26, 1005, 28⟩)] 0 ⟨1005, 22, 1005, 29⟩), (Expr.Tuple [(Expr.Constant (Const.int 8) 0 ⟨1005, 32, 1005, 33⟩), (Expr.Constant (Const.int 31) 0 ⟨1005, 35, 1005, 37⟩)] 0 ⟨1005, 31, 1005, 38⟩), (Expr.Constant (Const.int 1) 0 ⟨1005, 40, 1005, 41⟩)] [] ⟨1005, 4, 1005, 42⟩) ⟨1005, 4, 1005, 42⟩), (Stmt.Expr (Expr.Call (Expr.Attribute (Expr.Attribute (Expr.Name (Str.ofString "few") ⟨1006, 4, 1006, 7⟩) (Str.ofString "table") ⟨1006, 4, 1006, 13⟩) (Str.ofString "listen") ⟨1006, 4, 1006, 20⟩) [(Expr.Constant (Const.int 0) 0 ⟨1006, 21, 1006, 22⟩), (Expr.Constant (Const.int 32) 0 ⟨1006, 24, 1006, 26⟩), (Expr.Constant (Const.int 2) 0 ⟨1006, 28, 1006, 29⟩)] [] ⟨1006, 4, 1006, 30⟩) ⟨1006, 4, 1006, 30⟩), (Stmt.If (Expr.BoolOp BoolOp.Or [(Expr.Compare (Expr.Call (Expr.Attribute (Expr.Name (Str.ofString "few") ⟨1007, 7, 1007, 10⟩) (Str.ofString "own_port") ⟨1007, 7, 1007, 19⟩) [(Expr.Constant (Const.int 0) 0 ⟨1007, 20, 1007, 21⟩)] [] ⟨1007, 7, 1007, 22⟩) [CmpOp.NotEq] [(Expr.Constant (Const.int 31) 0 ⟨1007, 26, 1007, 28⟩)] ⟨1007, 7, 1007, 28⟩), (Expr.UnaryOp UnaryOp.Not (Expr.Call (Expr.Name (Str.ofString "_law_refused") ⟨1007, 36, 1007, 48⟩) [(Expr.Lambda (Arguments.mk [] [] none [] [] none []) (Expr.Call (Expr.Attribute (Expr.Name (Str.ofString "few") ⟨1007, 57, 1007, 60⟩) (Str.ofString "own_port") ⟨1007, 57, 1007, 69⟩) [(Expr.Constant (Const.int 0) 0 ⟨1007, 70, 1007, 71⟩)] [] ⟨1007, 57, 1007, 72⟩) (Scope.mk ScopeKind.function [((Str.ofString "few"), NameKind.free)] false false []) ⟨1007, 49, 1007, 72⟩)] [] ⟨1007, 36, 1007, 73⟩) ⟨1007, 32, 1007, 73⟩), (Expr.Compare (Expr.Call (Expr.Attribute (Expr.Attribute (Expr.Name (Str.ofString "few") ⟨1007, 77, 1007, 80⟩) (Str.ofString "table") ⟨1007, 77, 1007, 86⟩) (Str.ofString "remove") ⟨1007, 77, 1007, 93⟩) [(Expr.Constant (Const.int 2) 0 ⟨1007, 94, 1007, 95⟩)] [] ⟨1007, 77, 1007, 96⟩) [CmpOp.NotEq] [(Expr.Constant (Const.int 1) 0 ⟨1007, 100, 1007, 101⟩)] ⟨1007, 77, 1007, 101⟩)] ⟨1007, 7, 1007, 101⟩) [(Stmt.Return (some (Expr.Constant (Const.bool false) 0 ⟨1008, 15, 1008, 20⟩)) ⟨1008, 8, 1008, 20⟩)] [] ⟨1007, 4, 1008, 20⟩), (Stmt.If (Expr.BoolOp BoolOp.Or [(Expr.Compare (Expr.Call (Expr.Attribute (Expr.Name (Str.ofString "few") ⟨1009, 7, 1009, 10⟩) (Str.ofString "own_port") ⟨1009, 7, 1009, 19⟩) [(Expr.Constant (Const.int 0) 0 ⟨1009, 20, 1009, 21⟩)] [] ⟨1009, 7, 1009, 22⟩) [CmpOp.NotEq] [(Expr.Constant (Const.int 32) 0 ⟨1009, 26, 1009, 28⟩)] ⟨1009, 7, 1009, 28⟩), (Expr.Compare (Expr.Call (Expr.Attribute (Expr.Attribute (Expr.Name (Str.ofString "few") ⟨1009, 32, 1009, 35⟩) (Str.ofString "table") ⟨1009, 32, 1009, 41⟩) (Str.ofString "remove") ⟨1009, 32, 1009, 48⟩) [(Expr.Constant (Const.int 1) 0 ⟨1009, 49, 1009, 50⟩)] [] ⟨1009, 32, 1009, 51⟩) [CmpOp.NotEq] [(Expr.Constant (Const.int 1) 0 ⟨1009, 55, 1009, 56⟩)] ⟨1009, 32, 1009, 56⟩), (Expr.Compare (Expr.Call (Expr.Attribute (Expr.Name (Str.ofString "few") ⟨1009, 60, 1009, 63⟩) (Str.ofString "own_port") ⟨1009, 60, 1009, 72⟩) [(Expr.Constant (Const.int 0) 0 ⟨1009, 73, 1009, 74⟩)] [] ⟨1009, 60, 1009, 75⟩) [CmpOp.NotEq] [(Expr.Constant (Const.int 30) 0 ⟨1009, 79, 1009, 81⟩)] ⟨1009, 60, 1009, 81⟩)] ⟨1009, 7, 1009, 81⟩) [(Stmt.Return (some (Expr.Constant (Const.bool false) 0 ⟨1010, 15, 1010, 20⟩)) ⟨1010, 8, 1010, 20⟩)] [] ⟨1009, 4, 1010, 20⟩), (Stmt.Expr (Expr.Call (Expr.Attribute (Expr.Attribute (Expr.Name (Str.ofString "few") ⟨1011, 4, 1011, 7⟩) (Str.ofString "ports") ⟨1011, 4, 1011, 13⟩) (Str.ofString "free") ⟨1011, 4, 1011, 18⟩) [(Expr.Constant (Const.int 32) 0 ⟨1011, 19, 1011, 21⟩)] [] ⟨1011, 4, 1011, 22⟩) ⟨1011, 4, 1011, 22⟩), (Stmt.Expr (Expr.Call (Expr.Attribute (Expr.Attribute (Expr.Name (Str.ofString "few") ⟨1012, 4, 1012, 7⟩) (Str.ofString "ports") ⟨1012, 4, 1012, 13⟩) (Str.ofString "free") ⟨1012, 4, 1012, 18⟩) [(Expr.Constant (Const.int 31) 0 ⟨1012, 19, 1012, 21⟩)] [] ⟨1012, 4, 1012, 22⟩) ⟨1012, 4, 1012, 22⟩), (Stmt.If (Expr.BoolOp BoolOp.Or [(Expr.Compare (Expr.Call (Expr.Attribute (Expr.Name (Str.ofString "few") ⟨1013, 7, 1013, 10⟩) (Str.ofString "own_port") ⟨1013, 7, 1013, 19⟩) [(Expr.Constant (Const.int 0) 0 ⟨1013, 20, 1013, 21⟩)] [] ⟨1013, 7, 1013, 22⟩) [CmpOp.NotEq] [(Expr.Constant (Const.int 31) 0 ⟨1013, 26, 1013, 28⟩)] ⟨1013, 7, 1013, 28⟩), (Expr.Compare (Expr.Call (Expr.Attribute (Expr.Name (Str.ofString "few") ⟨1013, 32, 1013, 35⟩) (Str.ofString "own_port") ⟨1013, 32, 1013, 44⟩) [(Expr.Constant (Const.int 0) 0 ⟨1013, 45, 1013, 46⟩)] [] ⟨1013, 32, 1013, 47⟩) [CmpOp.NotEq] [(Expr.Constant (Const.int 32) 0 ⟨1013, 51, 1013, 53⟩)] ⟨1013, 32, 1013, 53⟩)] ⟨1013, 7, 1013, 53⟩) [(Stmt.Return (some (Expr.Constant (Const.bool false) 0 ⟨1014, 15, 1014, 20⟩)) ⟨1014, 8, 1014, 20⟩)] [] ⟨1013, 4, 1014, 20⟩), (Stmt.Expr (Expr.Call (Expr.Attribute (Expr.Attribute (Expr.Name (Str.ofString "few") ⟨1015, 4, 1015, 7⟩) (Str.ofString "ports") ⟨1015, 4, 1015, 13⟩) (Str.ofString "free") ⟨1015, 4, 1015, 18⟩) [(Expr.Constant (Const.int 32) 0 ⟨1015, 19, 1015, 21⟩)] [] ⟨1015, 4, 1015, 22⟩) ⟨1015, 4, 1015, 22⟩), (Stmt.If (Expr.Compare (Expr.Call (Expr.Name (Str.ofString "_law_told") ⟨1016, 7, 1016, 16⟩) [(Expr.Attribute (Expr.Name (Str.ofString "few") ⟨1016, 17, 1016, 20⟩) (Str.ofString "ports") ⟨1016, 17, 1016, 26⟩)] [] ⟨1016, 7, 1016, 27⟩) [CmpOp.NotEq] [(Expr.Constant (Const.int 32) 0 ⟨1016, 31, 1016, 33⟩)] ⟨1016, 7, 1016, 33⟩) [(Stmt.Return (some (Expr.Constant (Const.bool false) 0 ⟨1017, 15, 1017, 20⟩)) ⟨1017, 8, 1017, 20⟩)] [] ⟨1016, 4, 1017, 20⟩), (Stmt.If (Expr.BoolOp BoolOp.Or [(Expr.Call (Expr.Name (Str.ofString "_law_refused") ⟨1018, 7, 1018, 19⟩) [(Expr.Lambda (Arguments.mk [] [] none [] [] none []) (Expr.Call (Expr.Attribute (Expr.Name (Str.ofString "few") ⟨1018, 28, 1018, 31⟩) (Str.ofString "own_port") ⟨1018, 28, 1018, 40⟩) [(Expr.Constant (Const.int 0) 0 ⟨1018, 41, 1018, 42⟩)] [] ⟨1018, 28, 1018, 43⟩) (Scope.mk ScopeKind.function [((Str.ofString "few"), NameKind.free)] false false []) ⟨1018, 20, 1018, 43⟩)] [] ⟨1018, 7, 1018, 44⟩), (Expr.Compare (Expr.Call (Expr.Name (Str.ofString "sorted") ⟨1018, 48, 1018, 54⟩) [(Expr.Attribute (Expr.Attribute (Expr.Name (Str.ofString "few") ⟨1018, 55, 1018, 58⟩) (Str.ofString "ports") ⟨1018, 55, 1018, 64⟩) (Str.ofString "taken") ⟨1018, 55, 1018, 70⟩)] [] ⟨1018, 48, 1018, 71⟩) [CmpOp.NotEq] [(Expr.List [(Expr.Constant (Const.int 30) 0 ⟨1018, 76, 1018, 78⟩), (Expr.Constant (Const.int 31) 0 ⟨1018, 80, 1018, 82⟩), (Expr.Constant (Const.int 32) 0 ⟨1018, 84, 1018, 86⟩)] ⟨1018, 75, 1018, 87⟩)] ⟨1018, 48, 1018, 87⟩)] ⟨1018, 7, 1018, 87⟩) [(Stmt.Return (some (Expr.Constant (Const.bool false) 0 ⟨1019, 15, 1019, 20⟩)) ⟨1019, 8, 1019, 20⟩)] [] ⟨1018, 4, 1019, 20⟩), (Stmt.For (Expr.Name (Str.ofString "k") ⟨1020, 8, 1020, 9⟩) (Expr.Call (Expr.Name (Str.ofString "range") ⟨1020, 13, 1020, 18⟩) [(Expr.Call (Expr.Name (Str.ofString "max") ⟨1020, 19, 1020, 22⟩) [(Expr.Constant (Const.int 1) 0 ⟨1020, 23, 1020, 24⟩), (Expr.Call (Expr.Name (Str.ofString "min") ⟨1020, 26, 1020, 29⟩) [(Expr.Call (Expr.Name (Str.ofString "len") ⟨1020, 30, 1020, 33⟩) [(Expr.Name (Str.ofString "script") ⟨1020, 34, 1020, 40⟩)] [] ⟨1020, 30, 1020, 41⟩), (Expr.Constant (Const.int 2) 0 ⟨1020, 43, 1020, 44⟩)] [] ⟨1020, 26, 1020, 45⟩)] [] ⟨1020, 19, 1020, 46⟩)] [] ⟨1020, 13, 1020, 47⟩) [(Stmt.If (Expr.UnaryOp UnaryOp.Not (Expr.Call (Expr.Name (Str.ofString "_law_own_ports_right") ⟨1021, 15, 1021, 35⟩) [(Expr.Call (Expr.Name (Str.ofString "_law_pool") ⟨1021, 36, 1021, 45⟩) [(Expr.Name (Str.ofString "script") ⟨1021, 46, 1021, 52⟩), (Expr.Name (Str.ofString "k") ⟨1021, 54, 1021, 55⟩)] [] ⟨1021, 36, 1021, 56⟩)] [] ⟨1021, 15, 1021, 57⟩) ⟨1021, 11, 1021, 57⟩) [(Stmt.Return (some (Expr.Constant (Const.bool false) 0 ⟨1022, 19, 1022, 24⟩)) ⟨1022, 12, 1022, 24⟩)] [] ⟨1021, 8, 1022, 24⟩)] [] ⟨1020, 4, 1022, 24⟩), (Stmt.Return (some (Expr.Constant (Const.bool true) 0 ⟨1023, 11, 1023, 15⟩)) ⟨1023, 4, 1023, 15⟩)]) (Scope.mk ScopeKind.function [((Str.ofString "script"), NameKind.local), ((Str.ofString "k"), NameKind.local), ((Str.ofString "few"), NameKind.cell), ((Str.ofString "_law_sockets"), NameKind.globalImplicit), ((Str.ofString "_law_refused"), NameKind.globalImplicit), ((Str.ofString "_law_told"), NameKind.globalImplicit), ((Str.ofString "sorted"), NameKind.globalImplicit), ((Str.ofString "range"), NameKind.globalImplicit), ((Str.ofString "max"), NameKind.globalImplicit), ((Str.ofString "min"), NameKind.globalImplicit), ((Str.ofString "len"), NameKind.globalImplicit), ((Str.ofString "_law_own_ports_right"), NameKind.globalImplicit), ((Str.ofString "_law_pool"), NameKind.globalImplicit)] false false []) 3 [] Value.none Value.none Value.none (Value.str (Str.ofString "law_pq1204_01") 2156) none (Value.ref 1474) Value.none 0)) (List.toArray []))) ::
  []
end
section -- H1
set_option maxHeartbeats 0
noncomputable def runQ (p : Program) (w : World) (n₀ : Nat) (ann : Option Value) : Nat → SharedT → Thread → Option SharedT
  | 0, _, _ => none
  | n + 1, s, t => match through t with
    | true => some s
    | false => match PySem.W.Fast.tw6613529449190102663 n₀ ann t with
      | false => none
      | true => match PySem.W.Fast.tw10156331382660048174 (PySem.W.Fast.tw11892475500146522536 PySem.W.Fast.tw14364793385576792824) p w s t with
        | some (s', t') => runQ p w n₀ ann n s' t'
        | none => none
theorem runQ_spec {p : Program} {w : World} {n₀ : Nat} {ann : Option Value} : ∀ {n : Nat} {s s' : SharedT} {t : Thread}, runQ p w n₀ ann n s t = some s' → topRun treeTable p w n₀ ann n s.abs t = some s'.abs
  | 0, _, _, _, h => by cases h
  | n + 1, s, s', t, h => by
    unfold runQ at h
    unfold topRun
    cases he : through t with
    | true => rw [he] at h; cases h; rfl
    | false =>
      rw [he] at h
      rw [← PySem.W.Fast.te6613529449190102663, ← PySem.W.Fast.te10156331382660048174, ← PySem.W.Fast.te11892475500146522536, ← PySem.W.Fast.te14364793385576792824] at h
      cases hk : stepOk n₀ ann t with
      | false => rw [hk] at h; cases h
      | true =>
        rw [hk] at h
        cases hs : stepT (denote treeTable) p w s t with
        | none => rw [hs] at h; cases h
        | some r => obtain ⟨s₂, t₂⟩ := r; rw [hs] at h; rw [stepT_spec hs]; exact runQ_spec h

noncomputable def T₀ (P : Params) : BT := [boot_o_0 P, boot_o_1 P, boot_o_2 P, boot_o_3 P, boot_o_4 P, boot_o_5 P, boot_o_6 P, boot_o_7 P, boot_o_8 P, boot_o_9 P, boot_o_10 P].foldl (fun (r : BT × Nat) o => (r.1.ins r.2 o, r.2 + 1)) (BT.nil, 0) |>.1
theorem T₀_abs (P : Params) : absHeap (T₀ P) 11 (boot_heap P).life = boot_heap P := by kernel_rfl

theorem LeftO.of_run {p q : Program} {loose : List Str} {Xt : Shared → Bool} {α : Type} {Yf : Shared → α} {Ya : World → α} {N : Nat} {m₀ : Nat} {ann : Option Value}
    {H₀ : Params → Heap} {T : Params → BT} {n : Nat} {life : Life} {d₀ : Drawn} {k₀ : Nat}
    (open_ : ∀ w : World, (fencedOpening treeTable p w N).map (fun s => (s.heap, s.gens, s.drawn, s.toks)) = some (H₀ w.params, Array.mk [], d₀, k₀))
    (abs : ∀ P, absHeap (T P) n life = H₀ P)
    (size : ∀ w : World, ((H₀ w.params).isNs mainGlobals && (Array.mk ([] : List GenState)).size == 0, (H₀ w.params).objs.size, (H₀ w.params).nsMap mainGlobals "__annotations__") = (true, m₀, ann))
    (look : ∀ w : World, (fun os => (runQ p w m₀ ann N ⟨T w.params, n, life, Array.mk [], d₀, k₀, os⟩ (topStub p)).map fun s =>
      ((staticsOk (importedModules p.main.body) (H₀ w.params) s.abs.heap && namesBound p s.abs.heap && gensDone s.abs && laidKept (H₀ w.params) s.abs.heap),
        openSeen q loose (importedModules p.main.body) Xt true s.abs, Yf s.abs)) = fun _ => some (true, openGood q loose, Ya w)) : LeftO p q loose Xt Yf Ya N := fun w => by
  obtain ⟨⟨h, gs, d, k, os⟩, e, e'⟩ := Option.map_eq_some_iff.mp (open_ w)
  obtain ⟨rfl, rfl, rfl, rfl⟩ : h = H₀ w.params ∧ gs = Array.mk [] ∧ d = d₀ ∧ k = k₀ := by simpa using e'
  obtain ⟨z1, z2, z3⟩ : _ ∧ _ ∧ _ := by simpa only [Prod.mk.injEq] using size w
  obtain ⟨s, r, l⟩ := Option.map_eq_some_iff.mp (congrFun (look w) os)
  have r := runQ_spec r
  obtain ⟨l1, l2, l3⟩ : _ ∧ _ ∧ _ := by simpa only [Prod.mk.injEq] using l
  have r : topRun treeTable p w m₀ ann N ⟨H₀ w.params, Array.mk [], d, k, os⟩ (topStub p) = some s.abs := by rw [← abs w.params]; exact r
  have t : topFrom treeTable p w N ⟨H₀ w.params, Array.mk [], d, k, os⟩ = some s.abs := by
    unfold topFrom
    dsimp only
    rw [z1, z2, z3, r]
    show (match staticsOk (importedModules p.main.body) (H₀ w.params) s.abs.heap && namesBound p s.abs.heap && gensDone s.abs && laidKept (H₀ w.params) s.abs.heap with | true => _ | false => _) = _
    rw [l1]
  unfold openEnds
  rw [e]
  show (topFrom treeTable p w N _).map _ = _
  rw [t]
  exact congrArg some (Prod.ext l2 l3)
end
section -- Hk
/-- an object that is not freed -/
noncomputable def liveO (o : Obj) : Option Obj := Obj.rec (motive := fun _ => Option Obj) (fun _ _ d _ => match d with | .freed => none | _ => some o) o
theorem get_live (h : Heap) (a : Addr) : h.get? a = (h.objs[a]?).bind liveO := by
  unfold Heap.get?
  cases q : h.objs[a]? with
  | none => rfl
  | some o => obtain ⟨c, d, t, sl⟩ := o; cases t <;> rfl

/-- the objects at ascending addresses, in one pass -/
noncomputable def pickG (os : List Obj) : Nat → List Nat → List (Option Obj) :=
  List.rec (motive := fun _ => Nat → List Nat → List (Option Obj)) (fun _ _ => [])
    (fun o _ ih i as => List.rec (motive := fun _ => List (Option Obj)) [] (fun a r _ => Bool.rec (motive := fun _ => List (Option Obj)) (ih (Nat.succ i) (a :: r)) (liveO o :: ih (Nat.succ i) r) (Nat.beq a i)) as) os

theorem pickG_get : ∀ (os : List Obj) (i : Nat) (as : List Nat) (l : List (Nat × Obj)), as = l.map (·.1) → pickG os i as = l.map (fun p => some p.2) → ∀ p ∈ l, i ≤ p.1 ∧ (os[p.1 - i]?).bind liveO = some p.2
  | os, i, [], [], _, _ => fun p hp => nomatch hp
  | os, i, [], _ :: _, e, _ => nomatch e
  | [], i, a :: r, [], e, _ => nomatch e
  | [], i, a :: r, q :: l, _, e2 => nomatch (show ([] : List (Option Obj)) = _ :: _ from e2)
  | o :: os, i, a :: r, [], e, _ => nomatch e
  | o :: os, i, a :: r, q :: l, e1, e2 => by
    have e2' : Bool.rec (motive := fun _ => List (Option Obj)) (pickG os (Nat.succ i) (a :: r)) (liveO o :: pickG os (Nat.succ i) r) (Nat.beq a i) = (q :: l).map (fun p => some p.2) := e2
    obtain ⟨ea, er⟩ := List.cons.inj e1
    cases hb : Nat.beq a i with
    | false =>
      rw [hb] at e2'
      have ih := pickG_get os (i + 1) (a :: r) (q :: l) e1 e2'
      intro p hp
      obtain ⟨h1, h2⟩ := ih p hp
      refine ⟨Nat.le_of_succ_le h1, ?_⟩
      have : p.1 - i = (p.1 - (i + 1)) + 1 := by omega
      rw [this]; exact h2
    | true =>
      rw [hb] at e2'
      obtain ⟨eo, el⟩ := List.cons.inj (show liveO o :: pickG os (Nat.succ i) r = some q.2 :: l.map (fun p => some p.2) from e2')
      have ih := pickG_get os (i + 1) r l er el
      have hai : a = i := Nat.eq_of_beq_eq_true hb
      intro p hp
      rcases List.mem_cons.mp hp with rfl | hp
      · have : p.1 = i := ea.symm.trans hai
        refine ⟨Nat.le_of_eq this.symm, ?_⟩
        rw [this, Nat.sub_self]; exact eo
      · obtain ⟨h1, h2⟩ := ih p hp
        refine ⟨Nat.le_of_succ_le h1, ?_⟩
        have : p.1 - i = (p.1 - (i + 1)) + 1 := by omega
        rw [this]; exact h2

theorem lookup_mem' : ∀ {l : List (Nat × Obj)} {a : Nat} {o : Obj}, l.lookup a = some o → (a, o) ∈ l
  | [], _, _, e => nomatch e
  | (b, x) :: r, a, o, e => by
    rw [List.lookup_cons] at e
    split at e
    · rename_i h; rw [beq_iff_eq.mp h, Option.some.inj e]; exact .head _
    · exact .tail _ (lookup_mem' e)

noncomputable def lHook (K : Params → Frag) (as : List Addr) (e : ∀ P, as = (K P).map (·.1)) (ts : List Addr) : Hook where
  α := List (Option Obj) × List (Option Obj)
  obs := fun s => (pickG s.heap.objs.toList 0 as, pickG s.heap.objs.toList 0 ts)
  val := fun w => ((K w.params).map fun p => some p.2, ts.map fun _ => some (tabObj #[]))
  says := fun w h => InK K w h ∧ ∀ P ∈ ts, h.get? P = some (tabObj #[])
  of := fun w s x => by
    obtain ⟨x1, x2⟩ := Prod.mk.inj x
    refine ⟨fun a o ho => ?_, fun P hP => ?_⟩
    · obtain ⟨_, h⟩ := pickG_get _ _ _ _ (e w.params) x1 _ (lookup_mem' ho)
      rw [get_live]; rw [Nat.sub_zero, Array.getElem?_toList] at h; exact h
    · obtain ⟨_, h⟩ := pickG_get _ _ ts (ts.map fun P => (P, tabObj #[])) (by simp [Function.comp_def]) (by rw [x2]; simp [Function.comp_def]) (P, tabObj #[]) (List.mem_map.mpr ⟨P, hP, rfl⟩)
      rw [get_live]; rw [Nat.sub_zero, Array.getElem?_toList] at h; exact h
  keeps := fun w h h' x k => ⟨InK.keeps w h h' x.1 k, fun P hP => k _ _ (x.2 P hP)⟩
theorem lIn_of {K : Params → Frag} {as : List Addr} {e : ∀ P, as = (K P).map (·.1)} {ts : List Addr} {w : World} {h : Heap} (Y : (lHook K as e ts).says w h) : (K w.params).In h := Y.1
theorem lTabs_of {K : Params → Frag} {as : List Addr} {e : ∀ P, as = (K P).map (·.1)} {ts : List Addr} {w : World} {h : Heap} (Y : (lHook K as e ts).says w h) : ∀ P ∈ ts, h.get? P = some (tabObj #[]) := Y.2
end
section -- H2
set_option maxHeartbeats 0
noncomputable def qv : Program := view PySem.Challenge.pw_pq1204_01 [113]
noncomputable def lo : List Str := (PySem.Challenge.pw_pq1204_01.main.scope.names.map (·.1)).filter fun n => !(n == Str.ofString "law")
noncomputable def asK : List Nat := [nat_lit 2, nat_lit 3, nat_lit 34, nat_lit 35, nat_lit 37, nat_lit 38, nat_lit 61, nat_lit 62, nat_lit 63, nat_lit 114, nat_lit 115, nat_lit 121, nat_lit 122, nat_lit 123, nat_lit 129, nat_lit 130, nat_lit 136, nat_lit 137, nat_lit 143, nat_lit 144, nat_lit 150, nat_lit 151, nat_lit 153, nat_lit 154, nat_lit 928, nat_lit 929, nat_lit 931, nat_lit 932, nat_lit 1098, nat_lit 1099, nat_lit 1105, nat_lit 1106, nat_lit 1112, nat_lit 1113, nat_lit 1117, nat_lit 1118, nat_lit 1129, nat_lit 1130, nat_lit 1137, nat_lit 1138, nat_lit 1230, nat_lit 1231, nat_lit 1273, nat_lit 1274, nat_lit 1395, nat_lit 1396, nat_lit 1406, nat_lit 1407, nat_lit 1413, nat_lit 1414, nat_lit 1420, nat_lit 1421, nat_lit 1427, nat_lit 1428, nat_lit 1434, nat_lit 1435, nat_lit 1439, nat_lit 1440, nat_lit 1446, nat_lit 1447, nat_lit 1453, nat_lit 1454, nat_lit 1460, nat_lit 1461, nat_lit 1467, nat_lit 1468, nat_lit 1474, nat_lit 1475]
noncomputable def tsK : List Nat := [nat_lit 1437, nat_lit 1442, nat_lit 1470]
theorem asK_eq : ∀ P, asK = (K P).map (·.1) := fun P => by kernel_rfl
noncomputable def hk : Hook := lHook K asK asK_eq tsK
theorem look : ∀ w : World, (fun os => (runQ PySem.Challenge.pw_pq1204_01 w 11 (some (Value.ref 6)) 10300 ⟨T₀ w.params, 11, (boot_heap w.params).life, Array.mk [], boot_drawn, boot_toks, os⟩ (topStub PySem.Challenge.pw_pq1204_01)).map fun s =>
      ((staticsOk (importedModules PySem.Challenge.pw_pq1204_01.main.body) (boot_heap w.params) s.abs.heap && namesBound PySem.Challenge.pw_pq1204_01 s.abs.heap && gensDone s.abs && laidKept (boot_heap w.params) s.abs.heap),
        PySem.W.Fast.tw4187177175401517315 qv lo (importedModules PySem.Challenge.pw_pq1204_01.main.body) (fun _ => true) true s.abs, hk.obs s.abs)) = fun _ => some (true, openGood qv lo, hk.val w) := fun w => by kernel_rfl
end
section -- H3
set_option maxHeartbeats 0
theorem opening_pw : opening PySem.Challenge.pw_pq1204_01 = plainProg PySem.Challenge.pw_pq1204_01.main.scope.names := by kernel_rfl
theorem fence_pw (s : Shared) : fenceModules? PySem.Challenge.pw_pq1204_01 s = some s := by kernel_rfl
theorem left_pw : LeftO PySem.Challenge.pw_pq1204_01 qv lo (fun _ => true) hk.obs hk.val 10300 :=
  LeftO.of_run (boot_open opening_pw (by decide) fence_pw) T₀_abs (fun w => by kernel_rfl) (by rw [PySem.W.Fast.te4187177175401517315]; exact look)
end
section -- H4
set_option maxHeartbeats 0
theorem bare_pw : PySem.Challenge.rw_pq1204_01.row.prog.bare := ⟨rfl, rfl, rfl, rfl, rfl, by decide +kernel⟩
theorem ok_pw1 : chainsOk qv = true := by kernel_rfl
theorem ok_pw2 : opensWell PySem.Challenge.rw_pq1204_01.row.prog = true := by kernel_rfl
theorem ok_pw3 : (frees PySem.Challenge.rw_pq1204_01.row.toRowW && PySem.Challenge.rw_pq1204_01.row.toRowW.within.isEmpty) = true := by kernel_rfl
theorem prom_pw : PySem.Challenge.rw_pq1204_01.row.toRowW.promised := ⟨[.list []], by decide +kernel, by decide +kernel⟩
noncomputable def dL : DefRec := ((recsOf qv)[0]?).getD ⟨Str.ofString "", ⟨[], [], none, [], [], none, []⟩, [], ⟨.function, [], false, false, []⟩, default⟩
theorem dL_def : defOf qv (Str.ofString "law") = some (dL, []) := by kernel_rfl
theorem dL_name : dL.name = Str.ofString "law" := by kernel_rfl
theorem dL_the : PySem.Challenge.rw_pq1204_01.row.prog.theDef (Str.ofString "law") = some (dL.params, dL.body, dL.scope) := by kernel_rfl
theorem dL_kw : kwWritten? dL.params.kwonlyargs dL.params.kw_defaults = some [] := by kernel_rfl
theorem rec_pw : RecFacts [] h := recFacts_of (R := []) (s := ⟨h, #[], {}, 0, default⟩) rfl
end
section -- H5
set_option maxHeartbeats 0
theorem said_pw : PySem.Challenge.rw_pq1204_01.wellSaid = true := by
  rw [PySem.W.Fast.te9446332074065402090]
  unfold PySem.W.Fast.tw9446332074065402090
  repeat' (with_reducible refine look_both ?_ ?_)
  (unfold PySem.W.Fast.tw17960256430627541270; repeat' (with_reducible refine look_both ?_ ?_))
  (unfold PySem.W.Fast.tw2436336058641802641; repeat' (with_reducible refine look_both ?_ ?_))
  (unfold PySem.W.Fast.tw12908688711261696721; repeat' (with_reducible refine look_both ?_ ?_))
  all_goals decide +kernel
end
section -- H6
set_option maxHeartbeats 0
theorem hd (call : WalkO qv lo (fun _ _ => True) hk.says PySem.Challenge.rw_pq1204_01.row.toRowW dL [] fun f vs => PySem.call f vs) : PySem.Challenge.rw_pq1204_01.Holds :=
  holds_law said_pw fun said => holds_open (r := PySem.Challenge.rw_pq1204_01.row) (q := qv) (loose := lo) (Xt := fun _ => true) (XP := fun _ _ => True) (Yf := hk.obs) (Ya := hk.val) (YP := hk.says) (N := 10300)
    left_pw hk.of hk.keeps (fun _ _ => trivial) (fun _ _ _ _ _ => trivial) dL_def dL_the dL_kw (fun _ _ => rec_pw) rfl said
    (by rw [ok_pw1]; exact Bool.and_eq_true_iff.mpr ⟨ok_pw2, ok_pw3⟩) bare_pw prom_pw call
end
section -- S1
noncomputable abbrev frs (l : List Env) : List Addr := l.filterMap (·.frame)

noncomputable def FrObj (o : Obj) (m : Str → Option Value) : Prop :=
  (∃ es ep, o.data = .dict es ep) ∧ ∀ (h : Heap) (L : Addr) (sl : Array (Option Value)), h.get? L = some { o with slots := sl } → h.Ns L m

theorem frObj_of {h₀ h : Heap} {L : Addr} {m : Str → Option Value} (F : Fr h₀ L h m) : ∃ o, h.get? L = some o ∧ FrObj o m := by
  obtain ⟨o, es, ep, ho, hd, hk, hf⟩ := F.ns
  exact ⟨o, ho, ⟨es, ep, hd⟩, fun h' L' sl e => ⟨_, es, ep, e, hd, hk, hf⟩⟩

theorem none_above {h : Heap} {a : Addr} (k : h.objs.size ≤ a) : h.get? a = none := Heap.get?_none_of_le k

noncomputable def LeaveT (h₀ : Heap) (L : Addr) (oL : Obj) (m : Str → Option Value) (R : Result → Shared → Prop) (v : Value) (s' : Shared) : Prop :=
  ∃ L' m' all sl, Fr h₀ L' s'.heap m' ∧ News h₀ L' s'.heap all ∧ (L, { oL with slots := sl }) ∈ all ∧ (Fr h₀ L s'.heap m → News h₀ L' s'.heap all → R (.ok (.ret v)) s')

theorem leaveT_ {h₀ : Heap} {L L' : Addr} {oL : Obj} {m m' : Str → Option Value} {all : List (Addr × Obj)} {sl : Array (Option Value)} {R : Result → Shared → Prop} {v : Value} {s' : Shared}
    (F' : Fr h₀ L' s'.heap m') (N' : News h₀ L' s'.heap all) (hm : (L, { oL with slots := sl }) ∈ all) (k : Fr h₀ L s'.heap m → News h₀ L' s'.heap all → R (.ok (.ret v)) s') :
    LeaveT h₀ L oL m R v s' := ⟨L', m', all, sl, F', N', hm, k⟩

theorem LeaveT.back {h₀ : Heap} {L : Addr} {oL : Obj} {m : Str → Option Value} {R : Result → Shared → Prop} {v : Value} {s' : Shared} (hL : h₀.objs.size ≤ L) (fo : FrObj oL m) (x : LeaveT h₀ L oL m R v s') : R (.ok (.ret v)) s' := by
  obtain ⟨L', m', all, sl, F', N', hm, k⟩ := x
  exact k ⟨fo.2 _ _ sl (N'.get hm), F'.keep, hL⟩ N'

theorem News.back {h₀ h : Heap} {L L' : Addr} {all news : List (Addr × Obj)} (N : News h₀ L' h all) (hs : ∀ p ∈ news, p ∈ all ∧ p.1 ≠ L) : News h₀ L h news :=
  fun p hp => ⟨(N p (hs p hp).1).1, (hs p hp).2, (N p (hs p hp).1).2.2⟩

section
variable {prog : Program} {w : World} {A : Around} {s : Shared} {h₀ : Heap} {L : Addr} {m mg mb : Str → Option Value} {news : List (Addr × Obj)} {K : Frag} {p : Program} {loose : List Str} {mean : ExcName → Option Value}
  {R : Result → Shared → Prop} {name qual : Str} {params : Arguments} {body : List Stmt} {scope : Scope} {dV kV doc pm cdv ct oc : Value} {an od : Option Addr} {osl : Array (Option Value)} {f : Addr} {args : Args} {binds : List (Str × Value)}

theorem enterT (F : Fr h₀ L s.heap m) (X₀ : K.In h₀) (N : News h₀ L s.heap news) (T : Top p loose mean mg mb h₀)
    (ho : K.lookup f = some ⟨oc, od, .func (fnOf name qual params body scope dV kV doc pm an cdv ct), osl⟩) (hcd : codeIn K cdv qual = true) (hroom : A.depth < recursionLimit)
    (hbind : BindsTo s (fnOf name qual params body scope dV kV doc pm an cdv ct) args binds) (hloc : ∀ y ∈ binds, scope.names.lookup y.1 = some .local)
    (h : ∀ L' oL h₁, s.heap.get? L = some oL → FrObj oL m → Fr h₀ L' h₁ (fun y => binds.reverse.lookup y) → News h₀ L' h₁ ((L, oL) :: news) → L < L' → (∀ p ∈ news, p.1 < L') →
      wpAny (model prog w) (A.deeper (envOf qual scope L' f cdv)) (execs body (envOf qual scope L' f cdv))
        (fun fl s' => LeaveT h₀ L oL m R (match fl with | .ret v => v | _ => .none) s')
        (fun e s' => wpAny (model prog w) (A.deeper (envOf qual scope L' f cdv)) (leaving (envOf qual scope L' f cdv) e) (fun _ s'' => R (.error e) s'') (fun e' s'' => R (.error e') s'') s')
        { s with heap := h₁, toks := s.toks + binds.length })
    (hco : scope.isCoroutine = false) (hgen : scope.isGenerator = false) (hk : scope.kind = .function)
    (hcell : ∀ x ∈ scope.names, x.2 ≠ .cell) : codeAny (model prog w) A (.call (.ref f) args) R s := by
  have X := X₀.keeps F.keep
  obtain ⟨oL, hoL, fo⟩ := frObj_of F
  refine codeAny_call_def (fd := fnOf name qual params body scope dV kV doc pm an cdv ct) (body := body) (binds := binds) hroom (X _ _ ho) rfl (T.nolimit.keeps F.keep) (codeRec_of X hcd) rfl hbind hcell hloc (fun h₁ hns hk₁ => ?_) hco hgen hk
  have hLs : L < s.heap.objs.size := Heap.lt_size hoL
  refine wpAny_mono (h s.heap.objs.size oL h₁ hoL fo ⟨hns, fun b o e => hk₁ b o (F.keep b o e), Nat.le_trans F.above (Nat.le_of_lt hLs)⟩ (fun q hq => ?_) hLs fun q hq => Heap.lt_size (N q hq).1) (fun fl s' hl => hl.back F.above fo) fun _ _ y => y
  rcases List.mem_cons.mp hq with rfl | hq
  · exact ⟨hk₁ _ _ hoL, Nat.ne_of_lt hLs, none_above F.above⟩
  · exact ⟨hk₁ _ _ (N q hq).1, Nat.ne_of_lt (Heap.lt_size (N q hq).1), (N q hq).2.2⟩
end
end
section -- S4
open PySem.Builtin PySem.Builtin.ObjectAttr

theorem exc_refuse (self : Value) : refuseLoop self "__setattr__" [.type "Exception", .type "BaseException", .type "object"] = pure () := by kernel_rfl

section
variable {prog : Program} {w : World} {A : Around} {E : Value → Shared → Prop} {s : Shared} {K : Frag} {e C : Addr} {R : Result → Shared → Prop}

/-- the classes above: only own ones, then Exception's -/
noncomputable def excTail : List Value → Bool
  | .ref _ :: r => excTail r
  | l => l == [.type "Exception", .type "BaseException", .type "object"]
theorem excTail_refuse (self : Value) : ∀ {l : List Value}, excTail l = true → refuseLoop self "__setattr__" l = pure ()
  | [], e => by cases e
  | .ref c :: r, e => by rw [refuseLoop_ref]; exact excTail_refuse self e
  | .type n :: r, e => by rw [beq_iff_eq.mp (show (.type n :: r == [Value.type "Exception", .type "BaseException", .type "object"]) = true from e)]; exact exc_refuse self
  | .none :: _, e => by cases e
  | .ellipsis :: _, e => by cases e
  | .notImplemented :: _, e => by cases e
  | .bool _ :: _, e => by cases e
  | .int _ _ :: _, e => by cases e
  | .float _ _ :: _, e => by cases e
  | .str _ _ :: _, e => by cases e
  | .bytes _ _ :: _, e => by cases e
  | .builtin _ :: _, e => by cases e
noncomputable def excOver (K : Frag) (C : Addr) : Bool := (clsIn K C).any fun cd => excTail cd.mro && cd.hasDict

theorem osa_exc {vs : Array Value} {name : Str} {tk : Tok} {v : Value} (X : K.In s.heap) (he : s.heap.get? e = some ⟨.ref C, none, .fields vs, #[]⟩) (hp : excOver K C = true) (ht : takerIn K C name = some none) (ho : mroIn K C (.type "object") = some true)
    (h : ∀ h' d, d = s.heap.objs.size → (∀ b o, b ≠ e → s.heap.get? b = some o → h'.get? b = some o) → h'.get? e = some ⟨.ref C, some d, .fields vs, #[]⟩ → R (.ok (.ret .none)) { s with heap := h', toks := s.toks + 1 }) :
    codeAny (model prog w) A (.call (.builtin "object.__setattr__") ⟨[.ref e, .str name tk, v], []⟩) R s := by
  have SF := PySem.F.store_object
  have I : InstAt s.heap e ⟨.ref C, none, .fields vs, #[]⟩ C none := ⟨he, rfl, rfl, trivial⟩
  obtain ⟨cd, hc, hcd⟩ := any_some hp
  obtain ⟨hm0, hdct⟩ := Bool.and_eq_true_iff.mp hcd
  have sub : Looks (model prog w) s.heap (isInstance (.ref e) (.type "object")) true := I.type.andThen (looks_mroIn X ho)
  refine codeAny_call_builtin SF.slot.plain SF.entry (@check_slot (model prog w) _ _ s "object.__setattr__" "object" "__setattr__" (.ref e) [.str name tk, v] [] _ SF.kind SF.split sub (SF.args (.ref e) (.str name tk) v) ?_)
  obtain ⟨attr, ha, hr⟩ := Option.bind_eq_some_iff.mp ht
  have hm : Looks (model prog w) s.heap (mroOf (.ref C)) cd.mro := (looks_clsIn X hc).andThen .now
  have L3 : Looks (model prog w) s.heap (storeTaker? attr) none := by
    cases attr with
    | none => exact .now
    | some a =>
      obtain ⟨b, hb, hb'⟩ := Option.map_eq_some_iff.mp hr
      cases b with
      | true => cases hb'
      | false => exact (looks_takesIn X hb).andThen .now
  rw [osa_eq, refuse_eq]
  refine wpAny_bind (wpAny_bind (I.type.here (wpAny_bind (hm.here ?_))))
  rw [excTail_refuse _ hm0]
  refine wpAny_pure (wpAny_bind (I.type.here (wpAny_bind ((looks_findIn X ha).here (wpAny_bind (L3.here ?_))))))
  -- the store
  show wpAny _ _ (storeInOwnDict (.ref e) (.ref C) (.str name tk) name v attr.isSome) _ _ s
  unfold storeInOwnDict
  refine wpAny_bind (wpAny_pure (wpAny_bind ?_))
  show wpAny _ _ (instanceDict e true) _ _ s
  unfold instanceDict
  refine wpAny_bind (wpAny_loadPart he (wpAny_bind ((looks_clsIn X hc).here ?_)))
  rw [hdct]
  dsimp only
  simp -iota only [Bool.not_true, Bool.false_eq_true, if_false, typeHasDict, Bool.or_self]
  refine wpAny_bind (wpAny_alloc ?_)
  have he1 : (s.heap.push { cls := .type "dict", data := .dict #[] }).get? e = some ⟨.ref C, none, .fields vs, #[]⟩ := Heap.get?_push_of_some _ he
  refine wpAny_bind (wpAny_update he1 (wpAny_pure ?_))
  dsimp only
  have hne : s.heap.objs.size ≠ e := Nat.ne_of_gt (Heap.lt_size he)
  have hd1 : ((s.heap.push { cls := .type "dict", data := .dict #[] }).update e fun o => { o with dict := some s.heap.objs.size }).get? s.heap.objs.size = some { cls := .type "dict", data := .dict #[] } :=
    (Heap.get?_update_other _ _ (Ne.symm hne)).trans (Heap.get?_push_size _ rfl)
  unfold storeInDict
  refine wpAny_bind (wpAny_pure (wpAny_bind ?_))
  unfold nsSet
  refine wpAny_bind (wpAny_bind (wpAny_askSetting (wpAny_pure (wpAny_bind (wpAny_mkText (wpAny_bind (wpAny_loadPart hd1 ?_)))))))
  dsimp only
  rw [aRefKeyMayBeTheName_at]
  rw [show (!(#[] : Array DictEntry).any (fun x => x.key.isStr name) && (#[] : Array DictEntry).any (·.refKey)) = false from by simp]
  refine wpAny_updatePart hd1 ?_
  have hd2 := Heap.get?_update_self (Obj.putName name (PyData.keyHash w.params name) (.str name s.toks) v) hd1 (by rfl)
  refine wpAny_bind (wpAny_lookBehind hd2 (by rfl) ?_)
  refine wpAny_pure (h _ _ rfl (fun b o hb hbo => ?_) ?_)
  · have hbs : s.heap.objs.size ≠ b := Nat.ne_of_gt (Heap.lt_size hbo)
    exact (Heap.get?_update_other _ _ hbs).trans ((Heap.get?_update_other _ _ (Ne.symm hb)).trans (Heap.get?_push_of_some _ hbo))
  · exact (Heap.get?_update_other _ _ hne).trans (Heap.get?_update_self _ he1 rfl)
end
end
section -- S5
open PySem.Builtin PySem.Builtin.ObjectAttr
section
variable {prog : Program} {w : World} {A : Around} {R : Result → Shared → Prop} {h : Heap} {g : Array GenState} {d : Drawn} {t : Nat} {os : OsState}
variable {nm q : Str} {C N : Addr} {bs bm bmB : List Value} {hdct : Bool} {sn : List Str} {sub : List Value} {ab : Bool} {col : Option Bool} {dd : Option Addr} {k0 k1 k2 k3 k5 : Option Value} {B newId initId : String}

theorem check_newI (F : ExcBaseFacts B newId initId bmB) (hB : bm.contains (.type B) = true) {M : Model} {E : Value → Shared → Prop} {rest : List Value} {Q : Unit → Shared → Prop}
    (hC : h.get? C = some (excClassObj nm q C N bs bm hdct sn sub ab col dd k0 k1 k2 k3 k5 newId)) (hq : Q () ⟨h, g, d, t, os⟩) : wpAny M A (checkBuiltinCall newId ⟨.ref C :: rest, []⟩) Q E ⟨h, g, d, t, os⟩ := by
  have hcont : (Value.ref C :: bm).contains (.type B) = true := by rw [List.contains_cons, hB, Bool.or_true]
  have hstar := F.noStar
  simp only [checkBuiltinCall, F.newKind, F.newSplit, F.newRow]
  repeat (first | refine wpAny_loadPart_at hC ?_ | (refine wpAny_isSubtype_exc hC ?_; rw [hcont]) | refine wpAny_staticBase_exc hC ?_ | refine wpAny_madeBy_exc hC ?_ | simp only [bne_self_eq_false, Bool.false_eq_true, if_false] | wp_step)
  exact hq

theorem exc_newI (F : ExcBaseFacts B newId initId bmB) (hB : bm.contains (.type B) = true) (hA : bm.contains (.type "AttributeError") = false) (hN : bm.contains (.type "NameError") = false) {rest : List Value}
    (hC : h.get? C = some (excClassObj nm q C N bs bm hdct sn sub ab col dd k0 k1 k2 k3 k5 newId))
    (hq : R (.ok (.ret (.ref (h.objs.size + 1)))) ⟨(h.push { cls := .type "tuple", data := .seq rest.toArray }).push
      { cls := .ref C, data := .fields #[.ref h.objs.size, .none, .none, .none, .bool false, .none] }, g, d, t, os⟩) (hrest : rest.length ≤ sizeLine) :
    codeAny (model prog w) A (.builtin newId ⟨.ref C :: rest, []⟩) R ⟨h, g, d, t, os⟩ := by
  have hends := F.ends
  have hcB : (Value.ref C :: bm).contains (.type B) = true := by rw [List.contains_cons, hB, Bool.or_true]
  have hcA : (Value.ref C :: bm).contains (.type "AttributeError") = false := by rw [List.contains_cons, hA]; rfl
  have hcN : (Value.ref C :: bm).contains (.type "NameError") = false := by rw [List.contains_cons, hN]; rfl
  refine codeAny_builtinAt F.entry ?_
  unfold Builtin.«BaseException.__new__»
  refine PySem.wpAt_bind ?_
  show PySem.wpAt _ _ _ (stack >>= _) _ _ _
  refine PySem.wpAt_bind (PySem.wpAt_stack fun p below => PySem.wpAt_of_wpAny ?_)
  wp_walk
  refine PySem.wpAt_of_wpAny ?_
  rw [F.owner]
  repeat (first | with_reducible refine wpAny_madeHere_exc F.canon hC ?_ | with_reducible refine wpAny_loadPart_at hC ?_ | (with_reducible refine wpAny_isSubtype_exc hC ?_; first | rw [hcB] | rw [hcA] | rw [hcN]) | wp_step)
  show R _ _
  rw [Heap.size_push]
  exact hq
end

section
variable {prog : Program} {w : World} {A : Around} {E : Value → Shared → Prop} {s : Shared} {K : Frag}
variable {nm q : Str} {C N : Addr} {bs bm bmB : List Value} {hdct : Bool} {sn : List Str} {sub : List Value} {ab : Bool} {col : Option Bool} {dd : Option Addr} {k0 k1 k2 k3 k5 : Option Value} {B newId initId : String}

theorem make_exc (F : ExcBaseFacts B newId initId bmB) (hB : bm.contains (.type B) = true) (hA : bm.contains (.type "AttributeError") = false) (hN : bm.contains (.type "NameError") = false) {rest : List Value} {fI : Addr} {Q : Value → Shared → Prop}
    (X : K.In s.heap) (hC : K.lookup C = some (excClassObj nm q C N bs bm hdct sn sub ab col dd k0 k1 k2 k3 k5 newId)) (hi : findIn K (.ref C) "__init__" = some (some (.ref fI))) (hf : typeIn K (.ref fI) = some (.type "function")) (hrest : rest.length ≤ sizeLine)
    (hq : ∀ h' e t, (∀ b o, s.heap.get? b = some o → h'.get? b = some o) → s.heap.get? e = none → s.heap.get? t = none → s.heap.objs.size < e → h'.get? e = some ⟨.ref C, none, .fields #[.ref t, .none, .none, .none, .bool false, .none], #[]⟩ → h'.TupAt t rest →
      wpAny (model prog w) (A.under (.builtin "type.__call__" ⟨.ref C :: rest, []⟩)) (call (.ref fI) (.ref e :: rest)) (fun v s'' => v = .none ∧ Q (.ref e) s'') E { s with heap := h' }) :
    wpAny (model prog w) A (call (.ref C) rest) Q E s := by
  obtain ⟨h, g, d, t, os⟩ := s
  have hC₀ := X _ _ hC
  have f1 := tc_lookup
  have f2 := tc_bind (.ref C)
  have hT : (⟨h, g, d, t, os⟩ : Shared).TypeIs (.ref C) "type" := ⟨_, hC₀, rfl⟩
  refine wpAny_call (codeAny_of_tree ?_)
  show wpAny _ _ (callAny (.ref C) _) _ _ _
  repeat (any_goals (first | assumption | with_reducible refine wpAny_loadPart_at hC₀ ?_ | wp_step))
  refine ⟨rfl, ?_⟩
  refine codeAny_call_builtin_at (Code.quiet_builtin _ (by decide +kernel)) entry_typeCall (wpAny_check_type_call_sub hC₀ ?_)
  repeat (first | with_reducible refine wpAny_loadPart_at hC₀ ?_ | with_reducible refine wpAny_madeBy_exc hC₀ ?_ | wp_step)
  refine codeAny_call_builtin_code (Code.quiet_builtin _ F.quiet) (check_newI F hB hC₀ ?_)
  refine exc_newI F hB hA hN hC₀ ?_ hrest
  show wpAny _ _ _ _ _ _
  have keep : ∀ b o, h.get? b = some o → ((h.push { cls := .type "tuple", data := .seq rest.toArray }).push { cls := .ref C, data := .fields #[.ref h.objs.size, .none, .none, .none, .bool false, .none] }).get? b = some o :=
    fun b o e => Heap.get?_push_of_some _ (Heap.get?_push_of_some _ e)
  have hC₁ := keep _ _ hC₀
  have hget : ((h.push { cls := .type "tuple", data := .seq rest.toArray }).push
      { cls := .ref C, data := .fields #[.ref h.objs.size, .none, .none, .none, .bool false, .none] }).get? (h.objs.size + 1) = some
      { cls := .ref C, data := .fields #[.ref h.objs.size, .none, .none, .none, .bool false, .none] } := by heap_get
  have hcC : (Value.ref C :: bm).contains (.ref C) = true := by simp
  have I₁ : InstAt ((h.push { cls := .type "tuple", data := .seq rest.toArray }).push { cls := .ref C, data := .fields #[.ref h.objs.size, .none, .none, .none, .bool false, .none] }) (h.objs.size + 1)
      { cls := .ref C, data := .fields #[.ref h.objs.size, .none, .none, .none, .bool false, .none] } C none := ⟨hget, rfl, rfl, trivial⟩
  have X₁ : K.In ((h.push { cls := .type "tuple", data := .seq rest.toArray }).push { cls := .ref C, data := .fields #[.ref h.objs.size, .none, .none, .none, .bool false, .none] }) := X.keeps keep
  unfold isInstance
  refine wpAny_bind (wpAny_bind (I₁.type.here (wpAny_isSubtype_exc hC₁ ?_)))
  rw [hcC]
  simp only [Bool.not_true, Bool.false_eq_true, if_false]
  refine wpAny_bind (wpAny_holding ?_)
  refine special_fn (name := "__init__") X₁ I₁ hi hf (wpAny_mono (hq _ (h.objs.size + 1) h.objs.size keep (none_above (Nat.le_succ _)) (none_above (Nat.le_refl _)) (Nat.lt_succ_self _) hget ⟨{ cls := .type "tuple", data := .seq rest.toArray }, 0, ?_, rfl, rfl⟩) (fun v s'' hv => ?_) fun _ _ y => y)
  · exact Heap.get?_push_of_some _ (Heap.get?_push_size _ rfl)
  · obtain ⟨rfl, hv⟩ := hv
    exact wpAny_pure hv
end
end
section -- S6
noncomputable abbrev excObj (C : Addr) (d : Addr) (t : Addr) : Obj := ⟨.ref C, some d, .fields #[.ref t, .none, .none, .none, .bool false, .none], #[]⟩

theorem funFrames_of {h base : Heap} : ∀ {l : List Env}, (∀ env ∈ l, env.scope.kind ≠ .module ∧ ∃ L o, env.frame = some L ∧ base.get? L = none ∧ h.get? L = some o ∧ ∀ vs, o.data ≠ .fields vs) → h.FunFrames base l
  | [], _ => trivial
  | env :: r, k => ⟨(k env (.head _)).1, (k env (.head _)).2, funFrames_of fun e he => k e (.tail _ he)⟩

section
variable {M : Model} {A : Around} {E : Value → Shared → Prop} {s' : Shared} {h₀ h : Heap} {outer : List Env} {L a e C d t : Addr} {m : Str → Option Value} {name : Str} {scope : Scope} {cd : Value} {cl : List (Str × Addr)} {Q : Unit → Shared → Prop} {news : List (Addr × Obj)}

end

section
variable {prog : Program} {w : World} {A₀ : Around} {E : Value → Shared → Prop} {s' : Shared} {h₀ h : Heap} {outer : List Env} {L a e C : Addr} {m : Str → Option Value} {name : Str} {scope : Scope} {cd : Value} {cl : List (Str × Addr)}
  {b₀ : Stmt} {suite : List Stmt} {pos np : Pos} {rest : List ExceptHandler} {Q : Flow → Shared → Prop} {sys fr : List (Addr × Obj)} {KF : Frag}
  {p : Program} {loose : List Str} {mean : ExcName → Option Value} {mg mb : Str → Option Value} {x : Str}
  {nm q : Str} {N : Addr} {bs bm : List Value} {hdct : Bool} {sn : List Str} {sub : List Value} {ab : Bool} {col : Option Bool} {dd : Option Addr} {k0 k1 k2 k3 k5 : Option Value} {newId : String}

end
end
section -- S7
section
variable {M : Model} {A : Around} {E : Value → Shared → Prop} {env : Env}
variable {nm q : Str} {C N : Addr} {bs bm : List Value} {hdct : Bool} {sn : List Str} {sub : List Value} {ab : Bool} {col : Option Bool} {dd : Option Addr} {k0 k1 k2 k3 k5 : Option Value} {newId : String}

noncomputable def RaiseGo (h₀ : Heap) (C : Addr) (E : Value → Shared → Prop) (v : Value) (s : Shared) : Prop :=
  ∃ e d t, v = .ref e ∧ h₀.StaysIn s.heap ∧ s.heap.get? e = some (excObj C d t) ∧ E (.ref e) s

theorem raiseStmt_own {s : Shared} {x : Sem Value} {Q : Flow → Shared → Prop} (hbase : bm.contains (.type "BaseException") = true) (hh : A.handled = none) {h₀ : Heap}
    (hC : h₀.get? C = some (excClassObj nm q C N bs bm hdct sn sub ab col dd k0 k1 k2 k3 k5 newId))
    (h : wpAny M A x (RaiseGo h₀ C E) E s) :
    wpAny M A (raiseStmt env (some x) none) Q E s := by
  have hcB : (Value.ref C :: bm).contains (.type "BaseException") = true := by rw [List.contains_cons, hbase, Bool.or_true]
  unfold raiseStmt
  refine wpAny_bind (wpAny_mono h (fun v s₁ h₁ => ?_) fun _ _ x => x)
  obtain ⟨e, d, t, rfl, st, he, hE⟩ := h₁
  have hC := st _ _ hC
  obtain ⟨hp, g, dr, tk, os⟩ := s₁
  repeat (first | with_reducible refine wpAny_loadPart_at he ?_ | with_reducible refine wpAny_loadPart_at hC ?_ | (with_reducible refine wpAny_isSubtype_exc hC ?_; rw [hcB]) | wp_step)
  exact wpAny_raiseNew_none hh hE
end

section
variable {prog : Program} {w : World} {A : Around} {E : Value → Shared → Prop} {s : Shared} {h₀ : Heap} {L a : Addr} {cd : Value} {cl : List (Str × Addr)} {m mg mb : Str → Option Value} {name : Str} {scope : Scope} {KF : Frag} {p : Program} {loose : List Str} {x : Str} {np cpos pos : Pos}
variable {nm q : Str} {C N : Addr} {bs bm : List Value} {hdct : Bool} {sn : List Str} {sub : List Value} {ab : Bool} {col : Option Bool} {dd : Option Addr} {k0 k1 k2 k3 k5 : Option Value} {newId : String}

theorem Raise_X {e₀ : Expr} {rest : List Expr} {Q : Flow → Shared → Prop} (F : Fr h₀ L s.heap m) (X : KF.In h₀) (T : TopRead p loose mg mb h₀) (ex : nsIn KF mainGlobals x = some (some (.ref C)))
    (hC : KF.lookup C = some (excClassObj nm q C N bs bm hdct sn sub ab col dd k0 k1 k2 k3 k5 newId)) (hbase : bm.contains (.type "BaseException") = true) (hh : A.handled = none)
    (h : wpAny (model prog w) A (spliced (backTo cpos (starEach (e₀ :: rest) (envX name scope L a cd cl)))) (fun vs s₂ => h₀.StaysIn s₂.heap ∧ wpAny (model prog w) A (call (.ref C) vs) (RaiseGo h₀ C E) E s₂) E s)
    (he : starEach (e₀ :: rest) (envX name scope L a cd cl) = (false, eval e₀ (envX name scope L a cd cl)) :: starEach rest (envX name scope L a cd cl) := by rfl)
    (hplain : (backTo cpos (starEach rest (envX name scope L a cd cl))).any (·.1) = false := by rfl)
    (hk : scope.kind = .function := by rfl) (hx : (envX name scope L a cd cl).kindOf x = some .globalImplicit := by rfl) (hd : (x == ("__debug__" : Str)) = false := by decide) :
    wpAny (model prog w) A (exec (.Raise (some (.Call (.Name x np) (e₀ :: rest) [] cpos)) none pos) (envX name scope L a cd cl)) Q E s := by
  have hC₀ := X _ _ hC
  have hpl : (backTo cpos (starEach (e₀ :: rest) (envX name scope L a cd cl))).any (·.1) = false := by
    rw [he]; show (false || (backTo cpos (starEach rest (envX name scope L a cd cl))).any (·.1)) = false; rw [hplain]; rfl
  have go : ∀ {f : Value} {s₁ : Shared}, f = .ref C ∧ wpAny (model prog w) A (spliced (backTo cpos (starEach (e₀ :: rest) (envX name scope L a cd cl)))) (fun vs s₂ => h₀.StaysIn s₂.heap ∧ wpAny (model prog w) A (call (.ref C) vs) (RaiseGo h₀ C E) E s₂) E s₁ → wpAny (model prog w) A (callWith cpos f [] (backTo cpos (starEach (e₀ :: rest) (envX name scope L a cd cl))) (backToKw cpos (keywordEach [] (envX name scope L a cd cl)))) (RaiseGo h₀ C E) E s₁ := by
    rintro f s₁ ⟨rfl, h₁⟩
    unfold callWith
    have h₂ : wpAny (model prog w) A (evalArgs (.ref C) true (backTo cpos (starEach (e₀ :: rest) (envX name scope L a cd cl))) []) (fun ar s₂ => ar.kw = [] ∧ h₀.StaysIn s₂.heap ∧ wpAny (model prog w) A (call (.ref C) ar.pos) (RaiseGo h₀ C E) E s₂) E s₁ := by
      rw [he] at h₁ ⊢
      exact Calls.evalArgs_plain (wpAny_mono h₁ (fun vs s₂ h₂ => ⟨rfl, h₂⟩) fun _ _ y => y)
    refine wpAny_bind (wpAny_holding (wpAny_mono h₂ (fun ar s₂ h₃ => wpAny_bind (wpAny_standAt ?_)) fun _ _ x => x))
    obtain ⟨apos, akw⟩ := ar
    obtain ⟨hkw, st, h₃⟩ := h₃
    obtain rfl : akw = [] := hkw
    have hC₁ := st _ _ hC₀
    obtain ⟨hp, g, d, tk, os⟩ := s₂
    simp -iota only [hpl]
    refine wpAny_bind (wpAny_keeperOf_exc hC₁ ?_)
    exact wpAny_bind (wpAny_mono h₃ (fun v s₃ h₄ => wpAny_bind (wpAny_holding (wpAny_point (wpAny_pure h₄)))) fun _ _ y => y)
  have nx : wpAny (model prog w) A (eval (.Name x np) (envX name scope L a cd cl)) (fun f s₁ => wpAny (model prog w) A (callWith cpos f [] (backTo cpos (starEach (e₀ :: rest) (envX name scope L a cd cl))) (backToKw cpos (keywordEach [] (envX name scope L a cd cl)))) (RaiseGo h₀ C E) E s₁) E s :=
    nameX_K F X T ex (go ⟨rfl, h⟩) hk hx hd
  rw [arm_exec_Raise]
  refine wpAny_bind (wpAny_standAt (raiseStmt_own hbase hh hC₀ ?_))
  refine wpAny_bind (wpAny_mono (wpAny_Call_ofName (wpAny_mono nx (fun f s₁ h₁ => h₁) fun _ _ x => x)) (fun v s₃ h₃ => wpAny_bind (wpAny_standAt (wpAny_pure h₃))) fun _ _ x => x)
end

section
variable {prog : Program} {w : World} {A : Around} {s : Shared} {env : Env} {h₀ : Heap} {x : Str} {body : List Stmt} {Q : Flow → Shared → Prop} {E : Value → Shared → Prop}

/-- the end of one turn of a loop -/
noncomputable def Turned (h₀ : Heap) (L I : Addr) (oI : List (Addr × Obj)) (Jn : (Str → Option Value) → List (Addr × Obj) → Prop) (s₁ : Shared) (Qr : Value → Shared → Prop) (Qb : Shared → Prop) (f : Flow) (s₂ : Shared) : Prop :=
  match f with
  | .ret v => Qr v s₂
  | .brk => Qb s₂
  | _ => ∃ h' tk m₂ news₂, s₂ = { s₁ with heap := h', toks := tk } ∧ Fr h₀ L h' m₂ ∧ News h₀ L h' (oI ++ news₂) ∧ (∀ p ∈ news₂, p.1 ≠ I) ∧ Jn m₂ news₂

theorem turned_next {L I : Addr} {oI : List (Addr × Obj)} {Jn : (Str → Option Value) → List (Addr × Obj) → Prop} {s₁ : Shared} {Qr : Value → Shared → Prop} {Qb : Shared → Prop} {h' tk m₂} (news₂ : List (Addr × Obj))
    (F : Fr h₀ L h' m₂) (N : News h₀ L h' (oI ++ news₂)) (hI : ∀ p ∈ news₂, p.1 ≠ I) (hJ : Jn m₂ news₂) : Turned h₀ L I oI Jn s₁ Qr Qb .next { s₁ with heap := h', toks := tk } := ⟨h', tk, m₂, news₂, rfl, F, N, hI, hJ⟩
/-- a loop over any walk that writes its iterator alone -/
theorem loop_walks {it : Value} {I : Addr} {fp : List Addr} {n : Nat} {P : Nat → Value → Prop} {St : Nat → Heap → Prop} {m : Str → Option Value} {news : List (Addr × Obj)} (W : Walks prog w A I fp [I] n P St) (hit : it = .ref I)
    (hL : env.locals ∉ fp) (hI₀ : h₀.get? I = none) (hI : ∀ p ∈ news, p.1 ≠ I) (hst : St 0 s.heap) (F : Fr h₀ env.locals s.heap m) (N : News h₀ env.locals s.heap news) (J : Nat → (Str → Option Value) → List (Addr × Obj) → Prop) (h0 : J 0 m news)
    (turn : ∀ i v m₁ news₁ h tk own, i < n → P i v → J i m₁ news₁ → (∀ p ∈ news₁, p.1 ≠ I) → (∀ p ∈ own, p.1 ∈ fp) → (∀ b ∈ fp, h₀.get? b = none → ∀ o, h.get? b = some o → (b, o) ∈ own) → St (i + 1) h →
      Fr h₀ env.locals h (fun y => if y = x then some v else m₁ y) → News h₀ env.locals h (own ++ news₁) →
      wpAny (model prog w) A (execs body env) (Turned h₀ env.locals I own (J (i + 1)) s (fun v s' => Q (.ret v) s') fun s' => Q .next s') E { s with heap := h, toks := tk })
    (done : ∀ h' tk m' news', Fr h₀ env.locals h' m' → News h₀ env.locals h' news' → (∀ p ∈ news', p.1 ≠ I) → J n m' news' → Q .next { s with heap := h', toks := tk }) :
    LoopAtV prog w A h₀ env x body Q E it s := by
  refine ⟨I, fp, [I], n, P, St, m, news, J, hit, W, hL, fun b hb => by rw [List.mem_singleton.mp hb]; exact hI₀, fun p hp => by simp [hI p hp], hst, F, N, h0, ?_, fun h' tk m' news' F' N' hw hJ => done h' tk m' news' F' N' (fun p hp e => hw p hp (by simp [e])) hJ⟩
  rintro i v m₁ news₁ s₁ own ⟨h, tk, rfl⟩ hi hP hJ hw hfp _ hin hst' F' N'
  refine wpAny_mono (turn i v m₁ news₁ h tk own hi hP hJ (fun p hp e => hw p hp (by simp [e])) hfp hin hst' F' N') (fun f s₂ h₂ => ?_) fun _ _ y => y
  cases f with
  | ret v => exact h₂
  | brk => exact h₂
  | cont => obtain ⟨h', tk', m₂, news₂, rfl, F₂, N₂, hI₂, hJ₂⟩ := h₂; exact ⟨rfl, h', tk', m₂, news₂, rfl, F₂, N₂, fun p hp => by simp [hI₂ p hp], hJ₂⟩
  | next => obtain ⟨h', tk', m₂, news₂, rfl, F₂, N₂, hI₂, hJ₂⟩ := h₂; exact ⟨rfl, h', tk', m₂, news₂, rfl, F₂, N₂, fun p hp => by simp [hI₂ p hp], hJ₂⟩

theorem loop_range {r : Addr} {a₀ b₀ c₀ : Int} {t₀ u₀ v₀ : Tok} {m : Str → Option Value} {news : List (Addr × Obj)} (n : Nat) (J : Nat → (Str → Option Value) → List (Addr × Obj) → Prop)
    (hr : IsRange s.heap r a₀ b₀ c₀ t₀ u₀ v₀) (hsmall : Builtin.Range.small a₀ b₀ c₀ = true) (hn : Builtin.Range.rangeSize a₀ b₀ c₀ = (n : Int))
    (F : Fr h₀ env.locals s.heap m) (N : News h₀ env.locals s.heap news) (hh : A.handled = none) (h0 : J 0 m news)
    (turn : ∀ i t m₁ news₁ h tk I oI, i < n → J i m₁ news₁ → (∀ p ∈ news₁, p.1 ≠ I) → (∀ p ∈ news, p.1 < I) → env.locals < I →
      Fr h₀ env.locals h (fun y => if y = x then some (.int (a₀ + i * c₀) t) else m₁ y) → News h₀ env.locals h ((I, oI) :: news₁) →
      wpAny (model prog w) A (execs body env) (Turned h₀ env.locals I [(I, oI)] (J (i + 1)) s (fun v s' => Q (.ret v) s') fun s' => Q .next s') E { s with heap := h, toks := tk })
    (done : ∀ h' tk m' news', Fr h₀ env.locals h' m' → News h₀ env.locals h' news' → J n m' news' → Q .next { s with heap := h', toks := tk }) :
    wpAny (model prog w) A (pyIter (.ref r)) (fun it s₂ => LoopAtV prog w A h₀ env x body Q E it s₂) E s := by
  refine wpAny_pyIter_range hr hsmall ?_
  have hlt := F.ns.lt
  refine loop_walks (m := m) (news := news) (s := { s with heap := _ }) (Walks.range hh s.heap.objs.size a₀ c₀ n) rfl (fun hm => absurd hlt ((List.mem_singleton.mp hm) ▸ Nat.lt_irrefl _)) (next_is_new F) (fun p hp => Nat.ne_of_lt (Heap.lt_size (N p hp).1)) (by show IsRangeIter _ _ _ _ _; rw [hn]; simpa using Heap.get?_push_size _ rfl)
    (F.push _) (fun p hp => ⟨Heap.get?_push_of_some _ (N p hp).1, (N p hp).2⟩) J h0 ?_ fun h' tk m' news' F' N' _ hJ => done h' tk m' news' F' N' hJ
  rintro i v m₁ news₁ h tk own hi ⟨t, rfl⟩ hJ hI hfp hin hst F₁ N₁
  have hmem := hin s.heap.objs.size (.head _) (next_is_new F) _ hst
  have hown : ∀ p ∈ own, p = (s.heap.objs.size, { cls := .type "range_iterator", data := .fields #[rawInt (a₀ + ((i + 1 : Nat) : Int) * c₀), rawInt ((n : Int) - ((i + 1 : Nat) : Int)), rawInt c₀] }) := fun p hp => by
    have h1 := List.mem_singleton.mp (hfp p hp)
    have h2 := (N₁ p (List.mem_append_left _ hp)).1
    rw [h1, hst] at h2
    exact Prod.ext h1 (Option.some.inj h2).symm
  have N₂ : News h₀ env.locals h ((s.heap.objs.size, _) :: news₁) := fun q hq => by
    rcases List.mem_cons.mp hq with rfl | hq
    · exact N₁ _ (List.mem_append_left _ hmem)
    · exact N₁ _ (List.mem_append_right _ hq)
  refine wpAny_mono (turn i t m₁ news₁ h tk _ _ hi hJ hI (fun p hp => Heap.lt_size (N p hp).1) hlt F₁ N₂) (fun f s₂ h₂ => ?_) fun _ _ y => y
  · have back : ∀ {h' : Heap} {news₂ : List (Addr × Obj)} {o : Obj}, (s.heap.objs.size, o) ∈ own → News h₀ env.locals h' ([(s.heap.objs.size, o)] ++ news₂) → News h₀ env.locals h' (own ++ news₂) := fun {h' news₂ o} ho N' q hq => by
      rcases List.mem_append.mp hq with hq | hq
      · have := (hown q hq).trans (hown _ ho).symm
        subst this; exact N' _ (.head _)
      · exact N' _ (List.mem_append_right _ hq)
    cases f with
    | ret v => exact h₂
    | brk => exact h₂
    | cont => obtain ⟨h', tk', m₂, news₂, e, F₂, N₂, r⟩ := h₂; exact ⟨h', tk', m₂, news₂, e, F₂, back hmem N₂, r⟩
    | next => obtain ⟨h', tk', m₂, news₂, e, F₂, N₂, r⟩ := h₂; exact ⟨h', tk', m₂, news₂, e, F₂, back hmem N₂, r⟩
end
end
section -- S2
section
variable {prog : Program} {w : World} {K : Type} [DecidableEq K] {knd : HeapKind prog w K} {A : Around} {E : Value → Shared → Prop} {s : Shared} {d a : Addr}

theorem map_eraseIdx' {α β : Type} (f : α → β) : ∀ (l : List α) (i : Nat), (l.map f).eraseIdx i = (l.eraseIdx i).map f
  | [], _ => rfl
  | _ :: _, 0 => rfl
  | a :: r, i + 1 => by rw [List.map_cons, List.eraseIdx_cons_succ, List.eraseIdx_cons_succ, List.map_cons, map_eraseIdx' f r i]

theorem takeOutH {xs : List (K × Addr × Value)} {k : K} {j : Nat} {p : Addr × Value} {Q : Option DictEntry → Shared → Prop} (hu : knd.room A) (hkey : knd.is s.heap k a) (hm : s.heap.DictOfH knd d xs) (hj : xs[j]? = some (k, p))
    (hQ : ∀ e h', e.val = p.2 → h'.DictOfH knd d (xs.eraseIdx j) → Heap.SameBut d s.heap h' → Q (some e) { s with heap := h', toks := s.toks + knd.draws k })
    (hsz : xs.length ≤ sizeLine) : wpAny (model prog w) A (Builtin.Dict.takeOut d (.ref a)) Q E s := by
  obtain ⟨o, es, ep, ho, hc, hd, he, his, hn⟩ := hm
  unfold Builtin.Dict.takeOut
  try with_reducible refine wpAny_holding ?_
  refine wpAny_bind (knd.pyHash hu hkey (wpAny_bind (wpAny_dictFind_heap (s := { s with toks := s.toks + knd.draws k }) hu hkey ho hd he his hn ?_ ?_)))
  · intro hno
    exact absurd hj (hno j p)
  · intro i q hi
    obtain rfl := idxH_unique hn hi hj
    obtain rfl : q = p := by rw [hi] at hj; cases hj; rfl
    refine wpAny_bind (wpAny_dictEntries (s := { s with toks := s.toks + knd.draws k }) ho hd ?_)
    have hei := entry_at he i
    rw [hi] at hei
    rw [hei]
    have hes : es.size ≤ sizeLine := by have := size_of_entries he; omega
    refine wpAny_bind (wpAny_updateDictKeys (hz := hes) (s := { s with toks := s.toks + knd.draws k }) ho hd (wpAny_pure (hQ _ _ rfl ⟨_, _, ep + 1, Heap.get?_update_self _ ho (Obj.isFreed_of_dict (Obj.data_mapDictKeys hd _)),
      hc.mapDictKeys _, Obj.data_mapDictKeys hd _, ?_, ?_, ?_⟩ (Heap.SameBut.update ..))))
    · rw [← map_eraseIdx', ← he]
      obtain ⟨l⟩ := es
      simp
    · intro x hx
      exact knd.keeps (his x (List.mem_of_mem_eraseIdx hx)) ho hd (Heap.SameBut.update ..)
    · rw [← map_eraseIdx']
      exact List.Nodup.sublist (List.eraseIdx_sublist ..) hn

theorem popH {xs : List (K × Addr × Value)} {k : K} {j : Nat} {p : Addr × Value} {Q : Value → Shared → Prop} (hu : knd.room A.in1) (hkey : knd.is s.heap k a) (hm : s.heap.DictOfH knd d xs) (hj : xs[j]? = some (k, p)) (hsz : xs.length ≤ sizeLine)
    (hargs : argsOk "dict.pop" ⟨[.ref d, .ref a], []⟩)
    (h : ∀ h', h'.DictOfH knd d (xs.eraseIdx j) → Heap.SameBut d s.heap h' → Q p.2 { s with heap := h', toks := s.toks + knd.draws k }) :
    wpAny (model prog w) A (call (.builtin "dict.pop") [.ref d, .ref a]) Q E s := by
  have hT := hm.typeIs
  refine call_meetsIn PySem.F.slot_dict_pop hT PySem.F.entry_dict_pop hargs (S := fun A R s => knd.room A.in1 ∧ ∃ k xs j p, knd.is s.heap k a ∧ s.heap.DictOfH knd d xs ∧ xs[j]? = some (k, p) ∧ xs.length ≤ sizeLine ∧
    ∀ h', h'.DictOfH knd d (xs.eraseIdx j) → Heap.SameBut d s.heap h' → R (.ok (.ret p.2)) { s with heap := h', toks := s.toks + knd.draws k }) (.of_wp fun A R s ⟨hu, k, xs, j, p, hkey, hm, hj, hsz, h⟩ => ?_) ⟨hu, k, xs, j, p, hkey, hm, hj, hsz, h⟩
  obtain ⟨o, es, ep, ho, hc, hd, he, his, hn⟩ := id hm
  unfold Builtin.«dict.pop»
  refine wpAny_bind ?_
  unfold Builtin.Dict.keyAndDefault
  refine wpAny_bind (wpAny_notOrdered_dict hm.typeIs ?_)
  show wpAny _ _ (pure (d, Value.ref a, none)) _ _ s
  refine wpAny_pure ?_
  simp -iota only [keyPart, Option.isSome_none, Bool.false_eq_true, if_false]
  refine wpAny_bind (wpAny_dictEntries ho hd ?_)
  refine wpAny_bind (wpAny_pure ?_)
  have hne : es.isEmpty = false := by
    have h1 := size_of_entries he
    have h2 := (List.getElem?_eq_some_iff.mp hj).1
    rw [Array.isEmpty_eq_false_iff]
    intro h3
    rw [h3] at h1
    simp at h1
    omega
  rw [hne]
  simp -iota only [Bool.false_eq_true, if_false]
  refine wpAny_bind (takeOutH hu hkey hm hj (fun e h' hev hm' hs' => ?_) hsz)
  simp -iota only [Option.isNone_some, Bool.false_eq_true, if_false]
  exact wpAny_bind (wpAny_letGo (wpAny_pure ⟨e.val, rfl, by rw [hev]; exact h h' hm' hs'⟩))

noncomputable def DictAtH (h : Heap) (knd : HeapKind prog w K) (d : Addr) (xs : List (K × Addr × Value)) (ep : Nat) : Prop :=
  ∃ o es, h.get? d = some o ∧ o.ExactDict ∧ o.data = .dict es ep ∧ es.toList = xs.map (entryOfKey knd)
theorem DictAtH.of {h : Heap} {xs : List (K × Addr × Value)} (x : h.DictOfH knd d xs) : ∃ ep, DictAtH h knd d xs ep := let ⟨o, es, ep, ho, hc, hd, he, _⟩ := x; ⟨ep, o, es, ho, hc, hd, he⟩
theorem DictAtH.at' {h h' : Heap} {xs : List (K × Addr × Value)} {ep : Nat} (x : DictAtH h knd d xs ep) (e : ∀ o, h.get? d = some o → h'.get? d = some o) : DictAtH h' knd d xs ep := let ⟨o, es, ho, r⟩ := x; ⟨o, es, e _ ho, r⟩
theorem DictAtH.extBut {h h' : Heap} {b : Addr} {xs : List (K × Addr × Value)} {ep : Nat} (x : DictAtH h knd d xs ep) (hs : Heap.ExtBut b h h') (hab : d ≠ b) : DictAtH h' knd d xs ep := x.at' fun o e => hs d o hab e
theorem DictAtH.typeIs {xs : List (K × Addr × Value)} {ep : Nat} (x : DictAtH s.heap knd d xs ep) : s.TypeIs (.ref d) "dict" := let ⟨o, _, ho, hc, _⟩ := x; ⟨o, ho, hc.1⟩

theorem pyIterH {xs : List (K × Addr × Value)} {ep : Nat} {Q : Value → Shared → Prop} (hd : (d == sysModules) = false) (hm : DictAtH s.heap knd d xs ep)
    (hQ : Q (.ref s.heap.objs.size) { s with heap := s.heap.push { cls := .type "dict_keyiterator", data := .fields #[.ref d, .int 0 0, .int xs.length 0, .int ep 0] } }) :
    wpAny (model prog w) A (pyIter (.ref d)) Q E s := by
  have hT := hm.typeIs
  obtain ⟨o, es, ho, hc, hdat, he⟩ := hm
  refine wpAny_pyIter_slot hT F.slot_dict_iter (wpAny_call_entry F.slot_dict_iter hT F.entry_dict_iter ?_ (F.args_dict_iter_1 _))
  unfold Builtin.«dict.__iter__»
  refine wpAny_bind ?_
  unfold Builtin.Dict.dictSlotNone
  refine wpAny_bind (wpAny_notOrdered_dict hT ?_)
  show wpAny _ _ (pure (Value.ref d)) _ _ s
  refine wpAny_pure ?_
  show wpAny _ _ (Builtin.Dict.showsAll d >>= _) _ _ s
  unfold Builtin.Dict.showsAll
  rw [if_neg (by rw [hd]; exact Bool.false_ne_true)]
  refine wpAny_bind (wpAny_pure ?_)
  refine wpAny_bind (wpAny_dictEntries ho hdat ?_)
  refine wpAny_bind (wpAny_dictEpoch ho hdat ?_)
  have hsz : es.size = xs.length := size_of_entries he
  refine wpAny_bind (wpAny_newObj_type (wpAny_pure ⟨_, rfl, "dict_keyiterator", _, ⟨_, Heap.get?_push_size _ rfl, rfl⟩, F.slot_dict_keyiterator_next.lookup, ?_⟩))
  simpa [rawInt, hsz] using hQ

theorem pyNextH_item {it : Addr} {i ep : Nat} {xs : List (K × Addr × Value)} {x : K × Addr × Value} {Q : Option Value → Shared → Prop} (hit : s.heap.IsKeyIter it d i xs.length ep)
    (hm : DictAtH s.heap knd d xs ep) (hx : xs[i]? = some x)
    (hQ : ∀ h', h'.IsKeyIter it d (i + 1) xs.length ep → Heap.SameBut it s.heap h' → Q (some (.ref x.2.1)) { s with heap := h' }) :
    wpAny (model prog w) A (pyNext (.ref it)) Q E s := by
  obtain ⟨o, ho, hc, hd⟩ := id hit
  obtain ⟨od, es, hod, hcd, hdd, he⟩ := id hm
  unfold pyNext
  refine wpAny_bind (wpAny_attempt (wpAny_callSpecial?_slot (name := Str.ofString "__next__") hit.typeIs F.slot_dict_keyiterator_next
    (wpAny_call_entry F.slot_dict_keyiterator_next hit.typeIs F.entry_dict_keyiterator_next ?_ (F.args_dict_keyiterator_next_1 _))))
  refine wpAny_bind (wpAny_pure ?_)
  refine wpAny_bind ?_
  refine wpAny_bind ?_
  first | refine wpAny_bind (wpAny_typeNameOfWhole_keyiter hit.typeIs (wpAny_pure ?_)) | refine wpAny_bind (wpAny_typeNameOf_keyiter hit.typeIs (wpAny_pure ?_))
  refine wpAny_bind (wpAny_fieldsOf ho hd ?_)
  have hown : Builtin.Dict_items.ownsTuple "dict_keyiterator" = false := by decide
  simp -iota only [hown, Bool.false_eq_true, if_false]
  show wpAny _ _ (if (Value.ref d == Value.none) = true then _ else _) _ _ s
  rw [if_neg (show ¬ ((Value.ref d == Value.none) = true) from Bool.false_ne_true)]
  refine wpAny_bind (wpAny_pure ?_)
  refine wpAny_bind (wpAny_dictEntries hod hdd ?_)
  have hsz : es.size = xs.length := size_of_entries he
  rw [if_neg (by rw [hsz]; simp)]
  refine wpAny_bind (wpAny_pure ?_)
  refine wpAny_bind (wpAny_dictEpoch hod hdd ?_)
  rw [if_neg (by simp)]
  refine wpAny_pure ?_
  have hlt : i < xs.length := (List.getElem?_eq_some_iff.mp hx).1
  have hlt' : i < es.size := by rw [hsz]; exact hlt
  have hkey : es[i].key = .ref x.2.1 := by
    have h1 := entry_at he i
    rw [hx, Array.getElem?_eq_getElem hlt'] at h1
    simp -iota only [Option.map_some, Option.some.injEq] at h1
    rw [h1]; rfl
  simp only [show ¬ ((i : Int) < 0) from by omega, if_false, Int.toNat_natCast, Array.getElem?_eq_getElem hlt']
  refine wpAny_bind ?_
  first | refine wpAny_bind (wpAny_typeNameOfWhole_keyiter hit.typeIs (wpAny_pure ?_)) | refine wpAny_bind (wpAny_typeNameOf_keyiter hit.typeIs (wpAny_pure ?_))
  refine wpAny_bind (wpAny_isOneOf_keyiter hit.typeIs ?_)
  show wpAny _ _ (setField (.ref it) 1 (rawInt ((i : Int) + 1)) >>= _) _ _ s
  refine wpAny_bind (wpAny_setField ho hd (by simp) ?_)
  have hit' : (s.heap.update it (Obj.mapFields (·.setIfInBounds 1 (rawInt ((i : Int) + 1))))).IsKeyIter it d (i + 1) xs.length ep :=
    ⟨_, Heap.get?_update_self _ ho (Obj.isFreed_of_fields (Obj.data_mapFields hd _)), (Obj.cls_mapFields ..).trans hc, by rw [Obj.data_mapFields hd]; simp [rawInt]⟩
  refine wpAny_bind (wpAny_holding ?_)
  refine wpAny_bind (wpAny_isOneOf_keyiter (s := { s with heap := s.heap.update it (Obj.mapFields (·.setIfInBounds 1 (rawInt ((i : Int) + 1)))) }) hit'.typeIs ?_)
  show wpAny _ _ (pure es[i].key) _ _ _
  rw [hkey]
  exact wpAny_pure (wpAny_pure ⟨_, rfl, wpAny_pure (hQ _ hit' (Heap.SameBut.update ..))⟩)

theorem pyNextH_end {it : Addr} {i ep : Nat} {xs : List (K × Addr × Value)} {Q : Option Value → Shared → Prop} (hh : A.handled = none) (hit : s.heap.IsKeyIter it d i xs.length ep)
    (hm : DictAtH s.heap knd d xs ep) (hx : xs[i]? = none)
    (hQ : ∀ h', Heap.ExtBut it s.heap h' → Q none { s with heap := h' }) : wpAny (model prog w) A (pyNext (.ref it)) Q E s := by
  obtain ⟨o, ho, hc, hd⟩ := id hit
  obtain ⟨od, es, hod, hcd, hdd, he⟩ := id hm
  unfold pyNext
  refine wpAny_bind (wpAny_attempt (wpAny_callSpecial?_slot (name := Str.ofString "__next__") hit.typeIs F.slot_dict_keyiterator_next
    (wpAny_call_entry F.slot_dict_keyiterator_next hit.typeIs F.entry_dict_keyiterator_next ?_ (F.args_dict_keyiterator_next_1 _))))
  refine wpAny_bind (wpAny_pure ?_)
  refine wpAny_bind ?_
  refine wpAny_bind ?_
  first | refine wpAny_bind (wpAny_typeNameOfWhole_keyiter hit.typeIs (wpAny_pure ?_)) | refine wpAny_bind (wpAny_typeNameOf_keyiter hit.typeIs (wpAny_pure ?_))
  refine wpAny_bind (wpAny_fieldsOf ho hd ?_)
  have hown : Builtin.Dict_items.ownsTuple "dict_keyiterator" = false := by decide
  simp -iota only [hown, Bool.false_eq_true, if_false]
  show wpAny _ _ (if (Value.ref d == Value.none) = true then _ else _) _ _ s
  rw [if_neg (show ¬ ((Value.ref d == Value.none) = true) from Bool.false_ne_true)]
  refine wpAny_bind (wpAny_pure ?_)
  refine wpAny_bind (wpAny_dictEntries hod hdd ?_)
  have hsz : es.size = xs.length := size_of_entries he
  rw [if_neg (by rw [hsz]; simp)]
  refine wpAny_bind (wpAny_pure ?_)
  refine wpAny_bind (wpAny_dictEpoch hod hdd ?_)
  rw [if_neg (by simp)]
  refine wpAny_pure ?_
  have hge : es.size ≤ i := by rw [hsz]; simpa using hx
  simp only [show ¬ ((i : Int) < 0) from by omega, if_false, Int.toNat_natCast, Array.getElem?_eq_none hge]
  refine wpAny_bind ?_
  first | refine wpAny_bind (wpAny_typeNameOfWhole_keyiter hit.typeIs (wpAny_pure ?_)) | refine wpAny_bind (wpAny_typeNameOf_keyiter hit.typeIs (wpAny_pure ?_))
  show wpAny _ _ (setField (.ref it) 0 .none >>= _) _ _ s
  refine wpAny_bind (wpAny_setField ho hd (by simp) ?_)
  show wpAny _ _ (newExc (.type "StopIteration") [] >>= _) _ _ _
  refine wpAny_bind ?_
  simp -iota only [newExc, newTuple]
  refine wpAny_bind (wpAny_newObj_type ?_ (by size_fits))
  refine wpAny_bind (m := firstArgMember _ _) (wpAny_of_eq (a := Value.none) (by first | rfl | (simp -iota only [firstArgMember]; rfl)) ?_)
  refine wpAny_newObj_type ?_ (by size_fits)
  simp -iota only [raiseNew]
  refine wpAny_bind (wpAny_handled ?_)
  rw [show A.in1.handled = none from hh]
  refine wpAny_bind (wpAny_pure (wpAny_throw ?_))
  refine wpAny_bind (wpAny_isInstance (T := "StopIteration") (b := true) ⟨_, Heap.get?_push_size _ rfl, rfl⟩ isSubtype_stop ?_)
  exact wpAny_pure (hQ _ (((Heap.SameBut.update ..).extBut.push _).push _))

theorem walksH (hh : A.handled = none) (I : Addr) (hne : d ≠ I) (xs : List (K × Addr × Value)) (ep : Nat) :
    Walks prog w A I [I, d] [I] xs.length (fun i v => ∃ x, xs[i]? = some x ∧ v = .ref x.2.1) (fun i h => h.IsKeyIter I d i xs.length ep ∧ DictAtH h knd d xs ep) where
  sub := fun b hb => by simp at hb; simp [hb]
  frame := fun _ _ _ st hk => ⟨st.1.at fun o e => hk I (by simp) o e, st.2.at' fun o e => hk d (by simp) o e⟩
  item := fun i s Q E hi st hQ => by
    obtain ⟨x, hx⟩ : ∃ p, xs[i]? = some p := ⟨xs[i], by simp [hi]⟩
    refine pyNextH_item st.1 st.2 hx fun h' hit' hs' => ?_
    exact hQ _ h' s.toks ⟨x, hx, rfl⟩ ⟨hit', st.2.extBut hs'.extBut hne⟩ fun b o hb e => hs'.extBut b o (fun h => hb (by simp [h])) e
  done := fun s Q E st hQ => pyNextH_end hh st.1 st.2 (by simp) fun h' he' => hQ h' s.toks fun b o hb e => he' b o (fun h => hb (by simp [h])) e
  self := fun _ _ _ _ st hQ => wpAny_pyIter_keyiter st.1 hQ
end
end
section -- S3
section
variable {prog : Program} {w : World} {K : Type} [DecidableEq K] (knd : HeapKind prog w K)

inductive ItemsH (h : Heap) : List K → List Value → Prop
  | nil : ItemsH h [] []
  | cons {k : K} {a : Addr} {ks : List K} {vs : List Value} : knd.is h k a → ItemsH h ks vs → ItemsH h (k :: ks) (.ref a :: vs)

noncomputable def IsTupH (h : Heap) (ks : List K) (a : Addr) : Prop := ∃ o items n, h.get? a = some o ∧ o.cls = .type "tuple" ∧ o.data = .seq items n ∧ ItemsH knd h ks items.toList

variable {knd}
theorem ItemsH.inj {h : Heap} {x y : List K} {vs : List Value} (hx : ItemsH knd h x vs) (hy : ItemsH knd h y vs) : x = y := by
  induction hx generalizing y with
  | nil => cases hy; rfl
  | cons h1 _ ih =>
    cases hy with
    | cons h2 t2 => rw [knd.inj h1 h2, ih t2]
theorem ItemsH.keeps {h h' : Heap} {x : List K} {vs : List Value} {d : Addr} {o : Obj} {es ep} (hx : ItemsH knd h x vs) (ho : h.get? d = some o) (hd : o.data = .dict es ep) (hs : Heap.SameBut d h h') : ItemsH knd h' x vs := by
  induction hx with
  | nil => exact .nil
  | cons h1 _ ih => exact .cons (knd.keeps h1 ho hd hs) ih
theorem IsTupH.typeIs {s : Shared} {ks : List K} {a : Addr} (x : IsTupH knd s.heap ks a) : s.TypeIs (.ref a) "tuple" := let ⟨o, _, _, ho, hc, _⟩ := x; ⟨o, ho, hc⟩
theorem IsTupH.inj {h : Heap} {a : Addr} {x y : List K} (hx : IsTupH knd h x a) (hy : IsTupH knd h y a) : x = y := by
  obtain ⟨o, items, n, ho, _, hd, hi⟩ := hx
  obtain ⟨o', items', n', ho', _, hd', hi'⟩ := hy
  obtain rfl : o = o' := Option.some.inj (ho.symm.trans ho')
  rw [hd] at hd'
  injection hd' with h1 _
  subst h1
  exact hi.inj hi'
theorem IsTupH.keeps {h h' : Heap} {ks : List K} {a d : Addr} {o : Obj} {es ep} (x : IsTupH knd h ks a) (ho : h.get? d = some o) (hd : o.data = .dict es ep) (hs : Heap.SameBut d h h') : IsTupH knd h' ks a := by
  obtain ⟨o', items, n, ho', hc, hd', hi⟩ := x
  have hne : a ≠ d := by
    rintro rfl
    obtain rfl : o' = o := Option.some.inj (ho'.symm.trans ho)
    rw [hd] at hd'; exact nomatch hd'
  exact ⟨o', items, n, (hs.2 a hne).trans ho', hc, hd', hi.keeps ho hd hs⟩

noncomputable def tupHHash (knd : HeapKind prog w K) (ks : List K) : Int := reduceHash (Builtin.Tuple.tupleHashOf (ks.map knd.hash))
noncomputable def tupHDraws (knd : HeapKind prog w K) (ks : List K) : Nat := (ks.map knd.draws).sum + 1

variable {A : Around} {E : Value → Shared → Prop} {s : Shared}

theorem pyHash_tupH {ks : List K} {a : Addr} {Q : Int → Shared → Prop} (hu : A.units < cLine) (hr : knd.room A.in1) (hk : IsTupH knd s.heap ks a) (h : Q (tupHHash knd ks) { s with toks := s.toks + tupHDraws knd ks }) :
    wpAny (model prog w) A (pyHash (.ref a)) Q E s := by
  have hT := hk.typeIs
  obtain ⟨o, items, n, ho, _, hd, hi⟩ := hk
  unfold pyHash
  first | unfold pyHashByItsType | skip
  first | refine wpAny_bind (wpAny_cRoomFor_or (.inr hu) ?_) | skip
  refine wpAny_bind (wpAny_specialOf hT F.slot_tuple_hash.lookup ?_)
  show wpAny _ _ (if (some (Value.builtin "tuple.__hash__") == some Value.none) = true then _ else _) Q E s
  rw [if_neg (by rw [beq_builtin_none]; exact Bool.false_ne_true)]
  refine wpAny_bind (wpAny_specialOf hT F.slot_tuple_hash.lookup ?_)
  show wpAny _ _ (callSpecialIfBoundUnlessNone? (.ref a) "__hash__" _ >>= _) Q E s
  refine wpAny_bind (wpAny_callSpecialIfBoundUnlessNone?_slot hT F.slot_tuple_hash (wpAny_call_entry F.slot_tuple_hash hT F.entry_tuple_hash ?_ (F.args_tuple_hash_1 _)))
  show wpAny _ _ (Builtin.Tuple.tupleItemsOf (.ref a) >>= _) _ _ s
  refine wpAny_bind (wpAny_tupleItemsOf ho hd ?_)
  refine wpAny_bind ?_
  rw [← Array.forIn_toList]
  refine wpAny_forIn_list _
    (fun rest (b : Array Int) s' => ∃ done left, ks = done ++ left ∧ ItemsH knd s.heap left rest ∧ b.toList = done.map knd.hash ∧ s' = { s with toks := s.toks + (done.map knd.draws).sum })
    _ ?_ ?_ _ _ ⟨[], ks, rfl, hi, rfl, rfl⟩
  · rintro x rest b s' ⟨done, left, rfl, hl, hb, rfl⟩
    cases hl with
    | @cons k a' ks' _ h1 hl' =>
      refine wpAny_bind (knd.pyHash (s := { s with toks := s.toks + (done.map knd.draws).sum }) hr h1 ?_)
      first
        | exact wpAny_pure ⟨done ++ [k], ks', by simp, hl', by simp [hb], by simp [Nat.add_assoc]⟩
        | exact wpAny_bind (wpAny_pure (wpAny_pure ⟨done ++ [k], ks', by simp, hl', by simp [hb], by simp [Nat.add_assoc]⟩))
  · rintro b s' ⟨done, left, rfl, hl, hb, rfl⟩
    cases hl
    rw [List.append_nil] at h
    show wpAny _ _ (retInt (Builtin.Tuple.tupleHashOf b.toList)) _ _ _
    rw [hb]
    refine wpAny_ret_mkInt ?_
    show wpAny _ _ (if (decide (-(2 : Int) ^ 63 ≤ Builtin.Tuple.tupleHashOf (done.map knd.hash)) && decide (Builtin.Tuple.tupleHashOf (done.map knd.hash) < 2 ^ 63)) = true then _ else _) Q E _
    unfold tupHHash tupHDraws reduceHash at h
    by_cases hr : (decide (-(2 : Int) ^ 63 ≤ Builtin.Tuple.tupleHashOf (done.map knd.hash)) && decide (Builtin.Tuple.tupleHashOf (done.map knd.hash) < 2 ^ 63)) = true
    · rw [if_pos hr]
      rw [if_pos hr] at h
      exact wpAny_pure (by simpa [Nat.add_assoc] using h)
    · rw [if_neg hr]
      rw [if_neg hr] at h
      exact wpAny_bind (wpAny_rule (wpAny_pure (by simpa [Nat.add_assoc] using h)))

theorem eq_tree_tupH {x y : List K} {a b : Addr} {P : Fin → Shared → Prop} (hr : knd.room A) (hx : IsTupH knd s.heap x a) (hy : IsTupH knd s.heap y b) (h : P (.done (.ret (.bool (decide (x = y))))) s) :
    wpAny (model prog w) A (Builtin.«tuple.__eq__» ⟨[.ref a, .ref b], []⟩) P E s := by
  have hTb := hy.typeIs
  obtain ⟨oa, xs, na, hoa, _, hda, hia⟩ := hx
  obtain ⟨ob, ys, nb, hob, _, hdb, hib⟩ := hy
  show wpAny _ _ (isInstance (.ref b) (.type "tuple") >>= _) _ _ s
  refine wpAny_bind (wpAny_isInstance hTb isSubtype_tuple_tuple ?_)
  simp -iota only [Bool.not_true, Bool.false_eq_true, if_false]
  refine wpAny_bind (wpAny_tupleItemsOf hoa hda ?_)
  refine wpAny_bind (wpAny_tupleItemsOf hob hdb ?_)
  refine wpAny_bind ?_
  refine wpAny_forIn_list _
    (fun rest r s' => r.1 = none ∧ s' = s ∧ ∃ x' y' xs' ys', rest = List.zip xs' ys' ∧ ItemsH knd s.heap x' xs' ∧ ItemsH knd s.heap y' ys' ∧ decide (x' = y') = decide (x = y) ∧ (xs'.length == ys'.length) = (xs.size == ys.size))
    _ ?_ ?_ _ _ ⟨rfl, rfl, x, y, xs.toList, ys.toList, rfl, hia, hib, rfl, by simp⟩
  · rintro ⟨u, v⟩ rest r s' ⟨hr', rfl, x', y', xs', ys', hz, hx', hy', hdec, hlen⟩
    cases hx' with
    | nil => simp at hz
    | @cons k1 u' x'' xs'' h1 hx'' =>
      cases hy' with
      | nil => simp at hz
      | @cons k2 v' y'' ys'' h2 hy'' =>
        simp -iota only [List.zip_cons_cons, List.cons.injEq, Prod.mk.injEq] at hz
        obtain ⟨⟨rfl, rfl⟩, rfl⟩ := hz
        refine wpAny_bind (knd.eqBool (x := k1) (y := k2) hr h1 h2 ?_)
        by_cases hk : k1 = k2
        · subst hk
          rw [decide_eq_true rfl]
          simp -iota only [Bool.not_true, Bool.false_eq_true, if_false]
          refine wpAny_pure ⟨rfl, rfl, x'', y'', xs'', ys'', rfl, hx'', hy'', ?_, by simpa using hlen⟩
          rw [← hdec]
          by_cases hxy : x'' = y''
          · simp [hxy]
          · simp [hxy]
        · rw [decide_eq_false hk]
          simp -iota only [Bool.not_false, if_true]
          have hf : decide (x = y) = false := by rw [← hdec]; simp [hk]
          rw [hf] at h
          exact wpAny_bind (wpAny_pure (wpAny_pure (wpAny_pure h)))
  · rintro ⟨r1, r2⟩ s' ⟨hr', rfl, x', y', xs', ys', hz, hx', hy', hdec, hlen⟩
    simp only at hr'
    subst hr'
    refine wpAny_pure ?_
    have hfin : (xs.size == ys.size) = decide (x = y) := by
      rw [← hdec, ← hlen]
      cases hx' with
      | nil =>
        cases hy' with
        | nil => simp
        | cons _ _ => simp
      | cons _ _ =>
        cases hy' with
        | nil => simp
        | cons _ _ => simp at hz
    show P (.done (.ret (.bool (xs.size == ys.size)))) s'
    rw [hfin]; exact h

theorem eqBool_tupH {x y : List K} {a b : Addr} {Q : Bool → Shared → Prop} (hu : A.units < cLine) (hr : knd.room A.in1) (hx : IsTupH knd s.heap x a) (hy : IsTupH knd s.heap y b) (h : Q (decide (x = y)) s) :
    wpAny (model prog w) A (eqBool (.ref a) (.ref b)) Q E s := by
  unfold eqBool
  try with_reducible refine wpAny_holding ?_
  show wpAny _ _ (if (Value.ref a == Value.ref b) = true then _ else _) Q E s
  by_cases hab : (Value.ref a == Value.ref b) = true
  · rw [if_pos hab]
    have e : a = b := by have := eq_of_beq hab; injection this
    subst e
    obtain rfl := hx.inj hy
    exact wpAny_bind (wpAny_rule (wpAny_pure (by simpa using h)))
  · rw [if_neg hab]
    exact wpAny_bind (wpAny_richCompare_same_room (op := .Eq) hx.typeIs hy.typeIs F.slot_tuple_eq
      (wpAny_call_entry F.slot_tuple_eq hx.typeIs F.entry_tuple_eq (eq_tree_tupH hr hx hy ⟨_, rfl, (fun e => nomatch e), wpAny_truthy_bool h⟩) (F.args_tuple_eq_2 _ _)) hu)

theorem quiet_tupH (h7 : ∀ {A : Around} {E : Value → Shared → Prop} {s : Shared} {k : K} {a : Addr} {Q : Bool → Shared → Prop}, knd.is s.heap k a → Q true s → wpAny (model prog w) A (eqIsQuiet 7 (.ref a)) Q E s)
    {ks : List K} {a : Addr} {Q : Bool → Shared → Prop} (hk : IsTupH knd s.heap ks a) (h : Q true s) : wpAny (model prog w) A (eqIsQuiet 8 (.ref a)) Q E s := by
  have hT := hk.typeIs
  obtain ⟨o, items, n, ho, _, hd, hi⟩ := hk
  unfold eqIsQuiet
  refine wpAny_bind (wpAny_specialOf hT F.slot_tuple_eq.lookup ?_)
  show wpAny _ _ (isInstance (.ref a) (.type "tuple") >>= _) _ _ s
  refine wpAny_bind (wpAny_isInstance hT isSubtype_tuple_tuple ?_)
  simp -iota only [Bool.not_true, Bool.false_eq_true, if_false]
  refine wpAny_bind (wpAny_seqItems ho hd ?_)
  refine wpAny_bind ?_
  show wpAny _ _ (forIn items _ _) _ _ s
  rw [← Array.forIn_toList]
  refine wpAny_forIn_list _ (fun rest r s' => r.1 = none ∧ s' = s ∧ ∃ ks', ItemsH knd s.heap ks' rest) _ ?_ ?_ _ _ ⟨rfl, rfl, _, hi⟩
  · rintro v rest r s' ⟨hr, rfl, ks', hall⟩
    cases hall with
    | cons h1 hl =>
      refine wpAny_bind (h7 h1 ?_)
      simp -iota only [Bool.not_true, Bool.false_eq_true, if_false]
      exact wpAny_pure ⟨rfl, rfl, _, hl⟩
  · rintro ⟨r1, r2⟩ s' ⟨hr, rfl, _⟩
    simp only at hr
    subst hr
    exact wpAny_pure h

theorem quiet7_tuple {J : Type} [DecidableEq J] {jnd : KeyKind prog w J} {ks : List J} {a : Addr} {Q : Bool → Shared → Prop} (hk : IsTupleKey jnd s.heap ks a) (h : Q true s) : wpAny (model prog w) A (eqIsQuiet 7 (.ref a)) Q E s := by
  have hT := hk.typeIs
  obtain ⟨o, items, n, ho, _, hd, hi⟩ := hk
  unfold eqIsQuiet
  refine wpAny_bind (wpAny_specialOf hT F.slot_tuple_eq.lookup ?_)
  show wpAny _ _ (isInstance (.ref a) (.type "tuple") >>= _) _ _ s
  refine wpAny_bind (wpAny_isInstance hT isSubtype_tuple_tuple ?_)
  simp -iota only [Bool.not_true, Bool.false_eq_true, if_false]
  refine wpAny_bind (wpAny_seqItems ho hd ?_)
  refine wpAny_bind ?_
  show wpAny _ _ (forIn items _ _) _ _ s
  rw [← Array.forIn_toList]
  refine wpAny_forIn_list _ (fun rest r s' => r.1 = none ∧ s' = s ∧ ∀ v ∈ rest, carriedByValue v = true) _ ?_ ?_ _ _ ⟨rfl, rfl, hi.byValue⟩
  · rintro v rest r s' ⟨hr, rfl, hall⟩
    rw [eqIsQuiet_byValue _ (hall v List.mem_cons_self)]
    refine wpAny_bind (wpAny_pure ?_)
    simp -iota only [Bool.not_true, Bool.false_eq_true, if_false]
    exact wpAny_pure ⟨rfl, rfl, fun u hu' => hall u (List.mem_cons_of_mem _ hu')⟩
  · rintro ⟨r1, r2⟩ s' ⟨hr, rfl, _⟩
    simp only at hr
    subst hr
    exact wpAny_pure h
end

/-- keys that are tuples of tuples of ints -/
noncomputable def ttKind (prog : Program) (w : World) : HeapKind prog w (List (List Int)) where
  is := IsTupH (tupleKind (intKind prog w))
  hash := tupHHash (tupleKind (intKind prog w))
  draws := tupHDraws (tupleKind (intKind prog w))
  room := fun A => A.units + 1 < cLine
  inj := fun hx hy => hx.inj hy
  keeps := fun x ho hd hs => x.keeps ho hd hs
  pyHash := fun {A} _ _ _ _ _ hu hk h => pyHash_tupH (Nat.lt_of_succ_lt hu) (show A.in1.units < cLine from hu) hk h
  eqBool := fun {A} _ _ _ _ _ _ _ hu hx hy h => eqBool_tupH (Nat.lt_of_succ_lt hu) (show A.in1.units < cLine from hu) hx hy h
  quiet := fun hk h => quiet_tupH (fun hk h => quiet7_tuple hk h) hk h
end
section -- B1
/-- what a call keeps: all but M; the frames fr up to their slots -/
noncomputable def Kp (M fr : List Addr) (h h' : Heap) : Prop :=
  (∀ b o, h.get? b = some o → b ∉ M → b ∉ fr → h'.get? b = some o) ∧
  (∀ b o, h.get? b = some o → b ∈ fr → (∀ vs, o.data ≠ .fields vs) → ∃ sl, h'.get? b = some { o with slots := sl })

theorem Kp.at {M : List Addr} {h h' : Heap} {b : Addr} {o : Obj} (k : Kp M [] h h') (e : h.get? b = some o) (hb : b ∉ M) : h'.get? b = some o := k.1 b o e hb (fun q => nomatch q)
theorem Kp.of {M : List Addr} {h h' : Heap} (k : ∀ b o, h.get? b = some o → b ∉ M → h'.get? b = some o) : Kp M [] h h' := ⟨fun b o e hb _ => k b o e hb, fun _ _ _ q => nomatch q⟩

/-- the frames stand in the heap -/
noncomputable def FP (h₀ : Heap) (l : List Env) (h : Heap) : Prop := ∀ env ∈ l, env.scope.kind ≠ .module ∧ ∃ L o, env.frame = some L ∧ h.get? L = some o ∧ h₀.get? L = none ∧ ∃ es ep, o.data = .dict es ep
theorem FP.mem {h₀ h : Heap} {l : List Env} (x : FP h₀ l h) {b : Addr} (hb : b ∈ frs l) : ∃ o, h.get? b = some o ∧ h₀.get? b = none ∧ ∃ es ep, o.data = .dict es ep := by
  obtain ⟨env, he, hf⟩ := List.mem_filterMap.mp hb
  obtain ⟨_, L, o, hf', ho, h0, hd⟩ := x env he
  obtain rfl : L = b := by rw [hf'] at hf; exact Option.some.inj hf
  exact ⟨o, ho, h0, hd⟩
/-- what stands round a call: the written part's heap, the frames -/
structure Cx (h₀ : Heap) (l : List Env) (h : Heap) : Prop where
  st : h₀.StaysIn h
  fp : FP h₀ l h
section
variable {h₀ g h h' : Heap} {L : Addr} {m : Str → Option Value} {news : List (Addr × Obj)} {outer : List Env} {M fr : List Addr}
theorem Fr.free (F : Fr g L h m) : g.get? L = none := none_above F.above
theorem Fr.kp (F : Fr g L h m) (k : Kp M [] h h') (hM : ∀ b ∈ M, g.get? b = none) (hL : L ∉ M) : Fr g L h' m :=
  ⟨F.ns.at' fun o e => k.at e hL, fun b o e => k.at (F.keep b o e) (fun q => by rw [hM b q] at e; cases e), F.above⟩
theorem News.kp {news' : List (Addr × Obj)} (N : News g L h news) (k : Kp M [] h h') (hn : ∀ q ∈ news', (q ∈ news ∧ q.1 ∉ M) ∨ (h'.get? q.1 = some q.2 ∧ q.1 ≠ L ∧ g.get? q.1 = none)) : News g L h' news' := fun q hq =>
  match hn q hq with
  | .inl ⟨a, b⟩ => ⟨k.at (N q a).1 b, (N q a).2⟩
  | .inr x => x
theorem Cx.call {cn : Str} {cs : Scope} {a : Addr} {ccd : Value} {cl : List (Str × Addr)} (C : Cx h₀ outer g) (F : Fr g L h m) (hk : cs.kind = .function) : Cx h₀ (envX cn cs L a ccd cl :: outer) h := by
  refine ⟨fun b o e => F.keep b o (C.st b o e), fun env he => ?_⟩
  rcases List.mem_cons.mp he with rfl | he
  · obtain ⟨o, ho, ⟨es, ep, hd⟩, _⟩ := frObj_of F
    refine ⟨by show cs.kind ≠ _; rw [hk]; decide, L, o, rfl, ho, ?_, es, ep, hd⟩
    cases q : h₀.get? L with
    | none => rfl
    | some o' => have := C.st _ _ q; rw [Fr.free F] at this; cases this
  · obtain ⟨x, L', o, b, c, d⟩ := C.fp env he
    exact ⟨x, L', o, b, F.keep _ _ c, d⟩
theorem Cx.fresh {l : List Env} (C : Cx h₀ l h) {b : Addr} (e : h.get? b = none) : h₀.get? b = none := by
  cases q : h₀.get? b with
  | none => rfl
  | some o => rw [C.st b o q] at e; cases e
end

noncomputable def LeaveR (R : Result → Shared → Prop) (v : Value) (s' : Shared) : Prop := R (.ok (.ret v)) s'

section
variable {prog : Program} {w : World} {A : Around} {s : Shared} {h₀ : Heap} {mg mb : Str → Option Value} {news : List (Addr × Obj)} {K : Frag} {p : Program} {loose : List Str} {mean : ExcName → Option Value} {outer : List Env}
  {R : Result → Shared → Prop} {name qual : Str} {params : Arguments} {body : List Stmt} {scope : Scope} {dV kV doc pm cdv ct oc : Value} {an od : Option Addr} {osl : Array (Option Value)} {f : Addr} {args : Args} {binds : List (Str × Value)}

theorem enterR (X₀ : K.In h₀) (T₀ : Top p loose mean mg mb h₀) (C : Cx h₀ outer s.heap) (hn : ∀ q ∈ news, s.heap.get? q.1 = some q.2 ∧ h₀.get? q.1 = none ∧ q.1 ∉ frs outer)
    (ho : K.lookup f = some ⟨oc, od, .func (fnOf name qual params body scope dV kV doc pm an cdv ct), osl⟩) (hcd : codeIn K cdv qual = true) (hroom : A.depth < recursionLimit)
    (hbind : BindsTo s (fnOf name qual params body scope dV kV doc pm an cdv ct) args binds) (hloc : ∀ y ∈ binds, scope.names.lookup y.1 = some .local)
    (h : ∀ g L' h₁, K.In g → Top p loose mean mg mb g → Cx h₀ outer g → Kp (news.map Prod.fst) [] s.heap g → (∀ b o, g.get? b = some o → s.heap.get? b = some o) → Fr g L' h₁ (fun y => binds.reverse.lookup y) → News g L' h₁ news → (∀ q ∈ news, q.1 < L') →
      wpAny (model prog w) (A.deeper (envOf qual scope L' f cdv)) (execs body (envOf qual scope L' f cdv))
        (fun fl s' => LeaveR R (match fl with | .ret v => v | _ => .none) s')
        (fun e s' => wpAny (model prog w) (A.deeper (envOf qual scope L' f cdv)) (leaving (envOf qual scope L' f cdv) e) (fun _ s'' => R (.error e) s'') (fun e' s'' => R (.error e') s'') s')
        { s with heap := h₁, toks := s.toks + binds.length })
    (hco : scope.isCoroutine = false) (hgen : scope.isGenerator = false) (hk : scope.kind = .function)
    (hcell : ∀ x ∈ scope.names, x.2 ≠ .cell) : codeAny (model prog w) A (.call (.ref f) args) R s := by
  have X := X₀.keeps C.st
  have hM : ∀ b o, h₀.get? b = some o → b ∉ news.map Prod.fst := fun b o e q => by
    obtain ⟨r, hr, rfl⟩ := List.mem_map.mp q
    rw [(hn r hr).2.1] at e; cases e
  have sg : h₀.StaysIn (hideAll s.heap (news.map Prod.fst)) := fun b o e => hideAll_get _ (C.st b o e) (hM b o e)
  refine codeAny_call_def (fd := fnOf name qual params body scope dV kV doc pm an cdv ct) (body := body) (binds := binds) hroom (X _ _ ho) rfl (T₀.nolimit.keeps C.st) (codeRec_of X hcd) rfl hbind hcell hloc (fun h₁ hns hk₁ => ?_) hco hgen hk
  refine wpAny_mono (h (hideAll s.heap (news.map Prod.fst)) s.heap.objs.size h₁ (X₀.keeps sg) (T₀.keeps sg) ⟨sg, fun env he => ?_⟩ (Kp.of fun b o e hb => hideAll_get _ e hb) (fun b o e => of_hideAll _ e)
    ⟨hns, fun b o e => hk₁ b o (of_hideAll _ e), Nat.le_of_eq (hideAll_size _ _)⟩ (fun q hq => ⟨hk₁ _ _ (hn q hq).1, Nat.ne_of_lt (Heap.lt_size (hn q hq).1), hideAll_none _ (List.mem_map_of_mem hq)⟩) fun q hq => Heap.lt_size (hn q hq).1) (fun _ _ y => y) fun _ _ y => y
  obtain ⟨a, L, o, hf, ho', r⟩ := C.fp env he
  refine ⟨a, L, o, hf, hideAll_get _ ho' fun q => ?_, r⟩
  obtain ⟨t, ht, rfl⟩ := List.mem_map.mp q
  exact (hn t ht).2.2 (List.mem_filterMap.mpr ⟨env, he, hf⟩)
end

/-- an own exception flies: from the heap hm, past the frames l -/
noncomputable def RaisedR (hm : Heap) (l : List Env) (e C : Addr) (h' : Heap) : Prop :=
  ∃ B a0, (∀ b o, hm.get? b = some o → b ∉ frs l → B.get? b = some o) ∧ Heap.FlyingW B l e (.ref C) a0 h' ∧ (∀ b o, hm.get? b = some o → b ∈ frs l → ∃ sl, h'.get? b = some { o with slots := sl })
section
variable {M : Model} {A : Around} {E : Value → Shared → Prop} {s' : Shared} {h₀ g h : Heap} {outer : List Env} {L a e C d t : Addr} {m : Str → Option Value} {name : Str} {scope : Scope} {cd : Value} {cl : List (Str × Addr)} {Q : Unit → Shared → Prop}

theorem leave_firstR (hfr : A.frames = some outer) (F : Fr g L s'.heap m) (CX : Cx h₀ outer g) (he : s'.heap.get? e = some (excObj C d t)) (heo : g.get? e = none)
    (hQ : ∀ h', RaisedR (hideAll s'.heap [e, L]) outer e C h' → Q () { s' with heap := h' }) (hkf : scope.kind = .function) :
    wpAny M (A.deeper (envX name scope L a cd cl)) (leaving (envX name scope L a cd cl) (.ref e)) Q E s' := by
  obtain ⟨oL, hoL, ⟨esL, epL, hdL⟩, _⟩ := frObj_of F
  have fpo : ∀ b ∈ frs outer, ∃ o, g.get? b = some o ∧ ∃ es ep, o.data = .dict es ep := fun b hb => let ⟨o, x, _, y⟩ := CX.fp.mem hb; ⟨o, x, y⟩
  have hLo : L ∉ frs outer := fun q => by obtain ⟨o, x, _⟩ := fpo L q; rw [Fr.free F] at x; cases x
  have hef : e ∉ frs outer := fun q => by obtain ⟨o, x, _⟩ := fpo e q; rw [heo] at x; cases x
  have hkb : (hideAll s'.heap (e :: L :: frs outer)).StaysIn s'.heap := fun b o q => of_hideAll _ q
  have hen : (hideAll s'.heap (e :: L :: frs outer)).get? e = none := hideAll_none _ (.head _)
  have ff : s'.heap.FunFrames (hideAll s'.heap (e :: L :: frs outer)) (envX name scope L a cd cl :: outer) := funFrames_of fun env he' => by
    rcases List.mem_cons.mp he' with rfl | he'
    · exact ⟨by show scope.kind ≠ _; rw [hkf]; decide, L, oL, rfl, hideAll_none _ (.tail _ (.head _)), hoL, fun vs q => by rw [hdL] at q; cases q⟩
    · obtain ⟨hkm, L', o, hf', ho', _, es, ep, hd⟩ := CX.fp env he'
      exact ⟨hkm, L', o, hf', hideAll_none _ (.tail _ (.tail _ (List.mem_filterMap.mpr ⟨env, he', hf'⟩))), F.keep _ _ ho', fun vs q => by rw [hd] at q; cases q⟩
  refine wpAny_leaving_firstW (Around.frames_deeper hfr) ff rfl he hkb hen rfl rfl rfl fun h' hL' => ?_
  obtain ⟨k1, ⟨_, _, k2⟩, k3, k4⟩ := hL'
  have un : ∀ b o, (hideAll s'.heap [e, L]).get? b = some o → s'.heap.get? b = some o ∧ b ≠ e ∧ b ≠ L := fun b o q => ⟨of_hideAll _ q, (fun z => by (rw [z, hideAll_none _ (.head _)] at q; cases q)), (fun z => by (rw [z, hideAll_none _ (.tail _ (.head _))] at q; cases q))⟩
  refine hQ h' ⟨_, _, fun b o q hnf => hideAll_get _ (un b o q).1 fun hb => ?_, ⟨k1, hen, k2, k3⟩, fun b o q hf => ?_⟩
  · rcases List.mem_cons.mp hb with z | hb
    · exact (un b o q).2.1 z
    · rcases List.mem_cons.mp hb with z | hb
      · exact (un b o q).2.2 z
      · exact hnf hb
  · obtain ⟨o', ho', es, ep, hd⟩ := fpo b hf
    obtain rfl : o' = o := Option.some.inj ((F.keep _ _ ho').symm.trans (un b o q).1)
    exact k4 _ _ (un b _ q).1 fun vs z => by rw [hd] at z; cases z

theorem leave_onR {hm : Heap} (hfr : A.frames = some outer) (R : RaisedR hm (envX name scope L a cd cl :: outer) e C s'.heap)
    (hQ : ∀ h', RaisedR (hideAll hm [L]) outer e C h' → Q () { s' with heap := h' }) :
    wpAny M (A.deeper (envX name scope L a cd cl)) (leaving (envX name scope L a cd cl) (.ref e)) Q E s' := by
  obtain ⟨B, a0, h1, hfl, h2⟩ := R
  have ff := hfl.2.2.1
  have un : ∀ b o, (hideAll hm [L]).get? b = some o → hm.get? b = some o ∧ b ≠ L := fun b o q => ⟨of_hideAll _ q, (fun z => by (rw [z, hideAll_none _ (.head _)] at q; cases q))⟩
  refine wpAny_leaves_onW (Around.frames_deeper hfr) rfl hfl fun h' x1 x2 => hQ h' ⟨B, a0, fun b o q hnf => h1 b o (un b o q).1 fun hb => ?_, x1, fun b o q hf => ?_⟩
  · simp only [frs, List.filterMap_cons] at hb
    rcases List.mem_cons.mp hb with z | hb
    · exact (un b o q).2 z
    · exact hnf hb
  · have hf' : b ∈ frs (envX name scope L a cd cl :: outer) := by simp only [frs, List.filterMap_cons]; exact .tail _ hf
    obtain ⟨sl, hs⟩ := h2 b o (un b o q).1 hf'
    obtain ⟨_, o', ho, hd⟩ := ff.mem hf'
    have hq2 : { o with slots := sl } = o' := Option.some.inj (hs.symm.trans ho)
    obtain ⟨sl', hs'⟩ := x2 _ _ hs fun vs z => hd vs (by rw [← hq2]; exact z)
    exact ⟨sl', hs'⟩
end
end
section -- B2
/-- the objects that a contract is about -/
noncomputable def Own (h₀ : Heap) (l : List Env) (h : Heap) (news : List (Addr × Obj)) : Prop := ∀ q ∈ news, h.get? q.1 = some q.2 ∧ h₀.get? q.1 = none ∧ q.1 ∉ frs l
section
variable {h₀ g h h' s : Heap} {L : Addr} {m : Str → Option Value} {news news' sn : List (Addr × Obj)} {outer : List Env} {M : List Addr}
theorem Own.of {cn : Str} {cs : Scope} {a : Addr} {ccd : Value} {cl : List (Str × Addr)} (C : Cx h₀ outer g) (N : News g L h news) (hs : ∀ q ∈ sn, q ∈ news) : Own h₀ (envX cn cs L a ccd cl :: outer) h sn := fun q hq => by
  have n := N q (hs q hq)
  refine ⟨n.1, C.fresh n.2.2, fun hb => ?_⟩
  simp only [frs, List.filterMap_cons] at hb
  rcases List.mem_cons.mp hb with z | hb
  · exact n.2.1 z
  · obtain ⟨o, ho, _⟩ := C.fp.mem hb
    rw [n.2.2] at ho; cases ho
theorem Own.sub (O : Own h₀ outer h news) (hs : ∀ q ∈ sn, q ∈ news) : Own h₀ outer h sn := fun q hq => O q (hs q hq)
theorem Own.get (O : Own h₀ outer h news) {a : Addr} {o : Obj} (hm : (a, o) ∈ news) : h.get? a = some o := (O _ hm).1
theorem kp_end (GK : Kp (news.map Prod.fst) [] s g) (O : Own h₀ outer s news) (F : Fr g L h' m) (N : News g L h' news') (hs : ∀ q ∈ news, q.1 ∈ M ∨ q ∈ news') : Kp M [] s h' := Kp.of fun b o e hb => by
  by_cases q : b ∈ news.map Prod.fst
  · obtain ⟨r, hr, rfl⟩ := List.mem_map.mp q
    rcases hs r hr with z | z
    · exact absurd z hb
    · obtain rfl : r.2 = o := Option.some.inj ((O r hr).1.symm.trans e)
      exact (N r z).1
  · exact F.keep b o (GK.at e q)
theorem kp_hm {e : Addr} {oe : Obj} (GK : Kp (news.map Prod.fst) [] s g) (O : Own h₀ outer s news) (F : Fr g L h' m) (N : News g L h' ((e, oe) :: news')) (ne : ∀ p ∈ news', p.1 ≠ e) (hA : news.map Prod.fst = news'.map Prod.fst) (hs : ∀ q ∈ news, q.1 ∈ M ∨ q ∈ news') : Kp M [] s (hideAll h' [e, L]) := Kp.of fun b o q hb =>
  hideAll_get _ ((kp_end GK O F (fun p hp => N p (.tail _ hp)) hs).at q hb) fun z => by
    have no : ∀ c, g.get? c = none → (∀ p ∈ news', p.1 ≠ c) → s.get? c = none := fun c hc hn => by
      cases y : s.get? c with
      | none => rfl
      | some o' =>
        have := GK.at y (fun t => by rw [hA] at t; obtain ⟨r, hr, t⟩ := List.mem_map.mp t; exact hn r hr t)
        rw [hc] at this; cases this
    rcases List.mem_cons.mp z with rfl | z
    · rw [no _ (N _ (.head _)).2.2 ne] at q; cases q
    · rw [List.mem_singleton.mp z, no L (Fr.free F) fun p hp => (N p (.tail _ hp)).2.1] at q; cases q
theorem News.at1 {d : Addr} {o o' : Obj} {ng : Obj → List (Addr × Obj)} (F : Fr g L h m) (N : News g L h news) (U : UpdF d o news ng) (k : Kp [d] [] h h') (e : h'.get? d = some o') : Fr g L h' m ∧ News g L h' (ng o') := by
  obtain ⟨pre, post, rfl, hg, a, b⟩ := U.split
  have nd := N (d, o) (by simp)
  refine ⟨Fr.kp F k (fun c hc => by rw [List.mem_singleton.mp hc]; exact nd.2.2) (fun hc => nd.2.1 (List.mem_singleton.mp hc).symm), ?_⟩
  rw [hg o']
  refine News.kp N k fun q hq => ?_
  rcases List.mem_append.mp hq with hq | hq
  · exact .inl ⟨by simp [hq], fun z => a q hq (List.mem_singleton.mp z)⟩
  · rcases List.mem_cons.mp hq with rfl | hq
    · exact .inr ⟨e, nd.2.1, nd.2.2⟩
    · exact .inl ⟨by simp [hq], fun z => b q hq (List.mem_singleton.mp z)⟩
theorem News.at0 (F : Fr g L h m) (N : News g L h news) (k : Kp [] [] h h') : Fr g L h' m ∧ News g L h' news :=
  ⟨Fr.kp F k (fun _ hc => nomatch hc) (fun hc => nomatch hc), News.kp N k fun q hq => .inl ⟨hq, fun hc => nomatch hc⟩⟩
/-- two objects turned -/
theorem News.at2 {d₁ d₂ : Addr} {o₁ o₂ o₁' o₂' : Obj} {n₁ n₂ : Obj → List (Addr × Obj)} (F : Fr g L h m) (N : News g L h news) (U₁ : UpdF d₁ o₁ news n₁) (U₂ : UpdF d₂ o₂ (n₁ o₁') n₂) (k : Kp [d₁, d₂] [] h h') (e₁ : h'.get? d₁ = some o₁') (e₂ : h'.get? d₂ = some o₂') (hne : d₁ ≠ d₂) :
    Fr g L h' m ∧ News g L h' (n₂ o₂') := by
  obtain ⟨pre, post, rfl, hg, a, b⟩ := U₁.split
  have nd := N (d₁, o₁) (by simp)
  rw [hg o₁'] at U₂
  obtain ⟨pre₂, post₂, e, hg₂, a₂, b₂⟩ := U₂.split
  have m2 : (d₂, o₂) ∈ pre ++ (d₁, o₁) :: post := by
    have z : (d₂, o₂) ∈ pre ++ (d₁, o₁') :: post := by rw [e]; simp
    rcases List.mem_append.mp z with z | z
    · simp [z]
    · rcases List.mem_cons.mp z with z | z
      · exact absurd (congrArg Prod.fst z).symm hne
      · simp [z]
  have nd2 := N _ m2
  have hM : ∀ c ∈ [d₁, d₂], g.get? c = none ∧ c ≠ L := fun c hc => by
    rcases List.mem_cons.mp hc with rfl | hc
    · exact ⟨nd.2.2, nd.2.1⟩
    · rw [List.mem_singleton.mp hc]; exact ⟨nd2.2.2, nd2.2.1⟩
  refine ⟨Fr.kp F k (fun c hc => (hM c hc).1) (fun hc => (hM L hc).2 rfl), ?_⟩
  rw [hg₂ o₂']
  refine News.kp N k fun q hq => ?_
  have keep : ∀ q ∈ pre ++ (d₁, o₁') :: post, q.1 ≠ d₂ → (q ∈ pre ++ (d₁, o₁) :: post ∧ q.1 ∉ [d₁, d₂]) ∨ (h'.get? q.1 = some q.2 ∧ q.1 ≠ L ∧ g.get? q.1 = none) := fun q hq hn => by
    rcases List.mem_append.mp hq with hq | hq
    · exact .inl ⟨by simp [hq], fun z => by rcases List.mem_cons.mp z with z | z; exact a q hq z; exact hn (List.mem_singleton.mp z)⟩
    · rcases List.mem_cons.mp hq with rfl | hq
      · exact .inr ⟨e₁, nd.2.1, nd.2.2⟩
      · exact .inl ⟨by simp [hq], fun z => by rcases List.mem_cons.mp z with z | z; exact b q hq z; exact hn (List.mem_singleton.mp z)⟩
  rcases List.mem_append.mp hq with hq | hq
  · exact keep q (by rw [e]; simp [hq]) (a₂ q hq)
  · rcases List.mem_cons.mp hq with rfl | hq
    · exact .inr ⟨e₂, nd2.2.1, nd2.2.2⟩
    · exact keep q (by rw [e]; simp [hq]) (b₂ q hq)
end
end
section -- B3
noncomputable def SmallI (n : Int) : Prop := n.natAbs < 1000000
theorem SmallI.log {n : Int} (h : SmallI n) : n.natAbs.log2 < 1920 := by
  unfold SmallI at h
  by_cases q : n.natAbs = 0
  · rw [q]; decide
  · exact (Nat.log2_lt q).mpr (Nat.lt_of_lt_of_le h (Nat.le_of_ble_eq_true (by decide +kernel)))
theorem SmallI.len {n : Int} (h : SmallI n) : (Str.ofString (toString n)).length ≤ 20 := by
  have e := int_text_length_le10 (a := n) (k := 6) (by decide) (show n.natAbs < 10 ^ 6 from h)
  rw [PySem.ofString_length]; omega
theorem str_add_fits {x y : Str} {a b : Nat} (hx : x.length ≤ a) (hy : y.length ≤ b) (h : a + b ≤ 1000) : x.length + y.length ≤ sizeLine := by rw [sizeLine_eq]; omega
theorem str_app_le {x y : Str} {a b : Nat} (hx : x.length ≤ a) (hy : y.length ≤ b) : (x ++ y).length ≤ a + b := by rw [Str.length_append]; omega
theorem none_of {α : Type} {o : Option α} (h : o.isSome = false) : o = none := by cases o with | none => rfl | some _ => cases h
noncomputable def Stop (P : Prop) : Prop := P
theorem stop_ {P : Prop} (h : Stop P) : P := h
theorem range_size {b : Int} (h0 : 0 ≤ b) : Builtin.Range.rangeSize 0 b 1 = (b.toNat : Int) := by
  unfold Builtin.Range.rangeSize
  rw [if_pos (by decide)]
  by_cases q : (0 : Int) < b
  · rw [if_pos q]; omega
  · rw [if_neg q]; omega
theorem range_small {b : Int} (h0 : 0 ≤ b) (h1 : b ≤ 1000000) : Builtin.Range.small 0 b 1 = true := by
  have e := range_size h0
  unfold Builtin.Range.small
  rw [e]
  simp only [Builtin.Range.rangeFitsLong, Bool.and_eq_true, Bool.or_eq_true, decide_eq_true_eq, beq_iff_eq]
  refine ⟨⟨⟨⟨by omega, by omega⟩, by omega⟩, by omega⟩, .inr ?_⟩
  rw [if_pos (by decide)]
  simp only [Builtin.Range.rangeFitsLong, Bool.and_eq_true, decide_eq_true_eq]
  omega
theorem kp_on {h₀ g h hm s : Heap} {L : Addr} {m : Str → Option Value} {news news' : List (Addr × Obj)} {outer : List Env} {M M' : List Addr}
    (GK : Kp (news.map Prod.fst) [] s g) (O : Own h₀ outer s news) (F : Fr g L h m) (N : News g L h news') (k : Kp M' [] h hm) (hA : ∀ b ∈ news.map Prod.fst, b ∈ news'.map Prod.fst) (hM : ∀ b ∈ M', b ∈ M) (hs : ∀ q ∈ news, q.1 ∈ M ∨ q ∈ news') : Kp M [] s (hideAll hm [L]) := Kp.of fun b o q hb =>
  hideAll_get _ (k.at ((kp_end GK O F N hs).at q hb) fun z => hb (hM b z)) fun z => by
    rw [List.mem_singleton.mp z] at q
    have := GK.at q (fun t => by obtain ⟨r, hr, t⟩ := List.mem_map.mp (hA _ t); exact (N r hr).2.1 t)
    rw [Fr.free F] at this; cases this
end
section
local macro_rules | `(tactic| k_lt $h:ident) => `(tactic| (have lo' := ltD_in $h; replace $h := allLt_of $h; simp only [AllLt, and_true] at $h:ident))
local macro_rules | `(tactic| k_ne) => `(tactic| (refine neN ?_; first | kfm_turns | with_reducible assumption | (with_reducible refine neS ?_; with_reducible assumption) | ((try dsimp only); first | regstrif_slice | omega)))
local macro_rules | `(tactic| k_all) => `(tactic| first | (apply all_cons; (· k_ne); (· k_all)) | apply all_nil)
local macro_rules | `(tactic| k_updF) => `(tactic| first | (apply updF_h; k_all) | (apply updF_t; (· k_ne); (· k_updF)))
local macro_rules | `(tactic| k_upd) => `(tactic| first | (apply upd_h; k_all) | (apply upd_t; (· k_ne); (· k_upd)))
local macro_rules | `(tactic| kfm_turns) => `(tactic| k_dflt (exact asc_ne (by with_reducible assumption) (by kpc_turns) (by kpc_turns) rfl))
local macro_rules | `(tactic| kpc_turns) => do let xs := (Array.range 14).map fun i => Lean.mkIdent (.mkSimple s!"ix{i}"); `(tactic| (with_reducible first $[| apply $xs:ident]*))
local macro_rules | `(tactic| regstrif_slice) => `(tactic| k_dflt (first | exact ltD_ne (by with_reducible assumption) (by kpt_turns) | exact ltD_en (by with_reducible assumption) (by kpt_turns) | exact offB_ne (by with_reducible assumption) (by kpt_turns) | ((first | apply ltD_ne5 | apply ltD_ne4 | apply ltD_ne3 | apply ltD_ne2 | apply ltD_en2 | apply ltD_ne1); (with_reducible assumption); kpt_turns)))
local macro_rules | `(tactic| regstrif_gather) => `(tactic| first | assumption | decide | omega)
local macro_rules | `(tactic| ktr_room) => `(tactic| k_dflt (first | exact room1 (by with_reducible assumption) rfl | exact room2 (by with_reducible assumption) rfl | exact room4 (by with_reducible assumption) rfl | exact room0 (by with_reducible assumption)))
section
local macro_rules | `(tactic| k_mem) => `(tactic| (show _ ∈ _; first | exact List.mem_cons_self | ktr_member | (refine' List.mem_cons_of_mem _ ?_; k_mem)))
section -- P0
theorem reg_P0 : PySem.Challenge.rw_pq1204_01 = PySem.Challenge.rw_pq1204_01 ∧ K = K := by k_fill; exact ⟨rfl, rfl⟩
theorem set_exc {prog : Program} {w : World} {A : Around} {E : Value → Shared → Prop} {s : Shared} {K : Frag} {e C L : Addr} {h₀ : Heap} {m : Str → Option Value} {news : List (Addr × Obj)} {vs : Array Value} {name : Str} {v : Value} {Q : Unit → Shared → Prop}
  (F : Fr h₀ L s.heap m) (X₀ : K.In h₀) (N : News h₀ L s.heap news) (hm : (e, (⟨.ref C, none, .fields vs, #[]⟩ : Obj)) ∈ news) (hs : findIn K (.ref C) "__setattr__" = some (some (.builtin "object.__setattr__"))) (hp : excOver K C = true) (ht : takerIn K C name = some none) (ho : mroIn K C (.type "object") = some true)
  (h : ∀ h' d, Fr h₀ L h' m → h'.get? e = some ⟨.ref C, some d, .fields vs, #[]⟩ → (∀ p ∈ news, p.1 ≠ e → h'.get? p.1 = some p.2) → Q () { s with heap := h', toks := s.toks + 2 }) :
  wpAny (model prog w) A (setAttr (.ref e) name v) Q E s := by
  have he := (N _ hm).1
  have I : InstAt s.heap e ⟨.ref C, none, .fields vs, #[]⟩ C none := ⟨he, rfl, rfl, trivial⟩
  have hh : ∀ b o, h₀.get? b = some o → b ≠ e := fun b o q hb => by rw [hb, (N _ hm).2.2] at q; cases q
  refine set_plain (X₀.keeps F.keep) I hs (osa_exc (s := { s with toks := s.toks + 1 }) (X₀.keeps F.keep) he hp ht ho fun h' d hd k1 k2 => ?_)
  refine h h' d ⟨F.ns.at' fun o q => k1 _ o (Ne.symm (N _ hm).2.1) q, fun b o q => k1 b o (hh b o q) (F.keep b o q), F.above⟩ k2 fun p hp hne => k1 _ _ hne (N p hp).1

local macro_rules | `(tactic| walk_at "setAttr ref") => `(tactic| (k_dflt (refine' set_exc ?k1 ?k2 ?k3 ?k4 ?k5 ?k6 ?k7 ?k8 ?_; (case k1 => k_asm); (case k2 => k_asm); (case k3 => k_asm); (case k4 => k_mem); (case k5 => k_is); (case k6 => first | k_is | kernel_rfl); (case k7 => k_is); (case k8 => k_is); k_whole); intro h' d F' he' ho'))

theorem init_end {h₀ h h1 : Heap} {L L' e : Addr} {m m1 : Str → Option Value} {news : List (Addr × Obj)} {oL o1 o2 : Obj} {R : Result → Shared → Prop} {v : Value} {s' : Shared} (N : News h₀ L h ((e, o1) :: news)) (hne : ∀ p ∈ news, p.1 ≠ e)
  (N1 : News h₀ L' h1 ((L, oL) :: (e, o1) :: news)) (F2 : Fr h₀ L' s'.heap m1) (he : s'.heap.get? e = some o2) (ho : ∀ p ∈ (L, oL) :: (e, o1) :: news, p.1 ≠ e → s'.heap.get? p.1 = some p.2)
  (k : Fr h₀ L s'.heap m → News h₀ L s'.heap ((e, o2) :: news) → R (.ok (.ret v)) s') : LeaveT h₀ L oL m R v s' := by
  have N2 : News h₀ L' s'.heap ((L, oL) :: (e, o2) :: news) := by
    intro q hq
    rcases List.mem_cons.mp hq with rfl | hq
    · exact ⟨ho _ (.head _) (Ne.symm (N _ (.head _)).2.1), (N1 _ (.head _)).2⟩
    rcases List.mem_cons.mp hq with rfl | hq
    · exact ⟨he, (N1 _ (.tail _ (.head _))).2⟩
    · exact ⟨ho _ (.tail _ (.tail _ hq)) (hne q hq), (N1 _ (.tail _ (.tail _ hq))).2⟩
  refine leaveT_ (sl := oL.slots) F2 N2 (.head _) fun F3 _ => k F3 (News.back N2 fun q hq => ⟨.tail _ hq, ?_⟩)
  rcases List.mem_cons.mp hq with rfl | hq
  · exact (N _ (.head _)).2.1
  · exact (N q (.tail _ hq)).2.1

theorem init_exc {prog : Program} {w : World} {p : Program} {loose : List Str} {mean : ExcName → Option Value} {mg mb : Str → Option Value}
  {dp un : Nat} {gd : Option (List Code)} {cn : Str} {cs : Scope} {a : Addr} {ccd : Value} {cl : List (Str × Addr)} {outer : List Env} {h₀ : Heap} {L : Addr} {m : Str → Option Value} {news : List (Addr × Obj)} {s : Shared}
  {e : Addr} {vs : Array Value} {msg : Str} {tk : Tok} {Q E : Value → Shared → Prop}
  (X : (K w.params).In h₀) (T : Top p loose mean mg mb h₀) (F : Fr h₀ L s.heap m) (N : News h₀ L s.heap ((e, ⟨.ref 63, none, .fields vs, #[]⟩) :: news))
  (hd : dp + 1 < recursionLimit) (hne : ∀ p ∈ news, p.1 ≠ e)
  (hret : ∀ h' d tk', Fr h₀ L h' m → News h₀ L h' ((e, ⟨.ref 63, some d, .fields vs, #[]⟩) :: news) → Q .none { s with heap := h', toks := tk' }) :
  wpAny (model prog w) (ktrTop dp un gd cn cs L a ccd cl outer) (call (.ref 35) [.ref e, .str msg tk]) Q E s := by
  refine wpAny_call ?_
  k_dflt ((refine' enterT (by k_asm) (by k_asm) (by k_asm) (by k_asm) (by k_is) (by k_is) (by ktr_room) (by first | exact BindsTo.of_eq rfl | exact binds_K (by k_in) rfl (by k_is) rfl rfl rfl) ?kBZq ?_ ?c2Zq ?c3Zq ?c4Zq (by decide); (case kBZq => exact locs rfl); (case c2Zq => exact rfl); (case c3Zq => exact rfl); (case c4Zq => exact rfl); k_whole; intro LZq' oLZq' hZq' hoLZq' foZq' FZq' NZq' l0Zq' l1Zq'; (try k_lt l1Zq'); (try dsimp only); (try k_fold)))
  k_steps
  exact init_end N hne (by assumption) (by assumption) (by assumption) (by assumption) fun F3 N3 => hret _ _ _ F3 N3

theorem new_exc {prog : Program} {w : World} {p : Program} {loose : List Str} {mean : ExcName → Option Value} {mg mb : Str → Option Value}
  {dp un : Nat} {gd : Option (List Code)} {cn : Str} {cs : Scope} {a : Addr} {ccd : Value} {cl : List (Str × Addr)} {outer : List Env} {h₀ : Heap} {L : Addr} {m : Str → Option Value} {news : List (Addr × Obj)} {s : Shared}
  {msg : Str} {tk : Tok} {Q E : Value → Shared → Prop}
  (X : (K w.params).In h₀) (T : Top p loose mean mg mb h₀) (F : Fr h₀ L s.heap m) (N : News h₀ L s.heap news)
  (hd : dp + 5 < recursionLimit)
  (hret : ∀ h' e d t tk', Fr h₀ L h' m → News h₀ L h' ((e, excObj 63 d t) :: news) → (∀ p ∈ news, p.1 ≠ e) → Q (.ref e) { s with heap := h', toks := tk' }) :
  wpAny (model prog w) (ktrTop dp un gd cn cs L a ccd cl outer) (call (.ref 63) [.str msg tk]) Q E s := by
  refine' make_exc (C := 63) (fI := 35) PySem.F.excBase_Exception ?b ?a ?n (X.keeps F.keep) ?c ?i ?f ?l fun h' e t hk he ht hlt heq htup => ?_
  case c => k_is
  case b => rfl
  case a => rfl
  case n => rfl
  case i => k_is
  case f => k_is
  case l => rw [sizeLine_eq]; exact Nat.le_of_ble_eq_true rfl
  have hne : ∀ p ∈ news, p.1 ≠ e := fun p hp hpe => by have := (N p hp).1; rw [hpe, he] at this; cases this
  have hL : e ≠ L := by rintro rfl; obtain ⟨o, ho, _⟩ := frObj_of F; rw [he] at ho; cases ho
  have h0 : h₀.get? e = none := by
    cases hq : h₀.get? e with
    | none => rfl
    | some o => have := F.keep e o hq; rw [he] at this; cases this
  refine init_exc (p := p) (loose := loose) (mean := mean) (mg := mg) (mb := mb) (news := news) (m := m) (e := e) X T ⟨F.ns.at' fun o q => hk _ o q, fun b o q => hk b o (F.keep b o q), F.above⟩ (fun q hq => ?_) ?_ hne fun h2 d tk' F2 N2 => ⟨rfl, hret _ e d t _ F2 N2 hne⟩
  · rcases List.mem_cons.mp hq with rfl | hq
    · exact ⟨heq, hL, h0⟩
    · exact ⟨hk _ _ (N q hq).1, (N q hq).2⟩
  · have hw : (Code.builtin "type.__call__" { pos := [Value.ref 63, Value.str msg tk] }).weight ≤ 3 := Nat.le_of_ble_eq_true (by with_unfolding_all rfl)
    exact Nat.lt_of_le_of_lt (Nat.add_le_add_right (Nat.add_le_add_left hw dp) 1) (by omega)

section
variable {prog : Program} {w : World} {K : Type} [DecidableEq K] {knd : KeyKind prog w K} {A : Around} {E : Value → Shared → Prop} {s : Shared} {h₀ : Heap} {L d : Addr} {m : Str → Option Value} {news : List (Addr × Obj)} {o : Obj} {kvs : List (K × Value)} {k : K} {key : Value}
theorem in_int {Q : Value → Shared → Prop} (N : News h₀ L s.heap news) (hp : (d, o) ∈ news) (hd : o.IsDictOf knd kvs) (hkey : knd.is k key = true) (hlo : (d == sysModules) = false) (h : Q (.bool (valueAt kvs k).isSome) { s with toks := s.toks + 1 }) :
    wpAny (model prog w) A (compareOp .In key (.ref d)) Q E s := kda_in N hp hd hlo hkey _ rfl h
theorem notin_int {Q : Value → Shared → Prop} (N : News h₀ L s.heap news) (hp : (d, o) ∈ news) (hd : o.IsDictOf knd kvs) (hkey : knd.is k key = true) (hlo : (d == sysModules) = false) (h : Q (.bool (!(valueAt kvs k).isSome)) { s with toks := s.toks + 1 }) :
    wpAny (model prog w) A (compareOp .NotIn key (.ref d)) Q E s := wpAny_notIn_of hkey hlo (kda_dict N hp hd).mapOf (by cases q : valueAt kvs k <;> simpa [q] using h)
theorem pop_int {Q : Value → Shared → Prop} {g : Obj → List (Addr × Obj)} {n : Int} {t : Tok} {kvs : List (Int × Value)} (F : Fr h₀ L s.heap m) (N : News h₀ L s.heap news) (U : UpdF d o news g) (hd : o.IsDictOf (PySem.intKind prog w) kvs) (hl : (valueAt kvs n).isSome = true) (hsz : kvs.length ≤ 1000)
    (h : ∀ v h' o', valueAt kvs n = some v → Fr h₀ L h' m → News h₀ L h' (g o') → o'.IsDictOf (PySem.intKind prog w) (without kvs n) → Q v { s with heap := h', toks := s.toks + 1 }) :
    wpAny (model prog w) A (call (.builtin "dict.pop") [.ref d, .int n t]) Q E s := by
  obtain ⟨v, hv⟩ := Option.isSome_iff_exists.mp hl
  exact kob_pop (knd := PySem.intKind _ _) (more := []) F N U hd (intKind_is _ _ _ _) (.inl rfl) (by rfl) (PySem.F.args_dict_pop_2 _ _) hv (by rw [sizeLine_eq]; omega) fun h' o' F' N' hd' => h v h' o' hv F' N' hd'
theorem set_int {Q : Unit → Shared → Prop} {g : Obj → List (Addr × Obj)} {n : Int} {t : Tok} {v : Value} {kvs : List (Int × Value)} (F : Fr h₀ L s.heap m) (N : News h₀ L s.heap news) (U : UpdF d o news g) (hd : o.IsDictOf (PySem.intKind prog w) kvs) (hsz : kvs.length ≤ 1000)
    (h : ∀ h' o', Fr h₀ L h' m → News h₀ L h' (g o') → o'.IsDictOf (PySem.intKind prog w) (stored kvs n v) → Q () { s with heap := h', toks := s.toks + 1 }) : wpAny (model prog w) A (setItem (.ref d) (.int n t) v) Q E s :=
  kda_set (knd := PySem.intKind _ _) F N U hd (intKind_is _ _ _ _) (by rw [sizeLine_eq]; omega) h
end
end
end
section
local macro_rules | `(tactic| walk_at "LeaveR") => `(tactic| (unfold LeaveR; (try dsimp only)))
local macro_rules | `(tactic| kpt_turns) => do let xs := (Array.range 23).map fun i => Lean.mkIdent (.mkSimple s!"mem{i}"); `(tactic| (show _ ∈ _; with_reducible first $[| apply $xs:ident]*))
local macro_rules | `(tactic| k_mem) => `(tactic| ((with_reducible show _ ∈ _); kpt_turns))
local macro_rules | `(tactic| ked_reads) => `(tactic| (refine all_cons ?_ ?_; (first | exact .inr (by kpt_turns) | exact .inl (by kpt_turns)); first | apply all_nil | ked_reads))
local macro_rules | `(tactic| keq_rows) => `(tactic| (refine all_cons (by kpt_turns) ?_; first | apply all_nil | keq_rows))
section -- P1
theorem reg_P1 : PySem.Challenge.rw_pq1204_01 = PySem.Challenge.rw_pq1204_01 ∧ K = K := by k_fill; exact ⟨rfl, rfl⟩
/-- the ports' tokens -/
structure PR where
  (tf tl i1 i2 i3 i4 : Tok)
noncomputable abbrev dPorts (w : World) (f l fo : Int) (tfo : Tok) (aT : Addr) (r : PR) : Obj :=
  dictOf [⟨PyData.keyHash w.params "first", .str "first" r.i1, .int f r.tf⟩, ⟨PyData.keyHash w.params "last", .str "last" r.i2, .int l r.tl⟩,
    ⟨PyData.keyHash w.params "following", .str "following" r.i3, .int fo tfo⟩, ⟨PyData.keyHash w.params "taken", .str "taken" r.i4, .ref aT⟩] 4

theorem behind_R {prog : Program} {w : World} {p : Program} {loose : List Str} {mean : ExcName → Option Value} {mg mb : Str → Option Value}
  {dp un : Nat} {gd : Option (List Code)} {cn : Str} {cs : Scope} {a : Addr} {ccd : Value} {cl : List (Str × Addr)} {outer : List Env} {h₀ : Heap} {Lc : Addr} {s : Shared}
  {x dx : Addr} {n t : _} {f l fo tfo aT rP} {Q E : Value → Shared → Prop}
  (X₀ : (K w.params).In h₀) (T₀ : Top p loose mean mg mb h₀) (C₀ : Cx h₀ (envX cn cs Lc a ccd cl :: outer) s.heap) (hd : dp + 1 < recursionLimit)
  (O : Own h₀ (envX cn cs Lc a ccd cl :: outer) s.heap [(x, instObj 154 dx), (dx, dPorts w f l fo tfo aT rP)])
  (hret : ∀ v h' tk', (∃ t', v = .int (if n = l then f else n + 1) t') → Kp [] [] s.heap h' → Q v { s with heap := h', toks := tk' }) :
  wpAny (model prog w) (ktrTop dp un gd cn cs Lc a ccd cl outer) (call (.ref 144) [.ref x, .int n t]) Q E s := by
  refine wpAny_call ?_
  k_dflt ((refine' enterR ?k1Zq ?k2Zq ?k3Zq ?k4Zq ?k6Zq ?k7Zq ?k8Zq ?k9Zq ?kBZq ?_ ?c2Zq ?c3Zq ?c4Zq ?c5Zq; (case k1Zq => assumption); (case k2Zq => assumption); (case k3Zq => assumption); (case k4Zq => assumption); (case k6Zq => k_is); (case k7Zq => k_is); (case k8Zq => ktr_room); (case k9Zq => first | exact BindsTo.of_eq rfl | exact binds_K (Frag.In.keeps (by assumption) (Cx.st (by assumption))) rfl (by k_is) rfl rfl rfl); (case c5Zq => decide); (case kBZq => exact locs rfl); (case c2Zq => exact rfl); (case c3Zq => exact rfl); (case c4Zq => exact rfl); k_whole; intro gZq' LZq' hZq' XZq' TZq' CZq' GKZq' GSZq' FZq' NZq' l1Zq'; (try k_lt l1Zq'); (try dsimp only); (try k_fold)))
  k_steps
  · exact hret _ _ _ ⟨_, by rw [if_pos (by assumption)]⟩ (kp_end (by assumption) O (by k_asm) (by k_asm) (by ked_reads))
  · exact hret _ _ _ ⟨_, by rw [if_neg (by assumption)]⟩ (kp_end (by assumption) O (by k_asm) (by k_asm) (by ked_reads))
end
section
local macro_rules | `(tactic| walk_at "compareOp In int ref") => `(tactic| k_dflt (refine in_int (knd := PySem.intKind _ _) (by k_asm) (by k_mem) (by k_asm) (intKind_is _ _ _ _) ‹_› ?_; k_whole))
local macro_rules | `(tactic| walk_at "compareOp NotIn int ref") => `(tactic| k_dflt (refine notin_int (knd := PySem.intKind _ _) (by k_asm) (by k_mem) (by k_asm) (intKind_is _ _ _ _) ‹_› ?_; k_whole))
local macro_rules | `(tactic| walk_at "exec Raise some none") => `(tactic| (k_dflt (refine Raise_X (by k_asm) (by k_asm) (by k_asm) (by k_is) (by k_is) (by rfl) (by first | rfl | assumption) ?_ (by rfl) (by rfl) (by rfl) (by rfl) (by decide); k_whole)))
local macro_rules | `(tactic| walk_at "leaving ref") => `(tactic| (k_dflt (refine leave_firstR (by rfl) (by k_asm) ‹_› (by exact News.get (by k_asm) (by k_mem)) (by exact News.fresh (by k_asm) (by k_mem)) ?_ (by rfl)); intro h' R'))
local macro_rules | `(tactic| walk_at "call type:str") => `(tactic| (refine P.str_of_int (SmallI.log ‹_›) ?_))
local macro_rules | `(tactic| walk_at "call builtin:dict.pop") => `(tactic| (k_dflt (refine pop_int (by k_asm) (by k_asm) (by k_updF) (by k_asm) ‹_› ‹_› ?_); intro v' h' o' hv' F' N' hd'; (try dsimp only at N')))
local macro_rules | `(tactic| walk_at "setItem ref int") => `(tactic| (k_dflt (refine set_int (by k_asm) (by k_asm) (by k_updF) (by k_asm) ‹_› ?_); intro h' o' F' N' hd'; (try dsimp only at N')))
local macro_rules | `(tactic| walk_at "binaryOp Add str str") => `(tactic| (refine PyProof.Rows.add_str (hsz := (by first | exact str_add_fits (a := 30) (b := 20) (by decide +kernel) (SmallI.len ‹_›) (by decide) | exact str_add_fits (a := 50) (b := 60) (str_app_le (a := 30) (b := 20) (by decide +kernel) (SmallI.len ‹_›)) (by decide +kernel) (by decide))) ?_; intro _ _))
local macro_rules | `(tactic| kaf_pre) => `(tactic| first | assumption | exact if_pos rfl | rfl | (refine Eq.trans (if_neg (by decide)) ?_; kaf_pre))
local macro_rules | `(tactic| walk_at "eval Name") => `(tactic| (k_dflt (refine' nameX_L (by k_asm) ?v ?_ (by rfl) (by rfl); (case v => first | with_reducible assumption | (refine Eq.trans (if_neg (by decide)) ?_; kaf_pre)); k_whole)))
local macro_rules | `(tactic| walk_at "Turned") => `(tactic| refine stop_ ?_)
local macro_rules | `(tactic| walk_at "leaving ref") => `(tactic| (k_dflt (refine leave_onR (by rfl) ‹_› ?_); intro h' R'))
section -- P2
theorem reg_P2 : PySem.Challenge.rw_pq1204_01 = PySem.Challenge.rw_pq1204_01 ∧ K = K := by k_fill; exact ⟨rfl, rfl⟩
theorem is_taken_R {prog : Program} {w : World} {p : Program} {loose : List Str} {mean : ExcName → Option Value} {mg mb : Str → Option Value}
  {dp un : Nat} {gd : Option (List Code)} {cn : Str} {cs : Scope} {a : Addr} {ccd : Value} {cl : List (Str × Addr)} {outer : List Env} {h₀ : Heap} {Lc : Addr} {s : Shared}
  {x dx aT : Nat} {n : Int} {t : Tok} {f l fo tfo rP} {oT : Obj} {kvs : List (Int × Value)} {Q E : Value → Shared → Prop}
  (X₀ : (K w.params).In h₀) (T₀ : Top p loose mean mg mb h₀) (C₀ : Cx h₀ (envX cn cs Lc a ccd cl :: outer) s.heap) (hd : dp + 1 < recursionLimit)
  (O : Own h₀ (envX cn cs Lc a ccd cl :: outer) s.heap [(x, instObj 154 dx), (dx, dPorts w f l fo tfo aT rP), (aT, oT)]) (hsm : (aT == sysModules) = false) (hTd : oT.IsDictOf (intKind prog w) kvs)
  (hret : ∀ h' tk', Kp [] [] s.heap h' → Q (.bool (valueAt kvs n).isSome) { s with heap := h', toks := tk' }) :
  wpAny (model prog w) (ktrTop dp un gd cn cs Lc a ccd cl outer) (call (.ref 122) [.ref x, .int n t]) Q E s := by
  refine wpAny_call ?_
  k_dflt ((refine' enterR ?k1Zq ?k2Zq ?k3Zq ?k4Zq ?k6Zq ?k7Zq ?k8Zq ?k9Zq ?kBZq ?_ ?c2Zq ?c3Zq ?c4Zq ?c5Zq; (case k1Zq => assumption); (case k2Zq => assumption); (case k3Zq => assumption); (case k4Zq => assumption); (case k6Zq => k_is); (case k7Zq => k_is); (case k8Zq => ktr_room); (case k9Zq => first | exact BindsTo.of_eq rfl | exact binds_K (Frag.In.keeps (by assumption) (Cx.st (by assumption))) rfl (by k_is) rfl rfl rfl); (case c5Zq => decide); (case kBZq => exact locs rfl); (case c2Zq => exact rfl); (case c3Zq => exact rfl); (case c4Zq => exact rfl); k_whole; intro gZq' LZq' hZq' XZq' TZq' CZq' GKZq' GSZq' FZq' NZq' l1Zq'; (try k_lt l1Zq'); (try dsimp only); (try k_fold)))
  (k_steps; repeat' ((first | ((with_reducible show wpAny _ _ (call (Value.ref 63) [Value.str _ _]) _ _ _); k_dflt (refine' new_exc ?XZq ?TZq ?FZq ?NZq ?dZq ?_; (case FZq => k_asm); (case XZq => assumption); (case TZq => assumption); (case NZq => k_asm); (case dZq => ktr_room)); intro hZq' e d t tkZq' FZq' NZq' neZq'; refine ⟨_, _, _, rfl, FZq'.keep, (NZq' _ (.head _)).1, ?_⟩; show wpAny _ _ (leaving _ _) _ _ _)) <;> k_steps))
  exact hret _ _ (kp_end (by assumption) O (by k_asm) (by k_asm) (by ked_reads))

theorem free_R {prog : Program} {w : World} {p : Program} {loose : List Str} {mean : ExcName → Option Value} {mg mb : Str → Option Value}
  {dp un : Nat} {gd : Option (List Code)} {cn : Str} {cs : Scope} {a : Addr} {ccd : Value} {cl : List (Str × Addr)} {outer : List Env} {h₀ : Heap} {Lc : Addr} {s : Shared}
  {x dx aT : Nat} {n : Int} {t : Tok} {f l fo tfo rP} {oT : Obj} {kvs : List (Int × Value)} {Q E : Value → Shared → Prop}
  (X₀ : (K w.params).In h₀) (T₀ : Top p loose mean mg mb h₀) (C₀ : Cx h₀ (envX cn cs Lc a ccd cl :: outer) s.heap) (hd : dp + 10 < recursionLimit)
  (O : Own h₀ (envX cn cs Lc a ccd cl :: outer) s.heap [(x, instObj 154 dx), (dx, dPorts w f l fo tfo aT rP), (aT, oT)]) (o1 : dx < x) (o2 : x < aT) (hsm : (aT == sysModules) = false) (hTd : oT.IsDictOf (intKind prog w) kvs)
  (hlen : kvs.length ≤ 1000) (hnb : SmallI n)
  (hret : ∀ h' tk' oT', (valueAt kvs n).isSome = true → oT'.IsDictOf (intKind prog w) (without kvs n) → Kp [aT] [] s.heap h' → h'.get? aT = some oT' → Q .none { s with heap := h', toks := tk' })
  (hexc : ∀ e h' tk' hm, valueAt kvs n = none → Kp [] [] s.heap hm → RaisedR hm (envX cn cs Lc a ccd cl :: outer) e 63 h' → E (.ref e) { s with heap := h', toks := tk' }) :
  wpAny (model prog w) (ktrTop dp un gd cn cs Lc a ccd cl outer) (call (.ref 151) [.ref x, .int n t]) Q E s := by
  have hA : Asc [dx, x, aT] := ⟨o1, o2, trivial⟩
  refine wpAny_call ?_
  k_dflt ((refine' enterR ?k1Zq ?k2Zq ?k3Zq ?k4Zq ?k6Zq ?k7Zq ?k8Zq ?k9Zq ?kBZq ?_ ?c2Zq ?c3Zq ?c4Zq ?c5Zq; (case k1Zq => assumption); (case k2Zq => assumption); (case k3Zq => assumption); (case k4Zq => assumption); (case k6Zq => k_is); (case k7Zq => k_is); (case k8Zq => ktr_room); (case k9Zq => first | exact BindsTo.of_eq rfl | exact binds_K (Frag.In.keeps (by assumption) (Cx.st (by assumption))) rfl (by k_is) rfl rfl rfl); (case c5Zq => decide); (case kBZq => exact locs rfl); (case c2Zq => exact rfl); (case c3Zq => exact rfl); (case c4Zq => exact rfl); k_whole; intro gZq' LZq' hZq' XZq' TZq' CZq' GKZq' GSZq' FZq' NZq' l1Zq'; (try k_lt l1Zq'); (try dsimp only); (try k_fold)))
  (k_steps; repeat' ((first | ((with_reducible show wpAny _ _ (call (Value.ref 63) [Value.str _ _]) _ _ _); k_dflt (refine' new_exc ?XZq ?TZq ?FZq ?NZq ?dZq ?_; (case FZq => k_asm); (case XZq => assumption); (case TZq => assumption); (case NZq => k_asm); (case dZq => ktr_room)); intro hZq' e d t tkZq' FZq' NZq' neZq'; refine ⟨_, _, _, rfl, FZq'.keep, (NZq' _ (.head _)).1, ?_⟩; show wpAny _ _ (leaving _ _) _ _ _)) <;> k_steps))
  · exact hret _ _ _ (by assumption) (by assumption) (kp_end (by assumption) O (by k_asm) (by k_asm) (by ked_reads)) (News.get (by k_asm) (by k_mem))
  · exact Fr.keep (by k_asm)
  · refine hexc _ _ _ _ ?_ (kp_hm (by assumption) O (by k_asm) (by k_asm) (by assumption) rfl (by ked_reads)) (by assumption)
    exact none_of (by assumption)
end
section
local macro_rules | `(tactic| walk_at "pyIter ref") => `(tactic| ((with_reducible show wpAny _ _ (pyIter (Value.ref _)) _ _ _); refine stop_ ?_))
section -- P3
theorem reg_P3 : PySem.Challenge.rw_pq1204_01 = PySem.Challenge.rw_pq1204_01 ∧ K = K := by k_fill; exact ⟨rfl, rfl⟩
noncomputable def beh (f l n : Int) : Int := if n = l then f else n + 1
noncomputable def scan (f l : Int) (T : Int → Bool) : Nat → Int → Option (Int × Int)
  | 0, _ => none
  | k + 1, n => if T n then scan f l T k (beh f l n) else some (n, beh f l n)

theorem next_free_R {prog : Program} {w : World} {p : Program} {loose : List Str} {mean : ExcName → Option Value} {mg mb : Str → Option Value}
  {dp un : Nat} {gd : Option (List Code)} {cn : Str} {cs : Scope} {a : Addr} {ccd : Value} {cl : List (Str × Addr)} {outer : List Env} {h₀ : Heap} {Lc : Addr} {s : Shared}
  {x dx aT : Nat} {f l fo tfo rP} {oT : Obj} {kvs : List (Int × Value)} {Q E : Value → Shared → Prop}
  (X₀ : (K w.params).In h₀) (T₀ : Top p loose mean mg mb h₀) (C₀ : Cx h₀ (envX cn cs Lc a ccd cl :: outer) s.heap) (hd : dp + 10 < recursionLimit)
  (O : Own h₀ (envX cn cs Lc a ccd cl :: outer) s.heap [(x, instObj 154 dx), (dx, dPorts w f l fo tfo aT rP), (aT, oT)]) (o1 : dx < x) (o2 : x < aT) (hsm : (aT == sysModules) = false) (hTd : oT.IsDictOf (intKind prog w) kvs)
  (hf : 0 ≤ f) (hl : f ≤ l) (hl2 : l < 100000)
  (hret : ∀ h' tk' n t' fo' tfo', scan f l (fun n => (valueAt kvs n).isSome) (l - f + 1).toNat fo = some (n, fo') → Kp [dx] [] s.heap h' → h'.get? dx = some (dPorts w f l fo' tfo' aT rP) → Q (.int n t') { s with heap := h', toks := tk' })
  (hexc : ∀ e h' tk' hm, scan f l (fun n => (valueAt kvs n).isSome) (l - f + 1).toNat fo = none → Kp [] [] s.heap hm → RaisedR hm (envX cn cs Lc a ccd cl :: outer) e 63 h' → E (.ref e) { s with heap := h', toks := tk' }) :
  wpAny (model prog w) (ktrTop dp un gd cn cs Lc a ccd cl outer) (call (.ref 137) [.ref x]) Q E s := by
  have hA : Asc [dx, x, aT] := ⟨o1, o2, trivial⟩
  refine wpAny_call ?_
  k_dflt ((refine' enterR ?k1Zq ?k2Zq ?k3Zq ?k4Zq ?k6Zq ?k7Zq ?k8Zq ?k9Zq ?kBZq ?_ ?c2Zq ?c3Zq ?c4Zq ?c5Zq; (case k1Zq => assumption); (case k2Zq => assumption); (case k3Zq => assumption); (case k4Zq => assumption); (case k6Zq => k_is); (case k7Zq => k_is); (case k8Zq => ktr_room); (case k9Zq => first | exact BindsTo.of_eq rfl | exact binds_K (Frag.In.keeps (by assumption) (Cx.st (by assumption))) rfl (by k_is) rfl rfl rfl); (case c5Zq => decide); (case kBZq => exact locs rfl); (case c2Zq => exact rfl); (case c3Zq => exact rfl); (case c4Zq => exact rfl); k_whole; intro gZq' LZq' hZq' XZq' TZq' CZq' GKZq' GSZq' FZq' NZq' l1Zq'; (try k_lt l1Zq'); (try dsimp only); (try k_fold)))
  (k_steps; repeat' ((first | ((with_reducible show wpAny _ _ (call (Value.ref 144) [Value.ref _, Value.int _ _]) _ _ _); k_dflt (refine' behind_R ?XZq ?TZq ?CZq ?dZq ?OZq ?_; (case CZq => ((refine Cx.call ‹_› (by k_asm) (by rfl)))); (case XZq => assumption); (case TZq => assumption); (case dZq => ktr_room); (case OZq => ((refine Own.of ‹_› (by k_asm) (by keq_rows))))); intro vZq' hZq' tkZq' hvZq' hKZq'; obtain ⟨tZq', hvZq'⟩ := hvZq'; subst hvZq'; obtain ⟨FZq', NZq'⟩ := News.at0 (by k_asm) (by k_asm) hKZq') | ((with_reducible show wpAny _ _ (call (Value.ref 122) [Value.ref _, Value.int _ _]) _ _ _); k_dflt (refine' is_taken_R ?XZq ?TZq ?CZq ?dZq ?OZq ?mZq ?DZq ?_; (case CZq => ((refine Cx.call ‹_› (by k_asm) (by rfl)))); (case XZq => assumption); (case TZq => assumption); (case dZq => ktr_room); (case OZq => ((refine Own.of ‹_› (by k_asm) (by keq_rows)))); (case mZq => assumption); (case DZq => k_asm)); intro hZq' tkZq' hKZq'; obtain ⟨FZq', NZq'⟩ := News.at0 (by k_asm) (by k_asm) hKZq') | ((with_reducible show wpAny _ _ (call (Value.ref 63) [Value.str _ _]) _ _ _); k_dflt (refine' new_exc ?XZq ?TZq ?FZq ?NZq ?dZq ?_; (case FZq => k_asm); (case XZq => assumption); (case TZq => assumption); (case NZq => k_asm); (case dZq => ktr_room)); intro hZq' e d t tkZq' FZq' NZq' neZq'; refine ⟨_, _, _, rfl, FZq'.keep, (NZq' _ (.head _)).1, ?_⟩; show wpAny _ _ (leaving _ _) _ _ _)) <;> k_steps))
  unfold Stop
  refine loop_range (l - f + 1).toNat (fun i m news => news = [(x, instObj 154 dx), (dx, dPorts w f l fo tfo aT rP), (aT, oT)] ∧ m (Str.ofString "self") = some (.ref x) ∧
    ∃ n tn, m (Str.ofString "number") = some (.int n tn) ∧ scan f l (fun n => (valueAt kvs n).isSome) ((l - f + 1).toNat - i) n = scan f l (fun n => (valueAt kvs n).isSome) (l - f + 1).toNat fo)
    (by assumption) (range_small (rng0 hl) (rng1 hf hl2)) (range_size (rng0 hl)) (by k_asm) (by k_asm) rfl ⟨rfl, rfl, fo, tfo, rfl, rfl⟩ ?turn ?done
  case done =>
    rintro h' tk m' news' F9 N9 ⟨rfl, hs, n, tn, hn, hsc⟩
    (k_steps; repeat' ((first | ((with_reducible show wpAny _ _ (call (Value.ref 144) [Value.ref _, Value.int _ _]) _ _ _); k_dflt (refine' behind_R ?XZq ?TZq ?CZq ?dZq ?OZq ?_; (case CZq => ((refine Cx.call ‹_› (by k_asm) (by rfl)))); (case XZq => assumption); (case TZq => assumption); (case dZq => ktr_room); (case OZq => ((refine Own.of ‹_› (by k_asm) (by keq_rows))))); intro vZq' hZq' tkZq' hvZq' hKZq'; obtain ⟨tZq', hvZq'⟩ := hvZq'; subst hvZq'; obtain ⟨FZq', NZq'⟩ := News.at0 (by k_asm) (by k_asm) hKZq') | ((with_reducible show wpAny _ _ (call (Value.ref 122) [Value.ref _, Value.int _ _]) _ _ _); k_dflt (refine' is_taken_R ?XZq ?TZq ?CZq ?dZq ?OZq ?mZq ?DZq ?_; (case CZq => ((refine Cx.call ‹_› (by k_asm) (by rfl)))); (case XZq => assumption); (case TZq => assumption); (case dZq => ktr_room); (case OZq => ((refine Own.of ‹_› (by k_asm) (by keq_rows)))); (case mZq => assumption); (case DZq => k_asm)); intro hZq' tkZq' hKZq'; obtain ⟨FZq', NZq'⟩ := News.at0 (by k_asm) (by k_asm) hKZq') | ((with_reducible show wpAny _ _ (call (Value.ref 63) [Value.str _ _]) _ _ _); k_dflt (refine' new_exc ?XZq ?TZq ?FZq ?NZq ?dZq ?_; (case FZq => k_asm); (case XZq => assumption); (case TZq => assumption); (case NZq => k_asm); (case dZq => ktr_room)); intro hZq' e d t tkZq' FZq' NZq' neZq'; refine ⟨_, _, _, rfl, FZq'.keep, (NZq' _ (.head _)).1, ?_⟩; show wpAny _ _ (leaving _ _) _ _ _)) <;> k_steps))
    · exact Fr.keep (by k_asm)
    · exact hexc _ _ _ _ (by rw [← hsc, Nat.sub_self]; rfl) (kp_hm (by assumption) O (by k_asm) (by k_asm) (by assumption) rfl (by ked_reads)) (by assumption)
  case turn =>
    rintro i t m₁ news₁ h tk I oI hi ⟨rfl, hs, n, tn, hn, hsc⟩ hI hI2 hI3 F9 N9
    k_lt hI2
    have e : (l - f + 1).toNat - i = ((l - f + 1).toNat - (i + 1)) + 1 := sub_step (by assumption)
    rw [e, scan] at hsc
    (k_steps; repeat' ((first | ((with_reducible show wpAny _ _ (call (Value.ref 144) [Value.ref _, Value.int _ _]) _ _ _); k_dflt (refine' behind_R ?XZq ?TZq ?CZq ?dZq ?OZq ?_; (case CZq => ((refine Cx.call ‹_› (by k_asm) (by rfl)))); (case XZq => assumption); (case TZq => assumption); (case dZq => ktr_room); (case OZq => ((refine Own.of ‹_› (by k_asm) (by keq_rows))))); intro vZq' hZq' tkZq' hvZq' hKZq'; obtain ⟨tZq', hvZq'⟩ := hvZq'; subst hvZq'; obtain ⟨FZq', NZq'⟩ := News.at0 (by k_asm) (by k_asm) hKZq') | ((with_reducible show wpAny _ _ (call (Value.ref 122) [Value.ref _, Value.int _ _]) _ _ _); k_dflt (refine' is_taken_R ?XZq ?TZq ?CZq ?dZq ?OZq ?mZq ?DZq ?_; (case CZq => ((refine Cx.call ‹_› (by k_asm) (by rfl)))); (case XZq => assumption); (case TZq => assumption); (case dZq => ktr_room); (case OZq => ((refine Own.of ‹_› (by k_asm) (by keq_rows)))); (case mZq => assumption); (case DZq => k_asm)); intro hZq' tkZq' hKZq'; obtain ⟨FZq', NZq'⟩ := News.at0 (by k_asm) (by k_asm) hKZq') | ((with_reducible show wpAny _ _ (call (Value.ref 63) [Value.str _ _]) _ _ _); k_dflt (refine' new_exc ?XZq ?TZq ?FZq ?NZq ?dZq ?_; (case FZq => k_asm); (case XZq => assumption); (case TZq => assumption); (case NZq => k_asm); (case dZq => ktr_room)); intro hZq' e d t tkZq' FZq' NZq' neZq'; refine ⟨_, _, _, rfl, FZq'.keep, (NZq' _ (.head _)).1, ?_⟩; show wpAny _ _ (leaving _ _) _ _ _)) <;> k_steps))
    · rw [if_pos (by assumption)] at hsc
      exact turned_next _ (by k_asm) (by k_asm) hI ⟨rfl, by kaf_pre, _, _, by kaf_pre, hsc⟩
    · unfold Stop
      (try dsimp only)
      (k_steps; repeat' ((first | ((with_reducible show wpAny _ _ (call (Value.ref 144) [Value.ref _, Value.int _ _]) _ _ _); k_dflt (refine' behind_R ?XZq ?TZq ?CZq ?dZq ?OZq ?_; (case CZq => ((refine Cx.call ‹_› (by k_asm) (by rfl)))); (case XZq => assumption); (case TZq => assumption); (case dZq => ktr_room); (case OZq => ((refine Own.of ‹_› (by k_asm) (by keq_rows))))); intro vZq' hZq' tkZq' hvZq' hKZq'; obtain ⟨tZq', hvZq'⟩ := hvZq'; subst hvZq'; obtain ⟨FZq', NZq'⟩ := News.at0 (by k_asm) (by k_asm) hKZq') | ((with_reducible show wpAny _ _ (call (Value.ref 122) [Value.ref _, Value.int _ _]) _ _ _); k_dflt (refine' is_taken_R ?XZq ?TZq ?CZq ?dZq ?OZq ?mZq ?DZq ?_; (case CZq => ((refine Cx.call ‹_› (by k_asm) (by rfl)))); (case XZq => assumption); (case TZq => assumption); (case dZq => ktr_room); (case OZq => ((refine Own.of ‹_› (by k_asm) (by keq_rows)))); (case mZq => assumption); (case DZq => k_asm)); intro hZq' tkZq' hKZq'; obtain ⟨FZq', NZq'⟩ := News.at0 (by k_asm) (by k_asm) hKZq') | ((with_reducible show wpAny _ _ (call (Value.ref 63) [Value.str _ _]) _ _ _); k_dflt (refine' new_exc ?XZq ?TZq ?FZq ?NZq ?dZq ?_; (case FZq => k_asm); (case XZq => assumption); (case TZq => assumption); (case NZq => k_asm); (case dZq => ktr_room)); intro hZq' e d t tkZq' FZq' NZq' neZq'; refine ⟨_, _, _, rfl, FZq'.keep, (NZq' _ (.head _)).1, ?_⟩; show wpAny _ _ (leaving _ _) _ _ _)) <;> k_steps))
      refine' hret _ _ n tn _ _ ?ka ?kb ?kc
      case kc => exact News.get (by k_asm) (by k_mem)
      case kb => exact kp_end (by assumption) O (by k_asm) (by k_asm) (by ked_reads)
      case ka => rw [if_neg (by simp [*])] at hsc; exact hsc.symm
end
end
section -- P4
theorem reg_P4 : PySem.Challenge.rw_pq1204_01 = PySem.Challenge.rw_pq1204_01 ∧ K = K := by k_fill; exact ⟨rfl, rfl⟩
theorem take_R {prog : Program} {w : World} {p : Program} {loose : List Str} {mean : ExcName → Option Value} {mg mb : Str → Option Value}
  {dp un : Nat} {gd : Option (List Code)} {cn : Str} {cs : Scope} {a : Addr} {ccd : Value} {cl : List (Str × Addr)} {outer : List Env} {h₀ : Heap} {Lc : Addr} {s : Shared}
  {x dx aT : Nat} {f l fo tfo rP} {t0 : Tok} {oT : Obj} {kvs : List (Int × Value)} {Q E : Value → Shared → Prop}
  (X₀ : (K w.params).In h₀) (T₀ : Top p loose mean mg mb h₀) (C₀ : Cx h₀ (envX cn cs Lc a ccd cl :: outer) s.heap) (hd : dp + 20 < recursionLimit)
  (O : Own h₀ (envX cn cs Lc a ccd cl :: outer) s.heap [(x, instObj 154 dx), (dx, dPorts w f l fo tfo aT rP), (aT, oT)]) (o1 : dx < x) (o2 : x < aT) (hsm : (aT == sysModules) = false) (hTd : oT.IsDictOf (intKind prog w) kvs)
  (hlen : kvs.length ≤ 1000) (hf : 0 ≤ f) (hl : f ≤ l) (hl2 : l < 100000)
  (hret : ∀ h' tk' n t' fo' tfo' oT', scan f l (fun n => (valueAt kvs n).isSome) (l - f + 1).toNat fo = some (n, fo') → Kp [dx, aT] [] s.heap h' → h'.get? dx = some (dPorts w f l fo' tfo' aT rP) →
     h'.get? aT = some oT' → oT'.IsDictOf (intKind prog w) (stored kvs n (.bool true)) → Q (.int n t') { s with heap := h', toks := tk' })
  (hexc : ∀ e h' tk' hm, scan f l (fun n => (valueAt kvs n).isSome) (l - f + 1).toNat fo = none → Kp [] [] s.heap hm → RaisedR hm (envX cn cs Lc a ccd cl :: outer) e 63 h' → E (.ref e) { s with heap := h', toks := tk' }) :
  wpAny (model prog w) (ktrTop dp un gd cn cs Lc a ccd cl outer) (call (.ref 130) [.ref x, .int 0 t0]) Q E s := by
  have hA : Asc [dx, x, aT] := ⟨o1, o2, trivial⟩
  refine wpAny_call ?_
  k_dflt ((refine' enterR ?k1Zq ?k2Zq ?k3Zq ?k4Zq ?k6Zq ?k7Zq ?k8Zq ?k9Zq ?kBZq ?_ ?c2Zq ?c3Zq ?c4Zq ?c5Zq; (case k1Zq => assumption); (case k2Zq => assumption); (case k3Zq => assumption); (case k4Zq => assumption); (case k6Zq => k_is); (case k7Zq => k_is); (case k8Zq => ktr_room); (case k9Zq => first | exact BindsTo.of_eq rfl | exact binds_K (Frag.In.keeps (by assumption) (Cx.st (by assumption))) rfl (by k_is) rfl rfl rfl); (case c5Zq => decide); (case kBZq => exact locs rfl); (case c2Zq => exact rfl); (case c3Zq => exact rfl); (case c4Zq => exact rfl); k_whole; intro gZq' LZq' hZq' XZq' TZq' CZq' GKZq' GSZq' FZq' NZq' l1Zq'; (try k_lt l1Zq'); (try dsimp only); (try k_fold)))
  (k_steps; repeat' ((first | ((try dsimp only [List.cons_append, List.nil_append]); (with_reducible show wpAny _ _ (call (Value.ref 137) [Value.ref _]) _ _ _); k_dflt (refine' next_free_R ?XZq ?TZq ?CZq ?dZq ?OZq ?o1Zq ?o2Zq ?mZq ?DZq ?fZq ?lZq ?l2Zq ?_ ?_; (case CZq => ((refine Cx.call ‹_› (by k_asm) (by rfl)))); (case XZq => assumption); (case TZq => assumption); (case dZq => ktr_room); (case OZq => ((refine Own.of ‹_› (by k_asm) (by keq_rows)))); (case o1Zq => regstrif_gather); (case o2Zq => regstrif_gather); (case mZq => assumption); (case DZq => k_asm); (case fZq => regstrif_gather); (case lZq => regstrif_gather); (case l2Zq => regstrif_gather)); (intro hZq' tkZq' nZq' tZq' foZq' tfoZq' hscZq' hKZq' hdxZq'; obtain ⟨FZq', NZq'⟩ := News.at1 (by k_asm) (by k_asm) (by k_updF) hKZq' hdxZq'); rotate_left; (intro eZq' hZq' tkZq' hmZq' hscZq' hKZq' RZq'; dsimp only))) <;> k_steps))
  · exact hexc _ _ _ _ (by assumption) (kp_on (by assumption) O (by k_asm) (by k_asm) (by assumption) (fun _ h => h) (fun _ h => h) (by ked_reads)) (by assumption)
  · exact hret _ _ _ _ _ _ _ (by assumption) (kp_end (by assumption) O (by k_asm) (by k_asm) (by ked_reads)) (News.get (by k_asm) (by k_mem)) (News.get (by k_asm) (by k_mem)) (by assumption)
end
section -- B4
section
variable {prog : Program} {w : World} {A : Around} {s : Shared} {h₀ : Heap} {mg mb : Str → Option Value} {news : List (Addr × Obj)} {K : Frag} {p : Program} {loose : List Str} {mean : ExcName → Option Value} {outer : List Env}
  {R : Result → Shared → Prop} {name qual : Str} {params : Arguments} {body : List Stmt} {scope : Scope} {dV kV doc pm cdv ct oc : Value} {an od : Option Addr} {osl : Array (Option Value)} {f : Addr} {args : Args} {binds : List (Str × Value)}

theorem enterC (X₀ : K.In h₀) (T₀ : Top p loose mean mg mb h₀) (C : Cx h₀ outer s.heap) (hn : ∀ q ∈ news, s.heap.get? q.1 = some q.2 ∧ h₀.get? q.1 = none ∧ q.1 ∉ frs outer)
    (ho : K.lookup f = some ⟨oc, od, .func (fnX name qual params body scope [] dV kV doc pm an cdv ct), osl⟩) (hcd : codeIn K cdv qual = true) (hroom : A.depth < recursionLimit)
    (hbind : BindsTo s (fnX name qual params body scope [] dV kV doc pm an cdv ct) args binds)
    (hkind : (binds.all fun x => scope.names.lookup x.1 == some .local || (scope.names.lookup x.1 == some .cell && ((cellsFrom 0 scope.names []).lookup x.1).isSome)) = true)
    (hnd : ((cellsFrom 0 scope.names []).map (·.1)).Nodup)
    (h : ∀ g L' h₁ tk cells, K.In g → Top p loose mean mg mb g → Cx h₀ outer g → Kp (news.map Prod.fst) [] s.heap g → (∀ b o, g.get? b = some o → s.heap.get? b = some o) →
      Fr g L' h₁ (bindL (envOfC qual scope L' f cdv).kindOf binds fun _ => none) → News g L' h₁ (cells ++ news) →
      CellsAre (bindC (envOfC qual scope L' f cdv).kindOf binds fun _ => none) (cellsFrom (L' + 1) scope.names []) cells → (∀ q ∈ news, q.1 < L') →
      wpAny (model prog w) (A.deeper (envOfC qual scope L' f cdv)) (execs body (envOfC qual scope L' f cdv))
        (fun fl s' => LeaveR R (match fl with | .ret v => v | _ => .none) s')
        (fun e s' => wpAny (model prog w) (A.deeper (envOfC qual scope L' f cdv)) (leaving (envOfC qual scope L' f cdv) e) (fun _ s'' => R (.error e) s'') (fun e' s'' => R (.error e') s'') s')
        { s with heap := h₁, toks := tk })
    (hco : scope.isCoroutine = false) (hgen : scope.isGenerator = false) (hk : scope.kind = .function) : codeAny (model prog w) A (.call (.ref f) args) R s := by
  have X := X₀.keeps C.st
  have hM : ∀ b o, h₀.get? b = some o → b ∉ news.map Prod.fst := fun b o e q => by
    obtain ⟨r, hr, rfl⟩ := List.mem_map.mp q
    rw [(hn r hr).2.1] at e; cases e
  have sg : h₀.StaysIn (hideAll s.heap (news.map Prod.fst)) := fun b o e => hideAll_get _ (C.st b o e) (hM b o e)
  have hkind' : ∀ n, ∀ x ∈ binds, scope.names.lookup x.1 = some .local ∨ (scope.names.lookup x.1 = some .cell ∧ ((cellsFrom n scope.names []).lookup x.1).isSome = true) := fun n x hx => by
    have := List.all_eq_true.mp hkind x hx
    simp only [Bool.or_eq_true, beq_iff_eq, Bool.and_eq_true] at this
    refine this.imp id fun ⟨a, b⟩ => ⟨a, ?_⟩
    obtain ⟨c, hc⟩ := Option.isSome_iff_exists.mp b
    have nm := cellsFrom_names scope.names 0 n [] [] rfl
    have hm : x.1 ∈ (cellsFrom n scope.names []).map (·.1) := nm ▸ List.mem_map.mpr ⟨(x.1, c), mem_of_lookup hc, rfl⟩
    obtain ⟨⟨y, d⟩, hy, e⟩ := List.mem_map.mp hm
    have hl := lookup_of_mem_nodup (nm ▸ hnd) hy
    dsimp only at e
    rw [e] at hl
    rw [hl]; rfl
  refine codeAny_call_function hroom (X _ _ ho) rfl hco hgen rfl (codeRec_of X hcd) (hbind _ _ _ _ ?_)
  refine wpAny_newFunctionEnv_cells hk (hkind' _) fun env' he s' x => ?_
  subst he
  refine ⟨(T₀.nolimit.keeps C.st).keeps x.toInCall.keep, codeAny_func ?_⟩
  obtain ⟨h₁, tk, rfl, _⟩ := x.done
  have hk₁ := x.toInCall.keep
  obtain ⟨cells, NC, Y⟩ := Cl.news (h₀ := s.heap) (Nat.le_refl _) fun n c hm => ⟨x.cell n c (lookup_of_mem_nodup (cellsFrom_names scope.names 0 (s.heap.objs.size + 1) [] [] rfl ▸ hnd) hm), x.above n c hm⟩
  refine wpAny_mono (h (hideAll s.heap (news.map Prod.fst)) s.heap.objs.size h₁ tk cells (X₀.keeps sg) (T₀.keeps sg) ⟨sg, fun env he => ?_⟩ (Kp.of fun b o e hb => hideAll_get _ e hb) (fun b o e => of_hideAll _ e)
    ⟨x.toInCall.ns, fun b o e => hk₁ b o (of_hideAll _ e), Nat.le_of_eq (hideAll_size _ _)⟩ (fun q hq => ?_) Y fun q hq => Heap.lt_size (hn q hq).1) (fun _ _ y => y) fun _ _ y => y
  · obtain ⟨a, L, o, hf, ho', r⟩ := C.fp env he
    refine ⟨a, L, o, hf, hideAll_get _ ho' fun q => ?_, r⟩
    obtain ⟨t, ht, rfl⟩ := List.mem_map.mp q
    exact (hn t ht).2.2 (List.mem_filterMap.mpr ⟨env, he, hf⟩)
  · rcases List.mem_append.mp hq with hq | hq
    · refine ⟨(NC q hq).1, (NC q hq).2.1, ?_⟩
      cases z : (hideAll s.heap (news.map Prod.fst)).get? q.1 with
      | none => rfl
      | some o => have := of_hideAll _ z; rw [(NC q hq).2.2] at this; cases this
    · exact ⟨hk₁ _ _ (hn q hq).1, Nat.ne_of_lt (Heap.lt_size (hn q hq).1), hideAll_none _ (List.mem_map_of_mem hq)⟩
end
end
section -- B5
section
variable {prog : Program} {w : World} {A : Around} {E : Value → Shared → Prop} {s : Shared}

theorem ownedGo_keys {elts : List Expr} {x1 : Nat} {pos : Pos} {I d T : Addr} {i n ep : Nat} {Q : Unit → Shared → Prop} (hit : s.heap.IsKeyIter I d i n ep) (hQ : Q () s) :
    wpAny (model prog w) A (letOwnedTupleGo (.Tuple elts x1 pos) (.ref I) (.ref T)) Q E s := by
  obtain ⟨o, ho, hc, hd⟩ := hit
  unfold letOwnedTupleGo
  refine wpAny_bind (wpAny_load ho ?_)
  rw [hc, hd]
  have no : (["enumerate", "zip", "dict_itemiterator", "dict_reverseitemiterator", "odict_iterator", "itertools.zip_longest", "itertools.pairwise"].contains "dict_keyiterator") = false := by decide
  show wpAny _ A (if (["enumerate", "zip", "dict_itemiterator", "dict_reverseitemiterator", "odict_iterator", "itertools.zip_longest", "itertools.pairwise"].contains "dict_keyiterator" && _) = true then _ else _) Q E s
  rw [if_neg (by rw [no, Bool.false_and]; exact Bool.false_ne_true)]
  exact wpAny_pure hQ

/-- how a turn of the loop over pairs ends -/
noncomputable def TurnP (h₀ : Heap) (L : Addr) (nI : List (Addr × Obj)) (Jn : (Str → Option Value) → Prop) (s : Shared) (Qr : Value → Shared → Prop) (Qb : Shared → Prop) (f : Flow) (s₂ : Shared) : Prop :=
  match f with
  | .ret v => Qr v s₂
  | .brk => Qb s₂
  | _ => ∃ h' tk m₂, s₂ = { s with heap := h', toks := tk } ∧ Fr h₀ L h' m₂ ∧ News h₀ L h' nI ∧ Jn m₂

theorem for_keyPairs {env : Env} {h₀ : Heap} {K : Type} [DecidableEq K] {knd : HeapKind prog w K} {xi xc : Str} {pk pv pt : Pos} {x1 : Nat} {body : List Stmt} {d : Addr} {ep : Nat} {Q : Flow → Shared → Prop} {m : Str → Option Value} {news : List (Addr × Obj)}
    (xs : List (K × Addr × Value)) (P2 : Nat → Value → Value → Prop) (J : Nat → (Str → Option Value) → Prop)
    (hd : ∀ h, h₀.StaysIn h → DictAtH h knd d xs ep) (hT : ∀ i x, xs[i]? = some x → ∃ v0 v1, (∀ h, h₀.StaysIn h → h.IsTuple x.2.1 #[v0, v1]) ∧ P2 i v0 v1)
    (hsm : (d == sysModules) = false) (hh : A.handled = none) (hxi : env.kindOf xi = some .local) (hxc : env.kindOf xc = some .local)
    (hp : (env.scope.kind == .class || (env.scope.kind == .module && env.locals != env.globals)) = false)
    (F : Fr h₀ env.locals s.heap m) (N : News h₀ env.locals s.heap news) (h0 : J 0 m)
    (turn : ∀ i v0 v1 m₁ h tk I oI, i < xs.length → P2 i v0 v1 → J i m₁ → (∀ p ∈ news, p.1 < I) → env.locals < I →
      Fr h₀ env.locals h (fun y => if y = xc then some v1 else if y = xi then some v0 else m₁ y) → News h₀ env.locals h ((I, oI) :: news) →
      wpAny (model prog w) A (execs body env) (TurnP h₀ env.locals ((I, oI) :: news) (J (i + 1)) s (fun v s' => Q (.ret v) s') fun s' => Q .next s') E { s with heap := h, toks := tk })
    (done : ∀ h' tk m', Fr h₀ env.locals h' m' → News h₀ env.locals h' news → J xs.length m' → Q .next { s with heap := h', toks := tk })
    (hE : PassesOwn (model prog w) A env E := by passes_own) :
    wpAny (model prog w) A (pyIter (.ref d)) (fun it s₂ => codeAny (model prog w) A (.forLoop (.Tuple [.Name xi pk, .Name xc pv] x1 pt) it body [] env)
      (fun r s' => match r with | .ok f => Q f s' | .error e => cameBackBy (model prog w) A env E e s') s₂) E s := by
  refine pyIterH hsm (hd _ F.keep) ?_
  have hLI : env.locals < s.heap.objs.size := F.ns.lt
  have hdI : d ≠ s.heap.objs.size := by
    obtain ⟨o, es, ho, _⟩ := hd _ F.keep
    exact Nat.ne_of_lt (Heap.lt_size ho)
  have h0I : h₀.get? s.heap.objs.size = none := next_is_new F
  have W := walksH (prog := prog) (w := w) (knd := knd) hh s.heap.objs.size hdI xs ep
  have hIn : ∀ p ∈ news, p.1 ≠ s.heap.objs.size := fun p hp => Nat.ne_of_lt (Heap.lt_size (N p hp).1)
  refine codeAny_forLoop_any
    (fun k s' => ∃ h' tk m' i, s' = { s with heap := h', toks := tk } ∧ h'.IsKeyIter s.heap.objs.size d i xs.length ep ∧ Fr h₀ env.locals h' m' ∧ News h₀ env.locals h' news ∧ J i m' ∧ i ≤ xs.length ∧ k = xs.length + 1 - i) ?_ (xs.length + 1)
    ⟨_, s.toks, m, 0, rfl, ⟨_, Heap.get?_push_size _ rfl, rfl, rfl⟩, F.push _, (fun p hp => ⟨Heap.get?_push_of_some _ (N p hp).1, (N p hp).2⟩), h0, Nat.zero_le _, rfl⟩
  rintro k s' ⟨H, tk, m', i, rfl, hit, F', N', hJ, hi, rfl⟩
  have step : ∀ h₁ : Heap, (∀ b o, b ∉ [s.heap.objs.size] → H.get? b = some o → h₁.get? b = some o) → Fr h₀ env.locals h₁ m' ∧ News h₀ env.locals h₁ news := fun h₁ k₁ =>
    ⟨⟨F'.ns.at' fun o e => k₁ _ o (fun q => absurd (List.mem_singleton.mp q) (Nat.ne_of_lt hLI)) e, fun b o e => k₁ b o (fun q => by rw [List.mem_singleton.mp q, h0I] at e; cases e) (F'.keep b o e), F'.above⟩,
      fun p hp => ⟨k₁ _ _ (fun q => hIn p hp (List.mem_singleton.mp q)) (N' p hp).1, (N' p hp).2⟩⟩
  by_cases hlt : i < xs.length
  · refine W.item i _ _ _ hlt ⟨hit, hd _ F'.keep⟩ fun v h₁ tk₁ hP hst₁ hk₁ => ?_
    obtain ⟨x, hx, rfl⟩ := hP
    obtain ⟨F₁, N₁⟩ := step h₁ hk₁
    refine ownedGo_keys hst₁.1 ?_
    obtain ⟨v0, v1, hT', hP2⟩ := hT i x hx
    have ht := hT' h₁ F₁.keep
    refine wpAny_assign_Tuple hh ht rfl rfl fun h₃ hx₃ => ?_
    replace hx₃ : Heap.ExtBut h₁.objs.size h₁ h₃ := hx₃
    have up₃ : ∀ b o, h₁.get? b = some o → h₃.get? b = some o := fun b o e => hx₃ b o (Nat.ne_of_lt (Heap.lt_size e)) e
    have F₃ : Fr h₀ env.locals h₃ m' := ⟨F₁.ns.at' fun o e => up₃ _ o e, fun b o e => up₃ b o (F₁.keep b o e), F₁.above⟩
    have N₃ : News h₀ env.locals h₃ news := fun p hp => ⟨up₃ _ _ (N₁ p hp).1, (N₁ p hp).2⟩
    show wpAny _ A (do holding [v1] (assign (.Name xi pk) env v0); do holding [] (assign (.Name xc pv) env v1); pure ()) _ _ _
    refine wpAny_bind (wpAny_holding (wpAny_assign_Name (wpAny_storeName_local hxi F₃.ns (fun h₄ hn₄ hs₄ => ?_) hp)))
    replace hs₄ : Heap.SameBut env.locals h₃ h₄ := hs₄
    have F₄ := F₃.set hn₄ hs₄
    refine wpAny_bind (wpAny_holding (wpAny_assign_Name (wpAny_storeName_local hxc F₄.ns (fun h₅ hn₅ hs₅ => wpAny_pure ?_) hp)))
    replace hs₅ : Heap.SameBut env.locals h₄ h₅ := hs₅
    have F₅ := F₄.set hn₅ hs₅
    have N₅ : News h₀ env.locals h₅ news := (N₃.set hs₄).set hs₅
    obtain ⟨oI, hoI, hcI, hdI'⟩ := hst₁.1
    have hoI₅ : h₅.get? s.heap.objs.size = some oI := hs₅.extBut _ _ (Nat.ne_of_gt hLI) (hs₄.extBut _ _ (Nat.ne_of_gt hLI) (up₃ _ _ hoI))
    refine wpAny_passesOwn hE (wpAny_mono (turn i v0 v1 m' h₅ _ s.heap.objs.size oI hlt hP2 hJ (fun p hp => Heap.lt_size (N p hp).1) hLI F₅ (fun p hp => ?_)) (fun f s₃ h₆ => ?_) fun _ _ e => e)
    · rcases List.mem_cons.mp hp with rfl | hp
      · exact ⟨hoI₅, Nat.ne_of_gt hLI, h0I⟩
      · exact N₅ p hp
    · cases f with
      | ret v => exact h₆
      | brk => exact h₆
      | cont =>
        obtain ⟨h', tk', m₂, rfl, F₆, N₆, hJ₆⟩ := h₆
        exact ⟨xs.length + 1 - (i + 1), by omega, h', tk', m₂, i + 1, rfl, ⟨oI, (N₆ _ (.head _)).1, hcI, hdI'⟩, F₆, fun p hp => N₆ p (.tail _ hp), hJ₆, hlt, rfl⟩
      | next =>
        obtain ⟨h', tk', m₂, rfl, F₆, N₆, hJ₆⟩ := h₆
        exact ⟨xs.length + 1 - (i + 1), by omega, h', tk', m₂, i + 1, rfl, ⟨oI, (N₆ _ (.head _)).1, hcI, hdI'⟩, F₆, fun p hp => N₆ p (.tail _ hp), hJ₆, hlt, rfl⟩
  · have hin : i = xs.length := by omega
    subst hin
    refine W.done _ _ _ ⟨hit, hd _ F'.keep⟩ fun h₁ tk₁ hk₁ => wpAny_execs_nil ?_
    obtain ⟨F₁, N₁⟩ := step h₁ hk₁
    exact done h₁ tk₁ m' F₁ N₁ hJ
end
end
section -- B6
section
variable {prog : Program} {w : World} {K : Type} [DecidableEq K]
/-- a key's being so hangs on its tuples alone -/
noncomputable def TupKnd (knd : HeapKind prog w K) : Prop := ∀ h h' : Heap, (∀ b o, h.get? b = some o → o.cls = .type "tuple" → h'.get? b = some o) → ∀ k a, knd.is h k a → knd.is h' k a
theorem tupKnd_t : TupKnd (tupleKind (intKind prog w)) := fun h h' k x a ⟨o, items, n, ho, hc, r⟩ => ⟨o, items, n, k a o ho hc, hc, r⟩
theorem itemsH_go {h h' : Heap} (k : ∀ b o, h.get? b = some o → o.cls = .type "tuple" → h'.get? b = some o) {x : List (List Int)} {vs : List Value} (hi : ItemsH (tupleKind (intKind prog w)) h x vs) : ItemsH (tupleKind (intKind prog w)) h' x vs := by
  induction hi with
  | nil => exact .nil
  | cons h1 _ ih => exact .cons (tupKnd_t h h' k _ _ h1) ih
theorem tupKnd_tt : TupKnd (ttKind prog w) := fun _ _ k _ a ⟨o, items, n, ho, hc, hd, hi⟩ => ⟨o, items, n, k a o ho hc, hc, hd, itemsH_go k hi⟩

theorem dictOfH_go {knd : HeapKind prog w K} (T : TupKnd knd) {h h' : Heap} {d : Addr} {xs : List (K × Addr × Value)} (hm : h.DictOfH knd d xs) (k : ∀ b o, h.get? b = some o → (o.cls = .type "tuple" ∨ b = d) → h'.get? b = some o) : h'.DictOfH knd d xs := by
  obtain ⟨o, es, ep, ho, hc, hd, he, his, hn⟩ := hm
  exact ⟨o, es, ep, k d o ho (.inr rfl), hc, hd, he, fun x hx => T h h' (fun b o e c => k b o e (.inl c)) _ _ (his x hx), hn⟩
theorem dictOfH_base {knd : HeapKind prog w K} (T : TupKnd knd) {h₀ s g : Heap} {l : List Env} {news : List (Addr × Obj)} {d : Addr} {xs : List (K × Addr × Value)} (hm : s.DictOfH knd d xs) (GK : Kp (news.map Prod.fst) [] s g) (O : Own h₀ l s news)
    (hn : ∀ q ∈ news, q.2.cls ≠ .type "tuple") (hd : ∀ q ∈ news, q.1 ≠ d) : g.DictOfH knd d xs :=
  dictOfH_go T hm fun b o e hb => GK.at e fun q => by
    obtain ⟨r, hr, rfl⟩ := List.mem_map.mp q
    rcases hb with hb | hb
    · obtain rfl : r.2 = o := Option.some.inj ((O r hr).1.symm.trans e)
      exact hn r hr hb
    · exact hd r hr hb
theorem dictAt_stays {knd : HeapKind prog w K} {g : Heap} {d : Addr} {xs : List (K × Addr × Value)} (hm : g.DictOfH knd d xs) : ∃ ep, ∀ h, g.StaysIn h → DictAtH h knd d xs ep := by
  obtain ⟨o, es, ep, ho, hc, hd, he, _⟩ := hm
  exact ⟨ep, fun h st => ⟨o, es, st _ _ ho, hc, hd, he⟩⟩
end
section
variable {prog : Program} {w : World} {h : Heap}
theorem isInt_int {x : Int} {v : Value} (h : (intKind prog w).is x v = true) : ∃ t, v = .int x t := by
  have h' : Value.isInt x v = true := h
  cases v <;> simp [Value.isInt] at h'
  subst h'; exact ⟨_, rfl⟩
theorem tKey2 {x y : Int} {a : Addr} (k : (tupleKind (intKind prog w)).is h [x, y] a) : ∃ t t', ∀ h', h.StaysIn h' → h'.IsTuple a #[.int x t, .int y t'] := by
  obtain ⟨o, items, n, ho, hc, hd, hi⟩ := k
  obtain ⟨l⟩ := items
  cases hi with
  | cons h1 r =>
    cases r with
    | cons h2 r =>
      cases r
      obtain ⟨t, rfl⟩ := isInt_int h1
      obtain ⟨t', rfl⟩ := isInt_int h2
      exact ⟨t, t', fun h' st => ⟨o, st _ _ ho, hc, n, hd⟩⟩
theorem ttKey2 {k1 k2 : List Int} {a : Addr} (k : (ttKind prog w).is h [k1, k2] a) : ∃ a1 a2, (∀ h', h.StaysIn h' → h'.IsTuple a #[.ref a1, .ref a2]) ∧ (tupleKind (intKind prog w)).is h k1 a1 ∧ (tupleKind (intKind prog w)).is h k2 a2 := by
  obtain ⟨o, items, n, ho, hc, hd, hi⟩ := k
  obtain ⟨l⟩ := items
  cases hi with
  | cons h1 r =>
    cases r with
    | cons h2 r =>
      cases r
      exact ⟨_, _, fun h' st => ⟨o, st _ _ ho, hc, n, hd⟩, h1, h2⟩
end
theorem cls_inst {C d : Addr} : (instObj C d).cls ≠ .type "tuple" := show Value.ref C ≠ Value.type "tuple" from fun h => nomatch h
theorem cls_dict {es : List DictEntry} {n : Nat} : (dictOf es n).cls ≠ .type "tuple" := show Value.type "dict" ≠ Value.type "tuple" from fun h => by injection h with h; exact absurd h (by decide)
theorem cls_list {es : Array Value} {n : Nat} : (PySem.W.listOf es n).cls ≠ Value.type "tuple" := show Value.type "list" ≠ Value.type "tuple" from fun h => by injection h with h; exact absurd h (by decide)
theorem turnP_next {h₀ : Heap} {L : Addr} {nI : List (Addr × Obj)} {Jn : (Str → Option Value) → Prop} {s : Shared} {Qr : Value → Shared → Prop} {Qb : Shared → Prop} {h' : Heap} {tk : Nat} {m₂ : Str → Option Value} (F : Fr h₀ L h' m₂) (N : News h₀ L h' nI) (hJ : Jn m₂) : TurnP h₀ L nI Jn s Qr Qb .next { s with heap := h', toks := tk } := ⟨h', tk, m₂, rfl, F, N, hJ⟩
theorem any_take {α : Type} {xs : List α} {p : α → Bool} {i : Nat} {b : Bool} (h : (xs.take i).any p = false) (hb : (xs[i]?).map p = some b) (hf : b = false) : (xs.take (i + 1)).any p = false := by
  obtain ⟨x, hx, e⟩ := Option.map_eq_some_iff.mp hb
  rw [List.take_add_one, hx, List.any_append, h]
  simp [e, hf]
theorem any_at {α : Type} {xs : List α} {p : α → Bool} {i : Nat} (hb : (xs[i]?).map p = some true) : xs.any p = true := by
  obtain ⟨x, hx, e⟩ := Option.map_eq_some_iff.mp hb
  exact List.any_eq_true.mpr ⟨x, List.mem_of_getElem? hx, e⟩
theorem map_eqb {α : Type} {xs : List α} {f : α → Int} {i : Nat} {n m : Int} (h : (xs[i]?).map f = some n) : (xs[i]?).map (fun x => f x == m) = some (n == m) := by
  obtain ⟨x, hx, e⟩ := Option.map_eq_some_iff.mp h
  rw [hx, Option.map_some, e]
end
section -- B7
section
variable {prog : Program} {w : World} {A : Around} {E : Value → Shared → Prop} {s : Shared} {K : Type} [DecidableEq K] {knd : HeapKind prog w K}
theorem dictOfH_up (T : TupKnd knd) {h h' : Heap} {d : Addr} {xs : List (K × Addr × Value)} (hm : h.DictOfH knd d xs) (k : h.StaysIn h') : h'.DictOfH knd d xs := dictOfH_go T hm fun b o e _ => k b o e
theorem keyAddr_inj {g : Heap} {d : Addr} {xs : List (K × Addr × Value)} (hm : g.DictOfH knd d xs) {x y : K × Addr × Value} (hx : x ∈ xs) (hy : y ∈ xs) (e : x.2.1 = y.2.1) : x = y := by
  obtain ⟨_, _, _, _, _, _, _, his, hn⟩ := hm
  have hk : x.1 = y.1 := knd.inj (his x hx) (e ▸ his y hy)
  obtain ⟨i, hi⟩ := List.getElem?_of_mem hx
  obtain ⟨j, hj⟩ := List.getElem?_of_mem hy
  obtain ⟨kx, px⟩ := x
  obtain ⟨ky, py⟩ := y
  obtain rfl : kx = ky := hk
  obtain rfl := idxH_unique hn hi hj
  rw [hi] at hj; exact Option.some.inj hj

omit [DecidableEq K] in
theorem paired_keys {xs : List (K × Addr × Value)} {px : K × Addr × Value → Bool} {val : K × Addr × Value → Value} (inj : ∀ x ∈ xs, ∀ y ∈ xs, x.2.1 = y.2.1 → x = y) :
    ∀ {zs : List (K × Addr × Value)} {ys : List Value}, (∀ z ∈ zs, z ∈ xs) → Paired (fun v y => ∃ x ∈ xs, v = Value.ref x.2.1 ∧ y = val x) (zs.map fun x => Value.ref x.2.1) ys → ys = zs.map val
  | [], _, _, h => by cases h; rfl
  | z :: zs, _, hz, h => by
    cases h with
    | cons h1 h2 =>
      obtain ⟨x, hx, e, rfl⟩ := h1
      injection e with e
      rw [inj _ (hz z (.head _)) x hx e, List.map_cons, paired_keys (px := px) inj (fun y hy => hz y (.tail _ hy)) h2]

noncomputable def CompGo (prog : Program) (w : World) (A : Around) (env : Env) (scope : Scope) (cl : List (Str × Addr)) (nm : Str) (ifs : List Expr) (elt : Expr) (p : Value → Bool) (F : Value → Value → Prop) (Q : Value → Shared → Prop) (it : Value) (s₂ : Shared) : Prop :=
  ∃ I fp wr n P St, it = .ref I ∧ Walks prog w A I fp wr n P St ∧ n ≤ sizeLine ∧ St 0 s₂.heap ∧ (∀ b ∈ fp, b < s₂.heap.objs.size) ∧
      QuietOnC prog w A env scope cl nm ifs elt wr P p F s₂ ∧
      (∀ D h' tk ys (vs : List Value), s₂.heap.get? D = none → h'.IsList D ys → h'.PlainList D ys → vs.length = n → (∀ j v, vs[j]? = some v → P j v) → Paired F (vs.filter p) ys.toList →
        (∀ b o, b ∉ wr → s₂.heap.get? b = some o → h'.get? b = some o) → Q (.ref D) { s₂ with heap := h', toks := tk })
theorem ListComp_go {env : Env} {elt iter : Expr} {x : Str} {px : Pos} {ifs : List Expr} {scope : Scope} {cl : List (Str × Addr)} {pos : Pos} {Q : Value → Shared → Prop} (p : Value → Bool) (F : Value → Value → Prop)
    (hclos : closureFor scope env = pure cl) (hcell : ∀ y ∈ scope.names, y.2 ≠ .cell) (hkind : scope.kind = .function)
    (hnames : ∀ y ∈ scope.names, y.2 = .local → scope.names.lookup y.1 = some .local) (hx : scope.names.lookup x = some .local)
    (h : wpAny (model prog w) A (eval iter env) (fun xv s₁ => wpAny (model prog w) A (pyIter xv) (CompGo prog w A env scope cl x ifs elt p F Q) E s₁) E s)
    (hs : ∀ x, foldedSetIterable iter env x = pure x := by intro _; rfl) :
    wpAny (model prog w) A (eval (.ListComp elt [⟨.Name x px, iter, ifs, 0⟩] scope pos) env) Q E s := wpAny_ListComp_free p F hclos hcell hkind hnames hx h hs

theorem comp_keys {env : Env} {g : Heap} {L d : Addr} {xs : List (K × Addr × Value)} {m : Str → Option Value} {news : List (Addr × Obj)} {scope : Scope} {cl : List (Str × Addr)} {nm : Str} {ifs : List Expr} {elt : Expr} {Q : Value → Shared → Prop}
    (px : K × Addr × Value → Bool) (val : K × Addr × Value → Value)
    (gd : s.heap.DictOfH knd d xs) (hsm : (d == sysModules) = false) (hh : A.handled = none) (hlen : xs.length ≤ 1000)
    (F : Fr g L s.heap m) (N : News g L s.heap news)
    (tests : ∀ C x s₃ m₃ E', x ∈ xs → Fr g C s₃.heap m₃ → News g C s₃.heap news → m₃ nm = some (.ref x.2.1) →
      wpAny (model prog w) A (forIn ifs true fun c r => if r = true then do let ok ← isTrue c (compEnvC scope cl C env) (eval c (compEnvC scope cl C env)); pure (ForInStep.yield ok) else pure (ForInStep.yield r))
        (fun ok s₄ => ok = px x ∧ Keeps s₃ s₄) E' s₃)
    (eltW : ∀ C x s₃ m₃ E', x ∈ xs → px x = true → Fr g C s₃.heap m₃ → News g C s₃.heap news → m₃ nm = some (.ref x.2.1) →
      wpAny (model prog w) A (eval elt (compEnvC scope cl C env)) (fun y s₄ => y = val x ∧ Keeps s₃ s₄) E' s₃)
    (hQ : ∀ D h' tk n, Fr g L h' m → News g L h' ((D, { cls := .type "list", data := .seq ((xs.filter px).map val).toArray n }) :: news) → (∀ q ∈ news, q.1 ≠ D) → Q (.ref D) { s with heap := h', toks := tk }) :
    wpAny (model prog w) A (pyIter (.ref d)) (CompGo prog w A env scope cl nm ifs elt (fun v => xs.any fun x => px x && v == .ref x.2.1) (fun v y => ∃ x ∈ xs, v = .ref x.2.1 ∧ y = val x) Q) E s := by
  unfold CompGo
  obtain ⟨ep, hd⟩ := DictAtH.of gd
  have inj : ∀ x ∈ xs, ∀ y ∈ xs, x.2.1 = y.2.1 → x = y := fun x hx y hy e => keyAddr_inj gd hx hy e
  refine pyIterH (knd := knd) hsm hd ?_
  have hdI : d < s.heap.objs.size := by obtain ⟨o, es, ho, _⟩ := hd; exact Heap.lt_size ho
  have up : ∀ b o, s.heap.get? b = some o → (s.heap.push { cls := .type "dict_keyiterator", data := .fields #[.ref d, .int 0 0, .int xs.length 0, .int ep 0] }).get? b = some o := fun b o e => Heap.get?_push_of_some _ e
  have hnw : ∀ b o, s.heap.get? b = some o → b ∉ [s.heap.objs.size] := fun b o e q => by rw [List.mem_singleton.mp q] at e; exact Nat.lt_irrefl _ (Heap.lt_size e)
  have sel : ∀ x ∈ xs, (xs.any fun y => px y && (Value.ref x.2.1) == .ref y.2.1) = px x := fun x hx => by
    cases hp : px x with
    | true => exact List.any_eq_true.mpr ⟨x, hx, by simp [hp]⟩
    | false =>
      refine List.any_eq_false.mpr fun y hy => ?_
      intro e
      simp only [Bool.and_eq_true, beq_iff_eq, Value.ref.injEq] at e
      rw [inj x hx y hy e.2, e.1] at hp; cases hp
  have gsz : ∀ C, (s.heap.push { cls := .type "dict_keyiterator", data := .fields #[.ref d, .int 0 0, .int xs.length 0, .int ep 0] }).objs.size ≤ C → g.objs.size ≤ C := fun C hC => by
    rw [Heap.size_push] at hC
    obtain ⟨oL, hoL, _⟩ := frObj_of F
    exact Nat.le_trans F.above (Nat.le_trans (Nat.le_of_lt (Heap.lt_size hoL)) (Nat.le_of_succ_le hC))
  have ncsz : ∀ C, (s.heap.push { cls := .type "dict_keyiterator", data := .fields #[.ref d, .int 0 0, .int xs.length 0, .int ep 0] }).objs.size ≤ C → ∀ q ∈ news, q.1 ≠ C := fun C hC q hq e => by
    rw [Heap.size_push] at hC
    exact absurd (e ▸ Heap.lt_size (N q hq).1) (Nat.not_lt.mpr (Nat.le_of_succ_le hC))
  refine ⟨_, _, _, _, _, _, rfl, walksH (knd := knd) hh _ (Nat.ne_of_lt hdI) xs ep, by rw [sizeLine_eq]; omega, ⟨⟨_, Heap.get?_push_size _ rfl, rfl, rfl⟩, hd.at' fun o e => up _ o e⟩, fun b hb => ?_, ⟨?_, ?_⟩, ?_⟩
  · show b < (s.heap.push _).objs.size
    rw [Heap.size_push]
    rcases List.mem_cons.mp hb with rfl | hb
    · exact Nat.lt_succ_self _
    · rw [List.mem_singleton.mp hb]; exact Nat.lt_succ_of_lt hdI
  · rintro C i v s₃ m₃ E' hCs ⟨x, hx, rfl⟩ hns hm hk _
    have hm' := List.mem_of_getElem? hx
    refine wpAny_mono (tests C x s₃ m₃ E' hm' ⟨hns, fun b o e => hk b o (hnw b o (F.keep b o e)) (up b o (F.keep b o e)), gsz C hCs⟩ (fun q hq => ⟨hk _ _ (hnw _ _ (N q hq).1) (up _ _ (N q hq).1), ncsz C hCs q hq, (N q hq).2.2⟩) hm) (fun ok s₄ h => ⟨h.1.trans (sel x hm').symm, h.2⟩) fun _ _ e => e
  · rintro C i v s₃ m₃ E' hCs ⟨x, hx, rfl⟩ hp hns hm hk _
    have hm' := List.mem_of_getElem? hx
    rw [sel x hm'] at hp
    exact wpAny_mono (eltW C x s₃ m₃ E' hm' hp ⟨hns, fun b o e => hk b o (hnw b o (F.keep b o e)) (up b o (F.keep b o e)), gsz C hCs⟩ (fun q hq => ⟨hk _ _ (hnw _ _ (N q hq).1) (up _ _ (N q hq).1), ncsz C hCs q hq, (N q hq).2.2⟩) hm) (fun y s₄ h => ⟨⟨x, hm', rfl, h.1⟩, h.2⟩) fun _ _ e => e
  · intro D h' tk ys vs hD _ hvl hvn hP hpair hk
    have hvs : vs = xs.map fun x => Value.ref x.2.1 := by
      apply List.ext_getElem?
      intro j
      cases hj : vs[j]? with
      | some v =>
        obtain ⟨x, hx, rfl⟩ := hP j v hj
        rw [List.getElem?_map, hx]; rfl
      | none =>
        have : vs.length ≤ j := by simpa using hj
        rw [List.getElem?_map, List.getElem?_eq_none (by omega)]; rfl
    have hf : (vs.filter fun v => xs.any fun x => px x && v == .ref x.2.1) = (xs.filter px).map fun x => Value.ref x.2.1 := by
      rw [hvs, List.filter_map]
      congr 1
      exact List.filter_congr fun x hx => sel x hx
    rw [hf] at hpair
    have hys := paired_keys (px := px) inj (fun z hz => (List.mem_filter.mp hz).1) hpair
    have kp : ∀ b o, s.heap.get? b = some o → h'.get? b = some o := fun b o e => hk b o (hnw b o e) (up b o e)
    obtain ⟨n, hln⟩ := hvl
    have hy2 : ys = ((xs.filter px).map val).toArray := by rw [← hys]
    have hDs : s.heap.get? D = none := by
      cases q : s.heap.get? D with
      | none => rfl
      | some o => have := up D o q; rw [hD] at this; cases this
    have ne : ∀ b o, s.heap.get? b = some o → b ≠ D := fun b o e q => by rw [q, hDs] at e; cases e
    obtain ⟨oL, hoL, _⟩ := frObj_of F
    refine hQ D h' tk n ⟨F.ns.at' fun o e => kp _ o e, fun b o e => kp b o (F.keep b o e), F.above⟩ (fun q hq => ?_) fun q hq => ne _ _ (N q hq).1
    rcases List.mem_cons.mp hq with rfl | hq
    · refine ⟨by rw [← hy2]; exact hln, Ne.symm (ne _ _ hoL), ?_⟩
      cases q : g.get? D with
      | none => rfl
      | some o => exact absurd rfl (ne _ _ (F.keep _ _ q))
    · exact ⟨kp _ _ (N q hq).1, (N q hq).2⟩
end
section
variable {M : Model} {A : Around} {E : Value → Shared → Prop} {s : Shared} {h₀ : Heap} {C c : Addr} {m : Str → Option Value} {news : List (Addr × Obj)} {env : Env} {scope : Scope} {cl : List (Str × Addr)} {y : Str} {pos : Pos} {v : Value} {Q : Value → Shared → Prop} {o : Obj}
theorem cmpName_L (F : Fr h₀ C s.heap m) (hv : m y = some v) (h : Q v s) (hk : (compEnvC scope cl C env).scope.kind = .function := by rfl) (hl : (compEnvC scope cl C env).kindOf y = some .local := by rfl) (hd : (y == ("__debug__" : Str)) = false := by decide) :
    wpAny M A (eval (.Name y pos) (compEnvC scope cl C env)) Q E s := wpAny_Name (wpAny_loadName_local hk hl F.ns hv h) hd
theorem cmpName_C (N : News h₀ C s.heap news) (hc : cl.lookup y = some c) (hm : (c, o) ∈ news) (hd : o.data = .cell (some v)) (h : Q v s)
    (hk : (compEnvC scope cl C env).scope.kind = .function := by rfl) (hx : (compEnvC scope cl C env).kindOf y = some .cell := by rfl) (hb : (y == ("__debug__" : Str)) = false := by decide) :
    wpAny M A (eval (.Name y pos) (compEnvC scope cl C env)) Q E s := wpAny_Name (wpAny_loadName_cell hk hx hc ⟨o, N.get hm, hd⟩ h) hb
theorem noTests {x : Bool} {env : Env} (h : x = true) {Q : Bool → Shared → Prop} (hQ : Q x s) : wpAny M A (forIn ([] : List Expr) true fun c r => if r = true then do let ok ← isTrue c env (eval c env); pure (ForInStep.yield ok) else pure (ForInStep.yield r)) Q E s := by
  subst h; exact wpAny_pure hQ
theorem bools_map {α : Type} (f : α → Bool) : ∀ l : List α, LSm.BoolsAre (l.map fun x => Value.bool (f x)) (l.map f)
  | [] => .nil
  | x :: r => .cons _ (bools_map f r)
theorem Keeps.refl (s : Shared) : Keeps s s := ⟨s.heap, s.toks, rfl, fun _ _ e => e⟩
end
end
section -- B8
theorem beh_range {f l n : Int} (h1 : f ≤ n) (h2 : n ≤ l) : f ≤ beh f l n ∧ beh f l n ≤ l := by
  unfold beh; split <;> omega
theorem scan_range {f l : Int} {T : Int → Bool} : ∀ {k : Nat} {fo n fo' : Int}, f ≤ fo → fo ≤ l → scan f l T k fo = some (n, fo') → f ≤ n ∧ n ≤ l ∧ f ≤ fo' ∧ fo' ≤ l ∧ T n = false
  | 0, _, _, _, _, _, h => by cases h
  | k + 1, fo, n, fo', h1, h2, h => by
    unfold scan at h
    have b := beh_range h1 h2
    cases q : T fo with
    | true => rw [if_pos q] at h; exact scan_range b.1 b.2 h
    | false =>
      rw [if_neg (by rw [q]; exact Bool.false_ne_true)] at h
      cases h
      exact ⟨h1, h2, b.1, b.2, q⟩
theorem small_of {f l n : Int} (h0 : 0 ≤ f) (hl : l < 100000) (h1 : f ≤ n) (h2 : n ≤ l) : SmallI n := by unfold SmallI; omega
theorem valueAt_mem {K : Type} [DecidableEq K] {kvs : List (K × Value)} {k : K} (h : (valueAt kvs k).isSome = false) : k ∉ kvs.map (·.1) := by
  rw [valueAt_isSome_eq_any] at h
  intro hm
  obtain ⟨x, hx, rfl⟩ := List.mem_map.mp hm
  have := List.any_eq_false.mp h x hx
  simp at this
theorem without_stored {K : Type} [DecidableEq K] {kvs : List (K × Value)} {k : K} {v : Value} (h : (valueAt kvs k).isSome = false) : without (stored kvs k v) k = kvs := by
  rw [stored_absent (none_of h)]
  unfold without
  rw [List.filter_append, show kvs.filter (fun kv => decide (kv.1 ≠ k)) = kvs from without_of_not_mem kvs k (valueAt_mem h)]
  simp
theorem stored_some {K : Type} [DecidableEq K] {kvs : List (K × Value)} {k : K} {v : Value} (h : (valueAt kvs k).isSome = false) : (valueAt (stored kvs k v) k).isSome = true := by
  rw [stored_absent (none_of h), valueAt_isSome_eq_any]
  simp
theorem small_stored {K : Type} [DecidableEq K] {kvs : List (K × Value)} {k : K} {v : Value} (h : kvs.length ≤ 900) : (stored kvs k v).length ≤ 1000 := Nat.le_trans (stored_length_le kvs k v) (Nat.le_trans (Nat.add_le_add_right h 1) (by decide))
/-- what own_port finds: the first port that is neither taken nor used; where the search stands then -/
noncomputable def ownScan (f l : Int) (T U : Int → Bool) : Nat → Int → Option Int × Int
  | 0, fo => (none, fo)
  | k + 1, fo => match scan f l T (l - f + 1).toNat fo with
    | none => (none, fo)
    | some (n, fo') => if U n then ownScan f l T U k fo' else (some n, fo')
section
variable {h₀ g h h' hm s : Heap} {L d : Addr} {m : Str → Option Value} {news news' : List (Addr × Obj)} {M M' : List Addr} {o : Obj}
theorem get_on (N : News g L h news') (k : Kp M' [] h hm) (hd : (d, o) ∈ news') (hM : d ∉ M') : (hideAll hm [L]).get? d = some o :=
  hideAll_get _ (k.at (N _ hd).1 hM) fun z => (N _ hd).2.1 (List.mem_singleton.mp z)
theorem get_on' (N : News g L h news') (e : hm.get? d = some o) {o' : Obj} (hd : (d, o') ∈ news') : (hideAll hm [L]).get? d = some o :=
  hideAll_get _ e fun z => (N _ hd).2.1 (List.mem_singleton.mp z)
theorem get_hm {e : Addr} {oe : Obj} (N : News g L h' ((e, oe) :: news')) (ne : ∀ p ∈ news', p.1 ≠ e) (hd : (d, o) ∈ news') : (hideAll h' [e, L]).get? d = some o :=
  hideAll_get _ (N _ (.tail _ hd)).1 fun z => by
    rcases List.mem_cons.mp z with z | z
    · exact ne _ hd z
    · exact (N _ (.tail _ hd)).2.1 (List.mem_singleton.mp z)
end
/-- what of a socket no walk reads, and its tokens -/
structure SR where
  (aM : Addr)
  (iss : Int)
  (ti : Tok)
  (aL aK : Addr)
  (gv : Int)
  (tg k1 k2 k3 k4 k5 k6 k7 : Tok)
noncomputable abbrev dSock (w : World) (xP xB : Addr) (r : SR) : Obj :=
  dictOf [⟨PyData.keyHash w.params "limits", .str "limits" r.k1, .ref r.aM⟩, ⟨PyData.keyHash w.params "iss", .str "iss" r.k2, .int r.iss r.ti⟩,
    ⟨PyData.keyHash w.params "ports", .str "ports" r.k3, .ref xP⟩, ⟨PyData.keyHash w.params "table", .str "table" r.k4, .ref xB⟩,
    ⟨PyData.keyHash w.params "listeners", .str "listeners" r.k5, .ref r.aL⟩, ⟨PyData.keyHash w.params "links", .str "links" r.k6, .ref r.aK⟩, ⟨PyData.keyHash w.params "given", .str "given" r.k7, .int r.gv r.tg⟩] 7
theorem cls_isDict {prog : Program} {w : World} {K : Type} [DecidableEq K] {knd : KeyKind prog w K} {o : Obj} {kvs : List (K × Value)} (h : o.IsDictOf knd kvs) : o.cls ≠ .type "tuple" := by
  obtain ⟨es, ep, hc, _⟩ := h
  rw [hc.1]
  exact show Value.type "dict" ≠ Value.type "tuple" from fun h => by injection h with h; exact absurd h (by decide)
end
section -- B9
section
variable {prog : Program} {w : World} {K : Type} [DecidableEq K] {knd : HeapKind prog w K}
/-- the object o is a dict of tuples wherever the heap g stays -/
structure DO (knd : HeapKind prog w K) (g : Heap) (o : Obj) (xs : List (K × Addr × Value)) : Prop where
  keys : ∀ h, g.StaysIn h → ∀ x ∈ xs, knd.is h x.1 x.2.1
  obj : ∃ es ep, o.ExactDict ∧ o.data = .dict es ep ∧ es.toList = xs.map (entryOfKey knd)
  nd : (xs.map (·.1)).Nodup
/-- k stands at a wherever the heap g stays -/
noncomputable def TO (knd : HeapKind prog w K) (g : Heap) (k : K) (a : Addr) : Prop := ∀ h, g.StaysIn h → knd.is h k a
theorem tup_stays {h₀ s g h : Heap} {l : List Env} {news : List (Addr × Obj)} (GK : Kp (news.map Prod.fst) [] s g) (O : Own h₀ l s news) (hn : ∀ q ∈ news, q.2.cls ≠ .type "tuple") (st : g.StaysIn h) {b : Addr} {o : Obj} (e : s.get? b = some o) (hc : o.cls = .type "tuple") : h.get? b = some o :=
  st _ _ (GK.at e fun q => by
    obtain ⟨r, hr, rfl⟩ := List.mem_map.mp q
    obtain rfl : r.2 = o := Option.some.inj ((O r hr).1.symm.trans e)
    exact hn r hr hc)
theorem DO.of (T : TupKnd knd) {h₀ s g : Heap} {l : List Env} {news : List (Addr × Obj)} {d : Addr} {o : Obj} {xs : List (K × Addr × Value)} (hm : s.DictOfH knd d xs) (GK : Kp (news.map Prod.fst) [] s g) (O : Own h₀ l s news)
    (hn : ∀ q ∈ news, q.2.cls ≠ .type "tuple") (hd : (d, o) ∈ news) : DO knd g o xs := by
  obtain ⟨o', es, ep, ho, hc, hda, he, his, hn'⟩ := hm
  obtain rfl : o' = o := Option.some.inj (ho.symm.trans (O _ hd).1)
  exact ⟨fun h st x hx => T s h (fun _ _ e' hc => tup_stays GK O hn st e' hc) _ _ (his x hx), ⟨es, ep, hc, hda, he⟩, hn'⟩
theorem DO.dict {g h : Heap} {d : Addr} {o : Obj} {xs : List (K × Addr × Value)} (D : DO knd g o xs) (st : g.StaysIn h) (e : h.get? d = some o) : h.DictOfH knd d xs :=
  let ⟨es, ep, hc, hd, he⟩ := D.obj; ⟨o, es, ep, e, hc, hd, he, D.keys h st, D.nd⟩
theorem DO.to {g h : Heap} {d : Addr} {o : Obj} {xs : List (K × Addr × Value)} (hm : h.DictOfH knd d xs) (e : h.get? d = some o) (keys : ∀ h, g.StaysIn h → ∀ x ∈ xs, knd.is h x.1 x.2.1) : DO knd g o xs := by
  obtain ⟨o', es, ep, ho, hc, hda, he, his, hn'⟩ := hm
  obtain rfl : o' = o := Option.some.inj (ho.symm.trans e)
  exact ⟨keys, ⟨es, ep, hc, hda, he⟩, hn'⟩
theorem TO.of (T : TupKnd knd) {h₀ s g : Heap} {l : List Env} {news : List (Addr × Obj)} {a : Addr} {k : K} (hk : knd.is s k a) (GK : Kp (news.map Prod.fst) [] s g) (O : Own h₀ l s news) (hn : ∀ q ∈ news, q.2.cls ≠ .type "tuple") : TO knd g k a := fun h st =>
  T s h (fun _ _ e' hc => tup_stays GK O hn st e' hc) _ _ hk
theorem cls_dictH {h : Heap} {d : Addr} {xs : List (K × Addr × Value)} {o : Obj} (hm : h.DictOfH knd d xs) (e : h.get? d = some o) : o.cls ≠ .type "tuple" := by
  obtain ⟨o', _, _, ho, hc, _⟩ := hm
  obtain rfl : o' = o := Option.some.inj (ho.symm.trans e)
  rw [hc.1]
  exact show Value.type "dict" ≠ Value.type "tuple" from fun h => by injection h with h; exact absurd h (by decide)
theorem DO.get {g h : Heap} {L d : Addr} {o : Obj} {m : Str → Option Value} {news : List (Addr × Obj)} {xs : List (K × Addr × Value)} (D : DO knd g o xs) (F : Fr g L h m) (N : News g L h news) (hd : (d, o) ∈ news) : h.DictOfH knd d xs := D.dict F.keep (N _ hd).1

variable {A : Around} {E : Value → Shared → Prop} {s : Shared} {h₀ : Heap} {L d a : Addr} {m : Str → Option Value} {news : List (Addr × Obj)} {o : Obj} {xs : List (K × Addr × Value)} {k : K}
theorem in_newT {Q : Value → Shared → Prop} (F : Fr h₀ L s.heap m) (N : News h₀ L s.heap news) (hm : (d, o) ∈ news) (D : DO knd h₀ o xs) (hkey : knd.is s.heap k a) (hu : knd.room A.in1) (hd : (d == sysModules) = false) (hnk : atKey xs k = none)
    (h : Q (.bool false) { s with toks := s.toks + knd.draws k }) : wpAny (model prog w) A (compareOp .In (.ref a) (.ref d)) Q E s :=
  wpAny_in_heap (knd := knd) hu hkey hd (D.get F N hm) (by rw [hnk]; exact h)
theorem set_newT {v : Value} {Q : Unit → Shared → Prop} {g' : Obj → List (Addr × Obj)} (F : Fr h₀ L s.heap m) (N : News h₀ L s.heap news) (U : UpdF d o news g') (D : DO knd h₀ o xs) (hkey : knd.is s.heap k a) (hu : knd.room A.in1) (hnk : atKey xs k = none) (hlen : xs.length ≤ 1000)
    (h : ∀ h' o', Fr h₀ L h' m → News h₀ L h' (g' o') → h'.DictOfH knd d (xs ++ [(k, a, v)]) → h'.get? d = some o' → Q () { s with heap := h', toks := s.toks + knd.draws k }) : wpAny (model prog w) A (setItem (.ref d) (.ref a) v) Q E s := by
  obtain ⟨pre, post, rfl, _⟩ := id U.split
  refine wpAny_setItem_heap (knd := knd) hu hkey (D.get F N (by simp)) (fun h' hD hs => ?_) (by rw [sizeLine_eq]; omega)
  rw [storedH_new hnk] at hD
  obtain ⟨o', es, ep, ho', r⟩ := id hD
  have k1 : Kp [d] [] s.heap h' := Kp.of fun b o e hb => (hs.2 b (fun q => hb (List.mem_singleton.mpr q))).trans e
  obtain ⟨F', N'⟩ := News.at1 F N U k1 ho'
  exact h h' o' F' N' hD ho'
noncomputable def vOf : Value → Int
  | .int n _ => n
  | _ => 0
theorem oneTest {M : Model} {E : Value → Shared → Prop} {s : Shared} {A : Around} {c : Expr} {env : Env} {Q : Bool → Shared → Prop} (h : wpAny M A (isTrue c env (eval c env)) Q E s) :
    wpAny M A (forIn [c] true fun c r => if r = true then do let ok ← isTrue c env (eval c env); pure (ForInStep.yield ok) else pure (ForInStep.yield r)) Q E s := by
  rw [List.forIn_cons]
  simp only [if_true]
  refine wpAny_bind (wpAny_bind (wpAny_mono h (fun ok s' h' => wpAny_pure ?_) fun _ _ e => e))
  exact wpAny_pure h'
theorem erase_ne : ∀ {zs : List (K × Addr × Value)} {j : Nat} {x : K × Addr × Value}, (zs.map (·.1)).Nodup → zs[j]? = some x → zs.eraseIdx j = zs.filter fun y => decide (y.1 ≠ x.1)
  | [], _, _, _, h => by simp at h
  | z :: zs, 0, x, hn, h => by
    simp only [List.getElem?_cons_zero, Option.some.injEq] at h
    subst h
    rw [List.eraseIdx_cons_zero, List.filter_cons_of_neg (by simp)]
    refine (List.filter_eq_self.mpr fun y hy => ?_).symm
    have := (List.nodup_cons.mp hn).1
    exact decide_eq_true (show y.1 ≠ z.1 from fun e => this (List.mem_map.mpr ⟨y, hy, e⟩))
  | z :: zs, j + 1, x, hn, h => by
    simp only [List.getElem?_cons_succ] at h
    have hn' := List.nodup_cons.mp hn
    have hz : z.1 ≠ x.1 := fun e => hn'.1 (List.mem_map.mpr ⟨x, List.mem_of_getElem? h, e.symm⟩)
    rw [List.eraseIdx_cons_succ, List.filter_cons_of_pos (by simpa using hz), erase_ne hn'.2 h]
theorem pop_T {zs : List (K × Addr × Value)} {x : K × Addr × Value} {Q : Value → Shared → Prop} {g' : Obj → List (Addr × Obj)} (F : Fr h₀ L s.heap m) (N : News h₀ L s.heap news) (U : UpdF d o news g') (D : DO knd h₀ o zs)
    (hx : x ∈ zs) (hu : knd.room A.in1) (hlen : zs.length ≤ 1000)
    (h : ∀ h' o', Fr h₀ L h' m → News h₀ L h' (g' o') → DO knd h₀ o' (zs.filter fun y => decide (y.1 ≠ x.1)) → Q x.2.2 { s with heap := h', toks := s.toks + knd.draws x.1 }) :
    wpAny (model prog w) A (call (.builtin "dict.pop") [.ref d, .ref x.2.1]) Q E s := by
  obtain ⟨pre, post, rfl, _⟩ := id U.split
  obtain ⟨j, hj⟩ := List.getElem?_of_mem hx
  have hD := D.get F N (show (d, o) ∈ pre ++ (d, o) :: post by simp)
  refine popH (knd := knd) (k := x.1) (p := x.2) hu (D.keys _ F.keep x hx) hD hj (by rw [sizeLine_eq]; omega) (PySem.F.args_dict_pop_2 _ _) fun h' hD' hs => ?_
  rw [erase_ne D.nd hj] at hD'
  obtain ⟨o', es, ep, ho', r⟩ := id hD'
  have k1 : Kp [d] [] s.heap h' := Kp.of fun b o e hb => (hs.2 b (fun q => hb (List.mem_singleton.mpr q))).trans e
  obtain ⟨F', N'⟩ := News.at1 F N U k1 ho'
  exact h h' o' F' N' (DO.to hD' ho' fun h st y hy => D.keys h st y (List.mem_filter.mp hy).1)
theorem get_T {zs : List (K × Addr × Value)} {x : K × Addr × Value} {Q : Value → Shared → Prop} (F : Fr h₀ L s.heap m) (N : News h₀ L s.heap news) (hm : (d, o) ∈ news) (D : DO knd h₀ o zs) (hx : x ∈ zs) (hu : knd.room A.in1)
    (h : Q x.2.2 { s with toks := s.toks + knd.draws x.1 }) : wpAny (model prog w) A (getItem (.ref d) (.ref x.2.1)) Q E s := by
  obtain ⟨j, hj⟩ := List.getElem?_of_mem hx
  exact wpAny_getItem_heap (knd := knd) (k := x.1) (p := x.2) hu (D.keys _ F.keep x hx) (D.get F N hm) (atKey_of_get D.nd hj) h
/-- what is left when the rows ys have gone -/
noncomputable def lessK (xs ys : List (K × Addr × Value)) : List (K × Addr × Value) := xs.filter fun x => decide (x.1 ∉ ys.map (·.1))
theorem lessK_nil (xs : List (K × Addr × Value)) : lessK xs [] = xs := List.filter_eq_self.mpr fun _ _ => by simp
theorem lessK_len (xs ys : List (K × Addr × Value)) : (lessK xs ys).length ≤ xs.length := List.length_filter_le _ _
theorem lessK_step {xs ys : List (K × Addr × Value)} {i : Nat} {x : K × Addr × Value} (h : ys[i]? = some x) : (lessK xs (ys.take i)).filter (fun y => decide (y.1 ≠ x.1)) = lessK xs (ys.take (i + 1)) := by
  unfold lessK
  rw [List.filter_filter, List.take_add_one, h]
  refine List.filter_congr fun y _ => ?_
  rw [Bool.eq_iff_iff]
  simp [and_comm, not_or]
theorem nodup_key {xs : List (K × Addr × Value)} (hn : (xs.map (·.1)).Nodup) {x y : K × Addr × Value} (hx : x ∈ xs) (hy : y ∈ xs) (e : x.1 = y.1) : x = y := by
  obtain ⟨i, hi⟩ := List.getElem?_of_mem hx
  obtain ⟨j, hj⟩ := List.getElem?_of_mem hy
  obtain ⟨kx, px⟩ := x
  obtain ⟨ky, py⟩ := y
  obtain rfl : kx = ky := e
  obtain rfl := idxH_unique hn hi hj
  rw [hi] at hj; exact Option.some.inj hj
theorem lessK_mem {xs : List (K × Addr × Value)} (hn : (xs.map (·.1)).Nodup) {px : K × Addr × Value → Bool} {i : Nat} {x : K × Addr × Value} (h : (xs.filter px)[i]? = some x) : x ∈ lessK xs ((xs.filter px).take i) := by
  have hx := List.mem_of_getElem? h
  refine List.mem_filter.mpr ⟨(List.mem_filter.mp hx).1, decide_eq_true fun hm => ?_⟩
  obtain ⟨y, hy, e⟩ := List.mem_map.mp hm
  have hn' : ((xs.filter px).map (·.1)).Nodup := List.Nodup.sublist (List.filter_sublist.map _) hn
  obtain ⟨j, hj⟩ := List.getElem?_of_mem hy
  rw [List.getElem?_take] at hj
  split at hj
  · obtain ⟨kx, px'⟩ := x
    obtain ⟨ky, py⟩ := y
    obtain rfl : ky = kx := e
    have := idxH_unique hn' h hj
    omega
  · cases hj
theorem lessK_all {xs : List (K × Addr × Value)} (hn : (xs.map (·.1)).Nodup) (px : K × Addr × Value → Bool) : lessK xs (xs.filter px) = xs.filter fun x => !px x := by
  refine List.filter_congr fun x hx => ?_
  cases hp : px x with
  | true => simp only [Bool.not_true, decide_eq_false_iff_not, Decidable.not_not]; exact List.mem_map.mpr ⟨x, List.mem_filter.mpr ⟨hx, hp⟩, rfl⟩
  | false =>
    refine decide_eq_true fun hm => ?_
    obtain ⟨y, hy, e⟩ := List.mem_map.mp hm
    have hy' := List.mem_filter.mp hy
    rw [nodup_key hn hy'.1 hx e, hp] at hy'; cases hy'.2
end
section
variable {prog : Program} {w : World} {h₀ h : Heap} {L a a1 a2 : Addr} {news : List (Addr × Obj)} {x y : Int} {tx ty : Tok} {n : Nat}
theorem is_tup2 (N : News h₀ L h news) (hm : (a, ({ cls := .type "tuple", data := .seq #[.int x tx, .int y ty] n } : Obj)) ∈ news) : (tupleKind (intKind prog w)).is h [x, y] a :=
  ⟨_, _, _, (N _ hm).1, rfl, rfl, .cons (intKind_is _ _ _ _) (.cons (intKind_is _ _ _ _) .nil)⟩
theorem is_ttup2 {k1 k2 : List Int} (N : News h₀ L h news) (hm : (a, ({ cls := .type "tuple", data := .seq #[.ref a1, .ref a2] n } : Obj)) ∈ news) (h1 : (tupleKind (intKind prog w)).is h k1 a1) (h2 : (tupleKind (intKind prog w)).is h k2 a2) : (ttKind prog w).is h [k1, k2] a :=
  ⟨_, _, _, (N _ hm).1, rfl, rfl, .cons h1 (.cons h2 .nil)⟩
theorem room_t {A : Around} (h : A.units < cLine) : (tupleKind (intKind prog w)).room A := h
theorem room_tt {A : Around} (h : A.units + 1 < cLine) : (ttKind prog w).room A := h
end
end
section -- B10
section
variable {prog : Program} {w : World} {A : Around} {s : Shared} {env : Env} {h₀ : Heap} {x : Str} {body : List Stmt} {Q : Flow → Shared → Prop} {E : Value → Shared → Prop}
noncomputable abbrev lstObj (vs : List Value) (n : Nat) : Obj := { cls := .type "list", data := .seq vs.toArray n }
theorem loop_list {D : Addr} {vs : List Value} {nD : Nat} {m : Str → Option Value} {news : List (Addr × Obj)} (J : Nat → (Str → Option Value) → List (Addr × Obj) → Prop)
    (F : Fr h₀ env.locals s.heap m) (N : News h₀ env.locals s.heap ((D, lstObj vs nD) :: news)) (hh : A.handled = none) (h0 : J 0 m news)
    (turn : ∀ i v m₁ news₁ h tk I oI oD, oD.cls = .type "list" → vs[i]? = some v → J i m₁ news₁ → (∀ p ∈ news₁, p.1 ≠ I) → (∀ p ∈ news, p.1 < I) → D < I → env.locals < I →
      Fr h₀ env.locals h (fun y => if y = x then some v else m₁ y) → News h₀ env.locals h ((I, oI) :: (D, oD) :: news₁) →
      wpAny (model prog w) A (execs body env) (Turned h₀ env.locals I [(I, oI), (D, oD)] (J (i + 1)) s (fun v s' => Q (.ret v) s') fun s' => Q .next s') E { s with heap := h, toks := tk })
    (done : ∀ h' tk m' news', Fr h₀ env.locals h' m' → News h₀ env.locals h' news' → J vs.length m' news' → Q .next { s with heap := h', toks := tk }) :
    wpAny (model prog w) A (pyIter (.ref D)) (fun it s₂ => LoopAtV prog w A h₀ env x body Q E it s₂) E s := by
  have nD := N _ (.head _)
  have hl : s.heap.IsList D vs.toArray := ⟨_, nD.1, rfl, _, rfl⟩
  have hDs : D < s.heap.objs.size := Heap.lt_size nD.1
  refine wpAny_pyIter_list hl ?_
  have hlt := F.ns.lt
  have hLD : env.locals ≠ D := fun e => nD.2.1 e.symm
  refine loop_walks (m := m) (news := news) (s := { s with heap := _ }) (Walks.list hh s.heap.objs.size D (Nat.ne_of_lt hDs) vs.toArray) rfl
    (fun hm => by rcases List.mem_cons.mp hm with e | e; exact absurd hlt (e ▸ Nat.lt_irrefl _); exact hLD (List.mem_singleton.mp e)) (next_is_new F)
    (fun p hp => Nat.ne_of_lt (Heap.lt_size (N p (.tail _ hp)).1)) ⟨⟨_, Heap.get?_push_size _ rfl, rfl, rfl⟩, hl.push _⟩
    (F.push _) (fun p hp => ⟨Heap.get?_push_of_some _ (N p (.tail _ hp)).1, (N p (.tail _ hp)).2⟩) J h0 ?_ fun h' tk m' news' F' N' _ hJ => done h' tk m' news' F' N' (by simpa using hJ)
  rintro i v m₁ news₁ h tk own hi hv hJ hI hfp hin hst F₁ N₁
  obtain ⟨⟨oI, hoI, _⟩, oD, hoD, hcD, n', hdD⟩ := id hst
  have hmI := hin s.heap.objs.size (.head _) (next_is_new F) _ hoI
  have hmD := hin D (.tail _ (.head _)) nD.2.2 _ hoD
  have hown : ∀ p ∈ own, p = (s.heap.objs.size, oI) ∨ p = (D, oD) := fun p hp => by
    have h2 := (N₁ p (List.mem_append_left _ hp)).1
    rcases List.mem_cons.mp (hfp p hp) with h1 | h1
    · rw [h1, hoI] at h2
      exact .inl (Prod.ext h1 (Option.some.inj h2).symm)
    · have h1 := List.mem_singleton.mp h1
      rw [h1, hoD] at h2
      exact .inr (Prod.ext h1 (Option.some.inj h2).symm)
  have N₂ : News h₀ env.locals h ((s.heap.objs.size, oI) :: (D, oD) :: news₁) := fun q hq => by
    rcases List.mem_cons.mp hq with rfl | hq
    · exact N₁ _ (List.mem_append_left _ hmI)
    rcases List.mem_cons.mp hq with rfl | hq
    · exact N₁ _ (List.mem_append_left _ hmD)
    · exact N₁ _ (List.mem_append_right _ hq)
  have hv' : vs[i]? = some v := by simpa using hv
  refine wpAny_mono (turn i v m₁ news₁ h tk _ _ _ hcD hv' hJ hI (fun p hp => Heap.lt_size (N p (.tail _ hp)).1) hDs hlt F₁ N₂) (fun f s₂ h₂ => ?_) fun _ _ y => y
  have back : ∀ {h' : Heap} {news₂ : List (Addr × Obj)}, News h₀ env.locals h' ([(s.heap.objs.size, oI), (D, oD)] ++ news₂) → News h₀ env.locals h' (own ++ news₂) := fun {h' news₂} N' q hq => by
    rcases List.mem_append.mp hq with hq | hq
    · rcases hown q hq with rfl | rfl
      · exact N' _ (.head _)
      · exact N' _ (.tail _ (.head _))
    · exact N' _ (.tail _ (.tail _ hq))
  cases f with
  | ret v => exact h₂
  | brk => exact h₂
  | cont => obtain ⟨h', tk', m₂, news₂, e, F₂, N₂, r⟩ := h₂; exact ⟨h', tk', m₂, news₂, e, F₂, back N₂, r⟩
  | next => obtain ⟨h', tk', m₂, news₂, e, F₂, N₂, r⟩ := h₂; exact ⟨h', tk', m₂, news₂, e, F₂, back N₂, r⟩
theorem UpdF.self {d : Addr} {o : Obj} {news : List (Addr × Obj)} {ng : Obj → List (Addr × Obj)} (U : UpdF d o news ng) : ng o = news := by
  obtain ⟨pre, post, e, h, _⟩ := U.split
  rw [e, h]
/-- the same, one object turning -/
theorem loop_list1 {D d : Addr} {vs : List Value} {nD : Nat} {m : Str → Option Value} {news : List (Addr × Obj)} {ng : Obj → List (Addr × Obj)} {o0 : Obj} (J : Nat → (Str → Option Value) → Obj → Prop)
    (F : Fr h₀ env.locals s.heap m) (N : News h₀ env.locals s.heap ((D, lstObj vs nD) :: news)) (U : UpdF d o0 news ng) (hh : A.handled = none) (h0 : J 0 m o0)
    (turn : ∀ i v m₁ o h tk I oI oD, oD.cls = .type "list" → vs[i]? = some v → J i m₁ o → (∀ p ∈ news, p.1 < I) → D < I → env.locals < I →
      Fr h₀ env.locals h (fun y => if y = x then some v else m₁ y) → News h₀ env.locals h ((I, oI) :: (D, oD) :: ng o) →
      wpAny (model prog w) A (execs body env) (Turned h₀ env.locals I [(I, oI), (D, oD)] (fun m₂ news₂ => ∃ o', news₂ = ng o' ∧ J (i + 1) m₂ o') s (fun v s' => Q (.ret v) s') fun s' => Q .next s') E { s with heap := h, toks := tk })
    (done : ∀ h' tk m' o, Fr h₀ env.locals h' m' → News h₀ env.locals h' (ng o) → J vs.length m' o → Q .next { s with heap := h', toks := tk }) :
    wpAny (model prog w) A (pyIter (.ref D)) (fun it s₂ => LoopAtV prog w A h₀ env x body Q E it s₂) E s := by
  refine loop_list (fun i m news => ∃ o, news = ng o ∧ J i m o) F N hh ⟨o0, (UpdF.self U).symm, h0⟩ ?_ ?_
  · rintro i v m₁ news₁ h tk I oI oD hcl hv ⟨o, rfl, hJ⟩ _ h1 h2 h3 F9 N9
    exact turn i v m₁ o h tk I oI oD hcl hv hJ h1 h2 h3 F9 N9
  · rintro h' tk m' news' F9 N9 ⟨o, rfl, hJ⟩
    exact done h' tk m' o F9 N9 hJ
end
section
variable {prog : Program} {w : World} {K : Type} [DecidableEq K] {knd : HeapKind prog w K} {A : Around} {E : Value → Shared → Prop} {s : Shared} {h₀ : Heap} {L d a : Addr} {m : Str → Option Value} {news : List (Addr × Obj)} {o : Obj}
theorem sub_T {value slice : PySem.Expr} {zs : List (K × Addr × Value)} {x : K × Addr × Value} {v : Value} {Q : Value → Shared → Prop} (F : Fr h₀ L s.heap m) (N : News h₀ L s.heap news) (hm : (d, o) ∈ news) (D : DO knd h₀ o zs) (hx : x ∈ zs) (hu : knd.room A.in1) (hv : x.2.2 = v)
    (h : Q v { s with toks := s.toks + knd.draws x.1 })
    (hs : subscripted slice false (.ref d) (.ref x.2.1) = operate [.ref d, .ref x.2.1] (getItem (.ref d) (.ref x.2.1)) := by with_unfolding_all rfl) :
    wpAny (model prog w) A (subscriptTail value slice (.ref d) (.ref x.2.1)) Q E s :=
  tail_any (D.get F N hm).typeIs PySem.F.slot_dict_getitem.lookup (get_T F N hm D hx hu (by rw [hv]; exact h)) hs
theorem meth_T {name : Str} {id : String} {pl : Sem Bool} {zs : List (K × Addr × Value)} {Q : Value × List Value → Shared → Prop} (slot : Slot "dict" name id) (ty : typeOf (.builtin id) = pure (.type "method_descriptor")) (F : Fr h₀ L s.heap m) (N : News h₀ L s.heap news) (hm : (d, o) ∈ news) (D : DO knd h₀ o zs) (h : Q (.builtin id, [.ref d]) s) :
    wpAny (model prog w) A (getMethod (.ref d) name pl) Q E s :=
  let ⟨_, _, hc, _⟩ := D.obj
  getMethod_builtin (D.get F N hm).typeIs PySem.F.plainAttrs_dict slot ty (fun a e => by cases e; exact ⟨_, (N _ hm).1, hc.2.1⟩) h
end
section
variable {prog : Program} {w : World} {A : Around} {K : Frag} {C x : Addr} {s : Shared} {h₀ : Heap} {L : Addr} {m : Str → Option Value} {news : List (Addr × Obj)} {R : Result → Shared → Prop}
theorem make_KL {rest : List Value} {kw : List (Str × Value)} {fI : Addr} (F : Fr h₀ L s.heap m) (N : News h₀ L s.heap news) (X : K.In s.heap) (hm : makesIn K C = true)
    (hi : findIn K (.ref C) "__init__" = some (some (.ref fI))) (hf : typeIn K (.ref fI) = some (.type "function"))
    (h : ∀ x dx h', Fr h₀ L h' m → News h₀ L h' ((x, instObj C dx) :: (dx, emptyDict) :: news) → (∀ p ∈ news, p.1 < dx) → @LT.lt Nat _ dx x ∧ @LT.lt Nat _ L dx →
      codeAny (model prog w) (A.under (.builtin "type.__call__" ⟨.ref C :: rest, kw⟩)) (.call (.ref fI) ⟨.ref x :: rest, kw⟩) (InitBack x R) { s with heap := h' }) :
    codeAny (model prog w) A (.call (.ref C) ⟨rest, kw⟩) R s := by
  have hlt := F.ns.lt
  obtain ⟨hh, g, d, t, os⟩ := s
  refine make_core (makes_of X hm) (looks_findIn X hi) (fun self => bind_fn X self hf) (.inl rfl) (h _ hh.objs.size _ ((F.push _).push _) ?_ (fun p hp => Heap.lt_size (N p hp).1) ⟨Nat.lt_succ_self _, hlt⟩)
  have := (N.push F emptyDict).push (F.push _) (instObj C hh.objs.size)
  rwa [Heap.size_push] at this
end
inductive DropF (L : Addr) : List (Addr × Obj) → List (Addr × Obj) → Prop
  | head {o r} : (∀ p ∈ r, p.1 ≠ L) → DropF L ((L, o) :: r) r
  | tail {p r r'} : p.1 ≠ L → DropF L r r' → DropF L (p :: r) (p :: r')
theorem DropF.mem {L : Addr} : ∀ {a b : List (Addr × Obj)}, DropF L a b → ∀ p ∈ b, p ∈ a ∧ p.1 ≠ L
  | _, _, .head h, p, hp => ⟨.tail _ hp, h p hp⟩
  | _, _, .tail h d, p, hp => by
    rcases List.mem_cons.mp hp with rfl | hp
    · exact ⟨.head _, h⟩
    · exact ⟨.tail _ (d.mem p hp).1, (d.mem p hp).2⟩
theorem leaveI_ {h₀ : Heap} {L L' : Addr} {oL : Obj} {m m' : Str → Option Value} {all news : List (Addr × Obj)} {sl : Array (Option Value)} {R : Result → Shared → Prop} {v : Value} {s' : Shared}
    (F' : Fr h₀ L' s'.heap m') (N' : News h₀ L' s'.heap all) (hm : (L, { oL with slots := sl }) ∈ all) (D : DropF L all news) (k : Fr h₀ L s'.heap m → News h₀ L s'.heap news → R (.ok (.ret v)) s') :
    LeaveT h₀ L oL m R v s' := leaveT_ F' N' hm fun F N => k F (News.back N D.mem)
theorem initBack_none {x : Addr} {R : Result → Shared → Prop} {s' : Shared} (h : R (.ok (.ret (.ref x))) s') : InitBack x R (.ok (.ret .none)) s' := ⟨rfl, h⟩
theorem made_at {s g h : Heap} {L : Addr} {q : Addr × Obj} {news : List (Addr × Obj)} (k : Kp (([] : List (Addr × Obj)).map Prod.fst) [] s g) (N : News g L h news) (hm : q ∈ news) : h.get? q.1 = some q.2 ∧ s.get? q.1 = none := by
  refine ⟨(N _ hm).1, ?_⟩
  cases e : s.get? q.1 with
  | none => rfl
  | some o => have := k.at e (fun h => nomatch h); rw [(N _ hm).2.2] at this; cases this
theorem dictH_nil {prog : Program} {w : World} {K : Type} [DecidableEq K] {knd : HeapKind prog w K} {h : Heap} {d : Addr} {o : Obj} (hd : o.IsDictOf (intKind prog w) []) (e : h.get? d = some o) : h.DictOfH knd d [] := by
  obtain ⟨es, ep, hc, hda, _, hp, _⟩ := hd
  refine ⟨o, es, ep, e, hc, hda, ?_, (fun _ h => nomatch h), List.nodup_nil⟩
  cases h : es.toList with
  | nil => rfl
  | cons a r => rw [h] at hp; cases hp
end
section -- B11
theorem mul_small {a b : Int} (_ : a.natAbs < 2147483648) (hb : b.natAbs < 2147483648) : IntMulOk a b := by
  exact IntMulOk.of_right (PySem.intBits_le_64 (by omega) (by omega))
theorem take_mod {a b : Int} (h : 0 < b) : 0 ≤ a.fmod b ∧ a.fmod b < b := by
  rw [Int.fmod_eq_emod_of_nonneg _ (Int.le_of_lt h)]
  exact ⟨Int.emod_nonneg _ (Int.ne_of_gt h), Int.emod_lt_of_pos _ h⟩
theorem take_bound {A S : Int} : ([A, ([A, S].getD (Int.toNat 1) 0 * 39373 + 7).fmod 2147483647].getD (Int.toNat 1) 0).natAbs < 2147483648 := by
  have h := take_mod (a := S * 39373 + 7) (b := 2147483647) (by decide)
  show ((S * 39373 + 7).fmod 2147483647).natAbs < _
  omega
section
variable {prog : Program} {w : World} {A : Around} {E : Value → Shared → Prop} {s : Shared} {h₀ : Heap} {L l : Addr} {m : Str → Option Value} {vs : List Value} {ns : List Int}
theorem lenB {Q : Value → Shared → Prop} (F : Fr h₀ L s.heap m) (hl : h₀.IsList l vs.toArray) (hi : IntsAre vs ns) (hn : ns.length ≤ 63) (h : ∀ t tk, Q (.int ns.length t) { s with toks := tk }) : wpAny (model prog w) A (call (.builtin "len") [.ref l]) Q E s := by
  have e : vs.toArray.size = ns.length := by rw [List.size_toArray]; exact hi.length
  refine PyProof.Rows.len_list (hl.at fun o x => F.keep _ o x) (by rw [e]; omega) ?_
  rw [e]
  exact h _ _
end
theorem getD_mem' {ns : List Int} {d : Int} (h0 : 0 ≤ d) (h1 : d < ns.length) : ns.getD d.toNat 0 ∈ ns := by
  have h : d.toNat < ns.length := by omega
  rw [List.getD_eq_getElem?_getD, List.getElem?_eq_getElem h]
  exact List.getElem_mem h
end
section -- B12
/-- the frames above, as objects of the ledger -/
structure FrL (s h₀ g : Heap) (outer : List Env) (fr : List (Addr × Obj)) : Prop where
  st : h₀.StaysIn g
  fi : ∀ env ∈ outer, env.scope.kind ≠ .module ∧ ∃ L o, env.frame = some L ∧ (L, o) ∈ fr ∧ h₀.get? L = none ∧ ∃ es ep, o.data = .dict es ep
  ad : ∀ p ∈ fr, p.1 ∈ frs outer
  org : ∀ b o, s.get? b = some o → b ∈ frs outer → ∃ sl, (b, { o with slots := sl }) ∈ fr
section
variable {s h₀ g h h' hm : Heap} {L : Addr} {m : Str → Option Value} {news news' sn fr fr' : List (Addr × Obj)} {outer : List Env} {M : List Addr} {cn : Str} {cs : Scope} {a : Addr} {ccd : Value} {cl : List (Str × Addr)}
theorem frs_cons (b : Addr) : b ∈ frs (envX cn cs L a ccd cl :: outer) ↔ b = L ∨ b ∈ frs outer := by
  simp only [frs, List.filterMap_cons]
  constructor
  · intro hb
    rcases List.mem_cons.mp hb with rfl | hb
    · exact .inl rfl
    · exact .inr hb
  · rintro (rfl | hb)
    · exact .head _
    · exact .tail _ hb
theorem FrL.none (P : FrL s h₀ g outer fr) {b : Addr} (e : g.get? b = none) : h₀.get? b = none := by
  cases q : h₀.get? b with
  | none => rfl
  | some o => rw [P.st b o q] at e; cases e
theorem FrL.cx (P : FrL s h₀ g outer fr) (F : Fr g L h m) (N : News g L h news) (hs : ∀ p ∈ fr, p ∈ news) (hk : cs.kind = .function) : Cx h₀ (envX cn cs L a ccd cl :: outer) h := by
  refine ⟨fun b o e => F.keep b o (P.st b o e), fun env he => ?_⟩
  rcases List.mem_cons.mp he with rfl | he
  · obtain ⟨o, ho, ⟨es, ep, hd⟩, _⟩ := frObj_of F
    exact ⟨by show cs.kind ≠ _; rw [hk]; decide, L, o, rfl, ho, P.none (Fr.free F), es, ep, hd⟩
  · obtain ⟨x, L', o, b, c, d, e⟩ := P.fi env he
    exact ⟨x, L', o, b, (N _ (hs _ c)).1, d, e⟩
theorem FrL.own (P : FrL s h₀ g outer fr) (N : News g L h news) (hs : ∀ q ∈ sn, q ∈ news) (hf : ∀ q ∈ sn, q.1 ∉ frs outer) : Own h₀ (envX cn cs L a ccd cl :: outer) h sn := fun q hq => by
  have n := N q (hs q hq)
  refine ⟨n.1, P.none n.2.2, fun hb => ?_⟩
  rcases (frs_cons _).mp hb with z | z
  · exact n.2.1 z
  · exact hf q hq z
theorem kp_endF (GK : Kp (news.map Prod.fst ++ frs outer) [] s g) (O : Own h₀ outer s news) (P : FrL s h₀ g outer fr) (F : Fr g L h' m) (N : News g L h' news') (hs' : ∀ p ∈ fr, p ∈ news') (hs : ∀ q ∈ news, q.1 ∈ M ∨ q ∈ news') : Kp M (frs outer) s h' := by
  refine ⟨fun b o e hb hf => ?_, fun b o e hf _ => ?_⟩
  · by_cases q : b ∈ news.map Prod.fst
    · obtain ⟨r, hr, rfl⟩ := List.mem_map.mp q
      rcases hs r hr with z | z
      · exact absurd z hb
      · obtain rfl : r.2 = o := Option.some.inj ((O r hr).1.symm.trans e)
        exact (N r z).1
    · exact F.keep b o (GK.at e fun z => (List.mem_append.mp z).elim q hf)
  · obtain ⟨sl, h1⟩ := P.org b o e hf
    exact ⟨sl, (N _ (hs' _ h1)).1⟩
theorem FrL.off (P : FrL s h₀ g outer fr) (N : News g L h news) (hs : ∀ p ∈ fr, p ∈ news) {b : Addr} (hb : b ∈ frs outer) : g.get? b = Option.none := by
  obtain ⟨env, he, hf⟩ := List.mem_filterMap.mp hb
  obtain ⟨_, L', o, hf', hm', _⟩ := P.fi env he
  obtain rfl : L' = b := by rw [hf'] at hf; exact Option.some.inj hf
  exact (N _ (hs _ hm')).2.2
/-- behind a call that caught -/
theorem catch_back (P : FrL s h₀ g outer fr) (F : Fr g L h m) (N : News g L h news) (hs : ∀ p ∈ fr, p ∈ news) (k : Kp M (frs (envX cn cs L a ccd cl :: outer)) h h') (hM : ∀ b ∈ M, g.get? b = Option.none ∧ b ∉ frs (envX cn cs L a ccd cl :: outer)) :
    ∃ fr', FrL s h₀ g outer fr' ∧ Fr g L h' m ∧ ∀ news', (∀ q ∈ news', (q ∈ news ∧ q.1 ∉ M ∧ q.1 ∉ frs outer) ∨ (h'.get? q.1 = some q.2 ∧ q.1 ≠ L ∧ g.get? q.1 = Option.none) ∨ q ∈ fr') → News g L h' news' := by
  obtain ⟨oL, hoL, fo⟩ := frObj_of F
  obtain ⟨⟨esL, epL, hdL⟩, _⟩ := id fo
  have hLM : L ∉ M := fun q => (hM L q).2 ((frs_cons _).mpr (.inl rfl))
  obtain ⟨sl, hsl⟩ := k.2 L oL hoL ((frs_cons _).mpr (.inl rfl)) fun vs z => by rw [hdL] at z; cases z
  have hfrd : ∀ p ∈ fr, ∃ sl, h'.get? p.1 = some { p.2 with slots := sl } := fun p hp => by
    have hp' := P.ad p hp
    obtain ⟨env, he, hf⟩ := List.mem_filterMap.mp hp'
    obtain ⟨_, L', o, hf', hm', _, es, ep, hd⟩ := P.fi env he
    obtain rfl : L' = p.1 := by rw [hf'] at hf; exact Option.some.inj hf
    have e2 : o = p.2 := Option.some.inj ((N _ (hs _ hm')).1.symm.trans (N _ (hs _ hp)).1)
    refine k.2 p.1 p.2 (N _ (hs p hp)).1 ((frs_cons _).mpr (.inr hp')) fun vs z => ?_
    rw [← e2, hd] at z; cases z
  have frn : ∀ b ∈ frs (envX cn cs L a ccd cl :: outer), g.get? b = Option.none := fun b hb => by
    rcases (frs_cons _).mp hb with rfl | hb
    · exact Fr.free F
    · obtain ⟨env, he, hf⟩ := List.mem_filterMap.mp hb
      obtain ⟨_, L', o, hf', hm', _⟩ := P.fi env he
      obtain rfl : L' = b := by rw [hf'] at hf; exact Option.some.inj hf
      exact (N _ (hs _ hm')).2.2
  have hfr' : ∀ q ∈ fr.map (fun q => (q.1, (h'.get? q.1).getD q.2)), ∃ q₀ ∈ fr, ∃ sl, q = (q₀.1, { q₀.2 with slots := sl }) ∧ h'.get? q.1 = some q.2 := fun q hq => by
    obtain ⟨q₀, hq₀, rfl⟩ := List.mem_map.mp hq
    obtain ⟨sl, hs'⟩ := hfrd q₀ hq₀
    exact ⟨q₀, hq₀, sl, by dsimp only; rw [hs']; rfl, by dsimp only; rw [hs']; rfl⟩
  refine ⟨fr.map fun q => (q.1, (h'.get? q.1).getD q.2), ⟨P.st, fun env he => ?_, fun p hp => ?_, fun b o e hb => ?_⟩, ⟨fo.2 _ _ sl hsl, fun b o e => k.1 b o (F.keep b o e) (fun q => by rw [(hM b q).1] at e; cases e) (fun q => by rw [frn b q] at e; cases e), F.above⟩, fun news' hn q hq => ?_⟩
  · obtain ⟨x, L', o, b, c, d, es, ep, hd⟩ := P.fi env he
    obtain ⟨sl', hs'⟩ := hfrd _ c
    exact ⟨x, L', { o with slots := sl' }, b, List.mem_map.mpr ⟨_, c, by rw [hs']; rfl⟩, d, es, ep, hd⟩
  · obtain ⟨q₀, hq₀, _, rfl, _⟩ := hfr' p hp
    exact P.ad q₀ hq₀
  · obtain ⟨sl₁, h1⟩ := P.org b o e hb
    obtain ⟨sl', hs'⟩ := hfrd _ h1
    exact ⟨sl', List.mem_map.mpr ⟨_, h1, by dsimp only at hs' ⊢; rw [hs']; rfl⟩⟩
  · rcases hn q hq with ⟨z1, z2, z3⟩ | z | z
    · refine ⟨k.1 _ _ (N q z1).1 z2 fun z => ?_, (N q z1).2⟩
      rcases (frs_cons _).mp z with z | z
      · exact (N q z1).2.1 z
      · exact z3 z
    · exact z
    · obtain ⟨q₀, hq₀, sl', rfl, e⟩ := hfr' q z
      exact ⟨e, (N _ (hs _ hq₀)).2⟩
end
section
variable {prog : Program} {w : World} {A₀ : Around} {E : Value → Shared → Prop} {s' : Shared} {g hm : Heap} {outer : List Env} {L a e C : Addr} {m : Str → Option Value} {name : Str} {scope : Scope} {cd : Value} {cl : List (Str × Addr)}
  {b₀ : Stmt} {suite : List Stmt} {pos np : Pos} {rest : List ExceptHandler} {Q : Flow → Shared → Prop} {oL : Obj} {KF : Frag}
  {p : Program} {loose : List Str} {mean : ExcName → Option Value} {mg mb : Str → Option Value} {x : Str}
  {nm q : Str} {N : Addr} {bs bm : List Value} {hdct : Bool} {sn : List Str} {sub : List Value} {ab : Bool} {col : Option Bool} {dd : Option Addr} {k0 k1 k2 k3 k5 : Option Value} {newId : String}
theorem caught_R (hfr : A₀.frames = some outer) (fo : FrObj oL m) (hLm : hm.get? L = some oL) (above : g.objs.size ≤ L) (gk : ∀ b o, g.get? b = some o → hm.get? b = some o ∧ b ∉ frs (envX name scope L a cd cl :: outer)) (R : RaisedR hm (envX name scope L a cd cl :: outer) e C s'.heap)
    (X : KF.In g) (T : TopRead p loose mg mb g) (ex : nsIn KF mainGlobals x = some (some (.ref C))) (hC : KF.lookup C = some (excClassObj nm q C N bs bm hdct sn sub ab col dd k0 k1 k2 k3 k5 newId)) (hbase : bm.contains (.type "BaseException") = true)
    (k : ∀ h', Fr g L h' m → Kp [] (frs (envX name scope L a cd cl :: outer)) hm h' →
      wpAny (model prog w) ((A₀.deeper (envX name scope L a cd cl)).mark (some (.ref e))) (execs (b₀ :: suite) (envX name scope L a cd cl)) Q E { s' with heap := h' })
    (hk : scope.kind = .function := by rfl) (hx : (envX name scope L a cd cl).kindOf x = some .globalImplicit := by rfl) (hd : (x == ("__debug__" : Str)) = false := by decide)
    (hE : PassesOwnAt (model prog w) ((A₀.deeper (envX name scope L a cd cl)).mark (some (.ref e))) (A₀.deeper (envX name scope L a cd cl)) (envX name scope L a cd cl) E := by passes_own) :
    wpAny (model prog w) (A₀.deeper (envX name scope L a cd cl)) (noteFrame (.ref e) (envX name scope L a cd cl))
      (fun _ s₂ => wpAny (model prog w) (A₀.deeper (envX name scope L a cd cl)) (setFlight (.ref e) none) (fun _ s₃ =>
        wpAny (model prog w) (A₀.deeper (envX name scope L a cd cl)) (handleBy (.ref e) (envX name scope L a cd cl) (.ExceptHandler (some (.Name x np)) none (b₀ :: suite) pos :: rest)) Q E s₃) E s₂) E s' := by
  obtain ⟨B, a0, h1, hfl, h2⟩ := R
  have hB : ∀ b o, g.get? b = some o → B.get? b = some o := fun b o q => let ⟨z1, z2⟩ := gk b o q; h1 b o z1 z2
  have hLf : L ∈ frs (envX name scope L a cd cl :: outer) := (frs_cons _).mpr (.inl rfl)
  obtain ⟨⟨esL, epL, hdL⟩, foN⟩ := id fo
  obtain ⟨slL, hsL⟩ := h2 L oL hLm hLf
  refine wpAny_looks_onW (Around.frames_deeper hfr) rfl hfl fun h₄ hheld₄ hsm₄ => ?_
  refine wpAny_landsW hheld₄ fun h₅ hheld hsm₅' => ?_
  have hsm₅ := hsm₄.trans hsm₅'
  have F₅ : Fr g L h₅ m := ⟨hsm₅.ns (foN _ _ _ hsL), fun b o q => hheld.1 b o (hB b o q), above⟩
  obtain ⟨ob, hob, hobc⟩ := hheld.there
  refine wpAny_handleBy_cons (codeAny_handlers_test (nameX_K F₅ X T ex ?_ hk hx hd)) (by intro q; cases q)
  have hC₅ := F₅.keep _ _ (X _ _ hC)
  refine wpAny_excMatches_sub_self hC₅ hob hobc hbase (codeAny_handlers_suite ?_)
  refine lands_againW hheld fun h₆ hfl₆ hsm₆ => ?_
  have F₆ : Fr g L h₆ m := ⟨(hsm₅.trans hsm₆).ns (foN _ _ _ hsL), fun b o q => hfl₆.1 b o (hB b o q), above⟩
  have ff := hfl.2.2.1
  refine wpAny_passesOwnAt hE (k h₆ F₆ ⟨fun b o q _ hf => hfl₆.1 _ _ (h1 b o q hf), fun b o q hf _ => ?_⟩)
  obtain ⟨sl, hs⟩ := h2 b o q hf
  obtain ⟨_, o', ho, hd⟩ := ff.mem hf
  have hq2 : { o with slots := sl } = o' := Option.some.inj (hs.symm.trans ho)
  obtain ⟨sl', hs'⟩ := (hsm₅.trans hsm₆) _ _ hs fun vs z => hd vs (by rw [← hq2]; exact z)
  exact ⟨sl', hs'⟩
end
section
variable {h₀ s : Heap} {outer : List Env} {news : List (Addr × Obj)}
/-- the base of a frame that lies under a catch -/
theorem ground (C : Cx h₀ outer s) (hn : ∀ q ∈ news, s.get? q.1 = some q.2 ∧ h₀.get? q.1 = none ∧ q.1 ∉ frs outer) :
    ∃ fr, (∀ p ∈ fr, s.get? p.1 = some p.2) ∧ FrL s h₀ (hideAll s (news.map Prod.fst ++ frs outer)) outer fr := by
  refine ⟨outer.filterMap fun env => env.frame.bind fun L => (s.get? L).map fun o => (L, o), fun p hp => ?_, fun b o e => hideAll_get _ (C.st b o e) fun q => ?_, fun env he => ?_, fun p hp => ?_, fun b o e hb => ?_⟩
  · obtain ⟨env, _, hf⟩ := List.mem_filterMap.mp hp
    obtain ⟨L, _, hf⟩ := Option.bind_eq_some_iff.mp hf
    obtain ⟨o, ho, rfl⟩ := Option.map_eq_some_iff.mp hf
    exact ho
  · rcases List.mem_append.mp q with q | q
    · obtain ⟨r, hr, rfl⟩ := List.mem_map.mp q
      rw [(hn r hr).2.1] at e; cases e
    · obtain ⟨o', _, h0, _⟩ := C.fp.mem q
      rw [h0] at e; cases e
  · obtain ⟨x, L, o, hf, ho, h0, r⟩ := C.fp env he
    exact ⟨x, L, o, hf, List.mem_filterMap.mpr ⟨env, he, by rw [hf, Option.bind_some, ho]; rfl⟩, h0, r⟩
  · obtain ⟨env, he, hf⟩ := List.mem_filterMap.mp hp
    obtain ⟨L, hL, hf⟩ := Option.bind_eq_some_iff.mp hf
    obtain ⟨o, ho, rfl⟩ := Option.map_eq_some_iff.mp hf
    exact List.mem_filterMap.mpr ⟨env, he, hL⟩
  · obtain ⟨env, he, hf⟩ := List.mem_filterMap.mp hb
    exact ⟨o.slots, List.mem_filterMap.mpr ⟨env, he, by rw [hf, Option.bind_some, e]; rfl⟩⟩
end
section
variable {prog : Program} {w : World} {A : Around} {s : Shared} {h₀ : Heap} {mg mb : Str → Option Value} {news : List (Addr × Obj)} {K : Frag} {p : Program} {loose : List Str} {mean : ExcName → Option Value} {outer : List Env}
  {R : Result → Shared → Prop} {name qual : Str} {params : Arguments} {body : List Stmt} {scope : Scope} {dV kV doc pm cdv ct oc : Value} {an od : Option Addr} {osl : Array (Option Value)} {f : Addr} {args : Args} {binds : List (Str × Value)}
theorem enterF (X₀ : K.In h₀) (T₀ : Top p loose mean mg mb h₀) (C : Cx h₀ outer s.heap) (hn : Own h₀ outer s.heap news)
    (ho : K.lookup f = some ⟨oc, od, .func (fnOf name qual params body scope dV kV doc pm an cdv ct), osl⟩) (hcd : codeIn K cdv qual = true) (hroom : A.depth < recursionLimit)
    (hbind : BindsTo s (fnOf name qual params body scope dV kV doc pm an cdv ct) args binds) (hloc : ∀ y ∈ binds, scope.names.lookup y.1 = some .local)
    (h : ∀ g L' h₁ fr, K.In g → Top p loose mean mg mb g → FrL s.heap h₀ g outer fr → Kp (news.map Prod.fst ++ frs outer) [] s.heap g → (∀ b o, g.get? b = some o → s.heap.get? b = some o) → Fr g L' h₁ (fun y => binds.reverse.lookup y) → News g L' h₁ (news ++ fr) → (∀ q ∈ news ++ fr, q.1 < L') → (∀ b o, s.heap.get? b = some o → h₁.get? b = some o) → s.heap.get? L' = none →
      wpAny (model prog w) (A.deeper (envOf qual scope L' f cdv)) (execs body (envOf qual scope L' f cdv))
        (fun fl s' => LeaveR R (match fl with | .ret v => v | _ => .none) s')
        (fun e s' => wpAny (model prog w) (A.deeper (envOf qual scope L' f cdv)) (leaving (envOf qual scope L' f cdv) e) (fun _ s'' => R (.error e) s'') (fun e' s'' => R (.error e') s'') s')
        { s with heap := h₁, toks := s.toks + binds.length })
    (hco : scope.isCoroutine = false) (hgen : scope.isGenerator = false) (hk : scope.kind = .function)
    (hcell : ∀ x ∈ scope.names, x.2 ≠ .cell) : codeAny (model prog w) A (.call (.ref f) args) R s := by
  have X := X₀.keeps C.st
  obtain ⟨fr, hfr, P⟩ := ground C hn
  refine codeAny_call_def (fd := fnOf name qual params body scope dV kV doc pm an cdv ct) (body := body) (binds := binds) hroom (X _ _ ho) rfl (T₀.nolimit.keeps C.st) (codeRec_of X hcd) rfl hbind hcell hloc (fun h₁ hns hk₁ => ?_) hco hgen hk
  have live : ∀ q ∈ news ++ fr, s.heap.get? q.1 = some q.2 := fun q hq => (List.mem_append.mp hq).elim (fun z => (hn q z).1) (hfr q)
  refine wpAny_mono (h (hideAll s.heap (news.map Prod.fst ++ frs outer)) s.heap.objs.size h₁ fr (X₀.keeps P.st) (T₀.keeps P.st) P (Kp.of fun b o e hb => hideAll_get _ e hb) (fun b o e => of_hideAll _ e)
    ⟨hns, fun b o e => hk₁ b o (of_hideAll _ e), Nat.le_of_eq (hideAll_size _ _)⟩ (fun q hq => ⟨hk₁ _ _ (live q hq), Nat.ne_of_lt (Heap.lt_size (live q hq)), hideAll_none _ ?_⟩) (fun q hq => Heap.lt_size (live q hq)) hk₁ (none_above (Nat.le_refl _))) (fun _ _ y => y) fun _ _ y => y
  rcases List.mem_append.mp hq with z | z
  · exact List.mem_append_left _ (List.mem_map_of_mem z)
  · exact List.mem_append_right _ (P.ad q z)
theorem enterFC (X₀ : K.In h₀) (T₀ : Top p loose mean mg mb h₀) (C : Cx h₀ outer s.heap) (hn : Own h₀ outer s.heap news)
    (ho : K.lookup f = some ⟨oc, od, .func (fnX name qual params body scope [] dV kV doc pm an cdv ct), osl⟩) (hcd : codeIn K cdv qual = true) (hroom : A.depth < recursionLimit)
    (hbind : BindsTo s (fnX name qual params body scope [] dV kV doc pm an cdv ct) args binds)
    (hkind : (binds.all fun x => scope.names.lookup x.1 == some .local || (scope.names.lookup x.1 == some .cell && ((cellsFrom 0 scope.names []).lookup x.1).isSome)) = true)
    (hnd : ((cellsFrom 0 scope.names []).map (·.1)).Nodup)
    (h : ∀ g L' h₁ tk cells fr, K.In g → Top p loose mean mg mb g → FrL s.heap h₀ g outer fr → Kp (news.map Prod.fst ++ frs outer) [] s.heap g → (∀ b o, g.get? b = some o → s.heap.get? b = some o) →
      Fr g L' h₁ (bindL (envOfC qual scope L' f cdv).kindOf binds fun _ => none) → News g L' h₁ (cells ++ (news ++ fr)) →
      CellsAre (bindC (envOfC qual scope L' f cdv).kindOf binds fun _ => none) (cellsFrom (L' + 1) scope.names []) cells → (∀ q ∈ news ++ fr, q.1 < L') → (∀ b o, s.heap.get? b = some o → h₁.get? b = some o) → s.heap.get? L' = none →
      wpAny (model prog w) (A.deeper (envOfC qual scope L' f cdv)) (execs body (envOfC qual scope L' f cdv))
        (fun fl s' => LeaveR R (match fl with | .ret v => v | _ => .none) s')
        (fun e s' => wpAny (model prog w) (A.deeper (envOfC qual scope L' f cdv)) (leaving (envOfC qual scope L' f cdv) e) (fun _ s'' => R (.error e) s'') (fun e' s'' => R (.error e') s'') s')
        { s with heap := h₁, toks := tk })
    (hco : scope.isCoroutine = false) (hgen : scope.isGenerator = false) (hk : scope.kind = .function) : codeAny (model prog w) A (.call (.ref f) args) R s := by
  have X := X₀.keeps C.st
  obtain ⟨fr, hfr, P⟩ := ground C hn
  have live : ∀ q ∈ news ++ fr, s.heap.get? q.1 = some q.2 := fun q hq => (List.mem_append.mp hq).elim (fun z => (hn q z).1) (hfr q)
  have hkind' : ∀ n, ∀ x ∈ binds, scope.names.lookup x.1 = some .local ∨ (scope.names.lookup x.1 = some .cell ∧ ((cellsFrom n scope.names []).lookup x.1).isSome = true) := fun n x hx => by
    have := List.all_eq_true.mp hkind x hx
    simp only [Bool.or_eq_true, beq_iff_eq, Bool.and_eq_true] at this
    refine this.imp id fun ⟨a, b⟩ => ⟨a, ?_⟩
    obtain ⟨c, hc⟩ := Option.isSome_iff_exists.mp b
    have nm := cellsFrom_names scope.names 0 n [] [] rfl
    have hm : x.1 ∈ (cellsFrom n scope.names []).map (·.1) := nm ▸ List.mem_map.mpr ⟨(x.1, c), mem_of_lookup hc, rfl⟩
    obtain ⟨⟨y, d⟩, hy, e⟩ := List.mem_map.mp hm
    have hl := lookup_of_mem_nodup (nm ▸ hnd) hy
    dsimp only at e
    rw [e] at hl
    rw [hl]; rfl
  refine codeAny_call_function hroom (X _ _ ho) rfl hco hgen rfl (codeRec_of X hcd) (hbind _ _ _ _ ?_)
  refine wpAny_newFunctionEnv_cells hk (hkind' _) fun env' he s' x => ?_
  subst he
  refine ⟨(T₀.nolimit.keeps C.st).keeps x.toInCall.keep, codeAny_func ?_⟩
  obtain ⟨h₁, tk, rfl, _⟩ := x.done
  have hk₁ := x.toInCall.keep
  obtain ⟨cells, NC, Y⟩ := Cl.news (h₀ := s.heap) (Nat.le_refl _) fun n c hm => ⟨x.cell n c (lookup_of_mem_nodup (cellsFrom_names scope.names 0 (s.heap.objs.size + 1) [] [] rfl ▸ hnd) hm), x.above n c hm⟩
  refine wpAny_mono (h (hideAll s.heap (news.map Prod.fst ++ frs outer)) s.heap.objs.size h₁ tk cells fr (X₀.keeps P.st) (T₀.keeps P.st) P (Kp.of fun b o e hb => hideAll_get _ e hb) (fun b o e => of_hideAll _ e)
    ⟨x.toInCall.ns, fun b o e => hk₁ b o (of_hideAll _ e), Nat.le_of_eq (hideAll_size _ _)⟩ (fun q hq => ?_) Y (fun q hq => Heap.lt_size (live q hq)) hk₁ (none_above (Nat.le_refl _))) (fun _ _ y => y) fun _ _ y => y
  rcases List.mem_append.mp hq with hq | hq
  · refine ⟨(NC q hq).1, (NC q hq).2.1, ?_⟩
    cases z : (hideAll s.heap (news.map Prod.fst ++ frs outer)).get? q.1 with
    | none => rfl
    | some o => have := of_hideAll _ z; rw [(NC q hq).2.2] at this; cases this
  · refine ⟨hk₁ _ _ (live q hq), Nat.ne_of_lt (Heap.lt_size (live q hq)), hideAll_none _ ?_⟩
    rcases List.mem_append.mp hq with z | z
    · exact List.mem_append_left _ (List.mem_map_of_mem z)
    · exact List.mem_append_right _ (P.ad q z)
end
theorem FnAt_up {q : Addr} {h h' : Heap} (x : FnAt q h) (k : ∀ b o, h.get? b = some o → h'.get? b = some o) : FnAt q h' :=
  let ⟨a, b, c, d, e⟩ := x; ⟨a, b, c, d, k _ _ e⟩
end
section -- B13
theorem plain_ci : plainId "proto.contains_iter" = true := by decide +kernel
theorem entry_ci : entryFor table "proto.contains_iter" = some Builtin.«proto.contains_iter» := entryFor_of_fast (by kernel_rfl)
theorem vals_no : typeLookup (.type "dict_values") "__contains__" = pure none := by kernel_rfl
section
variable {prog : Program} {w : World} {A : Around} {E : Value → Shared → Prop} {s : Shared}
theorem ci_loop {R : Result → Shared → Prop} {I : Addr} {fp wr : List Addr} {n : Nat} {P : Nat → Value → Prop} {St : Nat → Heap → Prop} {k : Int} {t : Tok} {xs : List Int} (W : Walks prog w A.in1 I fp wr n P St) (hP : ∀ i v, P i v → ∃ m u, xs[i]? = some m ∧ v = .int m u) (hn : xs.length = n) :
    ∀ (j i : Nat) (s : Shared), i + j = n → St i s.heap → (∀ h' tk, (∀ b o, b ∉ wr → s.heap.get? b = some o → h'.get? b = some o) → R (.ok (.ret (.bool ((xs.drop i).any fun m => m == k)))) { s with heap := h', toks := tk }) →
      codeAny (model prog w) A (.builtin "proto.contains_iter" ⟨[.ref I, .int k t], []⟩) R s
  | 0, i, s, hi, hst, hR => by
    refine codeAny_builtin entry_ci ?_
    rw [Around.under_plainId plain_ci _]
    show wpAny _ A.in1 (pyNext (.ref I) >>= _) _ _ s
    obtain rfl : i = n := by omega
    refine wpAny_bind (W.done s _ _ hst fun h' tk hk => ?_)
    refine wpAny_bind (wpAny_rule (wpAny_pure ?_))
    have := hR h' tk hk
    rw [List.drop_eq_nil_of_le (by omega)] at this
    exact this
  | j + 1, i, s, hi, hst, hR => by
    refine codeAny_builtin entry_ci ?_
    rw [Around.under_plainId plain_ci _]
    show wpAny _ A.in1 (pyNext (.ref I) >>= _) _ _ s
    refine wpAny_bind (W.item i s _ _ (by omega) hst fun v h' tk hv hst' hk => ?_)
    obtain ⟨m, u, hm, rfl⟩ := hP i v hv
    have hd : xs.drop i = m :: xs.drop (i + 1) := by
      obtain ⟨hlt, e⟩ := List.getElem?_eq_some_iff.mp hm
      rw [List.drop_eq_getElem_cons hlt, e]
    refine wpAny_bind (wpAny_eqBool_int ?_)
    cases hb : (m == k) with
    | true =>
      simp only [if_true]
      refine wpAny_bind (wpAny_rule (wpAny_pure ?_))
      have := hR h' tk hk
      rw [hd, List.any_cons, hb, Bool.true_or] at this
      exact this
    | false =>
      simp only [Bool.false_eq_true, if_false]
      refine wpAny_pure ⟨plainId_quiet plain_ci _, ci_loop W hP hn j (i + 1) _ (by omega) hst' fun h2 tk2 hk2 => ?_⟩
      have := hR h2 tk2 fun b o hb e => hk2 b o hb (hk b o hb e)
      rw [hd, List.any_cons, hb, Bool.false_or] at this
      exact this
theorem notin_values {v d : Addr} {kvs : List (Int × Value)} {k : Int} {t : Tok} {Q : Value → Shared → Prop} (hh : A.handled = none) (hv : s.heap.IsValuesView v d) (hm : s.heap.DictOf (PySem.intKind prog w) d kvs) (hvs : ∀ x ∈ kvs, ∃ n t, x.2 = .int n t)
    (h : ∀ h' tk, (∀ b o, s.heap.get? b = some o → h'.get? b = some o) → Q (.bool (!(kvs.any fun x => vOf x.2 == k))) { s with heap := h', toks := tk }) :
    wpAny (model prog w) A (compareOp .NotIn (.int k t) (.ref v)) Q E s := by
  have hT := hv.typeIs
  show wpAny _ _ (do return .bool (!(← contains (.ref v) (.int k t)))) Q E s
  refine wpAny_bind ?_
  unfold contains
  try with_reducible refine wpAny_holding ?_
  refine wpAny_bind (wpAny_specialOf hT vals_no ?_)
  show wpAny _ _ (if ((none : Option Value) == some Value.none) = true then _ else _) _ E s
  rw [if_neg (by decide)]
  refine wpAny_bind (wpAny_callSpecialUnlessNone?_none hT vals_no ?_)
  refine wpAny_bind (wpAny_rule ?_)
  refine wpAny_bind (wpAny_tryCatch ?_)
  obtain ⟨ep, hm⟩ : ∃ ep, s.heap.DictAt (PySem.intKind prog w) d kvs ep := hm.dictAt
  have hdI : d ≠ s.heap.objs.size := Nat.ne_of_lt hm.lt_size
  refine wpAny_pyIter_values hv hm ?_
  refine wpAny_bind (wpAny_runValue (ci_loop (xs := kvs.map fun x => vOf x.2) (Walks.dictValues (A := A.in1) hh _ d hdI kvs ep) (fun i v ⟨k', hk⟩ => ?_) (List.length_map ..) kvs.length 0 _ (Nat.zero_add _) ⟨⟨_, Heap.get?_push_size _ rfl, rfl, rfl⟩, hm.push _⟩ fun h' tk hk => ?_))
  · obtain ⟨n, t, e⟩ := hvs _ (List.mem_of_getElem? hk)
    dsimp only at e
    exact ⟨n, t, by rw [List.getElem?_map, hk, Option.map_some, e]; rfl, e⟩
  · refine wpAny_pure (wpAny_pure ?_)
    rw [List.drop_zero, List.any_map]
    exact h h' tk fun b o e => hk b o (fun q => by rw [List.mem_singleton.mp q] at e; exact Nat.lt_irrefl _ (Heap.lt_size e)) (Heap.get?_push_of_some _ e)
end
end
section -- B14
section
variable {prog : Program} {w : World} {A : Around} {E : Value → Shared → Prop} {s : Shared} {env : Env} {g : Heap} {L : Addr} {m : Str → Option Value} {news : List (Addr × Obj)} {scope : Scope} {cl : List (Str × Addr)} {nm : Str} {ifs : List Expr} {elt : Expr} {Q : Value → Shared → Prop}
noncomputable def pxI (px : Int → Bool) : Value → Bool
  | .int a _ => px a
  | _ => false
theorem ints_pair {px : Int → Bool} {val : Int → Int} : ∀ {vs : List Value} {xs : List Int} {ys : List Value}, IntsAre vs xs → Paired (fun v y => ∃ a t u, v = Value.int a t ∧ y = Value.int (val a) u) (vs.filter (pxI px)) ys → IntsAre ys ((xs.filter px).map val)
  | _, _, ys, .nil, h => by
    cases h; exact .nil
  | _, _, ys, .cons n t hr, h => by
    rw [List.filter_cons] at h ⊢
    show IntsAre ys ((if px n = true then n :: _ else _).map val)
    cases hp : px n with
    | true =>
      have e : pxI px (.int n t) = true := hp
      rw [if_pos e] at h
      rw [if_pos rfl]
      cases h with
      | cons h1 h2 =>
        obtain ⟨a, t', u, e1, rfl⟩ := h1
        cases e1
        exact .cons _ _ (ints_pair hr h2)
    | false =>
      have e : ¬ pxI px (.int n t) = true := by rw [show pxI px (.int n t) = px n from rfl, hp]; exact Bool.false_ne_true
      rw [if_neg e] at h
      rw [if_neg Bool.false_ne_true]
      exact ints_pair hr h
theorem ints_of_places {P : Nat → Value → Prop} {vs : List Value} {xs : List Int} (hP : ∀ i v, P i v → ∃ k t, xs[i]? = some k ∧ v = .int k t) (hl : vs.length = xs.length) (hv : ∀ j v, vs[j]? = some v → P j v) : IntsAre vs xs := by
  induction vs generalizing P xs with
  | nil => cases xs with
    | nil => exact .nil
    | cons _ _ => simp at hl
  | cons v r ih => cases xs with
    | nil => simp at hl
    | cons x xs =>
      obtain ⟨k, t, hk, rfl⟩ := hP 0 v (hv 0 v rfl)
      simp only [List.getElem?_cons_zero, Option.some.injEq] at hk
      subst hk
      exact .cons _ _ (ih (P := fun i v => P (i + 1) v) (fun i v h => by have := hP (i + 1) v h; simpa using this) (by simpa using hl) fun j v h => hv (j + 1) v (by simpa using h))
noncomputable def CompGoA (prog : Program) (w : World) (A : Around) (env : Env) (scope : Scope) (cl : List (Str × Addr)) (nm y : Str) (ifs : List Expr) (elt : Expr) (p : Value → Bool) (F : Value → Value → Prop) (Q : Flow → Shared → Prop) (it : Value) (s₂ : Shared) : Prop :=
  ∃ I fp wr n P St m, it = .ref I ∧ Walks prog w A I fp wr n P St ∧ n ≤ sizeLine ∧ St 0 s₂.heap ∧ (∀ b ∈ fp, b < s₂.heap.objs.size) ∧
      env.locals ∉ wr ∧ s₂.heap.Ns env.locals m ∧ QuietOnC prog w A env scope cl nm ifs elt wr P p F s₂ ∧
      (∀ D h' tk ys (vs : List Value), s₂.heap.get? D = none → h'.IsList D ys → h'.PlainList D ys → vs.length = n → (∀ j v, vs[j]? = some v → P j v) → Paired F (vs.filter p) ys.toList →
        h'.Ns env.locals (fun z => if z = y then some (.ref D) else m z) → (∀ b o, b ≠ env.locals → b ∉ wr → s₂.heap.get? b = some o → h'.get? b = some o) → Q .next { s₂ with heap := h', toks := tk })
theorem Assign_go {iter : Expr} {x y : Str} {px py : Pos} {pos spos : Pos} {Q : Flow → Shared → Prop} (p : Value → Bool) (F : Value → Value → Prop)
    (hsw : swapsWith (.ListComp elt [⟨.Name x px, iter, ifs, 0⟩] scope pos) (some (.Name y py)) spos.line env = pure true)
    (hclos : closureFor scope env = pure cl) (hcell : ∀ z ∈ scope.names, z.2 ≠ .cell) (hkind : scope.kind = .function)
    (hnames : ∀ z ∈ scope.names, z.2 = .local → scope.names.lookup z.1 = some .local) (hx : scope.names.lookup x = some .local)
    (hy : env.kindOf y = some .local) (hp : (env.scope.kind == .class || (env.scope.kind == .module && env.locals != env.globals)) = false)
    (h : wpAny (model prog w) A (eval iter env) (fun xv s₁ => wpAny (model prog w) A (pyIter xv) (CompGoA prog w A env scope cl x y ifs elt p F Q) E s₁) E s)
    (hs : ∀ x, foldedSetIterable iter env x = pure x := by intro _; rfl) :
    wpAny (model prog w) A (exec (.Assign [.Name y py] (.ListComp elt [⟨.Name x px, iter, ifs, 0⟩] scope pos) spos) env) Q E s := wpAny_Assign_ListComp_free p F hsw hclos hcell hkind hnames hx hy hp h hs
theorem comp_src (px : Int → Bool) (val : Int → Int) (xs : List Int) {o : Obj} {fp : List Addr} {P : Nat → Value → Prop} {St : Nat → Heap → Prop} {n : Nat}
    (W : Walks prog w A s.heap.objs.size fp [s.heap.objs.size] n P St) (hn : xs.length = n) (hP : ∀ i v, P i v → ∃ k t, xs[i]? = some k ∧ v = .int k t) (hst : St 0 (s.heap.push o)) (hfp : ∀ b ∈ fp, b < (s.heap.push o).objs.size) (hlen : n ≤ 1000)
    (F : Fr g L s.heap m) (N : News g L s.heap news)
    (tests : ∀ C k t s₃ m₃ E', k ∈ xs → Fr g C s₃.heap m₃ → News g C s₃.heap news → m₃ nm = some (.int k t) →
      wpAny (model prog w) A (forIn ifs true fun c r => if r = true then do let ok ← isTrue c (compEnvC scope cl C env) (eval c (compEnvC scope cl C env)); pure (ForInStep.yield ok) else pure (ForInStep.yield r))
        (fun ok s₄ => ok = px k ∧ Keeps s₃ s₄) E' s₃)
    (eltW : ∀ C k t s₃ m₃ E', k ∈ xs → px k = true → Fr g C s₃.heap m₃ → News g C s₃.heap news → m₃ nm = some (.int k t) →
      wpAny (model prog w) A (eval elt (compEnvC scope cl C env)) (fun y s₄ => (∃ u, y = .int (val k) u) ∧ Keeps s₃ s₄) E' s₃)
    (hQ : ∀ D h' tk ys nD, IntsAre ys ((xs.filter px).map val) → Fr g L h' m → News g L h' ((D, lstObj ys nD) :: news) → (∀ q ∈ news, q.1 ≠ D) → Q (.ref D) { s with heap := h', toks := tk }) :
    CompGo prog w A env scope cl nm ifs elt (pxI px) (fun v y => ∃ a t u, v = Value.int a t ∧ y = Value.int (val a) u) Q (.ref s.heap.objs.size) { s with heap := s.heap.push o } := by
  have up : ∀ b o', s.heap.get? b = some o' → (s.heap.push o).get? b = some o' := fun b o' e => Heap.get?_push_of_some _ e
  have hnw : ∀ b o', s.heap.get? b = some o' → b ∉ [s.heap.objs.size] := fun b o' e q => by rw [List.mem_singleton.mp q] at e; exact Nat.lt_irrefl _ (Heap.lt_size e)
  have gsz : ∀ C, (s.heap.push o).objs.size ≤ C → g.objs.size ≤ C := fun C hC => by
    rw [Heap.size_push] at hC
    obtain ⟨oL, hoL, _⟩ := frObj_of F
    exact Nat.le_trans F.above (Nat.le_trans (Nat.le_of_lt (Heap.lt_size hoL)) (Nat.le_of_succ_le hC))
  have ncsz : ∀ C, (s.heap.push o).objs.size ≤ C → ∀ q ∈ news, q.1 ≠ C := fun C hC q hq e => by
    rw [Heap.size_push] at hC
    exact absurd (e ▸ Heap.lt_size (N q hq).1) (Nat.not_lt.mpr (Nat.le_of_succ_le hC))
  refine ⟨_, _, _, _, _, _, rfl, W, by rw [sizeLine_eq]; omega, hst, hfp, ⟨?_, ?_⟩, ?_⟩
  · rintro C i v s₃ m₃ E' hCs hv hns hm hk _
    obtain ⟨k, t, hx, rfl⟩ := hP i v hv
    exact tests C k t s₃ m₃ E' (List.mem_of_getElem? hx) ⟨hns, fun b o e => hk b o (hnw b o (F.keep b o e)) (up b o (F.keep b o e)), gsz C hCs⟩ (fun q hq => ⟨hk _ _ (hnw _ _ (N q hq).1) (up _ _ (N q hq).1), ncsz C hCs q hq, (N q hq).2.2⟩) hm
  · rintro C i v s₃ m₃ E' hCs hv hp hns hm hk _
    obtain ⟨k, t, hx, rfl⟩ := hP i v hv
    refine wpAny_mono (eltW C k t s₃ m₃ E' (List.mem_of_getElem? hx) hp ⟨hns, fun b o e => hk b o (hnw b o (F.keep b o e)) (up b o (F.keep b o e)), gsz C hCs⟩ (fun q hq => ⟨hk _ _ (hnw _ _ (N q hq).1) (up _ _ (N q hq).1), ncsz C hCs q hq, (N q hq).2.2⟩) hm) (fun y s₄ h => ?_) fun _ _ e => e
    obtain ⟨⟨u, rfl⟩, h2⟩ := h
    exact ⟨⟨k, t, u, rfl, rfl⟩, h2⟩
  · intro D h' tk ys vs hD _ hvl hvn hPv hpair hk
    have hi := ints_pair (ints_of_places hP (hvn.trans hn.symm) hPv) hpair
    have kp : ∀ b o', s.heap.get? b = some o' → h'.get? b = some o' := fun b o' e => hk b o' (hnw b o' e) (up b o' e)
    obtain ⟨nD, hln⟩ := hvl
    have hDs : s.heap.get? D = none := by
      cases q : s.heap.get? D with
      | none => rfl
      | some o' => have := up D o' q; rw [hD] at this; cases this
    have ne : ∀ b o', s.heap.get? b = some o' → b ≠ D := fun b o' e q => by rw [q, hDs] at e; cases e
    obtain ⟨oL, hoL, _⟩ := frObj_of F
    refine hQ D h' tk ys.toList nD hi ⟨F.ns.at' fun o' e => kp _ o' e, fun b o' e => kp b o' (F.keep b o' e), F.above⟩ (fun q hq => ?_) fun q hq => ne _ _ (N q hq).1
    rcases List.mem_cons.mp hq with rfl | hq
    · refine ⟨hln, Ne.symm (ne _ _ hoL), ?_⟩
      cases q : g.get? D with
      | none => rfl
      | some o' => exact absurd rfl (ne _ _ (F.keep _ _ q))
    · exact ⟨kp _ _ (N q hq).1, (N q hq).2⟩
theorem comp_srcA (px : Int → Bool) (val : Int → Int) (xs : List Int) {o : Obj} {fp : List Addr} {y : Str} {Qf : Flow → Shared → Prop} {P : Nat → Value → Prop} {St : Nat → Heap → Prop} {n : Nat}
    (W : Walks prog w A s.heap.objs.size fp [s.heap.objs.size] n P St) (hn : xs.length = n) (hP : ∀ i v, P i v → ∃ k t, xs[i]? = some k ∧ v = .int k t) (hst : St 0 (s.heap.push o)) (hfp : ∀ b ∈ fp, b < (s.heap.push o).objs.size) (hlen : n ≤ 1000)
    (F : Fr g env.locals s.heap m) (N : News g env.locals s.heap news)
    (tests : ∀ C k t s₃ m₃ E', k ∈ xs → Fr g C s₃.heap m₃ → News g C s₃.heap news → m₃ nm = some (.int k t) →
      wpAny (model prog w) A (forIn ifs true fun c r => if r = true then do let ok ← isTrue c (compEnvC scope cl C env) (eval c (compEnvC scope cl C env)); pure (ForInStep.yield ok) else pure (ForInStep.yield r))
        (fun ok s₄ => ok = px k ∧ Keeps s₃ s₄) E' s₃)
    (eltW : ∀ C k t s₃ m₃ E', k ∈ xs → px k = true → Fr g C s₃.heap m₃ → News g C s₃.heap news → m₃ nm = some (.int k t) →
      wpAny (model prog w) A (eval elt (compEnvC scope cl C env)) (fun y s₄ => (∃ u, y = .int (val k) u) ∧ Keeps s₃ s₄) E' s₃)
    (hQ : ∀ D h' tk ys nD, IntsAre ys ((xs.filter px).map val) → Fr g env.locals h' (fun z => if z = y then some (.ref D) else m z) → News g env.locals h' ((D, lstObj ys nD) :: news) → (∀ q ∈ news, q.1 ≠ D) → Qf .next { s with heap := h', toks := tk }) :
    CompGoA prog w A env scope cl nm y ifs elt (pxI px) (fun v y => ∃ a t u, v = Value.int a t ∧ y = Value.int (val a) u) Qf (.ref s.heap.objs.size) { s with heap := s.heap.push o } := by
  have up : ∀ b o', s.heap.get? b = some o' → (s.heap.push o).get? b = some o' := fun b o' e => Heap.get?_push_of_some _ e
  have hnw : ∀ b o', s.heap.get? b = some o' → b ∉ [s.heap.objs.size] := fun b o' e q => by rw [List.mem_singleton.mp q] at e; exact Nat.lt_irrefl _ (Heap.lt_size e)
  have gsz : ∀ C, (s.heap.push o).objs.size ≤ C → g.objs.size ≤ C := fun C hC => by
    rw [Heap.size_push] at hC
    obtain ⟨oL, hoL, _⟩ := frObj_of F
    exact Nat.le_trans F.above (Nat.le_trans (Nat.le_of_lt (Heap.lt_size hoL)) (Nat.le_of_succ_le hC))
  have ncsz : ∀ C, (s.heap.push o).objs.size ≤ C → ∀ q ∈ news, q.1 ≠ C := fun C hC q hq e => by
    rw [Heap.size_push] at hC
    exact absurd (e ▸ Heap.lt_size (N q hq).1) (Nat.not_lt.mpr (Nat.le_of_succ_le hC))
  have hLI : env.locals ∉ [s.heap.objs.size] := fun q => absurd F.ns.lt (by rw [List.mem_singleton.mp q]; exact Nat.lt_irrefl _)
  refine ⟨_, _, _, _, _, _, _, rfl, W, by rw [sizeLine_eq]; omega, hst, hfp, hLI, F.ns.at' fun o' e => up _ o' e, ⟨?_, ?_⟩, ?_⟩
  · rintro C i v s₃ m₃ E' hCs hv hns hm hk _
    obtain ⟨k, t, hx, rfl⟩ := hP i v hv
    exact tests C k t s₃ m₃ E' (List.mem_of_getElem? hx) ⟨hns, fun b o e => hk b o (hnw b o (F.keep b o e)) (up b o (F.keep b o e)), gsz C hCs⟩ (fun q hq => ⟨hk _ _ (hnw _ _ (N q hq).1) (up _ _ (N q hq).1), ncsz C hCs q hq, (N q hq).2.2⟩) hm
  · rintro C i v s₃ m₃ E' hCs hv hp hns hm hk _
    obtain ⟨k, t, hx, rfl⟩ := hP i v hv
    refine wpAny_mono (eltW C k t s₃ m₃ E' (List.mem_of_getElem? hx) hp ⟨hns, fun b o e => hk b o (hnw b o (F.keep b o e)) (up b o (F.keep b o e)), gsz C hCs⟩ (fun q hq => ⟨hk _ _ (hnw _ _ (N q hq).1) (up _ _ (N q hq).1), ncsz C hCs q hq, (N q hq).2.2⟩) hm) (fun y s₄ h => ?_) fun _ _ e => e
    obtain ⟨⟨u, rfl⟩, h2⟩ := h
    exact ⟨⟨k, t, u, rfl, rfl⟩, h2⟩
  · intro D h' tk ys vs hD _ hvl hvn hPv hpair hns hk
    have hi := ints_pair (ints_of_places hP (hvn.trans hn.symm) hPv) hpair
    have kp : ∀ b o', b ≠ env.locals → s.heap.get? b = some o' → h'.get? b = some o' := fun b o' hbl e => hk b o' hbl (hnw b o' e) (up b o' e)
    have gl : ∀ b o', g.get? b = some o' → b ≠ env.locals := fun b o' e q => by rw [q, Fr.free F] at e; cases e
    obtain ⟨nD, hln⟩ := hvl
    have hDs : s.heap.get? D = none := by
      cases q : s.heap.get? D with
      | none => rfl
      | some o' => have := up D o' q; rw [hD] at this; cases this
    have ne : ∀ b o', s.heap.get? b = some o' → b ≠ D := fun b o' e q => by rw [q, hDs] at e; cases e
    obtain ⟨oL, hoL, _⟩ := frObj_of F
    refine hQ D h' tk ys.toList nD hi ⟨hns, fun b o' e => kp b o' (gl b o' e) (F.keep b o' e), F.above⟩ (fun q hq => ?_) fun q hq => ne _ _ (N q hq).1
    rcases List.mem_cons.mp hq with rfl | hq
    · refine ⟨hln, Ne.symm (ne _ _ hoL), ?_⟩
      cases q : g.get? D with
      | none => rfl
      | some o' => exact absurd rfl (ne _ _ (F.keep _ _ q))
    · exact ⟨kp _ _ (N q hq).2.1 (N q hq).1, (N q hq).2⟩
theorem walks_bound {I : Addr} {fp wr : List Addr} {n : Nat} {P : Nat → Value → Prop} {St : Nat → Heap → Prop} (W : Walks prog w A I fp wr n P St) : Walks prog w A I fp wr n (fun i v => i < n ∧ P i v) St where
  sub := W.sub
  frame := W.frame
  item := fun i s Q E hi st hQ => W.item i s Q E hi st fun v h' tk hv => hQ v h' tk ⟨hi, hv⟩
  done := W.done
  self := W.self
theorem comp_range (px : Int → Bool) (val : Int → Int) {r : Addr} {b₀ : Int} {t₀ u₀ v₀ : Tok} (n : Nat) (hr : IsRange s.heap r 0 b₀ 1 t₀ u₀ v₀) (hsmall : Builtin.Range.small 0 b₀ 1 = true) (hn : Builtin.Range.rangeSize 0 b₀ 1 = (n : Int)) (hlen : n ≤ 1000) (hh : A.handled = none)
    (F : Fr g L s.heap m) (N : News g L s.heap news)
    (tests : ∀ C k t s₃ m₃ E', k ∈ (List.range n).map Int.ofNat → Fr g C s₃.heap m₃ → News g C s₃.heap news → m₃ nm = some (.int k t) →
      wpAny (model prog w) A (forIn ifs true fun c r => if r = true then do let ok ← isTrue c (compEnvC scope cl C env) (eval c (compEnvC scope cl C env)); pure (ForInStep.yield ok) else pure (ForInStep.yield r))
        (fun ok s₄ => ok = px k ∧ Keeps s₃ s₄) E' s₃)
    (eltW : ∀ C k t s₃ m₃ E', k ∈ (List.range n).map Int.ofNat → px k = true → Fr g C s₃.heap m₃ → News g C s₃.heap news → m₃ nm = some (.int k t) →
      wpAny (model prog w) A (eval elt (compEnvC scope cl C env)) (fun y s₄ => (∃ u, y = .int (val k) u) ∧ Keeps s₃ s₄) E' s₃)
    (hQ : ∀ D h' tk ys nD, IntsAre ys ((((List.range n).map Int.ofNat).filter px).map val) → Fr g L h' m → News g L h' ((D, lstObj ys nD) :: news) → (∀ q ∈ news, q.1 ≠ D) → Q (.ref D) { s with heap := h', toks := tk }) :
    wpAny (model prog w) A (pyIter (.ref r)) (CompGo prog w A env scope cl nm ifs elt (pxI px) (fun v y => ∃ a t u, v = Value.int a t ∧ y = Value.int (val a) u) Q) E s := by
  refine wpAny_pyIter_range hr hsmall ?_
  refine comp_src px val ((List.range n).map Int.ofNat) (walks_bound (Walks.range hh s.heap.objs.size 0 1 n)) (by simp) (fun i v ⟨hi, t, e⟩ => ⟨(i : Int), t, by simp [hi], by rw [e]; congr 1; omega⟩) (by show IsRangeIter _ _ _ _ _; rw [hn]; simpa using Heap.get?_push_size _ rfl) (fun b hb => by rw [List.mem_singleton.mp hb, Heap.size_push]; exact Nat.lt_succ_self _) hlen F N tests eltW hQ
theorem comp_listA {y : Str} {Qf : Flow → Shared → Prop} (px : Int → Bool) (val : Int → Int) {l : Addr} {vs : List Value} {xs : List Int} (hl : s.heap.IsList l vs.toArray) (hi : IntsAre vs xs) (hlen : xs.length ≤ 1000) (hh : A.handled = none)
    (F : Fr g env.locals s.heap m) (N : News g env.locals s.heap news)
    (tests : ∀ C k t s₃ m₃ E', k ∈ xs → Fr g C s₃.heap m₃ → News g C s₃.heap news → m₃ nm = some (.int k t) →
      wpAny (model prog w) A (forIn ifs true fun c r => if r = true then do let ok ← isTrue c (compEnvC scope cl C env) (eval c (compEnvC scope cl C env)); pure (ForInStep.yield ok) else pure (ForInStep.yield r))
        (fun ok s₄ => ok = px k ∧ Keeps s₃ s₄) E' s₃)
    (eltW : ∀ C k t s₃ m₃ E', k ∈ xs → px k = true → Fr g C s₃.heap m₃ → News g C s₃.heap news → m₃ nm = some (.int k t) →
      wpAny (model prog w) A (eval elt (compEnvC scope cl C env)) (fun y s₄ => (∃ u, y = .int (val k) u) ∧ Keeps s₃ s₄) E' s₃)
    (hQ : ∀ D h' tk ys nD, IntsAre ys ((xs.filter px).map val) → Fr g env.locals h' (fun z => if z = y then some (.ref D) else m z) → News g env.locals h' ((D, lstObj ys nD) :: news) → (∀ q ∈ news, q.1 ≠ D) → Qf .next { s with heap := h', toks := tk }) :
    wpAny (model prog w) A (pyIter (.ref l)) (CompGoA prog w A env scope cl nm y ifs elt (pxI px) (fun v y => ∃ a t u, v = Value.int a t ∧ y = Value.int (val a) u) Qf) E s := by
  have hlt : l < s.heap.objs.size := by obtain ⟨_, e, _⟩ := hl; exact Heap.lt_size e
  refine wpAny_pyIter_list hl ?_
  refine comp_srcA px val xs (Walks.list hh s.heap.objs.size l (Nat.ne_of_lt hlt) vs.toArray) (by rw [List.size_toArray]; exact hi.length.symm) (fun i v e => ?_) ⟨⟨_, Heap.get?_push_size _ rfl, rfl, rfl⟩, hl.push _⟩ (fun b hb => ?_) (by rw [List.size_toArray, hi.length]; exact hlen) F N tests eltW hQ
  · obtain ⟨n, t, e1, e2⟩ := hi.at i v (by simpa using e)
    exact ⟨n, t, e2, e1⟩
  · rw [Heap.size_push]
    rcases List.mem_cons.mp hb with rfl | hb
    · exact Nat.lt_succ_self _
    · rw [List.mem_singleton.mp hb]; exact Nat.lt_succ_of_lt hlt
theorem notin_list {l : Addr} {vs : List Value} {xs : List Int} {k : Int} {t : Tok} {Q : Value → Shared → Prop} (hl : s.heap.IsList l vs.toArray) (hi : IntsAre vs xs) (h : Q (.bool (!(xs.any fun m => m == k))) s) : wpAny (model prog w) A (compareOp .NotIn (.int k t) (.ref l)) Q E s := by
  refine SeqInW.notIn_listW (pxI fun m => m == k) (fun y hy => ?_) hl ?_
  · obtain ⟨i, hi'⟩ := List.getElem?_of_mem (show y ∈ vs by simpa using hy)
    obtain ⟨n, t', rfl, _⟩ := hi.at i y hi'
    exact MeetsSeq.EqGives.int n k t' t
  · have e : vs.toArray.any (pxI fun m => m == k) = xs.any fun m => m == k := by
      rw [List.any_toArray]
      clear h hl
      induction hi with
      | nil => rfl
      | cons n t' _ ih => rw [List.any_cons, List.any_cons, ih]; rfl
    rw [e]; exact h
noncomputable def pxI' (kvs : List (Int × Value)) (k : Int) : Bool := !((kvs.map (·.1)).any fun m => m == k)
noncomputable def pxU (kvs : List (Int × Value)) (k : Int) : Bool := !(kvs.any fun x => vOf x.2 == k)
end
end
section -- B15
theorem list_at {h₀ h : Heap} {L a : Addr} {news : List (Addr × Obj)} {its : Array Value} {n : Nat} (N : News h₀ L h news) (hm : (a, PySem.W.listOf its n) ∈ news) : h.IsList a its := ⟨_, (N _ hm).1, rfl, _, rfl⟩
noncomputable def roundOf (many fo : Int) : List Int := ((List.range many.toNat).map Int.ofNat).map fun a => 30 + (fo - 30 + a).fmod many
theorem roundOf_len {many fo : Int} (h : many ≤ 4) : (roundOf many fo).length ≤ 1000 := by
  unfold roundOf; rw [List.length_map, List.length_map, List.length_range]; omega
noncomputable def freeOf (many fo : Int) (kvs : List (Int × Value)) : List Int := (roundOf many fo).filter (pxI' kvs)
noncomputable def goodOf (many fo : Int) (kvs kvsU : List (Int × Value)) : List Int := (freeOf many fo kvs).filter (pxU kvsU)
theorem freeOf_len {many fo : Int} {kvs : List (Int × Value)} (h : many ≤ 4) : (freeOf many fo kvs).length ≤ 1000 := Nat.le_trans (List.length_filter_le _ _) (roundOf_len h)
theorem ints_round {ys : List Value} {many fo : Int} (h : IntsAre ys (((((List.range many.toNat).map Int.ofNat).filter fun _ => true)).map fun a => 30 + (fo - 30 + a).fmod many)) : IntsAre ys (roundOf many fo) := by
  rw [List.filter_eq_self.mpr fun _ _ => rfl] at h
  exact h
section
variable {prog : Program} {w : World} {A : Around} {E : Value → Shared → Prop} {s : Shared} {h₀ : Heap} {L d v : Addr} {m : Str → Option Value} {news : List (Addr × Obj)} {o : Obj} {kvs : List (Int × Value)}
noncomputable abbrev viewObj (d : Addr) : Obj := { cls := .type "dict_values", data := .fields #[.ref d] }
theorem values_call {Q : Value → Shared → Prop} (F : Fr h₀ L s.heap m) (N : News h₀ L s.heap news) (hm : (d, o) ∈ news) (hd : o.IsDictOf (PySem.intKind prog w) kvs) (hsm : (d == sysModules) = false)
    (h : ∀ V h', (∀ b x, s.heap.get? b = some x → h'.get? b = some x) → Fr h₀ L h' m → News h₀ L h' ((V, viewObj d) :: news) → Q (.ref V) { s with heap := h' }) :
    wpAny (model prog w) A (call (.builtin "dict.values") [.ref d]) Q E s := by
  have hD := kda_dict N hm hd
  refine call_meetsIn PySem.F.slot_dict_values hD.typeIs PySem.F.entry_dict_values (PySem.F.args_dict_values_1 _) (meets_dict_values (PySem.intKind prog w) d hsm) ⟨⟨kvs, hD⟩, ?_⟩
  exact h _ _ (fun b x e => Heap.get?_push_of_some _ e) (F.push _) (N.push F _)
theorem notin_vals {k : Int} {t : Tok} {Q : Value → Shared → Prop} (hh : A.handled = none) (F : Fr h₀ L s.heap m) (N : News h₀ L s.heap news) (hV : (v, viewObj d) ∈ news) (hm : (d, o) ∈ news) (hd : o.IsDictOf (PySem.intKind prog w) kvs) (hvs : ∀ x ∈ kvs, ∃ n t, x.2 = .int n t)
    (h : ∀ h' tk, (∀ b x, s.heap.get? b = some x → h'.get? b = some x) → Fr h₀ L h' m → News h₀ L h' news → Q (.bool (pxU kvs k)) { s with heap := h', toks := tk }) :
    wpAny (model prog w) A (compareOp .NotIn (.int k t) (.ref v)) Q E s :=
  notin_values hh ⟨_, (N _ hV).1, rfl, rfl⟩ (kda_dict N hm hd) hvs fun h' tk hk => h h' tk hk (F.keeps hk) (N.grown hk)
end
end
section -- L1
theorem scan_congr {f l : Int} {T T' : Int → Bool} (h : ∀ n, f ≤ n → n ≤ l → T n = T' n) : ∀ (k : Nat) (fo : Int), f ≤ fo → fo ≤ l → scan f l T k fo = scan f l T' k fo
  | 0, _, _, _ => rfl
  | k + 1, fo, h1, h2 => by
    unfold scan
    rw [h fo h1 h2, scan_congr h k _ (beh_range h1 h2).1 (beh_range h1 h2).2]
theorem ownScan_congr {f l : Int} {T T' U U' : Int → Bool} (h : ∀ n, f ≤ n → n ≤ l → T n = T' n) (h' : ∀ n, f ≤ n → n ≤ l → U n = U' n) : ∀ (k : Nat) (fo : Int), f ≤ fo → fo ≤ l → ownScan f l T U k fo = ownScan f l T' U' k fo
  | 0, _, _, _ => rfl
  | k + 1, fo, h1, h2 => by
    unfold ownScan
    rw [← scan_congr h _ _ h1 h2]
    cases q : scan f l T (l - f + 1).toNat fo with
    | none => rfl
    | some r =>
      obtain ⟨n, fo'⟩ := r
      have hr := scan_range h1 h2 q
      dsimp only
      rw [h' n hr.1 hr.2.1, ownScan_congr h h' k _ hr.2.2.1 hr.2.2.2.1]
noncomputable def tf (a b c d : Bool) (n : Int) : Bool := if n = 30 then a else if n = 31 then b else if n = 32 then c else d
theorem tf_eq (T : Int → Bool) {n : Int} (h1 : 30 ≤ n) (h2 : n ≤ 33) : T n = tf (T 30) (T 31) (T 32) (T 33) n := by
  have : n = 30 ∨ n = 31 ∨ n = 32 ∨ n = 33 := by omega
  rcases this with rfl | rfl | rfl | rfl <;> rfl
noncomputable def lastOf (many fo : Int) (fr : List Int) : Int := if fr = [] then fo else 30 + (fr.getD ((many - 1).fmod fr.length).toNat 0 - 29).fmod many
noncomputable def chkOne (many fo : Int) (T U : Int → Bool) : Bool :=
  match ((roundOf many fo).filter fun k => !T k).filter fun k => !U k with
  | [] => decide (ownScan 30 (29 + many) T U many.toNat fo = (none, lastOf many fo ((roundOf many fo).filter fun k => !T k))) && decide (30 ≤ lastOf many fo ((roundOf many fo).filter fun k => !T k)) && decide (lastOf many fo ((roundOf many fo).filter fun k => !T k) ≤ 29 + many)
  | g0 :: _ => decide (ownScan 30 (29 + many) T U many.toNat fo = (some g0, 30 + (g0 - 29).fmod many)) && !T g0 && decide (30 ≤ g0) && decide (g0 ≤ 29 + many) && decide (30 ≤ 30 + (g0 - 29).fmod many) && decide (30 + (g0 - 29).fmod many ≤ 29 + many)
noncomputable def bs : List Bool := [true, false]
noncomputable def chk (many fo : Int) : Bool := bs.all fun a => bs.all fun b => bs.all fun c => bs.all fun d => bs.all fun a' => bs.all fun b' => bs.all fun c' => bs.all fun d' => chkOne many fo (tf a b c d) (tf a' b' c' d')
theorem mem_bs (b : Bool) : b ∈ bs := by cases b <;> decide
theorem chk11 : chk 1 30 = true := by decide +kernel
theorem chk21 : chk 2 30 = true := by decide +kernel
theorem chk22 : chk 2 31 = true := by decide +kernel
theorem chk31 : chk 3 30 = true := by decide +kernel
theorem chk32 : chk 3 31 = true := by decide +kernel
theorem chk33 : chk 3 32 = true := by decide +kernel
theorem chk41 : chk 4 30 = true := by decide +kernel
theorem chk42 : chk 4 31 = true := by decide +kernel
theorem chk43 : chk 4 32 = true := by decide +kernel
theorem chk44 : chk 4 33 = true := by decide +kernel
theorem chk_all {many fo : Int} (h1 : 1 ≤ many) (h2 : many ≤ 4) (h3 : 30 ≤ fo) (h4 : fo ≤ 29 + many) : chk many fo = true := by
  have hm : many = 1 ∨ many = 2 ∨ many = 3 ∨ many = 4 := by clear h3 h4; omega
  rcases hm with rfl | rfl | rfl | rfl
  · obtain rfl : fo = 30 := Int.le_antisymm h4 h3
    exact chk11
  · have h5 : fo = 30 ∨ fo = 31 := by clear h1 h2; omega
    rcases h5 with rfl | rfl
    · exact chk21
    · exact chk22
  · have h5 : fo = 30 ∨ fo = 31 ∨ fo = 32 := by clear h1 h2; omega
    rcases h5 with rfl | rfl | rfl
    · exact chk31
    · exact chk32
    · exact chk33
  · have h5 : fo = 30 ∨ fo = 31 ∨ fo = 32 ∨ fo = 33 := by clear h1 h2; omega
    rcases h5 with rfl | rfl | rfl | rfl
    · exact chk41
    · exact chk42
    · exact chk43
    · exact chk44
theorem round_range {many fo n : Int} (h1 : 1 ≤ many) (h : n ∈ roundOf many fo) : 30 ≤ n ∧ n ≤ 29 + many := by
  obtain ⟨a, _, rfl⟩ := List.mem_map.mp h
  have := take_mod (a := fo - 30 + a) (b := many) (by omega)
  omega
theorem chkOne_all {many fo : Int} {T U : Int → Bool} (h1 : 1 ≤ many) (h2 : many ≤ 4) (h3 : 30 ≤ fo) (h4 : fo ≤ 29 + many) : chkOne many fo T U = true := by
  have c := chk_all h1 h2 h3 h4
  have all : ∀ (p : Bool → Bool) (b : Bool), bs.all p = true → p b = true := fun p b h => List.all_eq_true.mp h b (mem_bs b)
  have c := all _ (T 30) c
  have c := all _ (T 31) c
  have c := all _ (T 32) c
  have c := all _ (T 33) c
  have c := all _ (U 30) c
  have c := all _ (U 31) c
  have c := all _ (U 32) c
  have c := all _ (U 33) c
  have hT : ∀ n, 30 ≤ n → n ≤ 29 + many → T n = tf (T 30) (T 31) (T 32) (T 33) n := fun n a b => tf_eq T a (by omega)
  have hU : ∀ n, 30 ≤ n → n ≤ 29 + many → U n = tf (U 30) (U 31) (U 32) (U 33) n := fun n a b => tf_eq U a (by omega)
  have e1 : ((roundOf many fo).filter fun k => !T k) = (roundOf many fo).filter fun k => !tf (T 30) (T 31) (T 32) (T 33) k := List.filter_congr fun n hn => by rw [hT n (round_range h1 hn).1 (round_range h1 hn).2]
  have e2 : (((roundOf many fo).filter fun k => !T k).filter fun k => !U k) = ((roundOf many fo).filter fun k => !tf (T 30) (T 31) (T 32) (T 33) k).filter fun k => !tf (U 30) (U 31) (U 32) (U 33) k := by
    rw [e1]
    exact List.filter_congr fun n hn => by have hn := (List.mem_filter.mp hn).1; rw [hU n (round_range h1 hn).1 (round_range h1 hn).2]
  have e3 := ownScan_congr hT hU many.toNat fo h3 h4
  unfold chkOne at c ⊢
  rw [e2, e1, e3]
  cases q : ((roundOf many fo).filter fun k => !tf (T 30) (T 31) (T 32) (T 33) k).filter fun k => !tf (U 30) (U 31) (U 32) (U 33) k with
  | nil => rw [q] at c; exact c
  | cons g0 r =>
    rw [q] at c
    have hg : g0 ∈ roundOf many fo := (List.mem_filter.mp (List.mem_filter.mp (q ▸ List.mem_cons_self : g0 ∈ _)).1).1
    dsimp only at c ⊢
    rw [hT g0 (round_range h1 hg).1 (round_range h1 hg).2]
    exact c
theorem own_good {many fo : Int} {T U : Int → Bool} {g0 : Int} {gr : List Int} (h1 : 1 ≤ many) (h2 : many ≤ 4) (h3 : 30 ≤ fo) (h4 : fo ≤ 29 + many) (hg : (((roundOf many fo).filter fun k => !T k).filter fun k => !U k) = g0 :: gr) :
    ownScan 30 (29 + many) T U many.toNat fo = (some g0, 30 + (g0 - 29).fmod many) ∧ T g0 = false ∧ 30 ≤ g0 ∧ g0 ≤ 29 + many ∧ 30 ≤ 30 + (g0 - 29).fmod many ∧ 30 + (g0 - 29).fmod many ≤ 29 + many := by
  have c := chkOne_all (T := T) (U := U) h1 h2 h3 h4
  unfold chkOne at c
  rw [hg] at c
  simp only [Bool.and_eq_true, decide_eq_true_eq, Bool.not_eq_true'] at c
  obtain ⟨⟨⟨⟨⟨a, b⟩, c⟩, d⟩, e⟩, f⟩ := c
  exact ⟨a, b, c, d, e, f⟩
theorem own_none {many fo : Int} {T U : Int → Bool} (h1 : 1 ≤ many) (h2 : many ≤ 4) (h3 : 30 ≤ fo) (h4 : fo ≤ 29 + many) (hg : (((roundOf many fo).filter fun k => !T k).filter fun k => !U k) = []) :
    ownScan 30 (29 + many) T U many.toNat fo = (none, lastOf many fo ((roundOf many fo).filter fun k => !T k)) ∧ 30 ≤ lastOf many fo ((roundOf many fo).filter fun k => !T k) ∧ lastOf many fo ((roundOf many fo).filter fun k => !T k) ≤ 29 + many := by
  have c := chkOne_all (T := T) (U := U) h1 h2 h3 h4
  unfold chkOne at c
  rw [hg] at c
  simp only [Bool.and_eq_true, decide_eq_true_eq] at c
  exact ⟨c.1.1, c.1.2, c.2⟩
end
section -- B16
noncomputable def TupO (o : Obj) : Prop := o.cls = .type "tuple" ∧ ∃ its n, o.data = .seq its n
section
variable {prog : Program} {w : World} {K : Type} [DecidableEq K]
noncomputable def TupKnd2 (knd : HeapKind prog w K) : Prop := ∀ h h' : Heap, (∀ b o, h.get? b = some o → TupO o → h'.get? b = some o) → ∀ k a, knd.is h k a → knd.is h' k a
theorem tupKnd2_t : TupKnd2 (tupleKind (intKind prog w)) := fun h h' k x a ⟨o, items, n, ho, hc, hd, r⟩ => ⟨o, items, n, k a o ho ⟨hc, _, _, hd⟩, hc, hd, r⟩
theorem itemsH_go2 {h h' : Heap} (k : ∀ b o, h.get? b = some o → TupO o → h'.get? b = some o) {x : List (List Int)} {vs : List Value} (hi : ItemsH (tupleKind (intKind prog w)) h x vs) : ItemsH (tupleKind (intKind prog w)) h' x vs := by
  induction hi with
  | nil => exact .nil
  | cons h1 _ ih => exact .cons (tupKnd2_t h h' k _ _ h1) ih
theorem tupKnd2_tt : TupKnd2 (ttKind prog w) := fun _ _ k _ a ⟨o, items, n, ho, hc, hd, hi⟩ => ⟨o, items, n, k a o ho ⟨hc, _, _, hd⟩, hc, hd, itemsH_go2 k hi⟩
theorem DO.ofF {knd : HeapKind prog w K} (T : TupKnd2 knd) {h₀ s g : Heap} {outer : List Env} {news : List (Addr × Obj)} {d : Addr} {o : Obj} {xs : List (K × Addr × Value)} (hm : s.DictOfH knd d xs) (GK : Kp (news.map Prod.fst ++ frs outer) [] s g) (C : Cx h₀ outer s) (O : Own h₀ outer s news)
    (hn : ∀ q ∈ news, q.2.cls ≠ .type "tuple") (hd : (d, o) ∈ news) : DO knd g o xs := by
  obtain ⟨o', es, ep, ho, hc, hda, he, his, hn'⟩ := hm
  obtain rfl : o' = o := Option.some.inj (ho.symm.trans (O _ hd).1)
  refine ⟨fun h st x hx => T s h (fun b ob e' ht => st _ _ (GK.at e' fun q => ?_)) _ _ (his x hx), ⟨es, ep, hc, hda, he⟩, hn'⟩
  rcases List.mem_append.mp q with q | q
  · obtain ⟨r, hr, rfl⟩ := List.mem_map.mp q
    obtain rfl : r.2 = ob := Option.some.inj ((O r hr).1.symm.trans e')
    exact hn r hr ht.1
  · obtain ⟨of, hf, _, es', ep', hfd⟩ := C.fp.mem q
    obtain rfl : of = ob := Option.some.inj (hf.symm.trans e')
    obtain ⟨_, its, n, hsd⟩ := ht
    rw [hfd] at hsd; cases hsd
end
/-- no code object -/
noncomputable def NoCode (o : Obj) : Prop := ∀ vs (q : Str) t, o.data = .fields vs → vs[1]? ≠ some (.str q t)
theorem noCode_plain {C d : Addr} : NoCode (instObj C d) := fun _ _ _ h => by cases h
theorem noCode_dict {es : List DictEntry} {n : Nat} : NoCode (dictOf es n) := fun _ _ _ h => by cases h
theorem noCode_list {its : Array Value} {n : Nat} : NoCode (PySem.W.listOf its n) := fun _ _ _ h => by cases h
theorem noCode_isDict {prog : Program} {w : World} {K : Type} [DecidableEq K] {knd : KeyKind prog w K} {o : Obj} {kvs : List (K × Value)} (h : o.IsDictOf knd kvs) : NoCode o := fun vs q t hv => by
  obtain ⟨es, ep, _, hd, _⟩ := h
  rw [hd] at hv; cases hv
theorem noCode_DO {prog : Program} {w : World} {K : Type} [DecidableEq K] {knd : HeapKind prog w K} {g : Heap} {o : Obj} {xs : List (K × Addr × Value)} (h : DO knd g o xs) : NoCode o := fun vs q t hv => by
  obtain ⟨es, ep, _, hd, _⟩ := h.obj
  rw [hd] at hv; cases hv
theorem codeRec_base {h₀ s g : Heap} {outer : List Env} {news : List (Addr × Obj)} {v : Value} {q : Str} (hm : s.CodeRec v q) (GK : Kp (news.map Prod.fst ++ frs outer) [] s g) (C : Cx h₀ outer s) (O : Own h₀ outer s news) (hn : ∀ q ∈ news, NoCode q.2) : g.CodeRec v q := by
  obtain ⟨c, oc, vs, t, hc, hoc, hd, hq⟩ := hm
  refine ⟨c, oc, vs, t, hc, GK.at hoc fun z => ?_, hd, hq⟩
  rcases List.mem_append.mp z with z | z
  · obtain ⟨r, hr, rfl⟩ := List.mem_map.mp z
    obtain rfl : r.2 = oc := Option.some.inj ((O r hr).1.symm.trans hoc)
    exact hn r hr vs _ t hd hq
  · obtain ⟨of, hf, _, es', ep', hfd⟩ := C.fp.mem z
    obtain rfl : of = oc := Option.some.inj (hf.symm.trans hoc)
    rw [hfd] at hd; cases hd
section
variable {prog : Program} {w : World} {A : Around} {s : Shared} {h₀ : Heap} {mg mb : Str → Option Value} {news : List (Addr × Obj)} {K : Frag} {p : Program} {loose : List Str} {mean : ExcName → Option Value} {outer : List Env}
  {R : Result → Shared → Prop} {name qual : Str} {params : Arguments} {body : Expr} {scope : Scope} {pm ctv : Value} {c' f : Addr} {clos : List (Str × Addr)} {args : Args} {binds : List (Str × Value)}
theorem enterL (X₀ : K.In h₀) (T₀ : Top p loose mean mg mb h₀) (C : Cx h₀ outer s.heap) (hn : Own h₀ outer s.heap news)
    (ho : s.heap.get? f = some (kla_obj name qual params body scope clos pm c' ctv)) (hcd : s.heap.CodeRec (.ref c') qual) (hroom : A.depth < recursionLimit)
    (hbind : bindArgs (kla_fn name qual params body scope clos pm (.ref c') ctv) args = pure binds) (hloc : ∀ y ∈ binds, scope.names.lookup y.1 = some .local)
    (h : ∀ g L' h₁, K.In g → Top p loose mean mg mb g → Cx h₀ outer g → Kp (news.map Prod.fst) [] s.heap g → (∀ b o, g.get? b = some o → s.heap.get? b = some o) → Fr g L' h₁ (fun y => binds.reverse.lookup y) → News g L' h₁ news → (∀ q ∈ news, q.1 < L') →
      wpAny (model prog w) (A.deeper (envX qual scope L' f (.ref c') clos)) (eval body (envX qual scope L' f (.ref c') clos))
        (fun v s' => LeaveR R v s')
        (fun e s' => wpAny (model prog w) (A.deeper (envX qual scope L' f (.ref c') clos)) (leaving (envX qual scope L' f (.ref c') clos) e) (fun _ s'' => R (.error e) s'') (fun e' s'' => R (.error e') s'') s')
        { s with heap := h₁, toks := s.toks + binds.length })
    (hco : scope.isCoroutine = false) (hgen : scope.isGenerator = false) (hk : scope.kind = .function)
    (hcell : ∀ x ∈ scope.names, x.2 ≠ .cell) : codeAny (model prog w) A (.call (.ref f) args) R s := by
  have hM : ∀ b o, h₀.get? b = some o → b ∉ news.map Prod.fst := fun b o e q => by
    obtain ⟨r, hr, rfl⟩ := List.mem_map.mp q
    rw [(hn r hr).2.1] at e; cases e
  have sg : h₀.StaysIn (hideAll s.heap (news.map Prod.fst)) := fun b o e => hideAll_get _ (C.st b o e) (hM b o e)
  refine kla_callFunE hroom ho rfl hco hgen rfl hcd ?_
  rw [hbind]
  refine wpAny_pure (wpAny_newFunctionEnv hcell hloc (fun h₁ hns hsb => ⟨((T₀.nolimit).keeps C.st).fresh _ hsb, ?_⟩) hk)
  show codeAny _ _ (.expr body (envX qual scope s.heap.objs.size f (.ref c') clos)) _ _
  have hk₁ : ∀ b o, s.heap.get? b = some o → h₁.get? b = some o := fun b o e => hsb.extBut b o (Nat.ne_of_lt (Heap.lt_size e)) (Heap.get?_push_of_some _ e)
  refine kla_codeExpr (wpAny_mono (h (hideAll s.heap (news.map Prod.fst)) s.heap.objs.size h₁ (X₀.keeps sg) (T₀.keeps sg) ⟨sg, fun env he => ?_⟩ (Kp.of fun b o e hb => hideAll_get _ e hb) (fun b o e => of_hideAll _ e)
    ⟨hns, fun b o e => hk₁ b o (of_hideAll _ e), Nat.le_of_eq (hideAll_size _ _)⟩ (fun q hq => ⟨hk₁ _ _ (hn q hq).1, Nat.ne_of_lt (Heap.lt_size (hn q hq).1), hideAll_none _ (List.mem_map_of_mem hq)⟩) fun q hq => Heap.lt_size (hn q hq).1) (fun _ _ y => y) fun _ _ y => y)
  obtain ⟨a, L, o, hf, ho', r⟩ := C.fp env he
  refine ⟨a, L, o, hf, hideAll_get _ ho' fun q => ?_, r⟩
  obtain ⟨t, ht, rfl⟩ := List.mem_map.mp q
  exact (hn t ht).2.2 (List.mem_filterMap.mpr ⟨env, he, hf⟩)
end
theorem free_eq (many fo : Int) (kvs : List (Int × Value)) : freeOf many fo kvs = (roundOf many fo).filter fun k => !(valueAt kvs k).isSome := List.filter_congr fun k _ => by
  unfold pxI'
  rw [valueAt_isSome_eq_any, List.any_map]
  congr 1
theorem good_eq {many fo : Int} {kvs kvsU : List (Int × Value)} {U : Int → Bool} (hU : ∀ n, U n = kvsU.any fun x => vOf x.2 == n) : goodOf many fo kvs kvsU = ((roundOf many fo).filter fun k => !(valueAt kvs k).isSome).filter fun k => !U k := by
  unfold goodOf
  rw [free_eq]
  exact List.filter_congr fun k _ => by unfold pxU; rw [hU]
end
section -- B17
/-- the table of a maker's code: empty, or the one lambda's code at pos -/
noncomputable def PsOk (pos : Pos) (qual : Str) (ps : Array Value) (h : Heap) : Prop := ps = #[] ∨ ∃ c', ps = #[rawInt pos.line, rawInt pos.col, .ref c'] ∧ h.CodeRec (.ref c') qual
section
variable {pos : Pos} {qual : Str} {ps : Array Value} {h₀ s g h h' : Heap} {outer : List Env} {news fr : List (Addr × Obj)} {L : Addr} {m : Str → Option Value}
theorem PsOk.code (hps : PsOk pos qual ps h) : NoCode (tabObj ps) := fun vs q t e he => by
  have e2 : ps = vs := by injection e
  subst e2
  rcases hps with rfl | ⟨c', rfl, _⟩
  · cases he
  · cases he
theorem PsOk.base (hps : PsOk pos qual ps s) (GK : Kp (news.map Prod.fst ++ frs outer) [] s g) (C : Cx h₀ outer s) (O : Own h₀ outer s news) (hn : ∀ q ∈ news, NoCode q.2) : PsOk pos qual ps g :=
  hps.imp id fun ⟨c', a, b⟩ => ⟨c', a, codeRec_base b GK C O hn⟩
theorem PsOk.up (hps : PsOk pos qual ps g) (k : ∀ b o, g.get? b = some o → h.get? b = some o) : PsOk pos qual ps h :=
  hps.imp id fun ⟨c', a, c, oc, vs, t, e, hc, r⟩ => ⟨c', a, c, oc, vs, t, e, k _ _ hc, r⟩
theorem FrL.lt (P : FrL s h₀ g outer fr) (hl : ∀ q ∈ fr, q.1 < L) : ∀ b ∈ frs outer, @LT.lt Nat _ b L := fun b hb => by
  obtain ⟨env, he, hf⟩ := List.mem_filterMap.mp hb
  obtain ⟨_, L', o, hf', hm', _⟩ := P.fi env he
  obtain rfl : L' = b := by rw [hf'] at hf; exact Option.some.inj hf
  exact hl _ hm'
theorem off_lt {b : Nat} (hfl : ∀ b ∈ frs outer, @LT.lt Nat _ b L) (hb : @LE.le Nat _ L b) : b ∉ frs outer := fun z => Nat.lt_irrefl _ (Nat.lt_of_lt_of_le (hfl b z) hb)
end
section
variable {M : Model} {A : Around} {E : Value → Shared → Prop} {s : Shared} {g : Heap} {L a c P : Addr} {m mg mb : Str → Option Value} {cn : Str} {cs : Scope} {ccd : Value} {cl : List (Str × Addr)} {news : List (Addr × Obj)} {ng : Obj → List (Addr × Obj)}
  {p : Program} {loose : List Str} {mean : ExcName → Option Value} {params : Arguments} {body : Expr} {scope : Scope} {ps : Array Value} {pos : Pos} {clos : List (Str × Addr)} {qual : Str}
theorem trip_one (pos : Pos) (v : Value) : TriplesOk (#[rawInt pos.line, rawInt pos.col, v] : Array Value).toList := trivial
theorem among_one (pos : Pos) (v : Value) : codeAmong pos (#[rawInt pos.line, rawInt pos.col, v] : Array Value).toList = some v := by
  show (if ((pos.line : Int) == pos.line && (pos.col : Int) == pos.col) = true then some v else _) = some v
  rw [if_pos (by simp)]
/-- a lambda is made -/
theorem lam_mk {Q : Value → Shared → Prop} (F : Fr g L s.heap m) (N : News g L s.heap news) (T : Top p loose mean mg mb g) (C : CodeHd g c P) (hcd : ccd = .ref c) (U : UpdF P (tabObj ps) news ng) (hps : PsOk pos qual ps g)
    (hq : qual = (envX cn cs L a ccd cl).qual ++ "<lambda>") (hdef : defaultsOf params (envX cn cs L a ccd cl) = ([], [])) (hcl : closureFor scope (envX cn cs L a ccd cl) = pure clos)
    (h1 : ∀ f c' oc vs t ctv h' tk, Fr g L h' m → News g L h' ((f, kla_obj "<lambda>" qual params body scope clos ((mg "__name__").getD .none) c' ctv) :: (c', oc) :: ng (tabObj #[rawInt pos.line, rawInt pos.col, .ref c'])) →
      oc.data = .fields vs → vs[1]? = some (.str qual t) → (∀ q ∈ news, q.1 < c') → @LT.lt Nat _ c' f → Q (.ref f) { s with heap := h', toks := tk })
    (h2 : ∀ f c' ctv h' tk, Fr g L h' m → News g L h' ((f, kla_obj "<lambda>" qual params body scope clos ((mg "__name__").getD .none) c' ctv) :: news) → ps = #[rawInt pos.line, rawInt pos.col, .ref c'] → g.CodeRec (.ref c') qual → (∀ q ∈ news, q.1 < f) → Q (.ref f) { s with heap := h', toks := tk }) :
    wpAny M A (eval (.Lambda params body scope pos) (envX cn cs L a ccd cl)) Q E s := by
  subst hq
  refine kla_eval hdef ?_
  rcases hps with rfl | ⟨c', rfl, hc⟩
  · refine kla_nest F N T C hcd U trivial rfl hcl fun f c' oc vs t ctv h' tk F' N' d1 d2 l1 l2 => h1 f c' oc vs t ctv h' tk F' ?_ d1 d2 l1 l2
    simpa using N'
  · refine kla_hit (c' := c') (ps := #[rawInt pos.line, rawInt pos.col, .ref c']) F N T C hcd ?_ (trip_one pos _) (among_one pos _) hcl fun f ctv h' tk F' N' l1 => h2 f c' ctv h' tk F' N' rfl hc l1
    obtain ⟨pre, post, rfl, _⟩ := U.split
    simp
end
end
section -- B18
theorem noTup {o : Obj} (h : o.cls ≠ .type "tuple") : ¬ TupO o := fun x => h x.1
theorem noTup_cell {o : Obj} {v : Option Value} (h : o.data = .cell v) : ¬ TupO o := fun ⟨_, _, _, q⟩ => by rw [h] at q; cases q
section
variable {prog : Program} {w : World} {K : Type} [DecidableEq K]
theorem dictOfH_go2 {knd : HeapKind prog w K} (T : TupKnd2 knd) {h h' : Heap} {d : Addr} {xs : List (K × Addr × Value)} (hm : h.DictOfH knd d xs) (k : ∀ b o, h.get? b = some o → (TupO o ∨ b = d) → h'.get? b = some o) : h'.DictOfH knd d xs := by
  obtain ⟨o, es, ep, ho, hc, hd, he, his, hn⟩ := hm
  exact ⟨o, es, ep, k d o ho (.inr rfl), hc, hd, he, fun x hx => T h h' (fun b o e c => k b o e (.inl c)) _ _ (his x hx), hn⟩
theorem dictOfH_base2 {knd : HeapKind prog w K} (T : TupKnd2 knd) {h₀ s g : Heap} {l : List Env} {news : List (Addr × Obj)} {d : Addr} {xs : List (K × Addr × Value)} (hm : s.DictOfH knd d xs) (GK : Kp (news.map Prod.fst) [] s g) (O : Own h₀ l s news)
    (hn : ∀ q ∈ news, ¬ TupO q.2) (hd : ∀ q ∈ news, q.1 ≠ d) : g.DictOfH knd d xs :=
  dictOfH_go2 T hm fun b o e hb => GK.at e fun q => by
    obtain ⟨r, hr, rfl⟩ := List.mem_map.mp q
    rcases hb with hb | hb
    · obtain rfl : r.2 = o := Option.some.inj ((O r hr).1.symm.trans e)
      exact hn r hr hb
    · exact hd r hr hb
end
theorem fr_ne {s h₀ g : Heap} {outer : List Env} {fr : List (Addr × Obj)} {d : Addr} (P : FrL s h₀ g outer fr) (hd : d ∉ frs outer) : ∀ p ∈ fr, p.1 ≠ d := fun p hp e => hd (e ▸ P.ad p hp)
end
section -- B19
theorem Own.under {h₀ s h₁ : Heap} {l : List Env} {news : List (Addr × Obj)} {cn : Str} {cs : Scope} {L a : Addr} {ccd : Value} {cl : List (Str × Addr)} (O : Own h₀ l s news) (up : ∀ b o, s.get? b = some o → h₁.get? b = some o) (hL : s.get? L = none) : Own h₀ (envX cn cs L a ccd cl :: l) h₁ news := fun q hq => by
  obtain ⟨a, b, c⟩ := O q hq
  refine ⟨up _ _ a, b, fun z => ?_⟩
  rcases (frs_cons _).mp z with z | z
  · rw [z, hL] at a; cases a
  · exact c z
theorem codeRec_up {s h₁ : Heap} {v : Value} {q : Str} (h : s.CodeRec v q) (up : ∀ b o, s.get? b = some o → h₁.get? b = some o) : h₁.CodeRec v q :=
  let ⟨c, oc, vs, t, e, hc, r⟩ := h; ⟨c, oc, vs, t, e, up _ _ hc, r⟩
theorem live_of {h : Heap} {a : Addr} {o : Obj} (e : h.get? a = some o) : h.get? a ≠ none := by rw [e]; exact fun q => nomatch q
theorem own_eq {X : Option Int × Int} {g n b fo' : Int} (a : (some g, b) = X) (h : X = (some n, fo')) : g = n ∧ b = fo' := by
  rw [← a] at h; simp only [Prod.mk.injEq, Option.some.injEq] at h; exact h
theorem own_eq0 {X : Option Int × Int} {b fo' : Int} (a : (none, b) = X) (h : X = (none, fo')) : b = fo' := by
  rw [← a] at h; simp only [Prod.mk.injEq, true_and] at h; exact h
theorem lst_push {vs : List Value} {v : Value} {n : Nat} : PySem.W.listOf (vs ++ [v]).toArray n = PySem.W.listOf (vs.toArray.push v) n := by simp
theorem ints_snoc {vs : List Value} {ns : List Int} {n : Int} {t : Tok} (h : IntsAre vs ns) : IntsAre (vs ++ [.int n t]) (ns ++ [n]) := by
  induction h with
  | nil => exact .cons _ _ .nil
  | cons a b _ ih => exact .cons _ _ ih
end
section -- B20
/-- a ledger whose tail is the frames above -/
inductive TailF (outer : List Env) (fr : List (Addr × Obj)) : List (Addr × Obj) → (List (Addr × Obj) → List (Addr × Obj)) → Prop
  | nil : TailF outer fr fr (fun r => r)
  | cons {p l g} : p.1 ∉ frs outer → TailF outer fr l g → TailF outer fr (p :: l) (fun r => p :: g r)
theorem TailF.split {outer : List Env} {fr : List (Addr × Obj)} : ∀ {l : List (Addr × Obj)} {g : List (Addr × Obj) → List (Addr × Obj)}, TailF outer fr l g → ∃ pre, l = pre ++ fr ∧ (∀ r, g r = pre ++ r) ∧ ∀ q ∈ pre, q.1 ∉ frs outer
  | _, _, .nil => ⟨[], rfl, fun _ => rfl, fun _ h => nomatch h⟩
  | _, _, .cons (p := p) h t => by
    obtain ⟨pre, e1, e2, e3⟩ := t.split
    refine ⟨p :: pre, by rw [e1]; rfl, fun r => congrArg (p :: ·) (e2 r), fun q hq => ?_⟩
    rcases List.mem_cons.mp hq with rfl | hq
    · exact h
    · exact e3 q hq
section
variable {s h₀ g h h' : Heap} {L : Addr} {m : Str → Option Value} {news fr : List (Addr × Obj)} {outer : List Env} {cn : Str} {cs : Scope} {a : Addr} {ccd : Value} {cl : List (Str × Addr)}
theorem catch0 {n₃ : List (Addr × Obj) → List (Addr × Obj)} (P : FrL s h₀ g outer fr) (F : Fr g L h m) (N : News g L h news) (T : TailF outer fr news n₃) (k : Kp [] (frs (envX cn cs L a ccd cl :: outer)) h h') :
    ∃ fr', FrL s h₀ g outer fr' ∧ Fr g L h' m ∧ News g L h' (n₃ fr') := by
  obtain ⟨pre, rfl, e3, hoff⟩ := T.split
  obtain ⟨fr', P', F', N'⟩ := catch_back (M := []) P F N (fun p hp => List.mem_append_right _ hp) k (fun _ h => nomatch h)
  refine ⟨fr', P', F', N' _ fun q hq => ?_⟩
  rw [e3] at hq
  rcases List.mem_append.mp hq with hq | hq
  · exact .inl ⟨List.mem_append_left _ hq, List.not_mem_nil, hoff q hq⟩
  · exact .inr (.inr hq)
theorem catch2 {d₁ d₂ : Addr} {o₁ o₂ o₁' o₂' : Obj} {n₁ n₂ : Obj → List (Addr × Obj)} {n₃ : List (Addr × Obj) → List (Addr × Obj)} (P : FrL s h₀ g outer fr) (F : Fr g L h m) (N : News g L h news) (U₁ : UpdF d₁ o₁ news n₁) (U₂ : UpdF d₂ o₂ (n₁ o₁') n₂) (T : TailF outer fr (n₂ o₂') n₃)
    (k : Kp [d₁, d₂] (frs (envX cn cs L a ccd cl :: outer)) h h') (e₁ : h'.get? d₁ = some o₁') (e₂ : h'.get? d₂ = some o₂') (hne : d₁ ≠ d₂) (hd₁ : d₁ ∉ frs outer) (hd₂ : d₂ ∉ frs outer) :
    ∃ fr', FrL s h₀ g outer fr' ∧ Fr g L h' m ∧ News g L h' (n₃ fr') := by
  obtain ⟨pre₁, post₁, rfl, hg₁, a₁, b₁⟩ := U₁.split
  have nd := N (d₁, o₁) (by simp)
  rw [hg₁ o₁'] at U₂
  obtain ⟨pre₂, post₂, e, hg₂, a₂, b₂⟩ := U₂.split
  have m2 : (d₂, o₂) ∈ pre₁ ++ (d₁, o₁) :: post₁ := by
    have z : (d₂, o₂) ∈ pre₁ ++ (d₁, o₁') :: post₁ := by rw [e]; simp
    rcases List.mem_append.mp z with z | z
    · simp [z]
    · rcases List.mem_cons.mp z with z | z
      · exact absurd (congrArg Prod.fst z).symm hne
      · simp [z]
  have nd2 := N _ m2
  rw [hg₂ o₂'] at T
  obtain ⟨pre, et, e3, hoff⟩ := T.split
  have hfr : ∀ p ∈ fr, p ∈ pre₁ ++ (d₁, o₁) :: post₁ := fun p hp => by
    have hpf := P.ad p hp
    have z : p ∈ pre₂ ++ (d₂, o₂') :: post₂ := by rw [et]; exact List.mem_append_right _ hp
    have z2 : p ∈ pre₁ ++ (d₁, o₁') :: post₁ := by
      rw [e]
      rcases List.mem_append.mp z with z | z
      · simp [z]
      · rcases List.mem_cons.mp z with z | z
        · rw [z] at hpf; exact absurd hpf hd₂
        · simp [z]
    rcases List.mem_append.mp z2 with z | z
    · simp [z]
    · rcases List.mem_cons.mp z with z | z
      · rw [z] at hpf; exact absurd hpf hd₁
      · simp [z]
  obtain ⟨fr', P', F', N'⟩ := catch_back (M := [d₁, d₂]) P F N hfr k (fun b hb => by
    have key : ∀ d o, (d, o) ∈ pre₁ ++ (d₁, o₁) :: post₁ → d ∉ frs outer → g.get? d = none ∧ d ∉ frs (envX cn cs L a ccd cl :: outer) := fun d o hm hd => ⟨(N _ hm).2.2, fun z => by
      rcases (frs_cons _).mp z with z | z
      · exact (N _ hm).2.1 z
      · exact hd z⟩
    rcases List.mem_cons.mp hb with rfl | hb
    · exact key _ o₁ (by simp) hd₁
    · obtain rfl := List.mem_singleton.mp hb
      exact key _ o₂ m2 hd₂)
  refine ⟨fr', P', F', N' _ fun q hq => ?_⟩
  rw [e3] at hq
  rcases List.mem_append.mp hq with hq | hq
  · have hq2 : q ∈ pre₂ ++ (d₂, o₂') :: post₂ := by rw [et]; exact List.mem_append_left _ hq
    have keep : ∀ q ∈ pre₁ ++ (d₁, o₁') :: post₁, q.1 ≠ d₂ → q.1 ∉ frs outer → (q ∈ pre₁ ++ (d₁, o₁) :: post₁ ∧ q.1 ∉ [d₁, d₂] ∧ q.1 ∉ frs outer) ∨ (h'.get? q.1 = some q.2 ∧ q.1 ≠ L ∧ g.get? q.1 = none) ∨ q ∈ fr' := fun q hq hn ho => by
      rcases List.mem_append.mp hq with hq | hq
      · exact .inl ⟨by simp [hq], fun z => by rcases List.mem_cons.mp z with z | z; exact a₁ q hq z; exact hn (List.mem_singleton.mp z), ho⟩
      · rcases List.mem_cons.mp hq with rfl | hq
        · exact .inr (.inl ⟨e₁, nd.2.1, nd.2.2⟩)
        · exact .inl ⟨by simp [hq], fun z => by rcases List.mem_cons.mp z with z | z; exact b₁ q hq z; exact hn (List.mem_singleton.mp z), ho⟩
    rcases List.mem_append.mp hq2 with z | z
    · exact keep q (by rw [e]; simp [z]) (a₂ q z) (hoff q hq)
    · rcases List.mem_cons.mp z with rfl | z
      · exact .inr (.inl ⟨e₂, nd2.2.1, nd2.2.2⟩)
      · exact keep q (by rw [e]; simp [z]) (b₂ q z) (hoff q hq)
  · exact .inr (.inr hq)
end
theorem off_new {s h₀ g : Heap} {outer : List Env} {fr news : List (Addr × Obj)} {D : Addr} (P : FrL s h₀ g outer fr) (hD : ∀ q ∈ news, q.1 ≠ D) (hs : ∀ p ∈ fr, p ∈ news) : D ∉ frs outer := fun hb => by
  obtain ⟨env, he, hf⟩ := List.mem_filterMap.mp hb
  obtain ⟨_, L', o, hf', hm', _⟩ := P.fi env he
  obtain rfl : L' = D := by rw [hf'] at hf; exact Option.some.inj hf
  exact hD _ (hs _ hm') rfl
theorem off_ltD {s h₀ g : Heap} {outer : List Env} {fr l : List (Addr × Obj)} {D : Addr} (P : FrL s h₀ g outer fr) (h : LtD D l) (hs : ∀ p ∈ fr, p ∈ l) : D ∉ frs outer := off_new P (fun q hq => Nat.ne_of_lt (h q hq)) hs
theorem freeOf_len4 {many fo : Int} {kvs : List (Int × Value)} (h : many ≤ 4) : (freeOf many fo kvs).length ≤ 4 := Nat.le_trans (List.length_filter_le _ _) (by unfold roundOf; rw [List.length_map, List.length_map, List.length_range]; omega)
theorem len_pos {xs : List Int} (h : xs ≠ []) : 1 ≤ xs.length := by cases xs with
  | nil => exact absurd rfl h
  | cons _ _ => simp
theorem freeOf_range {many fo n : Int} {kvs : List (Int × Value)} (h1 : 1 ≤ many) (h : n ∈ freeOf many fo kvs) : 30 ≤ n ∧ n ≤ 29 + many := round_range h1 (List.mem_filter.mp h).1
theorem nil_facts {many fo : Int} {kvs : List (Int × Value)} (hm1 : 1 ≤ many) (hm2 : many ≤ 4) (hfe : freeOf many fo kvs ≠ []) :
    (freeOf many fo kvs).length < 2 ^ 62 ∧ (0 : Int) < (freeOf many fo kvs).length ∧ (0 : Int) ≤ (freeOf many fo kvs).length ∧ ((freeOf many fo kvs).length : Int) ≠ 0 ∧
    0 ≤ (many - 1).fmod (freeOf many fo kvs).length ∧ (many - 1).fmod (freeOf many fo kvs).length < (freeOf many fo kvs).length ∧ (many - 1).fmod (freeOf many fo kvs).length < 2 ^ 63 ∧
    0 ≤ (freeOf many fo kvs).getD ((many - 1).fmod (freeOf many fo kvs).length).toNat 0 ∧ (freeOf many fo kvs).getD ((many - 1).fmod (freeOf many fo kvs).length).toNat 0 ≤ 100 := by
  have h4 := freeOf_len4 (fo := fo) (kvs := kvs) hm2
  have h1 := len_pos hfe
  have hm := take_mod (a := many - 1) (b := (freeOf many fo kvs).length) (Int.ofNat_lt.mpr h1)
  have hp := freeOf_range hm1 (getD_mem' hm.1 hm.2)
  refine ⟨Nat.lt_of_le_of_lt h4 (by decide), Int.ofNat_lt.mpr h1, Int.natCast_nonneg _, Int.ne_of_gt (Int.ofNat_lt.mpr h1), hm.1, hm.2, Int.lt_of_lt_of_le hm.2 (Int.le_trans (Int.ofNat_le.mpr h4) (by decide)), Int.le_trans (by decide) hp.1, Int.le_trans hp.2 (Int.le_trans (Int.add_le_add_left hm2 29) (by decide))⟩
theorem many_ne {many : Int} (h : 1 ≤ many) : many ≠ 0 := Int.ne_of_gt (Int.lt_of_lt_of_le (by decide) h)
theorem many_nat {many : Int} (h : many ≤ 4) : many.toNat ≤ 1000 := Int.toNat_le.mpr (Int.le_trans h (by decide))
theorem len_l {a b c : Nat} {t : Int} (h : a + b = c) (k : (c : Int) ≤ t) (q : t ≤ 16) : a ≤ 1000 := by omega
theorem len_r {a b c : Nat} {t : Int} (h : a + b = c) (k : (c : Int) ≤ t) (q : t ≤ 16) : b ≤ 1000 := by omega
end
section -- B21

end
section -- B22
section
variable {prog : Program} {w : World} {A : Around} {E : Value → Shared → Prop} {s : Shared} {g : Heap} {L d b : Addr} {m : Str → Option Value} {news : List (Addr × Obj)} {o ob : Obj} {kvs : List (Int × Value)} {Q : Value → Shared → Prop}
theorem sorted_dict (hh : A.handled = none) (F : Fr g L s.heap m) (N : News g L s.heap news) (hm : (d, o) ∈ news) (hd : o.IsDictOf (PySem.intKind prog w) kvs) (hsm : (d == sysModules) = false) (hlen : kvs.length < 64)
    (h : ∀ D h' tk vs' ns' n, Fr g L h' m → News g L h' ((D, PySem.W.listOf vs'.toArray n) :: news) → (∀ q ∈ news, q.1 < D) → IntsAre vs' ns' → ns'.Perm (kvs.map (·.1)) → ns'.Pairwise (· ≤ ·) → Q (.ref D) { s with heap := h', toks := tk }) :
    wpAny (model prog w) A (call (.builtin "sorted") [.ref d]) Q E s := by
  obtain ⟨ep, hat⟩ := (kda_dict N hm hd).dictAt
  refine kdu_sorted (kdl_dict (knd := PySem.intKind prog w) (kvs := kvs) (ep := ep) hsm) hh F N hat (by rw [sizeLine_eq]; omega) fun D h' tk vs F' N' l1 hl hP => ?_
  have hI : IntsAre vs (kvs.map (·.1)) := ints_of_places (P := fun i v => ∃ k x, kvs[i]? = some (k, x) ∧ (PySem.intKind prog w).is k v = true)
    (fun i v ⟨k, x, hx, hk⟩ => by
      obtain ⟨t, rfl⟩ := Value.isInt_shape hk
      exact ⟨k, t, by rw [List.getElem?_map, hx]; rfl, rfl⟩) (by rw [List.length_map]; exact hl) hP
  have z := N' (D, _) (.head _)
  refine wpAny_call_entry PyProof.Rows.slot_list_sort ⟨_, z.1, rfl⟩ PyProof.Rows.entry_list_sort (list_sort_tree (n := 0) (vs := vs) z.1 hI (by rw [hl]; exact hlen) fun out ns' hI2 hp hPw => ⟨.none, rfl, ?_⟩) (PyProof.Rows.args_list_sort _)
  obtain ⟨e, he⟩ := sortedHeap_at (out := out) z.1
  have old : ∀ b o, b ≠ D → h'.get? b = some o → (sortedHeap h' D vs out).get? b = some o := fun b o hb hbo => by
    rw [sortedHeap_old hb (Heap.lt_size hbo)]; exact hbo
  have gD : ∀ b o, g.get? b = some o → b ≠ D := fun b o q e => by rw [e, z.2.2] at q; cases q
  obtain ⟨oL, a1, a2, hL, a3⟩ := F'.ns
  refine h D _ tk out.toList ns' e ⟨⟨oL, a1, a2, old _ _ (Ne.symm z.2.1) hL, a3⟩, fun b o q => old b o (gD b o q) (F'.keep b o q), F'.above⟩ (fun q hq => ?_) l1 hI2 hp hPw
  rcases List.mem_cons.mp hq with rfl | hq
  · exact ⟨by simpa using he, z.2⟩
  · exact ⟨old _ _ (Nat.ne_of_lt (l1 q hq)) (N' q (.tail _ hq)).1, (N' q (.tail _ hq)).2⟩
theorem ne_empty (N : News g L s.heap news) (hm : (d, o) ∈ news) (hd : o.IsDictOf (PySem.intKind prog w) kvs) (hsm : (d == sysModules) = false) (hmb : (b, ob) ∈ news) (hb : ob.IsDictOf (PySem.intKind prog w) []) (hsb : (b == sysModules) = false) (hu : A.units < cLine)
    (h : Q (.bool (!(kvs.length == 0))) s) : wpAny (model prog w) A (compareOp .NotEq (.ref d) (.ref b)) Q E s := by
  refine keq_ne (r := true) hsm hsb (kda_dict N hm hd) (kda_dict N hmb hb) hu (fun e => ?_) (by simpa using h)
  cases kvs with
  | nil => exact .nil
  | cons _ _ => cases e
theorem upd_mid {o o' : Obj} {post : List (Addr × Obj)} (b : ∀ p ∈ post, p.1 ≠ d) : ∀ {pre : List (Addr × Obj)}, (∀ p ∈ pre, p.1 ≠ d) → Upd d o o' (pre ++ (d, o) :: post) (pre ++ (d, o') :: post)
  | [], _ => .head b
  | p :: r, a => .tail (a p (.head _)) (upd_mid b fun q hq => a q (.tail _ hq))
theorem cut_ints : ∀ {vs : List Value} {ns : List Int} {k : Nat}, IntsAre vs ns → k < ns.length → ∃ p n t q, kl_cut vs k = some (p, .int n t, q) ∧ IntsAre (p ++ q) (ns.eraseIdx k) ∧ ns[k]? = some n
  | _, _, _, .nil, h => by simp at h
  | _, _, 0, .cons n t h, _ => ⟨[], n, t, _, rfl, by simpa using h, rfl⟩
  | _, _, k + 1, .cons n t h, hk => by
    obtain ⟨p, n', t', q, e, hi, hn⟩ := cut_ints (k := k) h (by simpa using hk)
    refine ⟨.int n t :: p, n', t', q, ?_, .cons n t hi, by simpa using hn⟩
    unfold kl_cut; rw [e]
theorem pop_ints {vs : List Value} {ns : List Int} {i : Int} {u : Tok} {n : Nat} {ng : Obj → List (Addr × Obj)} (F : Fr g L s.heap m) (N : News g L s.heap news) (U : UpdF d (PySem.W.listOf vs.toArray n) news ng) (hI : IntsAre vs ns) (h0 : 0 ≤ i) (h1 : i < ns.length) (hlen : ns.length ≤ 1000)
    (h : ∀ h' vs' n' c t, Fr g L h' m → News g L h' (ng (PySem.W.listOf vs'.toArray n')) → IntsAre vs' (ns.eraseIdx i.toNat) → ns[i.toNat]? = some c → Q (.int c t) { s with heap := h' }) :
    wpAny (model prog w) A (call (.builtin "list.pop") [.ref d, .int i u]) Q E s := by
  have hl := hI.length
  obtain ⟨p, c, t, q, e, hi, hn⟩ := cut_ints hI (k := i.toNat) (by omega)
  obtain ⟨pre, post, e1, e2, a, b⟩ := U.split
  refine kl_popAt (n := n) (k := i.toNat) (p := p) (q := q) (y := .int c t) (news' := ng (PySem.W.listOf (p ++ q).toArray (n + 1))) F N ?_ ?_ (by simpa using e) ?_ ?_ fun h' F' N' => h h' _ _ c t F' N' hi hn
  · unfold Builtin.List.listFitsIndex
    simp only [Bool.and_eq_true, decide_eq_true_eq]
    omega
  · have hs : (vs.toArray.size : Int) = ns.length := by rw [List.size_toArray, hl]
    have e0 : (if i < 0 then i + (vs.toArray.size : Int) else i) = i := if_neg (by omega)
    show (if (0 ≤ (if i < 0 then i + (vs.toArray.size : Int) else i) && (if i < 0 then i + (vs.toArray.size : Int) else i) < (vs.toArray.size : Int)) = true then some (if i < 0 then i + (vs.toArray.size : Int) else i).toNat else none) = some i.toNat
    rw [e0, hs, if_pos (by simp; omega)]
  · rw [e1, e2]; exact upd_mid b a
  · rw [sizeLine_eq]; simp; omega
end
end
section -- B23
section
variable {prog : Program} {w : World} {K : Type} [DecidableEq K]
/-- tuples that h holds -/
noncomputable def KtAt (kt : List (Addr × Obj)) (h : Heap) : Prop := ∀ q ∈ kt, h.get? q.1 = some q.2 ∧ TupO q.2
theorem KtAt.app {a b : List (Addr × Obj)} {h : Heap} (x : KtAt a h) (y : KtAt b h) : KtAt (a ++ b) h := fun q hq => by
  rcases List.mem_append.mp hq with z | z
  · exact x q z
  · exact y q z
noncomputable def Has (kt : List (Addr × Obj)) (h : Heap) : Prop := ∀ q ∈ kt, h.get? q.1 = some q.2
theorem Has.l {a b : List (Addr × Obj)} {h : Heap} (x : Has (a ++ b) h) : Has a h := fun q hq => x q (List.mem_append_left _ hq)
theorem Has.r {a b : List (Addr × Obj)} {h : Heap} (x : Has (a ++ b) h) : Has b h := fun q hq => x q (List.mem_append_right _ hq)
/-- a key rests on finitely many tuples -/
noncomputable def FinKnd (knd : HeapKind prog w K) : Prop := ∀ h k a, knd.is h k a → ∃ kt, KtAt kt h ∧ ∀ h', Has kt h' → knd.is h' k a
theorem fin_t : FinKnd (tupleKind (intKind prog w)) := fun h k a ⟨o, items, n, ho, hc, hd, r⟩ =>
  ⟨[(a, o)], fun q hq => by obtain rfl := List.mem_singleton.mp hq; exact ⟨ho, hc, _, _, hd⟩, fun h' hh => ⟨o, items, n, hh _ (.head _), hc, hd, r⟩⟩
theorem fin_items {h : Heap} {x : List (List Int)} {vs : List Value} (hi : ItemsH (tupleKind (intKind prog w)) h x vs) : ∃ kt, KtAt kt h ∧ ∀ h', Has kt h' → ItemsH (tupleKind (intKind prog w)) h' x vs := by
  induction hi with
  | nil => exact ⟨[], (fun _ h => nomatch h), fun _ _ => .nil⟩
  | cons h1 _ ih =>
    obtain ⟨k1, a1, b1⟩ := fin_t _ _ _ h1
    obtain ⟨k2, a2, b2⟩ := ih
    exact ⟨k1 ++ k2, a1.app a2, fun h' hh => .cons (b1 h' hh.l) (b2 h' hh.r)⟩
theorem fin_tt : FinKnd (ttKind prog w) := fun h k a ⟨o, items, n, ho, hc, hd, hi⟩ => by
  obtain ⟨kt, x, y⟩ := fin_items hi
  refine ⟨(a, o) :: kt, fun q hq => ?_, fun h' hh => ⟨o, items, n, hh _ (.head _), hc, hd, y h' fun q hq => hh q (.tail _ hq)⟩⟩
  rcases List.mem_cons.mp hq with rfl | hq
  · exact ⟨ho, hc, _, _, hd⟩
  · exact x q hq
variable {knd : HeapKind prog w K}
theorem fin_all (T : FinKnd knd) {h : Heap} : ∀ {xs : List (K × Addr × Value)}, (∀ x ∈ xs, knd.is h x.1 x.2.1) → ∃ kt, KtAt kt h ∧ ∀ h', Has kt h' → ∀ x ∈ xs, knd.is h' x.1 x.2.1
  | [], _ => ⟨[], (fun _ h => nomatch h), fun _ _ _ h => nomatch h⟩
  | x :: r, hx => by
    obtain ⟨k1, a1, b1⟩ := T _ _ _ (hx x (.head _))
    obtain ⟨k2, a2, b2⟩ := fin_all T (xs := r) fun y hy => hx y (.tail _ hy)
    refine ⟨k1 ++ k2, a1.app a2, fun h' hh y hy => ?_⟩
    rcases List.mem_cons.mp hy with rfl | hy
    · exact b1 h' hh.l
    · exact b2 h' hh.r y hy
/-- the object o is a dict of tuples wherever g and the tuples kt stay -/
structure DK (knd : HeapKind prog w K) (g : Heap) (kt : List (Addr × Obj)) (o : Obj) (xs : List (K × Addr × Value)) : Prop where
  keys : ∀ h, g.StaysIn h → Has kt h → ∀ x ∈ xs, knd.is h x.1 x.2.1
  obj : ∃ es ep, o.ExactDict ∧ o.data = .dict es ep ∧ es.toList = xs.map (entryOfKey knd)
  nd : (xs.map (·.1)).Nodup
variable {g h : Heap} {L d : Addr} {o : Obj} {m : Str → Option Value} {news kt kt' : List (Addr × Obj)} {xs : List (K × Addr × Value)}
theorem DK.get (D : DK knd g kt o xs) (F : Fr g L h m) (N : News g L h news) (hd : (d, o) ∈ news) (hk : ∀ q ∈ kt, q ∈ news) : h.DictOfH knd d xs :=
  let ⟨es, ep, hc, hda, he⟩ := D.obj; ⟨o, es, ep, (N _ hd).1, hc, hda, he, D.keys h F.keep fun q hq => (N _ (hk q hq)).1, D.nd⟩
theorem DK.mono (D : DK knd g kt o xs) (hk : ∀ q ∈ kt, q ∈ kt') : DK knd g kt' o xs := ⟨fun h st hh => D.keys h st fun q hq => hh q (hk q hq), D.obj, D.nd⟩
theorem DK.code (D : DK knd g kt o xs) : NoCode o := fun vs q t hv => by
  obtain ⟨es, ep, _, hd, _⟩ := D.obj
  rw [hd] at hv; cases hv
theorem DK.cls (D : DK knd g kt o xs) : o.cls ≠ .type "tuple" := by
  obtain ⟨es, ep, hc, _⟩ := D.obj
  rw [hc.1]
  exact show Value.type "dict" ≠ Value.type "tuple" from fun h => by injection h with h; exact absurd h (by decide)
/-- the tuples of a dict that are not in the base -/
theorem dk_of (T : FinKnd knd) (F : Fr g L h m) (hm : h.DictOfH knd d xs) (e : h.get? d = some o) :
    ∃ kt, KtAt kt h ∧ (∀ q ∈ kt, g.get? q.1 = none ∧ q.1 ≠ L) ∧ DK knd g kt o xs := by
  obtain ⟨o', es, ep, ho, hc, hda, he, his, hn'⟩ := hm
  obtain rfl : o' = o := Option.some.inj (ho.symm.trans e)
  obtain ⟨kt, a, b⟩ := fin_all T his
  refine ⟨kt.filter fun q => (g.get? q.1).isNone, fun q hq => a q (List.mem_filter.mp hq).1, fun q hq => ⟨by simpa using (List.mem_filter.mp hq).2, fun z => ?_⟩, ⟨fun h' st hh => b h' fun q hq => ?_, ⟨es, ep, hc, hda, he⟩, hn'⟩⟩
  · have hq' := a q (List.mem_filter.mp hq).1
    obtain ⟨oL, hoL, ⟨_, _, hdL⟩, _⟩ := frObj_of F
    obtain ⟨e1, _, _, _, hs⟩ := hq'
    rw [z, hoL] at e1
    obtain rfl := Option.some.inj e1
    rw [hdL] at hs; cases hs
  · cases z : g.get? q.1 with
    | none => exact hh q (List.mem_filter.mpr ⟨hq, by simp [z]⟩)
    | some oz =>
      have := F.keep _ _ z
      rw [(a q hq).1] at this
      rw [Option.some.inj this]
      exact st _ _ z
/-- the tuples go into the ledger, ahead of the tail -/
theorem kt_news {pre fr : List (Addr × Obj)} (N : News g L h (pre ++ fr)) (hk : KtAt kt h) (hn : ∀ q ∈ kt, g.get? q.1 = none ∧ q.1 ≠ L) (hp : ∀ q ∈ pre, ¬ TupO q.2) :
    News g L h (pre ++ (kt ++ fr)) ∧ ∀ q ∈ kt, ∀ p ∈ pre, q.1 ≠ p.1 := by
  refine ⟨fun q hq => ?_, fun q hq p hpp e => ?_⟩
  · rcases List.mem_append.mp hq with z | z
    · exact N q (List.mem_append_left _ z)
    · rcases List.mem_append.mp z with z | z
      · exact ⟨(hk q z).1, (hn q z).2, (hn q z).1⟩
      · exact N q (List.mem_append_right _ z)
  · have a := hk q hq
    rw [e, (N p (List.mem_append_left _ hpp)).1] at a
    exact hp p hpp (Option.some.inj a.1 ▸ a.2)
end
/-- behind a call that may catch: what it gave back, what it left -/
theorem behind_F {s h₀ g h h' : Heap} {L : Addr} {m : Str → Option Value} {news news' fr : List (Addr × Obj)} {outer : List Env} {cn : Str} {cs : Scope} {a : Addr} {ccd : Value} {cl : List (Str × Addr)} {M : List Addr}
    (P : FrL s h₀ g outer fr) (F : Fr g L h m) (N : News g L h news) (hfr : ∀ p ∈ fr, p ∈ news) (k : Kp M (frs (envX cn cs L a ccd cl :: outer)) h h')
    (hM : ∀ b ∈ M, ∃ o, (b, o) ∈ news ∧ b ∉ frs outer)
    (hn : ∀ q ∈ news', (q ∈ news ∧ q.1 ∉ M ∧ q.1 ∉ frs outer) ∨ (h'.get? q.1 = some q.2 ∧ ∃ o, (q.1, o) ∈ news)) :
    ∃ fr', FrL s h₀ g outer fr' ∧ Fr g L h' m ∧ News g L h' (news' ++ fr') := by
  obtain ⟨fr', P', F', N'⟩ := catch_back (M := M) P F N hfr k fun b hb => by
    obtain ⟨o, ho, hf⟩ := hM b hb
    refine ⟨(N _ ho).2.2, fun z => ?_⟩
    rcases (frs_cons _).mp z with z | z
    · exact (N _ ho).2.1 z
    · exact hf z
  refine ⟨fr', P', F', N' _ fun q hq => ?_⟩
  rcases List.mem_append.mp hq with z | z
  · rcases hn q z with z | ⟨e, o, ho⟩
    · exact .inl z
    · exact .inr (.inl ⟨e, (N _ ho).2.1, (N _ ho).2.2⟩)
  · exact .inr (.inr z)
end
section
local macro_rules | `(tactic| walk_at "exec For") => `(tactic| ((with_reducible show wpAny _ _ (exec (Stmt.For (Expr.Tuple _ _ _) _ _ [] _) _) _ _ _); refine wpAny_For ?_ (fun _ => rfl)))
local macro_rules | `(tactic| walk_at "eval ListComp") => `(tactic| (with_reducible refine stop_ ?_))
local macro_rules | `(tactic| walk_at "subscriptTail") => `(tactic| ((with_reducible show wpAny _ _ (subscriptTail _ _ (Value.ref _) (Value.int _ _)) _ _ _); k_dflt (refine item_tupleT (by exact (‹∀ h', Heap.StaysIn _ h' → Heap.IsTuple h' _ _›) _ (Fr.keep (by k_asm))) (by decide) (by decide) (by rfl) (by rfl) ?_)))
local macro_rules | `(tactic| walk_at "call builtin:any") => `(tactic| (k_dflt (refine LSm.any_bools (by k_asm) (by k_asm) (by rfl) ‹_› ‹_› ?_); intro h' tk' F' N'))
local macro_rules | `(tactic| kbo_bools) => `(tactic| (refine all_cons ?_ ?_; k_ne; first | apply all_nil | kbo_bools))
local macro_rules | `(tactic| walk_at "eval Name") => `(tactic| ((with_reducible show wpAny _ _ (eval (Expr.Name _ _) (compEnvC _ _ _ _)) _ _ _); (with_unfolding_all refine cmpName_L (by k_asm) (by first | assumption | rfl) ?_; k_whole)))
local macro_rules | `(tactic| walk_at "eval Name") => `(tactic| ((with_reducible show wpAny _ _ (eval (Expr.Name _ _) (compEnvC _ _ _ _)) _ _ _); (with_unfolding_all refine cmpName_C (by k_asm) (by rfl) (by kpt_turns) ‹_› ?_; k_whole)))
local macro_rules | `(tactic| walk_at "binaryOp Mult int int") => `(tactic| (refine PyProof.Rows.mul_int ?_ (by exact mul_small ‹_› ‹_›)))
local macro_rules | `(tactic| kct_strs) => `(tactic| (refine all_cons ?_ ?_; (first | exact cls_inst | exact cls_dict | exact cls_list | exact cls_isDict ‹_› | assumption); first | apply all_nil | kct_strs))
section
local macro_rules | `(tactic| walk_at "pyIter ref") => `(tactic| ((with_reducible show wpAny _ _ (pyIter (Value.ref _)) _ _ _); refine stop_ ?_))
section -- U1
theorem reg_U1 : PySem.Challenge.rw_pq1204_01 = PySem.Challenge.rw_pq1204_01 ∧ K = K := by k_fill; exact ⟨rfl, rfl⟩
noncomputable abbrev dTable (w : World) (dC dL : Addr) (k1 k2 : Tok) : Obj :=
  dictOf [⟨PyData.keyHash w.params "connections", .str "connections" k1, .ref dC⟩, ⟨PyData.keyHash w.params "listeners", .str "listeners" k2, .ref dL⟩] 2
noncomputable def portC : List (List Int) → Int
  | [[_, p], _] => p
  | _ => 0
noncomputable def portL : List Int → Int
  | [_, p] => p
  | _ => 0
theorem is_port_used_R {prog : Program} {w : World} {p : Program} {loose : List Str} {mean : ExcName → Option Value} {mg mb : Str → Option Value}
  {dp un : Nat} {gd : Option (List Code)} {cn : Str} {cs : Scope} {a : Addr} {ccd : Value} {cl : List (Str × Addr)} {outer : List Env} {h₀ : Heap} {Lc : Addr} {s : Shared}
  {xB dB dC dL : Nat} {k1 k2} {port : Int} {t : Tok} {xsC : List (List (List Int) × Addr × Value)} {xsL : List (List Int × Addr × Value)} {Q E : Value → Shared → Prop}
  (X₀ : (K w.params).In h₀) (T₀ : Top p loose mean mg mb h₀) (C₀ : Cx h₀ (envX cn cs Lc a ccd cl :: outer) s.heap) (hd : dp + 20 < recursionLimit)
  (O : Own h₀ (envX cn cs Lc a ccd cl :: outer) s.heap [(xB, instObj 1138 dB), (dB, dTable w dC dL k1 k2)]) (o1 : xB ≠ dB) (oC : xB ≠ dC ∧ dB ≠ dC) (oL : xB ≠ dL ∧ dB ≠ dL) (hsm : (dC == sysModules) = false) (hsm2 : (dL == sysModules) = false)
  (hC : s.heap.DictOfH (ttKind prog w) dC xsC) (hC2 : ∀ x ∈ xsC, ∃ a b c d, x.1 = [[a, b], [c, d]]) (hL : s.heap.DictOfH (tupleKind (intKind prog w)) dL xsL) (hL2 : ∀ x ∈ xsL, ∃ a b, x.1 = [a, b]) (hlen : xsL.length ≤ 1000)
  (hret : ∀ b h' tk', b = (xsC.any (fun x => portC x.1 == port) || xsL.any fun x => portL x.1 == port) → Kp [] [] s.heap h' → Q (.bool b) { s with heap := h', toks := tk' }) :
  wpAny (model prog w) (ktrTop dp un gd cn cs Lc a ccd cl outer) (call (.ref 1130) [.ref xB, .int port t]) Q E s := by
  obtain ⟨oC1, oC2⟩ := oC
  obtain ⟨oL1, oL2⟩ := oL
  refine wpAny_call ?_
  k_dflt ((refine' enterC ?k1Zq ?k2Zq ?k3Zq ?k4Zq ?k6Zq ?k7Zq ?k8Zq ?k9Zq ?kBZq ?kDZq ?_ ?c2Zq ?c3Zq ?c4Zq; (case k1Zq => assumption); (case k2Zq => assumption); (case k3Zq => assumption); (case k4Zq => assumption); (case k6Zq => k_is); (case k7Zq => k_is); (case k8Zq => ktr_room); (case k9Zq => first | exact BindsTo.of_eq rfl | exact binds_K (Frag.In.keeps (by assumption) (Cx.st (by assumption))) rfl (by k_is) rfl rfl rfl); (case kBZq => exact rfl); (case kDZq => decide +kernel); (case c2Zq => exact rfl); (case c3Zq => exact rfl); (case c4Zq => exact rfl); k_whole))
  intro g L' h' tk' cells' X' T' C' GK GS' F' N' Y' l1'
  k_lt l1'
  k_cells Y'
  simp only [List.cons_append, List.nil_append] at N'
  dsimp only
  (try k_fold)
  have gC := dictOfH_base tupKnd_tt hC GK O (by kct_strs) (by kbo_bools)
  have gL := dictOfH_base tupKnd_t hL GK O (by kct_strs) (by kbo_bools)
  obtain ⟨ep, hdC⟩ := dictAt_stays gC
  k_steps
  unfold Stop
  refine for_keyPairs (knd := ttKind prog w) xsC (fun i v0 _ => ∃ a1 x pt t t', v0 = .ref a1 ∧ (∀ h' : Heap, g.StaysIn h' → h'.IsTuple a1 #[.int x t, .int pt t']) ∧ (xsC[i]?).map (fun x => portC x.1) = some pt)
    (fun i m => m (Str.ofString "self") = some (.ref xB) ∧ (xsC.take i).any (fun x => portC x.1 == port) = false) hdC ?hT hsm rfl rfl rfl rfl (by k_asm) (by k_asm) ⟨rfl, rfl⟩ ?turn ?done
  case hT =>
    intro i x hx
    have hm := List.mem_of_getElem? hx
    obtain ⟨o, es, ep, _, _, _, _, his, _⟩ := gC
    have hk := his x hm
    obtain ⟨a, b, c, d, e⟩ := hC2 x hm
    rw [e] at hk
    obtain ⟨a1, a2, h1, h2, _⟩ := ttKey2 hk
    obtain ⟨t, t', h3⟩ := tKey2 h2
    exact ⟨_, _, h1, a1, a, b, t, t', rfl, h3, by rw [hx, Option.map_some, e]; rfl⟩
  case turn =>
    rintro i v0 v1 m₁ h tk I oI hi ⟨a1, x, pt, t, t', rfl, hT1, hpt⟩ ⟨hs, hJ⟩ hI hI3 F9 N9
    k_lt hI
    have hb := map_eqb (m := port) hpt
    k_steps
    · dsimp only
      k_steps
      refine hret _ _ _ ?_ (kp_end (by assumption) O (by k_asm) (by k_asm) (by ked_reads))
      rw [any_at (xs := xsC) (by rw [hb]; simp [*])]; rfl
    · exact turnP_next (by k_asm) (by k_asm) ⟨by kaf_pre, any_take hJ hb (by simp [*])⟩
  case done =>
    rintro h' tk' m' F9 N9 ⟨hs, hJ⟩
    rw [List.take_length] at hJ
    k_steps
    unfold Stop
    refine ListComp_go (fun v => xsL.any fun x => true && v == .ref x.2.1) (fun v y => ∃ x ∈ xsL, v = .ref x.2.1 ∧ y = .bool (portL x.1 == port)) rfl ?c1 rfl ?c2 rfl ?c3
    case c1 => decide
    case c2 => decide
    case c3 =>
      k_steps
      unfold Stop
      rename Fr g L' _ _ => F8
      rename News g L' _ _ => N8
      refine' comp_keys (knd := tupleKind (intKind prog w)) (fun _ => true) (fun x => .bool (portL x.1 == port)) (dictOfH_up tupKnd_t gL F8.keep) hsm2 ?hh hlen ?F8 ?N8 ?tests ?eltW ?hQ
      case hh => rfl
      case F8 => exact F8
      case N8 => exact N8
      case tests => exact fun _ _ _ _ _ _ _ _ _ => noTests rfl ⟨rfl, Keeps.refl _⟩
      case eltW =>
        intro C x s₃ m₃ E' hx _ F7 N7 hm
        clear F8 N8
        obtain ⟨o, es, ep, _, _, _, _, his, _⟩ := id gL
        have hkx := his x hx
        obtain ⟨a, b, e⟩ := hL2 x hx
        rw [e] at hkx
        obtain ⟨t, t', h3⟩ := tKey2 hkx
        k_steps
        · rw [e]; rfl
        · exact ⟨_, _, rfl, fun _ _ e => e⟩
      case hQ =>
        intro D h' tk n F7 N7 hD
        have hl : h'.IsList D ((((xsL.filter fun _ => true).map fun x => Value.bool (portL x.1 == port))).toArray) := ⟨_, (N7 _ (.head _)).1, rfl, _, rfl⟩
        have hb := bools_map (fun x : List Int × Addr × Value => portL x.1 == port) (xsL.filter fun _ => true)
        k_steps
        refine hret _ _ _ ?_ (kp_end (by assumption) O (by k_asm) (by k_asm) (by ked_reads))
        rw [hJ, Bool.false_or, List.any_map, List.filter_eq_self.mpr fun _ _ => rfl]
        rfl
end
section -- U2
theorem reg_U2 : PySem.Challenge.rw_pq1204_01 = PySem.Challenge.rw_pq1204_01 ∧ K = K := by k_fill; exact ⟨rfl, rfl⟩
theorem own_port_R {prog : Program} {w : World} {p : Program} {loose : List Str} {mean : ExcName → Option Value} {mg mb : Str → Option Value}
  {dp un : Nat} {gd : Option (List Code)} {cn : Str} {cs : Scope} {a : Addr} {ccd : Value} {cl : List (Str × Addr)} {outer : List Env} {h₀ : Heap} {Lc : Addr} {s : Shared}
  {xS dS x dx aT xB dB dC dL : Nat} {rS} {f l fo tfo rP} {oT : Obj} {kvs : List (Int × Value)} {j1 j2 t0} {xsC : List (List (List Int) × Addr × Value)} {xsL : List (List Int × Addr × Value)} {Q E : Value → Shared → Prop}
  (X₀ : (K w.params).In h₀) (T₀ : Top p loose mean mg mb h₀) (C₀ : Cx h₀ (envX cn cs Lc a ccd cl :: outer) s.heap) (hd : dp + 40 < recursionLimit)
  (O : Own h₀ (envX cn cs Lc a ccd cl :: outer) s.heap [(xS, instObj 1396 dS), (dS, dSock w x xB rS), (x, instObj 154 dx), (dx, dPorts w f l fo tfo aT rP), (aT, oT), (xB, instObj 1138 dB), (dB, dTable w dC dL j1 j2)])
  (o1 : dS < xS) (o2 : xS < dx) (o3 : dx < x) (o4 : x < aT) (o5 : aT < dB) (o6 : dB < xB) (o7 : xB < dC) (o8 : dC < dL) (hsm : (aT == sysModules) = false) (hsm1 : (dC == sysModules) = false) (hsm2 : (dL == sysModules) = false)
  (hTd : oT.IsDictOf (intKind prog w) kvs)
  (hC : s.heap.DictOfH (ttKind prog w) dC xsC) (hC2 : ∀ x ∈ xsC, ∃ a b c d, x.1 = [[a, b], [c, d]]) (hL : s.heap.DictOfH (tupleKind (intKind prog w)) dL xsL) (hL2 : ∀ x ∈ xsL, ∃ a b, x.1 = [a, b]) (hlen : xsL.length ≤ 1000)
  (hlen2 : kvs.length ≤ 900) (hf : 0 ≤ f) (hl : f ≤ l) (hl2 : l < 100000) (hfo : f ≤ fo) (hfo2 : fo ≤ l)
  (hret : ∀ h' tk' n t' fo' tfo' oT', ownScan f l (fun n => (valueAt kvs n).isSome) (fun n => xsC.any (fun x => portC x.1 == n) || xsL.any fun x => portL x.1 == n) (l - f + 1).toNat fo = (some n, fo') → Kp [dx, aT] [] s.heap h' → h'.get? dx = some (dPorts w f l fo' tfo' aT rP) →
     h'.get? aT = some oT' → oT'.IsDictOf (intKind prog w) (stored kvs n (.bool true)) → Q (.int n t') { s with heap := h', toks := tk' })
  (hexc : ∀ e h' tk' hm fo' tfo' oT', ownScan f l (fun n => (valueAt kvs n).isSome) (fun n => xsC.any (fun x => portC x.1 == n) || xsL.any fun x => portL x.1 == n) (l - f + 1).toNat fo = (none, fo') → Kp [dx, aT] [] s.heap hm → hm.get? dx = some (dPorts w f l fo' tfo' aT rP) →
     hm.get? aT = some oT' → oT'.IsDictOf (intKind prog w) kvs → RaisedR hm (envX cn cs Lc a ccd cl :: outer) e 63 h' → E (.ref e) { s with heap := h', toks := tk' }) :
  wpAny (model prog w) (ktrTop dp un gd cn cs Lc a ccd cl outer) (call (.ref 1274) [.ref xS, .int 0 t0]) Q E s := by
  have hA : Asc [dS, xS, dx, x, aT, dB, xB, dC, dL] := ⟨o1, o2, o3, o4, o5, o6, o7, o8, trivial⟩
  refine wpAny_call ?_
  k_dflt ((refine' enterR ?k1Zq ?k2Zq ?k3Zq ?k4Zq ?k6Zq ?k7Zq ?k8Zq ?k9Zq ?kBZq ?_ ?c2Zq ?c3Zq ?c4Zq ?c5Zq; (case k1Zq => assumption); (case k2Zq => assumption); (case k3Zq => assumption); (case k4Zq => assumption); (case k6Zq => k_is); (case k7Zq => k_is); (case k8Zq => ktr_room); (case k9Zq => first | exact BindsTo.of_eq rfl | exact binds_K (Frag.In.keeps (by assumption) (Cx.st (by assumption))) rfl (by k_is) rfl rfl rfl); (case c5Zq => decide); (case kBZq => exact locs rfl); (case c2Zq => exact rfl); (case c3Zq => exact rfl); (case c4Zq => exact rfl); k_whole))
  intro g L' h' X' T' C' GK GS' F' N' l1'
  (try k_lt l1')
  (try dsimp only)
  (try k_fold)
  have gC := dictOfH_base tupKnd_tt hC GK O (by kct_strs) (by kbo_bools)
  have gL := dictOfH_base tupKnd_t hL GK O (by kct_strs) (by kbo_bools)
  (k_steps; repeat' ((first | ((try dsimp only [List.cons_append, List.nil_append]); (with_reducible show wpAny _ _ (call (Value.ref 151) [Value.ref _, Value.int _ _]) _ _ _); k_dflt (refine' free_R ?XZq ?TZq ?CZq ?dZq ?OZq ?o1Zq ?o2Zq ?mZq ?DZq ?lenZq ?nbZq ?_ ?_; (case CZq => ((refine Cx.call ‹_› (by k_asm) (by rfl)))); (case XZq => assumption); (case TZq => assumption); (case dZq => ktr_room); (case OZq => ((refine Own.of ‹_› (by k_asm) (by keq_rows)))); (case o1Zq => regstrif_gather); (case o2Zq => regstrif_gather); (case mZq => assumption); (case DZq => k_asm); (case lenZq => first | assumption | exact small_stored (by assumption)); (case nbZq => assumption)); (intro hZq' tkZq' oTZq' hsZq' hTdZq' hKZq' haTZq'; obtain ⟨FZq', NZq'⟩ := News.at1 (by k_asm) (by k_asm) (by k_updF) hKZq' haTZq'); rotate_left; (intro eZq' hZq' tkZq' hmZq' hscZq' hKZq' RZq'; dsimp only)) | ((try dsimp only [List.cons_append, List.nil_append]); (with_reducible show wpAny _ _ (call (Value.ref 1130) [Value.ref _, Value.int _ _]) _ _ _); k_dflt (refine' is_port_used_R ?XZq ?TZq ?CZq ?dZq ?OZq ?o1Zq ?oCZq ?oLZq ?mZq ?m2Zq ?hCZq ?hC2Zq ?hLZq ?hL2Zq ?lenZq ?_; (case CZq => ((refine Cx.call ‹_› (by k_asm) (by rfl)))); (case XZq => assumption); (case TZq => assumption); (case dZq => ktr_room); (case OZq => ((refine Own.of ‹_› (by k_asm) (by keq_rows)))); (case o1Zq => regstrif_gather); (case oCZq => regstrif_gather); (case oLZq => regstrif_gather); (case mZq => assumption); (case m2Zq => assumption); (case hCZq => exact dictOfH_up tupKnd_tt (by assumption) (Fr.keep (by k_asm))); (case hLZq => exact dictOfH_up tupKnd_t (by assumption) (Fr.keep (by k_asm))); (case hC2Zq => assumption); (case hL2Zq => assumption); (case lenZq => assumption)); intro bZq' hZq' tkZq' hbZq' hKZq'; obtain ⟨FZq', NZq'⟩ := News.at0 (by k_asm) (by k_asm) hKZq') | ((try dsimp only [List.cons_append, List.nil_append]); (with_reducible show wpAny _ _ (call (Value.ref 130) [Value.ref _, Value.int 0 _]) _ _ _); k_dflt (refine' take_R ?XZq ?TZq ?CZq ?dZq ?OZq ?o1Zq ?o2Zq ?mZq ?DZq ?lenZq ?fZq ?lZq ?l2Zq ?_ ?_; (case CZq => ((refine Cx.call ‹_› (by k_asm) (by rfl)))); (case XZq => assumption); (case TZq => assumption); (case dZq => ktr_room); (case OZq => ((refine Own.of ‹_› (by k_asm) (by keq_rows)))); (case o1Zq => regstrif_gather); (case o2Zq => regstrif_gather); (case mZq => assumption); (case DZq => k_asm); (case lenZq => assumption); (case fZq => regstrif_gather); (case lZq => regstrif_gather); (case l2Zq => regstrif_gather)); (intro hZq' tkZq' nZq' tZq' foZq' tfoZq' oTZq' hscZq' hKZq' hdxZq' haTZq' hTdZq'; obtain ⟨FZq', NZq'⟩ := News.at2 (by k_asm) (by k_asm) (by k_updF) (by k_updF) hKZq' hdxZq' haTZq' (by k_ne)); rotate_left; (intro eZq' hZq' tkZq' hmZq' hscZq' hKZq' RZq'; dsimp only)) | ((with_reducible show wpAny _ _ (call (Value.ref 63) [Value.str _ _]) _ _ _); k_dflt (refine' new_exc ?XZq ?TZq ?FZq ?NZq ?dZq ?_; (case FZq => k_asm); (case XZq => assumption); (case TZq => assumption); (case NZq => k_asm); (case dZq => ktr_room)); intro hZq' e d t tkZq' FZq' NZq' neZq'; refine ⟨_, _, _, rfl, FZq'.keep, (NZq' _ (.head _)).1, ?_⟩; show wpAny _ _ (leaving _ _) _ _ _)) <;> k_steps))
  unfold Stop
  refine loop_range (l - f + 1).toNat (fun i m news => m (Str.ofString "self") = some (.ref xS) ∧ ∃ n tn oT', news = [(xS, instObj 1396 dS), (dS, dSock w x xB rS), (x, instObj 154 dx), (dx, dPorts w f l n tn aT rP), (aT, oT'), (xB, instObj 1138 dB), (dB, dTable w dC dL j1 j2)] ∧
      oT'.IsDictOf (intKind prog w) kvs ∧ f ≤ n ∧ n ≤ l ∧ ownScan f l (fun n => (valueAt kvs n).isSome) (fun n => xsC.any (fun x => portC x.1 == n) || xsL.any fun x => portL x.1 == n) ((l - f + 1).toNat - i) n = ownScan f l (fun n => (valueAt kvs n).isSome) (fun n => xsC.any (fun x => portC x.1 == n) || xsL.any fun x => portL x.1 == n) (l - f + 1).toNat fo)
    (by assumption) (range_small (rng0 hl) (rng1 hf hl2)) (range_size (rng0 hl)) (by k_asm) (by k_asm) rfl ⟨rfl, fo, tfo, oT, rfl, hTd, hfo, hfo2, rfl⟩ ?turn ?done
  case done =>
    rintro h' tk m' news' F9 N9 ⟨hs, n, tn, oT', rfl, hTd', hn1, hn2, hsc⟩
    clear hTd
    (k_steps; repeat' ((first | ((try dsimp only [List.cons_append, List.nil_append]); (with_reducible show wpAny _ _ (call (Value.ref 151) [Value.ref _, Value.int _ _]) _ _ _); k_dflt (refine' free_R ?XZq ?TZq ?CZq ?dZq ?OZq ?o1Zq ?o2Zq ?mZq ?DZq ?lenZq ?nbZq ?_ ?_; (case CZq => ((refine Cx.call ‹_› (by k_asm) (by rfl)))); (case XZq => assumption); (case TZq => assumption); (case dZq => ktr_room); (case OZq => ((refine Own.of ‹_› (by k_asm) (by keq_rows)))); (case o1Zq => regstrif_gather); (case o2Zq => regstrif_gather); (case mZq => assumption); (case DZq => k_asm); (case lenZq => first | assumption | exact small_stored (by assumption)); (case nbZq => assumption)); (intro hZq' tkZq' oTZq' hsZq' hTdZq' hKZq' haTZq'; obtain ⟨FZq', NZq'⟩ := News.at1 (by k_asm) (by k_asm) (by k_updF) hKZq' haTZq'); rotate_left; (intro eZq' hZq' tkZq' hmZq' hscZq' hKZq' RZq'; dsimp only)) | ((try dsimp only [List.cons_append, List.nil_append]); (with_reducible show wpAny _ _ (call (Value.ref 1130) [Value.ref _, Value.int _ _]) _ _ _); k_dflt (refine' is_port_used_R ?XZq ?TZq ?CZq ?dZq ?OZq ?o1Zq ?oCZq ?oLZq ?mZq ?m2Zq ?hCZq ?hC2Zq ?hLZq ?hL2Zq ?lenZq ?_; (case CZq => ((refine Cx.call ‹_› (by k_asm) (by rfl)))); (case XZq => assumption); (case TZq => assumption); (case dZq => ktr_room); (case OZq => ((refine Own.of ‹_› (by k_asm) (by keq_rows)))); (case o1Zq => regstrif_gather); (case oCZq => regstrif_gather); (case oLZq => regstrif_gather); (case mZq => assumption); (case m2Zq => assumption); (case hCZq => exact dictOfH_up tupKnd_tt (by assumption) (Fr.keep (by k_asm))); (case hLZq => exact dictOfH_up tupKnd_t (by assumption) (Fr.keep (by k_asm))); (case hC2Zq => assumption); (case hL2Zq => assumption); (case lenZq => assumption)); intro bZq' hZq' tkZq' hbZq' hKZq'; obtain ⟨FZq', NZq'⟩ := News.at0 (by k_asm) (by k_asm) hKZq') | ((try dsimp only [List.cons_append, List.nil_append]); (with_reducible show wpAny _ _ (call (Value.ref 130) [Value.ref _, Value.int 0 _]) _ _ _); k_dflt (refine' take_R ?XZq ?TZq ?CZq ?dZq ?OZq ?o1Zq ?o2Zq ?mZq ?DZq ?lenZq ?fZq ?lZq ?l2Zq ?_ ?_; (case CZq => ((refine Cx.call ‹_› (by k_asm) (by rfl)))); (case XZq => assumption); (case TZq => assumption); (case dZq => ktr_room); (case OZq => ((refine Own.of ‹_› (by k_asm) (by keq_rows)))); (case o1Zq => regstrif_gather); (case o2Zq => regstrif_gather); (case mZq => assumption); (case DZq => k_asm); (case lenZq => assumption); (case fZq => regstrif_gather); (case lZq => regstrif_gather); (case l2Zq => regstrif_gather)); (intro hZq' tkZq' nZq' tZq' foZq' tfoZq' oTZq' hscZq' hKZq' hdxZq' haTZq' hTdZq'; obtain ⟨FZq', NZq'⟩ := News.at2 (by k_asm) (by k_asm) (by k_updF) (by k_updF) hKZq' hdxZq' haTZq' (by k_ne)); rotate_left; (intro eZq' hZq' tkZq' hmZq' hscZq' hKZq' RZq'; dsimp only)) | ((with_reducible show wpAny _ _ (call (Value.ref 63) [Value.str _ _]) _ _ _); k_dflt (refine' new_exc ?XZq ?TZq ?FZq ?NZq ?dZq ?_; (case FZq => k_asm); (case XZq => assumption); (case TZq => assumption); (case NZq => k_asm); (case dZq => ktr_room)); intro hZq' e d t tkZq' FZq' NZq' neZq'; refine ⟨_, _, _, rfl, FZq'.keep, (NZq' _ (.head _)).1, ?_⟩; show wpAny _ _ (leaving _ _) _ _ _)) <;> k_steps))
    · exact Fr.keep (by k_asm)
    · refine' hexc _ _ _ _ n tn oT' ?ka ?kp ?kb ?kc hTd' (by assumption)
      case ka => rw [← hsc, Nat.sub_self]; rfl
      case kp => ((refine kp_hm ‹_› ‹_› (by k_asm) (by k_asm) ‹_› (by rfl) (by ked_reads)))
      case kb => exact get_hm (by k_asm) (by assumption) (by k_mem)
      case kc => exact get_hm (by k_asm) (by assumption) (by k_mem)
  case turn =>
    rintro i t m₁ news₁ h tk I oI hi ⟨hs, n, tn, oT', rfl, hTd', hn1, hn2, hsc⟩ hI hI2 hI3 F9 N9
    clear hTd
    k_lt hI2
    have e : (l - f + 1).toNat - i = ((l - f + 1).toNat - (i + 1)) + 1 := sub_step (by assumption)
    rw [e, ownScan] at hsc
    have hlen3 : kvs.length ≤ 1000 := Nat.le_trans hlen2 (by decide)
    (k_steps; repeat' ((first | ((try dsimp only [List.cons_append, List.nil_append]); (with_reducible show wpAny _ _ (call (Value.ref 151) [Value.ref _, Value.int _ _]) _ _ _); k_dflt (refine' free_R ?XZq ?TZq ?CZq ?dZq ?OZq ?o1Zq ?o2Zq ?mZq ?DZq ?lenZq ?nbZq ?_ ?_; (case CZq => ((refine Cx.call ‹_› (by k_asm) (by rfl)))); (case XZq => assumption); (case TZq => assumption); (case dZq => ktr_room); (case OZq => ((refine Own.of ‹_› (by k_asm) (by keq_rows)))); (case o1Zq => regstrif_gather); (case o2Zq => regstrif_gather); (case mZq => assumption); (case DZq => k_asm); (case lenZq => first | assumption | exact small_stored (by assumption)); (case nbZq => assumption)); (intro hZq' tkZq' oTZq' hsZq' hTdZq' hKZq' haTZq'; obtain ⟨FZq', NZq'⟩ := News.at1 (by k_asm) (by k_asm) (by k_updF) hKZq' haTZq'); rotate_left; (intro eZq' hZq' tkZq' hmZq' hscZq' hKZq' RZq'; dsimp only)) | ((try dsimp only [List.cons_append, List.nil_append]); (with_reducible show wpAny _ _ (call (Value.ref 1130) [Value.ref _, Value.int _ _]) _ _ _); k_dflt (refine' is_port_used_R ?XZq ?TZq ?CZq ?dZq ?OZq ?o1Zq ?oCZq ?oLZq ?mZq ?m2Zq ?hCZq ?hC2Zq ?hLZq ?hL2Zq ?lenZq ?_; (case CZq => ((refine Cx.call ‹_› (by k_asm) (by rfl)))); (case XZq => assumption); (case TZq => assumption); (case dZq => ktr_room); (case OZq => ((refine Own.of ‹_› (by k_asm) (by keq_rows)))); (case o1Zq => regstrif_gather); (case oCZq => regstrif_gather); (case oLZq => regstrif_gather); (case mZq => assumption); (case m2Zq => assumption); (case hCZq => exact dictOfH_up tupKnd_tt (by assumption) (Fr.keep (by k_asm))); (case hLZq => exact dictOfH_up tupKnd_t (by assumption) (Fr.keep (by k_asm))); (case hC2Zq => assumption); (case hL2Zq => assumption); (case lenZq => assumption)); intro bZq' hZq' tkZq' hbZq' hKZq'; obtain ⟨FZq', NZq'⟩ := News.at0 (by k_asm) (by k_asm) hKZq') | ((try dsimp only [List.cons_append, List.nil_append]); (with_reducible show wpAny _ _ (call (Value.ref 130) [Value.ref _, Value.int 0 _]) _ _ _); k_dflt (refine' take_R ?XZq ?TZq ?CZq ?dZq ?OZq ?o1Zq ?o2Zq ?mZq ?DZq ?lenZq ?fZq ?lZq ?l2Zq ?_ ?_; (case CZq => ((refine Cx.call ‹_› (by k_asm) (by rfl)))); (case XZq => assumption); (case TZq => assumption); (case dZq => ktr_room); (case OZq => ((refine Own.of ‹_› (by k_asm) (by keq_rows)))); (case o1Zq => regstrif_gather); (case o2Zq => regstrif_gather); (case mZq => assumption); (case DZq => k_asm); (case lenZq => assumption); (case fZq => regstrif_gather); (case lZq => regstrif_gather); (case l2Zq => regstrif_gather)); (intro hZq' tkZq' nZq' tZq' foZq' tfoZq' oTZq' hscZq' hKZq' hdxZq' haTZq' hTdZq'; obtain ⟨FZq', NZq'⟩ := News.at2 (by k_asm) (by k_asm) (by k_updF) (by k_updF) hKZq' hdxZq' haTZq' (by k_ne)); rotate_left; (intro eZq' hZq' tkZq' hmZq' hscZq' hKZq' RZq'; dsimp only)) | ((with_reducible show wpAny _ _ (call (Value.ref 63) [Value.str _ _]) _ _ _); k_dflt (refine' new_exc ?XZq ?TZq ?FZq ?NZq ?dZq ?_; (case FZq => k_asm); (case XZq => assumption); (case TZq => assumption); (case NZq => k_asm); (case dZq => ktr_room)); intro hZq' e d t tkZq' FZq' NZq' neZq'; refine ⟨_, _, _, rfl, FZq'.keep, (NZq' _ (.head _)).1, ?_⟩; show wpAny _ _ (leaving _ _) _ _ _)) <;> k_steps))
    · rename scan _ _ _ _ _ = _ => q
      refine' hexc _ _ _ _ n tn oT' ?ka ?kp ?kb ?kc hTd' (by assumption)
      case ka => rw [← hsc, q]
      case kp => ((refine' kp_on ‹_› ‹_› ?FZq ?NZq ‹_› ?hAZq ?hMZq ?hsZq; (case FZq => k_asm); (case NZq => k_asm); (case hAZq => ((intro q hq; first | exact hq | exact List.Mem.tail _ hq | exact List.Mem.tail _ (List.Mem.tail _ hq) | exact absurd hq List.not_mem_nil | (repeat (first | (rcases List.mem_cons.mp hq with rfl | hq; kpt_turns) | exact absurd hq (List.not_mem_nil)))))); (case hMZq => ((intro q hq; first | exact hq | exact List.Mem.tail _ hq | exact List.Mem.tail _ (List.Mem.tail _ hq) | exact absurd hq List.not_mem_nil | (repeat (first | (rcases List.mem_cons.mp hq with rfl | hq; kpt_turns) | exact absurd hq (List.not_mem_nil)))))); (case hsZq => ked_reads)))
      case kb => ((refine' get_on ?NZq ‹_› ?dZq ?MZq; (case NZq => k_asm); (case dZq => k_mem); (case MZq => exact List.not_mem_nil)))
      case kc => ((refine' get_on ?NZq ‹_› ?dZq ?MZq; (case NZq => k_asm); (case dZq => k_mem); (case MZq => exact List.not_mem_nil)))
    · rename scan _ _ _ _ _ = _ => q
      have hr := scan_range hn1 hn2 q
      have hnb := small_of hf hl2 hr.1 hr.2.1
      rw [q] at hsc
      rename _ = (_ || _) => qb
      rename _ = true => qt
      (first | ((try dsimp only [List.cons_append, List.nil_append]); (with_reducible show wpAny _ _ (call (Value.ref 151) [Value.ref _, Value.int _ _]) _ _ _); k_dflt (refine' free_R ?XZq ?TZq ?CZq ?dZq ?OZq ?o1Zq ?o2Zq ?mZq ?DZq ?lenZq ?nbZq ?_ ?_; (case CZq => ((refine Cx.call ‹_› (by k_asm) (by rfl)))); (case XZq => assumption); (case TZq => assumption); (case dZq => ktr_room); (case OZq => ((refine Own.of ‹_› (by k_asm) (by keq_rows)))); (case o1Zq => regstrif_gather); (case o2Zq => regstrif_gather); (case mZq => assumption); (case DZq => k_asm); (case lenZq => first | assumption | exact small_stored (by assumption)); (case nbZq => assumption)); (intro hZq' tkZq' oTZq' hsZq' hTdZq' hKZq' haTZq'; obtain ⟨FZq', NZq'⟩ := News.at1 (by k_asm) (by k_asm) (by k_updF) hKZq' haTZq'); rotate_left; (intro eZq' hZq' tkZq' hmZq' hscZq' hKZq' RZq'; dsimp only)) | ((try dsimp only [List.cons_append, List.nil_append]); (with_reducible show wpAny _ _ (call (Value.ref 1130) [Value.ref _, Value.int _ _]) _ _ _); k_dflt (refine' is_port_used_R ?XZq ?TZq ?CZq ?dZq ?OZq ?o1Zq ?oCZq ?oLZq ?mZq ?m2Zq ?hCZq ?hC2Zq ?hLZq ?hL2Zq ?lenZq ?_; (case CZq => ((refine Cx.call ‹_› (by k_asm) (by rfl)))); (case XZq => assumption); (case TZq => assumption); (case dZq => ktr_room); (case OZq => ((refine Own.of ‹_› (by k_asm) (by keq_rows)))); (case o1Zq => regstrif_gather); (case oCZq => regstrif_gather); (case oLZq => regstrif_gather); (case mZq => assumption); (case m2Zq => assumption); (case hCZq => exact dictOfH_up tupKnd_tt (by assumption) (Fr.keep (by k_asm))); (case hLZq => exact dictOfH_up tupKnd_t (by assumption) (Fr.keep (by k_asm))); (case hC2Zq => assumption); (case hL2Zq => assumption); (case lenZq => assumption)); intro bZq' hZq' tkZq' hbZq' hKZq'; obtain ⟨FZq', NZq'⟩ := News.at0 (by k_asm) (by k_asm) hKZq') | ((try dsimp only [List.cons_append, List.nil_append]); (with_reducible show wpAny _ _ (call (Value.ref 130) [Value.ref _, Value.int 0 _]) _ _ _); k_dflt (refine' take_R ?XZq ?TZq ?CZq ?dZq ?OZq ?o1Zq ?o2Zq ?mZq ?DZq ?lenZq ?fZq ?lZq ?l2Zq ?_ ?_; (case CZq => ((refine Cx.call ‹_› (by k_asm) (by rfl)))); (case XZq => assumption); (case TZq => assumption); (case dZq => ktr_room); (case OZq => ((refine Own.of ‹_› (by k_asm) (by keq_rows)))); (case o1Zq => regstrif_gather); (case o2Zq => regstrif_gather); (case mZq => assumption); (case DZq => k_asm); (case lenZq => assumption); (case fZq => regstrif_gather); (case lZq => regstrif_gather); (case l2Zq => regstrif_gather)); (intro hZq' tkZq' nZq' tZq' foZq' tfoZq' oTZq' hscZq' hKZq' hdxZq' haTZq' hTdZq'; obtain ⟨FZq', NZq'⟩ := News.at2 (by k_asm) (by k_asm) (by k_updF) (by k_updF) hKZq' hdxZq' haTZq' (by k_ne)); rotate_left; (intro eZq' hZq' tkZq' hmZq' hscZq' hKZq' RZq'; dsimp only)) | ((with_reducible show wpAny _ _ (call (Value.ref 63) [Value.str _ _]) _ _ _); k_dflt (refine' new_exc ?XZq ?TZq ?FZq ?NZq ?dZq ?_; (case FZq => k_asm); (case XZq => assumption); (case TZq => assumption); (case NZq => k_asm); (case dZq => ktr_room)); intro hZq' e d t tkZq' FZq' NZq' neZq'; refine ⟨_, _, _, rfl, FZq'.keep, (NZq' _ (.head _)).1, ?_⟩; show wpAny _ _ (leaving _ _) _ _ _))
      · rename valueAt (stored _ _ _) _ = none => qn
        exact absurd (stored_some hr.2.2.2.2) (by rw [qn]; exact Bool.false_ne_true)
      · rename Obj.IsDictOf _ _ (without _ _) => qd
        rw [without_stored hr.2.2.2.2] at qd
        rw [qb] at qt
        dsimp only at hsc
        rw [if_pos qt] at hsc
        (k_steps; repeat' ((first | ((try dsimp only [List.cons_append, List.nil_append]); (with_reducible show wpAny _ _ (call (Value.ref 151) [Value.ref _, Value.int _ _]) _ _ _); k_dflt (refine' free_R ?XZq ?TZq ?CZq ?dZq ?OZq ?o1Zq ?o2Zq ?mZq ?DZq ?lenZq ?nbZq ?_ ?_; (case CZq => ((refine Cx.call ‹_› (by k_asm) (by rfl)))); (case XZq => assumption); (case TZq => assumption); (case dZq => ktr_room); (case OZq => ((refine Own.of ‹_› (by k_asm) (by keq_rows)))); (case o1Zq => regstrif_gather); (case o2Zq => regstrif_gather); (case mZq => assumption); (case DZq => k_asm); (case lenZq => first | assumption | exact small_stored (by assumption)); (case nbZq => assumption)); (intro hZq' tkZq' oTZq' hsZq' hTdZq' hKZq' haTZq'; obtain ⟨FZq', NZq'⟩ := News.at1 (by k_asm) (by k_asm) (by k_updF) hKZq' haTZq'); rotate_left; (intro eZq' hZq' tkZq' hmZq' hscZq' hKZq' RZq'; dsimp only)) | ((try dsimp only [List.cons_append, List.nil_append]); (with_reducible show wpAny _ _ (call (Value.ref 1130) [Value.ref _, Value.int _ _]) _ _ _); k_dflt (refine' is_port_used_R ?XZq ?TZq ?CZq ?dZq ?OZq ?o1Zq ?oCZq ?oLZq ?mZq ?m2Zq ?hCZq ?hC2Zq ?hLZq ?hL2Zq ?lenZq ?_; (case CZq => ((refine Cx.call ‹_› (by k_asm) (by rfl)))); (case XZq => assumption); (case TZq => assumption); (case dZq => ktr_room); (case OZq => ((refine Own.of ‹_› (by k_asm) (by keq_rows)))); (case o1Zq => regstrif_gather); (case oCZq => regstrif_gather); (case oLZq => regstrif_gather); (case mZq => assumption); (case m2Zq => assumption); (case hCZq => exact dictOfH_up tupKnd_tt (by assumption) (Fr.keep (by k_asm))); (case hLZq => exact dictOfH_up tupKnd_t (by assumption) (Fr.keep (by k_asm))); (case hC2Zq => assumption); (case hL2Zq => assumption); (case lenZq => assumption)); intro bZq' hZq' tkZq' hbZq' hKZq'; obtain ⟨FZq', NZq'⟩ := News.at0 (by k_asm) (by k_asm) hKZq') | ((try dsimp only [List.cons_append, List.nil_append]); (with_reducible show wpAny _ _ (call (Value.ref 130) [Value.ref _, Value.int 0 _]) _ _ _); k_dflt (refine' take_R ?XZq ?TZq ?CZq ?dZq ?OZq ?o1Zq ?o2Zq ?mZq ?DZq ?lenZq ?fZq ?lZq ?l2Zq ?_ ?_; (case CZq => ((refine Cx.call ‹_› (by k_asm) (by rfl)))); (case XZq => assumption); (case TZq => assumption); (case dZq => ktr_room); (case OZq => ((refine Own.of ‹_› (by k_asm) (by keq_rows)))); (case o1Zq => regstrif_gather); (case o2Zq => regstrif_gather); (case mZq => assumption); (case DZq => k_asm); (case lenZq => assumption); (case fZq => regstrif_gather); (case lZq => regstrif_gather); (case l2Zq => regstrif_gather)); (intro hZq' tkZq' nZq' tZq' foZq' tfoZq' oTZq' hscZq' hKZq' hdxZq' haTZq' hTdZq'; obtain ⟨FZq', NZq'⟩ := News.at2 (by k_asm) (by k_asm) (by k_updF) (by k_updF) hKZq' hdxZq' haTZq' (by k_ne)); rotate_left; (intro eZq' hZq' tkZq' hmZq' hscZq' hKZq' RZq'; dsimp only)) | ((with_reducible show wpAny _ _ (call (Value.ref 63) [Value.str _ _]) _ _ _); k_dflt (refine' new_exc ?XZq ?TZq ?FZq ?NZq ?dZq ?_; (case FZq => k_asm); (case XZq => assumption); (case TZq => assumption); (case NZq => k_asm); (case dZq => ktr_room)); intro hZq' e d t tkZq' FZq' NZq' neZq'; refine ⟨_, _, _, rfl, FZq'.keep, (NZq' _ (.head _)).1, ?_⟩; show wpAny _ _ (leaving _ _) _ _ _)) <;> k_steps))
        refine' turned_next _ ?kF ?kN ?kI ?kJ
        case kF => k_asm
        case kN => k_asm
        case kI => kbo_bools
        case kJ => exact ⟨by kaf_pre, _, _, _, rfl, qd, hr.2.2.1, hr.2.2.2.1, hsc⟩
    · rename scan _ _ _ _ _ = _ => q
      rename _ = (_ || _) => qb
      rw [q] at hsc
      repeat unfold Stop
      (try dsimp only)
      (k_steps; repeat' ((first | ((try dsimp only [List.cons_append, List.nil_append]); (with_reducible show wpAny _ _ (call (Value.ref 151) [Value.ref _, Value.int _ _]) _ _ _); k_dflt (refine' free_R ?XZq ?TZq ?CZq ?dZq ?OZq ?o1Zq ?o2Zq ?mZq ?DZq ?lenZq ?nbZq ?_ ?_; (case CZq => ((refine Cx.call ‹_› (by k_asm) (by rfl)))); (case XZq => assumption); (case TZq => assumption); (case dZq => ktr_room); (case OZq => ((refine Own.of ‹_› (by k_asm) (by keq_rows)))); (case o1Zq => regstrif_gather); (case o2Zq => regstrif_gather); (case mZq => assumption); (case DZq => k_asm); (case lenZq => first | assumption | exact small_stored (by assumption)); (case nbZq => assumption)); (intro hZq' tkZq' oTZq' hsZq' hTdZq' hKZq' haTZq'; obtain ⟨FZq', NZq'⟩ := News.at1 (by k_asm) (by k_asm) (by k_updF) hKZq' haTZq'); rotate_left; (intro eZq' hZq' tkZq' hmZq' hscZq' hKZq' RZq'; dsimp only)) | ((try dsimp only [List.cons_append, List.nil_append]); (with_reducible show wpAny _ _ (call (Value.ref 1130) [Value.ref _, Value.int _ _]) _ _ _); k_dflt (refine' is_port_used_R ?XZq ?TZq ?CZq ?dZq ?OZq ?o1Zq ?oCZq ?oLZq ?mZq ?m2Zq ?hCZq ?hC2Zq ?hLZq ?hL2Zq ?lenZq ?_; (case CZq => ((refine Cx.call ‹_› (by k_asm) (by rfl)))); (case XZq => assumption); (case TZq => assumption); (case dZq => ktr_room); (case OZq => ((refine Own.of ‹_› (by k_asm) (by keq_rows)))); (case o1Zq => regstrif_gather); (case oCZq => regstrif_gather); (case oLZq => regstrif_gather); (case mZq => assumption); (case m2Zq => assumption); (case hCZq => exact dictOfH_up tupKnd_tt (by assumption) (Fr.keep (by k_asm))); (case hLZq => exact dictOfH_up tupKnd_t (by assumption) (Fr.keep (by k_asm))); (case hC2Zq => assumption); (case hL2Zq => assumption); (case lenZq => assumption)); intro bZq' hZq' tkZq' hbZq' hKZq'; obtain ⟨FZq', NZq'⟩ := News.at0 (by k_asm) (by k_asm) hKZq') | ((try dsimp only [List.cons_append, List.nil_append]); (with_reducible show wpAny _ _ (call (Value.ref 130) [Value.ref _, Value.int 0 _]) _ _ _); k_dflt (refine' take_R ?XZq ?TZq ?CZq ?dZq ?OZq ?o1Zq ?o2Zq ?mZq ?DZq ?lenZq ?fZq ?lZq ?l2Zq ?_ ?_; (case CZq => ((refine Cx.call ‹_› (by k_asm) (by rfl)))); (case XZq => assumption); (case TZq => assumption); (case dZq => ktr_room); (case OZq => ((refine Own.of ‹_› (by k_asm) (by keq_rows)))); (case o1Zq => regstrif_gather); (case o2Zq => regstrif_gather); (case mZq => assumption); (case DZq => k_asm); (case lenZq => assumption); (case fZq => regstrif_gather); (case lZq => regstrif_gather); (case l2Zq => regstrif_gather)); (intro hZq' tkZq' nZq' tZq' foZq' tfoZq' oTZq' hscZq' hKZq' hdxZq' haTZq' hTdZq'; obtain ⟨FZq', NZq'⟩ := News.at2 (by k_asm) (by k_asm) (by k_updF) (by k_updF) hKZq' hdxZq' haTZq' (by k_ne)); rotate_left; (intro eZq' hZq' tkZq' hmZq' hscZq' hKZq' RZq'; dsimp only)) | ((with_reducible show wpAny _ _ (call (Value.ref 63) [Value.str _ _]) _ _ _); k_dflt (refine' new_exc ?XZq ?TZq ?FZq ?NZq ?dZq ?_; (case FZq => k_asm); (case XZq => assumption); (case TZq => assumption); (case NZq => k_asm); (case dZq => ktr_room)); intro hZq' e d t tkZq' FZq' NZq' neZq'; refine ⟨_, _, _, rfl, FZq'.keep, (NZq' _ (.head _)).1, ?_⟩; show wpAny _ _ (leaving _ _) _ _ _)) <;> k_steps))
      unfold Stop
      unfold Turned
      (try dsimp only)
      (k_steps; repeat' ((first | ((try dsimp only [List.cons_append, List.nil_append]); (with_reducible show wpAny _ _ (call (Value.ref 151) [Value.ref _, Value.int _ _]) _ _ _); k_dflt (refine' free_R ?XZq ?TZq ?CZq ?dZq ?OZq ?o1Zq ?o2Zq ?mZq ?DZq ?lenZq ?nbZq ?_ ?_; (case CZq => ((refine Cx.call ‹_› (by k_asm) (by rfl)))); (case XZq => assumption); (case TZq => assumption); (case dZq => ktr_room); (case OZq => ((refine Own.of ‹_› (by k_asm) (by keq_rows)))); (case o1Zq => regstrif_gather); (case o2Zq => regstrif_gather); (case mZq => assumption); (case DZq => k_asm); (case lenZq => first | assumption | exact small_stored (by assumption)); (case nbZq => assumption)); (intro hZq' tkZq' oTZq' hsZq' hTdZq' hKZq' haTZq'; obtain ⟨FZq', NZq'⟩ := News.at1 (by k_asm) (by k_asm) (by k_updF) hKZq' haTZq'); rotate_left; (intro eZq' hZq' tkZq' hmZq' hscZq' hKZq' RZq'; dsimp only)) | ((try dsimp only [List.cons_append, List.nil_append]); (with_reducible show wpAny _ _ (call (Value.ref 1130) [Value.ref _, Value.int _ _]) _ _ _); k_dflt (refine' is_port_used_R ?XZq ?TZq ?CZq ?dZq ?OZq ?o1Zq ?oCZq ?oLZq ?mZq ?m2Zq ?hCZq ?hC2Zq ?hLZq ?hL2Zq ?lenZq ?_; (case CZq => ((refine Cx.call ‹_› (by k_asm) (by rfl)))); (case XZq => assumption); (case TZq => assumption); (case dZq => ktr_room); (case OZq => ((refine Own.of ‹_› (by k_asm) (by keq_rows)))); (case o1Zq => regstrif_gather); (case oCZq => regstrif_gather); (case oLZq => regstrif_gather); (case mZq => assumption); (case m2Zq => assumption); (case hCZq => exact dictOfH_up tupKnd_tt (by assumption) (Fr.keep (by k_asm))); (case hLZq => exact dictOfH_up tupKnd_t (by assumption) (Fr.keep (by k_asm))); (case hC2Zq => assumption); (case hL2Zq => assumption); (case lenZq => assumption)); intro bZq' hZq' tkZq' hbZq' hKZq'; obtain ⟨FZq', NZq'⟩ := News.at0 (by k_asm) (by k_asm) hKZq') | ((try dsimp only [List.cons_append, List.nil_append]); (with_reducible show wpAny _ _ (call (Value.ref 130) [Value.ref _, Value.int 0 _]) _ _ _); k_dflt (refine' take_R ?XZq ?TZq ?CZq ?dZq ?OZq ?o1Zq ?o2Zq ?mZq ?DZq ?lenZq ?fZq ?lZq ?l2Zq ?_ ?_; (case CZq => ((refine Cx.call ‹_› (by k_asm) (by rfl)))); (case XZq => assumption); (case TZq => assumption); (case dZq => ktr_room); (case OZq => ((refine Own.of ‹_› (by k_asm) (by keq_rows)))); (case o1Zq => regstrif_gather); (case o2Zq => regstrif_gather); (case mZq => assumption); (case DZq => k_asm); (case lenZq => assumption); (case fZq => regstrif_gather); (case lZq => regstrif_gather); (case l2Zq => regstrif_gather)); (intro hZq' tkZq' nZq' tZq' foZq' tfoZq' oTZq' hscZq' hKZq' hdxZq' haTZq' hTdZq'; obtain ⟨FZq', NZq'⟩ := News.at2 (by k_asm) (by k_asm) (by k_updF) (by k_updF) hKZq' hdxZq' haTZq' (by k_ne)); rotate_left; (intro eZq' hZq' tkZq' hmZq' hscZq' hKZq' RZq'; dsimp only)) | ((with_reducible show wpAny _ _ (call (Value.ref 63) [Value.str _ _]) _ _ _); k_dflt (refine' new_exc ?XZq ?TZq ?FZq ?NZq ?dZq ?_; (case FZq => k_asm); (case XZq => assumption); (case TZq => assumption); (case NZq => k_asm); (case dZq => ktr_room)); intro hZq' e d t tkZq' FZq' NZq' neZq'; refine ⟨_, _, _, rfl, FZq'.keep, (NZq' _ (.head _)).1, ?_⟩; show wpAny _ _ (leaving _ _) _ _ _)) <;> k_steps))
      dsimp only at hsc
      rename _ = false => qf
      rw [qb] at qf
      rw [if_neg (by rw [qf]; exact Bool.false_ne_true)] at hsc
      refine' hret _ _ _ _ _ _ _ hsc.symm ?kp ?kb ?kc (by assumption)
      case kp => ((refine kp_end ‹_› ‹_› (by k_asm) (by k_asm) (by ked_reads)))
      case kb => exact News.get (by k_asm) (by k_mem)
      case kc => exact News.get (by k_asm) (by k_mem)
end
end
section
local macro_rules | `(tactic| walk_at "dropF") => `(tactic| (first | (refine' DropF.head ?_; k_all) | (refine DropF.tail (by k_ne) (by walk_at "dropF"))))
local macro_rules | `(tactic| walk_at "LeaveT") => `(tactic| (k_dflt (refine leaveI_ (by k_asm) (by k_asm) (by k_mem) (by walk_at "dropF") ?_); intro kF' kN'; (try refine initBack_none ?_); (try dsimp only)))
local macro_rules | `(tactic| walk_at "testChain") => `(tactic| first | with_reducible refine test_link ?_ | k_dflt (refine test_link ?_) | k_dflt (refine test_last ?_))
local macro_rules | `(tactic| walk_at "madeN") => `(tactic| (refine all_cons ?_ ?_; (refine made_at ‹_› ‹_› (by k_mem)); first | apply all_nil | walk_at "madeN"))
local macro_rules | `(tactic| walk_at "execs cons") => `(tactic| ((with_reducible show wpAny _ _ _ _ _ (Shared.mk _ _ _ (_ + _) _)); refine gen_tok ?_; intro _))
section -- V0
theorem reg_V0 : PySem.Challenge.rw_pq1204_01 = PySem.Challenge.rw_pq1204_01 ∧ K = K := by k_fill; exact ⟨rfl, rfl⟩
theorem limits_F {prog : Program} {w : World} {A : Around} {s : Shared} {h₀ : Heap} {L : Addr} {m mg mb : Str → Option Value} {p : Program} {loose : List Str} {mean : ExcName → Option Value} {Q E : Value → Shared → Prop} {v0 v1 v2 v3 v4 v5 v6 v7 v8 v9 : Value}
  (F : Fr h₀ L s.heap m) (X₀ : (K w.params).In h₀) (N : News h₀ L s.heap []) (T₀ : Top p loose mean mg mb h₀) (hd : A.depth + 10 < recursionLimit)
  (hret : ∀ x h' tk', Fr h₀ L h' m → News h₀ L h' [] → Q (.ref x) { s with heap := h', toks := tk' }) :
  wpAny (model prog w) A (call (.ref 932) [v0, v1, v2, v3, v4, v5, v6, v7, v8, v9]) Q E s := by
  (k_steps; repeat' ((first | (first | (with_reducible show wpAny _ _ (call (Value.ref 932) _) _ _ _) | (with_reducible show wpAny _ _ (call (Value.ref 154) _) _ _ _) | (with_reducible show wpAny _ _ (call (Value.ref 1138) _) _ _ _) | (with_reducible show wpAny _ _ (call (Value.ref 1396) _) _ _ _)); refine wpAny_call ?_; k_dflt (refine' make_KL ?FZq ?NZq ?XZq ?hmZq ?hiZq ?hfZq ?_; (case FZq => k_asm); (case NZq => k_asm); (case XZq => exact Frag.In.keeps (by assumption) (Fr.keep (by k_asm))); (case hmZq => k_is); (case hiZq => k_is); (case hfZq => k_is); intro xZq' dxZq' hZq' FZq' NZq' l1Zq' l2Zq'; have lo2Zq' := ltD_two l1Zq' l2Zq'; have lo3Zq' := ltD_one l1Zq' l2Zq'; have n1Zq' := Nat.ne_of_lt l2Zq'.1; have n2Zq' := Nat.ne_of_lt l2Zq'.2; (try k_lt l1Zq'); (refine' enterT (by k_asm) (by k_asm) (by k_asm) (by k_asm) (by k_is) (by k_is) (by ktr_room) (by first | exact BindsTo.of_eq rfl | exact binds_K (by k_in) rfl (by k_is) rfl rfl rfl) ?kBZq ?_ ?c2Zq ?c3Zq ?c4Zq (by decide); (case kBZq => exact locs rfl); (case c2Zq => exact rfl); (case c3Zq => exact rfl); (case c4Zq => exact rfl); k_whole; intro LZq' oLZq' hZq' hoLZq' foZq' FZq' NZq' l0Zq' l1Zq'; (try k_lt l1Zq'); (try dsimp only); (try k_fold)))) <;> k_steps))
  refine hret _ _ _ (by k_asm) (fun _ h => nomatch h)
end
section
section -- V1
theorem reg_V1 : PySem.Challenge.rw_pq1204_01 = PySem.Challenge.rw_pq1204_01 ∧ K = K := by k_fill; exact ⟨rfl, rfl⟩
theorem law_sockets_R {prog : Program} {w : World} {p : Program} {loose : List Str} {mean : ExcName → Option Value} {mg mb : Str → Option Value} {dp un : Nat} {gd : Option (List Code)} {cn : Str} {cs : Scope} {a : Addr} {ccd : Value} {cl : List (Str × Addr)} {outer : List Env} {h₀ : Heap} {Lc : Addr} {s : Shared} {Q E : Value → Shared → Prop} {many : Int} {t : Tok}
  (X₀ : (K w.params).In h₀) (T₀ : Top p loose mean mg mb h₀) (C₀ : Cx h₀ (envX cn cs Lc a ccd cl :: outer) s.heap) (hd : dp + 20 < recursionLimit)
  (hm1 : 1 ≤ many) (hm2 : many ≤ 4)
  (hret : ∀ h' tk' (xS dS x dx aT xB dB dC dL : Nat) (rS : SR) (rP : PR) (j1 j2 : Tok) (tfo : Tok) (oT oC oL : Obj), dS < xS → xS < dx → dx < x → x < aT → aT < dB → dB < xB → xB < dC → dC < dL → (∀ b o, s.heap.get? b = some o → @LT.lt Nat _ b dS) → (aT == sysModules) = false → (dC == sysModules) = false → (dL == sysModules) = false → oT.IsDictOf (intKind prog w) [] → oC.IsDictOf (intKind prog w) [] → oL.IsDictOf (intKind prog w) [] →
    (∀ q ∈ [(xS, instObj 1396 dS), (dS, dSock w x xB rS), (x, instObj 154 dx), (dx, dPorts w 30 (29 + many) 30 tfo aT rP), (aT, oT), (xB, instObj 1138 dB), (dB, dTable w dC dL j1 j2), (dC, oC), (dL, oL)], h'.get? q.1 = some q.2 ∧ s.heap.get? q.1 = none) → Kp [] [] s.heap h' → Q (.ref xS) { s with heap := h', toks := tk' }) :
  wpAny (model prog w) (ktrTop dp un gd cn cs Lc a ccd cl outer) (call (.ref 1454) [.int many t]) Q E s := by
  have O : Own h₀ (envX cn cs Lc a ccd cl :: outer) s.heap [] := fun _ h => nomatch h
  refine wpAny_call ?_; k_dflt ((refine' enterR ?k1Zq ?k2Zq ?k3Zq ?k4Zq ?k6Zq ?k7Zq ?k8Zq ?k9Zq ?kBZq ?_ ?c2Zq ?c3Zq ?c4Zq ?c5Zq; (case k1Zq => assumption); (case k2Zq => assumption); (case k3Zq => assumption); (case k4Zq => assumption); (case k6Zq => k_is); (case k7Zq => k_is); (case k8Zq => ktr_room); (case k9Zq => first | exact BindsTo.of_eq rfl | exact binds_K (Frag.In.keeps (by assumption) (Cx.st (by assumption))) rfl (by k_is) rfl rfl rfl); (case c5Zq => decide); (case kBZq => exact locs rfl); (case c2Zq => exact rfl); (case c3Zq => exact rfl); (case c4Zq => exact rfl); k_whole)); intro g L' h' X' T' C' GK GS' F' N' l1'; (try k_lt l1'); (try dsimp only); (try k_fold)
  (k_steps; repeat' ((first | ((with_reducible show wpAny _ _ (call (Value.ref 932) _) _ _ _); k_dflt (refine limits_F (by k_asm) (by k_asm) (by k_asm) (by k_asm) (by ktr_room) ?_); intro xZq' hZq' tkZq' FZq' NZq'; (try k_sweep)) | (first | (with_reducible show wpAny _ _ (call (Value.ref 932) _) _ _ _) | (with_reducible show wpAny _ _ (call (Value.ref 154) _) _ _ _) | (with_reducible show wpAny _ _ (call (Value.ref 1138) _) _ _ _) | (with_reducible show wpAny _ _ (call (Value.ref 1396) _) _ _ _)); refine wpAny_call ?_; k_dflt (refine' make_KL ?FZq ?NZq ?XZq ?hmZq ?hiZq ?hfZq ?_; (case FZq => k_asm); (case NZq => k_asm); (case XZq => exact Frag.In.keeps (by assumption) (Fr.keep (by k_asm))); (case hmZq => k_is); (case hiZq => k_is); (case hfZq => k_is); intro xZq' dxZq' hZq' FZq' NZq' l1Zq' l2Zq'; have lo2Zq' := ltD_two l1Zq' l2Zq'; have lo3Zq' := ltD_one l1Zq' l2Zq'; have n1Zq' := Nat.ne_of_lt l2Zq'.1; have n2Zq' := Nat.ne_of_lt l2Zq'.2; (try k_lt l1Zq'); (refine' enterT (by k_asm) (by k_asm) (by k_asm) (by k_asm) (by k_is) (by k_is) (by ktr_room) (by first | exact BindsTo.of_eq rfl | exact binds_K (by k_in) rfl (by k_is) rfl rfl rfl) ?kBZq ?_ ?c2Zq ?c3Zq ?c4Zq (by decide); (case kBZq => exact locs rfl); (case c2Zq => exact rfl); (case c3Zq => exact rfl); (case c4Zq => exact rfl); k_whole; intro LZq' oLZq' hZq' hoLZq' foZq' FZq' NZq' l0Zq' l1Zq'; (try k_lt l1Zq'); (try dsimp only); (try k_fold)))) <;> k_steps))
  refine' hret _ _ _ _ _ _ _ _ _ _ _ ⟨_, _, _, _, _, _, _, _, _, _, _, _, _, _⟩ ⟨_, _, _, _, _, _⟩ _ _ _ _ _ _ ?q1 ?q2 ?q3 ?q4 ?q5 ?q6 ?q7 ?q8 ?q0 ?s1 ?s2 ?s3 ?e1 ?e2 ?e3 ?N ?kp
  case N => walk_at "madeN"
  case kp =>
    rename Fr g L' _ _ => F5
    exact kp_end GK O F5 (by assumption) (fun _ h => nomatch h)
  case e1 => assumption
  case e2 => assumption
  case e3 => assumption
  case s1 => assumption
  case s2 => assumption
  case s3 => assumption
  case q0 =>
    rename Fr g L' _ _ => F5
    exact fun b o e => Nat.lt_of_lt_of_le (Heap.lt_size (GK.at e (fun h => nomatch h))) (Nat.le_trans F5.above (Nat.le_of_lt (ltN (by omega))))
  all_goals omega
end
end
end
section -- V2
theorem reg_V2 : PySem.Challenge.rw_pq1204_01 = PySem.Challenge.rw_pq1204_01 ∧ K = K := by k_fill; exact ⟨rfl, rfl⟩
theorem law_behind_R {prog : Program} {w : World} {p : Program} {loose : List Str} {mean : ExcName → Option Value} {mg mb : Str → Option Value} {dp un : Nat} {gd : Option (List Code)} {cn : Str} {cs : Scope} {a : Addr} {ccd : Value} {cl : List (Str × Addr)} {outer : List Env} {h₀ : Heap} {Lc : Addr} {s : Shared} {Q E : Value → Shared → Prop} {port many : Int} {t tm : Tok}
  (X₀ : (K w.params).In h₀) (T₀ : Top p loose mean mg mb h₀) (C₀ : Cx h₀ (envX cn cs Lc a ccd cl :: outer) s.heap) (hd : dp + 20 < recursionLimit)
  (hm1 : 1 ≤ many) (hm2 : many ≤ 4) (hp1 : 0 ≤ port) (hp2 : port ≤ 100)
  (hret : ∀ h' tk' t', Kp [] [] s.heap h' → Q (.int (30 + (port - 29).fmod many) t') { s with heap := h', toks := tk' }) :
  wpAny (model prog w) (ktrTop dp un gd cn cs Lc a ccd cl outer) (call (.ref 1435) [.int port t, .int many tm]) Q E s := by
  have O : Own h₀ (envX cn cs Lc a ccd cl :: outer) s.heap [] := fun _ h => nomatch h
  refine wpAny_call ?_; k_dflt ((refine' enterR ?k1Zq ?k2Zq ?k3Zq ?k4Zq ?k6Zq ?k7Zq ?k8Zq ?k9Zq ?kBZq ?_ ?c2Zq ?c3Zq ?c4Zq ?c5Zq; (case k1Zq => assumption); (case k2Zq => assumption); (case k3Zq => assumption); (case k4Zq => assumption); (case k6Zq => k_is); (case k7Zq => k_is); (case k8Zq => ktr_room); (case k9Zq => first | exact BindsTo.of_eq rfl | exact binds_K (Frag.In.keeps (by assumption) (Cx.st (by assumption))) rfl (by k_is) rfl rfl rfl); (case c5Zq => decide); (case kBZq => exact locs rfl); (case c2Zq => exact rfl); (case c3Zq => exact rfl); (case c4Zq => exact rfl); k_whole)); intro g L' h' X' T' C' GK GS' F' N' l1'; (try k_lt l1'); (try dsimp only); (try k_fold)
  k_steps
  exact hret _ _ _ (kp_end GK O F' N' (fun _ h => nomatch h))

theorem law_take_R {prog : Program} {w : World} {p : Program} {loose : List Str} {mean : ExcName → Option Value} {mg mb : Str → Option Value} {dp un : Nat} {gd : Option (List Code)} {cn : Str} {cs : Scope} {a : Addr} {ccd : Value} {cl : List (Str × Addr)} {outer : List Env} {h₀ : Heap} {Lc : Addr} {s : Shared} {Q E : Value → Shared → Prop} {aS : Nat} {A S top : Int} {ta ts t : Tok} {n : Nat}
  (X₀ : (K w.params).In h₀) (T₀ : Top p loose mean mg mb h₀) (C₀ : Cx h₀ (envX cn cs Lc a ccd cl :: outer) s.heap) (hd : dp + 20 < recursionLimit)
  (O : Own h₀ (envX cn cs Lc a ccd cl :: outer) s.heap [(aS, PySem.W.listOf #[.int A ta, .int S ts] n)])
  (hm1 : 1 ≤ top) (hm2 : top ≤ 100) (hS1 : 0 ≤ S) (hS2 : S < 2147483647)
  (hret : ∀ h' tk' d td A' S' ta' ts' n', 0 ≤ d → d < top → 0 ≤ S' → S' < 2147483647 → Kp [aS] [] s.heap h' → h'.get? aS = some (PySem.W.listOf #[.int A' ta', .int S' ts'] n') → Q (.int d td) { s with heap := h', toks := tk' }) :
  wpAny (model prog w) (ktrTop dp un gd cn cs Lc a ccd cl outer) (call (.ref 1414) [.ref aS, .int top t]) Q E s := by
  refine wpAny_call ?_; k_dflt ((refine' enterR ?k1Zq ?k2Zq ?k3Zq ?k4Zq ?k6Zq ?k7Zq ?k8Zq ?k9Zq ?kBZq ?_ ?c2Zq ?c3Zq ?c4Zq ?c5Zq; (case k1Zq => assumption); (case k2Zq => assumption); (case k3Zq => assumption); (case k4Zq => assumption); (case k6Zq => k_is); (case k7Zq => k_is); (case k8Zq => ktr_room); (case k9Zq => first | exact BindsTo.of_eq rfl | exact binds_K (Frag.In.keeps (by assumption) (Cx.st (by assumption))) rfl (by k_is) rfl rfl rfl); (case c5Zq => decide); (case kBZq => exact locs rfl); (case c2Zq => exact rfl); (case c3Zq => exact rfl); (case c4Zq => exact rfl); k_whole)); intro g L' h' X' T' C' GK GS' F' N' l1'; (try k_lt l1'); (try dsimp only); (try k_fold)
  have hb := take_bound (A := A) (S := S)
  k_steps
  · exact hret _ _ _ _ _ _ _ _ _ (take_mod (by omega)).1 (take_mod (by omega)).2 hS1 hS2 (by ((refine kp_end ‹_› ‹_› (by k_asm) (by k_asm) (by ked_reads)))) (News.get (by k_asm) (by k_mem))
  · refine hret _ _ _ _ _ _ _ _ _ (take_mod (by omega)).1 (take_mod (by omega)).2 ?a ?b ?k (News.get (by k_asm) (by k_mem))
    case a => exact (take_mod (by omega)).1
    case b => exact (take_mod (by omega)).2
    case k => ((refine kp_end ‹_› ‹_› (by k_asm) (by k_asm) (by ked_reads)))
end
section
local macro_rules | `(tactic| walk_at "call builtin:len") => `(tactic| (k_dflt (refine' lenB ?F ‹_› ‹_› ?n ?_; (case F => k_asm); (case n => assumption)); intro _ _))
local macro_rules | `(tactic| walk_at "execs cons") => `(tactic| ((with_reducible show wpAny _ _ _ _ _ (Shared.mk _ _ _ (_ + _) _)); refine gen_tok ?_; intro _))
section -- V3
theorem reg_V3 : PySem.Challenge.rw_pq1204_01 = PySem.Challenge.rw_pq1204_01 ∧ K = K := by k_fill; exact ⟨rfl, rfl⟩
theorem law_one_R {prog : Program} {w : World} {p : Program} {loose : List Str} {mean : ExcName → Option Value} {mg mb : Str → Option Value} {dp un : Nat} {gd : Option (List Code)} {cn : Str} {cs : Scope} {a : Addr} {ccd : Value} {cl : List (Str × Addr)} {outer : List Env} {h₀ : Heap} {Lc : Addr} {s : Shared} {Q E : Value → Shared → Prop} {aS aX : Nat} {A S : Int} {ta ts : Tok} {n nX : Nat} {vs : List Value} {ns : List Int}
  (X₀ : (K w.params).In h₀) (T₀ : Top p loose mean mg mb h₀) (C₀ : Cx h₀ (envX cn cs Lc a ccd cl :: outer) s.heap) (hd : dp + 40 < recursionLimit)
  (O : Own h₀ (envX cn cs Lc a ccd cl :: outer) s.heap [(aS, PySem.W.listOf #[.int A ta, .int S ts] n), (aX, PySem.W.listOf vs.toArray nX)]) (o1 : aS < aX)
  (hI : IntsAre vs ns) (h1 : 1 ≤ ns.length) (h2 : ns.length ≤ 100) (hS1 : 0 ≤ S) (hS2 : S < 2147483647)
  (hret : ∀ h' tk' d td A' S' ta' ts' n', d ∈ ns → 0 ≤ S' → S' < 2147483647 → Kp [aS] [] s.heap h' → h'.get? aS = some (PySem.W.listOf #[.int A' ta', .int S' ts'] n') → Q (.int d td) { s with heap := h', toks := tk' }) :
  wpAny (model prog w) (ktrTop dp un gd cn cs Lc a ccd cl outer) (call (.ref 1421) [.ref aS, .ref aX]) Q E s := by
  have hA : Asc [aS, aX] := ⟨o1, trivial⟩
  refine wpAny_call ?_; k_dflt ((refine' enterR ?k1Zq ?k2Zq ?k3Zq ?k4Zq ?k6Zq ?k7Zq ?k8Zq ?k9Zq ?kBZq ?_ ?c2Zq ?c3Zq ?c4Zq ?c5Zq; (case k1Zq => assumption); (case k2Zq => assumption); (case k3Zq => assumption); (case k4Zq => assumption); (case k6Zq => k_is); (case k7Zq => k_is); (case k8Zq => ktr_room); (case k9Zq => first | exact BindsTo.of_eq rfl | exact binds_K (Frag.In.keeps (by assumption) (Cx.st (by assumption))) rfl (by k_is) rfl rfl rfl); (case c5Zq => decide); (case kBZq => exact locs rfl); (case c2Zq => exact rfl); (case c3Zq => exact rfl); (case c4Zq => exact rfl); k_whole)); intro g L' h' X' T' C' GK GS' F' N' l1'; (try k_lt l1'); (try dsimp only); (try k_fold)
  (k_steps; repeat' ((first | ((try dsimp only [List.cons_append, List.nil_append]); (with_reducible show wpAny _ _ (call (Value.ref 1414) [Value.ref _, Value.int _ _]) _ _ _); k_dflt (refine' law_take_R ?XZq ?TZq ?CZq ?dZq ?OZq ?m1Zq ?m2Zq ?S1Zq ?S2Zq ?_; (case CZq => ((refine Cx.call ‹_› (by k_asm) (by rfl)))); (case XZq => assumption); (case TZq => assumption); (case dZq => ktr_room); (case OZq => ((refine Own.of ‹_› (by k_asm) (by keq_rows)))); (case m1Zq => regstrif_gather); (case m2Zq => regstrif_gather); (case S1Zq => assumption); (case S2Zq => assumption)); intro hZq' tkZq' dZq' tdZq' AZq' SZq' taZq' tsZq' nZq' b1Zq' b2Zq' b3Zq' b4Zq' hKZq' gZq'; obtain ⟨FZq', NZq'⟩ := News.at1 (by k_asm) (by k_asm) (by k_updF) hKZq' gZq'; (try dsimp only at NZq'))) <;> k_steps))
  exact hret _ _ _ _ _ _ _ _ _ (getD_mem' (by assumption) (by assumption)) (by assumption) (by assumption) (by ((refine kp_end ‹_› ‹_› (by k_asm) (by k_asm) (by ked_reads)))) (News.get (by k_asm) (by k_mem))

theorem made1 {s g h : Heap} {L a c : Addr} {o oc : Obj} {news : List (Addr × Obj)} (k : Kp ([(c, oc)].map Prod.fst) [] s g) (N : News g L h ((a, o) :: news)) (hc : @LT.lt Nat _ c a) : s.get? a = none := by
  cases e : s.get? a with
  | none => rfl
  | some o' =>
    have := k.at e fun h => Nat.ne_of_gt hc (List.mem_singleton.mp h)
    rw [(N _ (.head _)).2.2] at this; cases this
theorem law_pool_R {prog : Program} {w : World} {p : Program} {loose : List Str} {mean : ExcName → Option Value} {mg mb : Str → Option Value} {dp un : Nat} {gd : Option (List Code)} {cn : Str} {cs : Scope} {a : Addr} {ccd : Value} {cl : List (Str × Addr)} {outer : List Env} {h₀ : Heap} {Lc : Addr} {s : Shared} {Q E : Value → Shared → Prop} {aX : Nat} {vs : List Value} {ns : List Int} {k : Int} {tk : Tok} {oA : Obj}
  (X₀ : (K w.params).In h₀) (T₀ : Top p loose mean mg mb h₀) (C₀ : Cx h₀ (envX cn cs Lc a ccd cl :: outer) s.heap) (hd : dp + 40 < recursionLimit)
  (O : Own h₀ (envX cn cs Lc a ccd cl :: outer) s.heap [(1442, oA)]) (ha : aX ≠ 1442) (hX : s.heap.IsList aX vs.toArray) (hI : IntsAre vs ns) (hn63 : ns.length ≤ 63) (hk1 : 0 ≤ k) (hk2 : k ≤ 1)
  (hret : ∀ h' tk' aS A S ta ts n, 0 ≤ S → S < 2147483647 → Kp [] [] s.heap h' → h'.get? aS = some (PySem.W.listOf #[.int A ta, .int S ts] n) → s.heap.get? aS = none → @LT.lt Nat _ 1442 aS → Q (.ref aS) { s with heap := h', toks := tk' }) :
  wpAny (model prog w) (ktrTop dp un gd cn cs Lc a ccd cl outer) (call (.ref 1407) [.ref aX, .int k tk]) Q E s := by
  refine wpAny_call ?_; k_dflt ((refine' enterR ?k1Zq ?k2Zq ?k3Zq ?k4Zq ?k6Zq ?k7Zq ?k8Zq ?k9Zq ?kBZq ?_ ?c2Zq ?c3Zq ?c4Zq ?c5Zq; (case k1Zq => assumption); (case k2Zq => assumption); (case k3Zq => assumption); (case k4Zq => assumption); (case k6Zq => k_is); (case k7Zq => k_is); (case k8Zq => ktr_room); (case k9Zq => first | exact BindsTo.of_eq rfl | exact binds_K (Frag.In.keeps (by assumption) (Cx.st (by assumption))) rfl (by k_is) rfl rfl rfl); (case c5Zq => decide); (case kBZq => exact locs rfl); (case c2Zq => exact rfl); (case c3Zq => exact rfl); (case c4Zq => exact rfl); k_whole)); intro g L' h' X' T' C' GK GS' F' N' l1'; (try k_lt l1'); (try dsimp only); (try k_fold)
  have hX' : g.IsList aX vs.toArray := hX.at fun o e => GK.at e (fun h => ha (List.mem_singleton.mp h))
  have hm1 : (7919 * k).natAbs < 2147483648 := by omega
  have hm2 : k.natAbs < 2147483648 := by omega
  (k_steps; repeat' ((first | ((try dsimp only [List.cons_append, List.nil_append]); (with_reducible show wpAny _ _ (call (Value.ref 1414) [Value.ref _, Value.int _ _]) _ _ _); k_dflt (refine' law_take_R ?XZq ?TZq ?CZq ?dZq ?OZq ?m1Zq ?m2Zq ?S1Zq ?S2Zq ?_; (case CZq => ((refine Cx.call ‹_› (by k_asm) (by rfl)))); (case XZq => assumption); (case TZq => assumption); (case dZq => ktr_room); (case OZq => ((refine Own.of ‹_› (by k_asm) (by keq_rows)))); (case m1Zq => regstrif_gather); (case m2Zq => regstrif_gather); (case S1Zq => assumption); (case S2Zq => assumption)); intro hZq' tkZq' dZq' tdZq' AZq' SZq' taZq' tsZq' nZq' b1Zq' b2Zq' b3Zq' b4Zq' hKZq' gZq'; obtain ⟨FZq', NZq'⟩ := News.at1 (by k_asm) (by k_asm) (by k_updF) hKZq' gZq'; (try dsimp only at NZq'))) <;> k_steps))
  all_goals
    rename Fr g L' _ _ => F5
    rename News g L' _ _ => N5
    refine' hret _ _ _ _ _ _ _ _ ?ka ?kb ?kk ?ko ?kf ?kl
    case ko => exact (N5 _ (.head _)).1
    case kl => first | assumption | omega
    case kf => exact made1 GK N5 (by first | assumption | omega)
    case kk => ((refine kp_end ‹_› ‹_› (by k_asm) (by k_asm) (by ked_reads)))
    case ka => exact (take_mod (by decide)).1
    case kb => exact (take_mod (by decide)).2
end
end
section
local macro_rules | `(tactic| walk_at "pyIter ref") => `(tactic| ((with_reducible show wpAny _ _ (pyIter (Value.ref _)) (CompGo _ _ _ _ _ _ _ _ _ _ _ _) _ _); refine stop_ ?_))
local macro_rules | `(tactic| walk_at "pyIter ref") => `(tactic| ((with_reducible show wpAny _ _ (pyIter (Value.ref _)) (fun it s₂ => LoopAtV _ _ _ _ _ _ _ _ _ it s₂) _ _); refine stop_ ?_))
section
local macro_rules | `(tactic| lsm_bools) => `(tactic| (simp only [units_in1, units_deeper]; first | k_dflt (exact room1 (by with_reducible assumption) rfl) | k_dflt (exact room2 (by with_reducible assumption) rfl) | omega))
local macro_rules | `(tactic| walk_at "tkey") => `(tactic| (first | exact is_tup2 (by k_asm) (by k_mem) | exact is_ttup2 (by k_asm) (by k_mem) ((by assumption : TO _ _ _ _) _ (Fr.keep (by k_asm))) ((by assumption : TO _ _ _ _) _ (Fr.keep (by k_asm)))))
local macro_rules | `(tactic| walk_at "room") => `(tactic| ((first | refine room_t ?_ | refine room_tt ?_); lsm_bools))
local macro_rules | `(tactic| walk_at "compareOp In ref ref") => `(tactic| k_dflt (refine in_newT (by k_asm) (by k_asm) (by k_mem) ‹_› (by walk_at "tkey") (by walk_at "room") ‹_› ‹_› ?_; k_whole))
local macro_rules | `(tactic| walk_at "setItem ref ref") => `(tactic| (k_dflt (refine set_newT (by k_asm) (by k_asm) (by k_updF) ‹_› (by walk_at "tkey") (by walk_at "room") ‹_› ‹_› ?_); intro h' o' F' N' D' g'; (try dsimp only at N')))
local macro_rules | `(tactic| walk_at "call builtin:dict.pop") => `(tactic| (k_dflt (refine pop_T (by k_asm) (by k_asm) (by k_updF) ‹_› ‹_› (by walk_at "room") ‹_› ?_); intro h' o' F' N' D'; (try dsimp only at N')))
local macro_rules | `(tactic| walk_at "subscriptTail") => `(tactic| k_dflt (refine sub_T (by k_asm) (by k_asm) (by k_mem) ‹_› ‹_› (by walk_at "room") ‹_› ?_ (by with_unfolding_all rfl); k_whole))
local macro_rules | `(tactic| walk_at "getMethod ref") => `(tactic| ((with_reducible show wpAny _ _ (getMethod (Value.ref _) (Str.ofString "pop") _) _ _ _); k_dflt (refine meth_T PySem.F.slot_dict_pop PySem.F.type_dict_pop (by k_asm) (by k_asm) (by k_mem) ‹_› ?_; k_whole)))
section -- U3
theorem reg_U3 : PySem.Challenge.rw_pq1204_01 = PySem.Challenge.rw_pq1204_01 ∧ K = K := by k_fill; exact ⟨rfl, rfl⟩
theorem listen_R {prog : Program} {w : World} {p : Program} {loose : List Str} {mean : ExcName → Option Value} {mg mb : Str → Option Value}
  {dp un : Nat} {gd : Option (List Code)} {cn : Str} {cs : Scope} {a : Addr} {ccd : Value} {cl : List (Str × Addr)} {outer : List Env} {h₀ : Heap} {Lc : Addr} {s : Shared}
  {xB dB dC dL : Nat} {k1 k2} {ad port : Int} {ta tp : Tok} {v : Value} {oL : Obj} {xsL : List (List Int × Addr × Value)} {Q E : Value → Shared → Prop}
  (X₀ : (K w.params).In h₀) (T₀ : Top p loose mean mg mb h₀) (C₀ : Cx h₀ (envX cn cs Lc a ccd cl :: outer) s.heap) (hd : dp + 20 < recursionLimit) (hun : un + 20 < cLine)
  (O : Own h₀ (envX cn cs Lc a ccd cl :: outer) s.heap [(xB, instObj 1138 dB), (dB, dTable w dC dL k1 k2), (dL, oL)]) (o1 : dB < xB) (o2 : xB < dC) (o3 : dC < dL) (hsm2 : (dL == sysModules) = false)
  (hL : s.heap.DictOfH (tupleKind (intKind prog w)) dL xsL) (hlen : xsL.length ≤ 1000) (hnk : atKey xsL [ad, port] = none)
  (hret : ∀ h' tk' oL' aT, Kp [dL] [] s.heap h' → h'.get? dL = some oL' → h'.DictOfH (tupleKind (intKind prog w)) dL (xsL ++ [([ad, port], aT, v)]) → Q .none { s with heap := h', toks := tk' }) :
  wpAny (model prog w) (ktrTop dp un gd cn cs Lc a ccd cl outer) (call (.ref 1106) [.ref xB, .int ad ta, .int port tp, v]) Q E s := by
  have hA : Asc [dB, xB, dC, dL] := ⟨o1, o2, o3, trivial⟩
  refine wpAny_call ?_
  k_dflt ((refine' enterR ?k1Zq ?k2Zq ?k3Zq ?k4Zq ?k6Zq ?k7Zq ?k8Zq ?k9Zq ?kBZq ?_ ?c2Zq ?c3Zq ?c4Zq ?c5Zq; (case k1Zq => assumption); (case k2Zq => assumption); (case k3Zq => assumption); (case k4Zq => assumption); (case k6Zq => k_is); (case k7Zq => k_is); (case k8Zq => ktr_room); (case k9Zq => first | exact BindsTo.of_eq rfl | exact binds_K (Frag.In.keeps (by assumption) (Cx.st (by assumption))) rfl (by k_is) rfl rfl rfl); (case c5Zq => decide); (case kBZq => exact locs rfl); (case c2Zq => exact rfl); (case c3Zq => exact rfl); (case c4Zq => exact rfl); k_whole))
  intro g L' h' X' T' C' GK GS' F' N' l1'
  (try k_lt l1')
  (try dsimp only)
  (try k_fold)
  have cL := cls_dictH hL (O.get (by k_mem))
  have DL := DO.of tupKnd_t hL GK O (by kct_strs) (by k_mem)
  k_steps
  refine' hret _ _ _ _ ?kp (by assumption) (by assumption)
  case kp => ((refine kp_end ‹_› ‹_› (by k_asm) (by k_asm) (by ked_reads)))

theorem connect_R {prog : Program} {w : World} {p : Program} {loose : List Str} {mean : ExcName → Option Value} {mg mb : Str → Option Value}
  {dp un : Nat} {gd : Option (List Code)} {cn : Str} {cs : Scope} {a : Addr} {ccd : Value} {cl : List (Str × Addr)} {outer : List Env} {h₀ : Heap} {Lc : Addr} {s : Shared}
  {xB dB dC dL l1 l2 : Nat} {k1 k2} {key1 key2 : List Int} {v : Value} {oC : Obj} {xsC : List (List (List Int) × Addr × Value)} {Q E : Value → Shared → Prop}
  (X₀ : (K w.params).In h₀) (T₀ : Top p loose mean mg mb h₀) (C₀ : Cx h₀ (envX cn cs Lc a ccd cl :: outer) s.heap) (hd : dp + 20 < recursionLimit) (hun : un + 20 < cLine)
  (O : Own h₀ (envX cn cs Lc a ccd cl :: outer) s.heap [(xB, instObj 1138 dB), (dB, dTable w dC dL k1 k2), (dC, oC)]) (o1 : dB < xB) (o2 : xB < dC) (o3 : dC < dL) (hsm2 : (dC == sysModules) = false)
  (hC : s.heap.DictOfH (ttKind prog w) dC xsC) (hlen : xsC.length ≤ 1000) (hnk : atKey xsC [key1, key2] = none)
  (h1 : (tupleKind (intKind prog w)).is s.heap key1 l1) (h2 : (tupleKind (intKind prog w)).is s.heap key2 l2)
  (hret : ∀ h' tk' oC' aT, Kp [dC] [] s.heap h' → h'.get? dC = some oC' → h'.DictOfH (ttKind prog w) dC (xsC ++ [([key1, key2], aT, v)]) → Q .none { s with heap := h', toks := tk' }) :
  wpAny (model prog w) (ktrTop dp un gd cn cs Lc a ccd cl outer) (call (.ref 1113) [.ref xB, .ref l1, .ref l2, v]) Q E s := by
  have hA : Asc [dB, xB, dC, dL] := ⟨o1, o2, o3, trivial⟩
  refine wpAny_call ?_
  k_dflt ((refine' enterR ?k1Zq ?k2Zq ?k3Zq ?k4Zq ?k6Zq ?k7Zq ?k8Zq ?k9Zq ?kBZq ?_ ?c2Zq ?c3Zq ?c4Zq ?c5Zq; (case k1Zq => assumption); (case k2Zq => assumption); (case k3Zq => assumption); (case k4Zq => assumption); (case k6Zq => k_is); (case k7Zq => k_is); (case k8Zq => ktr_room); (case k9Zq => first | exact BindsTo.of_eq rfl | exact binds_K (Frag.In.keeps (by assumption) (Cx.st (by assumption))) rfl (by k_is) rfl rfl rfl); (case c5Zq => decide); (case kBZq => exact locs rfl); (case c2Zq => exact rfl); (case c3Zq => exact rfl); (case c4Zq => exact rfl); k_whole))
  intro g L' h' X' T' C' GK GS' F' N' l1'
  (try k_lt l1')
  (try dsimp only)
  (try k_fold)
  have cC := cls_dictH hC (O.get (by k_mem))
  have DC := DO.of tupKnd_tt hC GK O (by kct_strs) (by k_mem)
  have t1 := TO.of tupKnd_t h1 GK O (by kct_strs)
  have t2 := TO.of tupKnd_t h2 GK O (by kct_strs)
  k_steps
  refine' hret _ _ _ _ ?kp (by assumption) (by assumption)
  case kp => ((refine kp_end ‹_› ‹_› (by k_asm) (by k_asm) (by ked_reads)))
end
section -- U4
theorem reg_U4 : PySem.Challenge.rw_pq1204_01 = PySem.Challenge.rw_pq1204_01 ∧ K = K := by k_fill; exact ⟨rfl, rfl⟩
theorem remove_R {prog : Program} {w : World} {p : Program} {loose : List Str} {mean : ExcName → Option Value} {mg mb : Str → Option Value}
  {dp un : Nat} {gd : Option (List Code)} {cn : Str} {cs : Scope} {a : Addr} {ccd : Value} {cl : List (Str × Addr)} {outer : List Env} {h₀ : Heap} {Lc : Addr} {s : Shared}
  {xB dB dC dL : Nat} {k1 k2} {owner : Int} {t : Tok} {oC oL : Obj} {xsC : List (List (List Int) × Addr × Value)} {xsL : List (List Int × Addr × Value)} {Q E : Value → Shared → Prop}
  (X₀ : (K w.params).In h₀) (T₀ : Top p loose mean mg mb h₀) (C₀ : Cx h₀ (envX cn cs Lc a ccd cl :: outer) s.heap) (hd : dp + 20 < recursionLimit) (hun : un + 40 < cLine)
  (O : Own h₀ (envX cn cs Lc a ccd cl :: outer) s.heap [(xB, instObj 1138 dB), (dB, dTable w dC dL k1 k2), (dC, oC), (dL, oL)]) (o1 : dB < xB) (o2 : xB < dC) (o3 : dC < dL) (hsm : (dC == sysModules) = false) (hsm2 : (dL == sysModules) = false)
  (hC : s.heap.DictOfH (ttKind prog w) dC xsC) (hL : s.heap.DictOfH (tupleKind (intKind prog w)) dL xsL) (hvC : ∀ x ∈ xsC, ∃ n t, x.2.2 = .int n t) (hvL : ∀ x ∈ xsL, ∃ n t, x.2.2 = .int n t) (hlenC : xsC.length ≤ 1000) (hlenL : xsL.length ≤ 1000)
  (hret : ∀ h' tk' t' oC' oL', Kp [dC, dL] [] s.heap h' → h'.get? dC = some oC' → h'.get? dL = some oL' → h'.DictOfH (ttKind prog w) dC (xsC.filter fun x => !(vOf x.2.2 == owner)) → h'.DictOfH (tupleKind (intKind prog w)) dL (xsL.filter fun x => !(vOf x.2.2 == owner)) →
    Q (.int (((xsC.filter fun x => vOf x.2.2 == owner).length : Int) + ((xsL.filter fun x => vOf x.2.2 == owner).length : Int)) t') { s with heap := h', toks := tk' }) :
  wpAny (model prog w) (ktrTop dp un gd cn cs Lc a ccd cl outer) (call (.ref 1118) [.ref xB, .int owner t]) Q E s := by
  have hA : Asc [dB, xB, dC, dL] := ⟨o1, o2, o3, trivial⟩
  refine wpAny_call ?_
  k_dflt ((refine' enterC ?k1Zq ?k2Zq ?k3Zq ?k4Zq ?k6Zq ?k7Zq ?k8Zq ?k9Zq ?kBZq ?kDZq ?_ ?c2Zq ?c3Zq ?c4Zq; (case k1Zq => assumption); (case k2Zq => assumption); (case k3Zq => assumption); (case k4Zq => assumption); (case k6Zq => k_is); (case k7Zq => k_is); (case k8Zq => ktr_room); (case k9Zq => first | exact BindsTo.of_eq rfl | exact binds_K (Frag.In.keeps (by assumption) (Cx.st (by assumption))) rfl (by k_is) rfl rfl rfl); (case kBZq => exact rfl); (case kDZq => decide +kernel); (case c2Zq => exact rfl); (case c3Zq => exact rfl); (case c4Zq => exact rfl); k_whole))
  intro g L' h' tk' cells' X' T' C' GK GS' F' N' Y' l1'
  k_lt l1'
  k_cells Y'
  simp only [List.cons_append, List.nil_append] at N'
  dsimp only
  (try k_fold)
  have cC := cls_dictH hC (O.get (by k_mem))
  have cL := cls_dictH hL (O.get (by k_mem))
  have DC := DO.of tupKnd_tt hC GK O (by kct_strs) (by k_mem)
  have DL := DO.of tupKnd_t hL GK O (by kct_strs) (by k_mem)
  have DC0 := DC.nd
  have DL0 := DL.nd
  k_steps
  unfold Stop
  refine ListComp_go (fun v => xsC.any fun x => (vOf x.2.2 == owner) && v == .ref x.2.1) (fun v y => ∃ x ∈ xsC, v = .ref x.2.1 ∧ y = .ref x.2.1) rfl ?c1 rfl ?c2 rfl ?c3
  case c1 => decide
  case c2 => decide
  case c3 =>
    k_steps
    unfold Stop
    refine' comp_keys (knd := ttKind prog w) (fun x => vOf x.2.2 == owner) (fun x => .ref x.2.1) ?D hsm ?hh hlenC ?F8 ?N8 ?tests ?eltW ?hQ
    case D => exact DC.get (by k_asm) (by k_asm) (by k_mem)
    case hh => rfl
    case F8 => k_asm
    case N8 => k_asm
    case tests =>
      intro C x s₃ m₃ E' hx F7 N7 hm
      obtain ⟨n, tn, hv⟩ := hvC x hx
      refine oneTest ?_
      k_steps
      · rw [hv]; rfl
      · exact ⟨_, _, rfl, fun _ _ e => e⟩
    case eltW =>
      intro C x s₃ m₃ E' hx hpx F7 N7 hm
      k_steps
      exact Keeps.refl _
    case hQ =>
      intro D h' tk n F7 N7 hD
      have hDn : dC ≠ D := hD (dC, oC) (by k_mem)
      k_steps
      unfold Stop
      rename News g L' _ _ => N8
      refine' loop_list1 (d := dC) (o0 := oC) (fun i m o => m (Str.ofString "self") = some (.ref xB) ∧ ∃ t, DO (ttKind prog w) g o (lessK xsC ((xsC.filter fun x => vOf x.2.2 == owner).take i)) ∧ m (Str.ofString "many") = some (.int (0 + (i : Int)) t)) ?F ?N ?U ?hh ?h0 ?turn ?done
      case F => k_asm
      case N => exact N8
      case U => k_updF
      case hh => rfl
      case h0 => exact ⟨rfl, _, (by rw [List.take_zero, lessK_nil]; exact DC), rfl⟩
      case turn =>
        rintro i v m₁ o h tk I oI oD hcl hv ⟨hs, t, DC, hm⟩ hI2 hI3 hI4 F9 N9
        k_lt hI2
        (try dsimp only at N9)
        rw [List.getElem?_map] at hv
        obtain ⟨x, hx, rfl⟩ := Option.map_eq_some_iff.mp hv
        have hxm := lessK_mem DC0 hx
        have hlc := Nat.le_trans (lessK_len xsC ((xsC.filter fun x => vOf x.2.2 == owner).take i)) hlenC
        k_steps
        refine' turned_next _ ?kF ?kN ?kI ?kJ
        case kF => k_asm
        case kN => k_asm
        case kI => kbo_bools
        case kJ => exact ⟨_, rfl, by kaf_pre, _, (by rw [← lessK_step hx]; assumption), by kaf_pre⟩
      case done =>
        rintro h' tk m' oC1 F9 N9 ⟨hs, t, DC, hm⟩
        (try dsimp only at N9)
        rw [List.length_map] at hm DC
        rw [List.take_length, lessK_all DC0] at DC
        generalize hc1 : 0 + ((xsC.filter fun x => vOf x.2.2 == owner).length : Int) = c1 at hm
        k_steps
        unfold Stop
        refine ListComp_go (fun v => xsL.any fun x => (vOf x.2.2 == owner) && v == .ref x.2.1) (fun v y => ∃ x ∈ xsL, v = .ref x.2.1 ∧ y = .ref x.2.1) rfl ?c1 rfl ?c2 rfl ?c3
        case c1 => decide
        case c2 => decide
        case c3 =>
          k_steps
          unfold Stop
          refine' comp_keys (knd := tupleKind (intKind prog w)) (fun x => vOf x.2.2 == owner) (fun x => .ref x.2.1) ?D hsm2 ?hh hlenL ?F8 ?N8 ?tests ?eltW ?hQ
          case D => exact DL.get (by k_asm) (by k_asm) (by k_mem)
          case hh => rfl
          case F8 => k_asm
          case N8 => k_asm
          case tests =>
            intro C x s₃ m₃ E' hx F7 N7 hm
            obtain ⟨n, tn, hv⟩ := hvL x hx
            refine oneTest ?_
            k_steps
            · rw [hv]; rfl
            · exact ⟨_, _, rfl, fun _ _ e => e⟩
          case eltW =>
            intro C x s₃ m₃ E' hx hpx F7 N7 hm
            k_steps
            exact Keeps.refl _
          case hQ =>
            intro D h' tk n F7 N7 hD
            have hDn : dL ≠ D := hD (dL, oL) (by k_mem)
            k_steps
            unfold Stop
            rename News g L' _ _ => N8
            refine' loop_list1 (d := dL) (o0 := oL) (fun i m o => m (Str.ofString "self") = some (.ref xB) ∧ ∃ t, DO (tupleKind (intKind prog w)) g o (lessK xsL ((xsL.filter fun x => vOf x.2.2 == owner).take i)) ∧ m (Str.ofString "many") = some (.int (c1 + (i : Int)) t)) ?F ?N ?U ?hh ?h0 ?turn ?done
            case F => k_asm
            case N => exact N8
            case U => k_updF
            case hh => rfl
            case h0 => exact ⟨hs, _, (by rw [List.take_zero, lessK_nil]; exact DL), (by simpa using hm)⟩
            case turn =>
              rintro i v m₁ o h tk I oI oD hcl hv ⟨hs2, t2, DL, hm2⟩ hI2 hI3 hI4 F9 N9
              k_lt hI2
              (try dsimp only at N9)
              rw [List.getElem?_map] at hv
              obtain ⟨x, hx, rfl⟩ := Option.map_eq_some_iff.mp hv
              have hxm := lessK_mem DL0 hx
              have hlc := Nat.le_trans (lessK_len xsL ((xsL.filter fun x => vOf x.2.2 == owner).take i)) hlenL
              k_steps
              refine' turned_next _ ?kF ?kN ?kI ?kJ
              case kF => k_asm
              case kN => k_asm
              case kI => kbo_bools
              case kJ => exact ⟨_, rfl, by kaf_pre, _, (by rw [← lessK_step hx]; assumption), (by rw [show (c1 + ((i + 1 : Nat) : Int)) = c1 + (i : Int) + 1 by omega]; kaf_pre)⟩
            case done =>
              rintro h' tk m' oL1 F9 N9 ⟨hs2, t2, DL, hm2⟩
              (try dsimp only at N9)
              rw [List.length_map] at hm2 DL
              rw [List.take_length, lessK_all DL0] at DL
              k_steps
              rw [← hc1, Int.zero_add]
              refine' hret _ _ _ _ _ ?kp ?b1 ?b2 ?b3 ?b4
              case kp => ((refine kp_end ‹_› ‹_› (by k_asm) (by k_asm) (by ked_reads)))
              case b1 => exact News.get (by k_asm) (by k_mem)
              case b2 => exact News.get (by k_asm) (by k_mem)
              case b3 =>
                rename Fr g L' _ _ => F5
                rename News g L' _ _ => N5
                exact DC.get F5 N5 (by k_mem)
              case b4 =>
                rename Fr g L' _ _ => F5
                rename News g L' _ _ => N5
                exact DL.get F5 N5 (by k_mem)
end
end
section
local macro_rules | `(tactic| walk_at "exec Assign cons ListComp") => `(tactic| (with_reducible refine stop_ ?_))
local macro_rules | `(tactic| walk_at "pyIter ref") => `(tactic| ((with_reducible show wpAny _ _ (pyIter (Value.ref _)) (CompGoA _ _ _ _ _ _ _ _ _ _ _ _ _) _ _); refine stop_ ?_))
local macro_rules | `(tactic| kqd_all) => `(tactic| (first | with_reducible assumption | (with_reducible refine memT8 ?_; kqd_all) | (with_reducible refine memT4 ?_; kqd_all) | (refine memT1 ?_; kqd_all)))
section -- V4
theorem reg_V4 : PySem.Challenge.rw_pq1204_01 = PySem.Challenge.rw_pq1204_01 ∧ K = K := by k_fill; exact ⟨rfl, rfl⟩
noncomputable abbrev refScope : Scope := { kind := .function, names := [(Str.ofString "deed", NameKind.local), (Str.ofString "PortError", NameKind.globalImplicit)], isGenerator := false, isCoroutine := false, more := [] }
theorem law_refused_R {prog : Program} {w : World} {p : Program} {loose : List Str} {mean : ExcName → Option Value} {mg mb : Str → Option Value} {dp un : Nat} {gd : Option (List Code)} {cn : Str} {cs : Scope} {a : Addr} {ccd : Value} {cl : List (Str × Addr)} {outer : List Env} {h₀ : Heap} {Lc : Addr} {s : Shared} {Q E : Value → Shared → Prop} {aD : Nat} {sn : List (Addr × Obj)} {R1 R2 : Heap → Prop}
  (X₀ : (K w.params).In h₀) (T₀ : Top p loose mean mg mb h₀) (C₀ : Cx h₀ (envX cn cs Lc a ccd cl :: outer) s.heap) (hd : dp + 60 < recursionLimit)
  (hA : FnAt aD s.heap) (O : Own h₀ (envX cn cs Lc a ccd cl :: outer) s.heap sn)
  (hdeed : ∀ L' h₁ tk', Cx h₀ (envX (Str.ofString "_law_refused") refScope L' 1428 (.ref 1427) [] :: (envX cn cs Lc a ccd cl :: outer)) h₁ → (∀ b o, s.heap.get? b = some o → h₁.get? b = some o) → s.heap.get? L' = none →
    wpAny (model prog w) ((ktrTop dp un gd cn cs Lc a ccd cl outer).deeper (envX (Str.ofString "_law_refused") refScope L' 1428 (.ref 1427) [])) (call (.ref aD) [])
      (fun v s' => ∃ h' tk', s' = { s with heap := h', toks := tk' } ∧ Kp (sn.map Prod.fst) [] h₁ h' ∧ R1 h')
      (fun e s' => ∃ e' h' tk' hm, e = .ref e' ∧ s' = { s with heap := h', toks := tk' } ∧ Kp (sn.map Prod.fst) [] h₁ hm ∧ R2 hm ∧ RaisedR hm (envX (Str.ofString "_law_refused") refScope L' 1428 (.ref 1427) [] :: (envX cn cs Lc a ccd cl :: outer)) e' 63 h') { s with heap := h₁, toks := tk' })
  (hret1 : ∀ h' tk', Kp (sn.map Prod.fst) [] s.heap h' → R1 h' → Q (.bool false) { s with heap := h', toks := tk' })
  (hret2 : ∀ h' tk' hm, Kp (sn.map Prod.fst) [] s.heap hm → R2 hm → (∀ b o, hm.get? b = some o → s.heap.get? b ≠ none → b ∉ frs (envX cn cs Lc a ccd cl :: outer) → h'.get? b = some o) → Kp (sn.map Prod.fst) (frs (envX cn cs Lc a ccd cl :: outer)) s.heap h' → Q (.bool true) { s with heap := h', toks := tk' }) :
  wpAny (model prog w) (ktrTop dp un gd cn cs Lc a ccd cl outer) (call (.ref 1428) [.ref aD]) Q E s := by
  refine wpAny_call ?_
  k_dflt ((refine' enterF ?k1Zq ?k2Zq ?k3Zq ?k4Zq ?k6Zq ?k7Zq ?k8Zq ?k9Zq ?kBZq ?_ ?c2Zq ?c3Zq ?c4Zq ?c5Zq; (case k1Zq => assumption); (case k2Zq => assumption); (case k3Zq => assumption); (case k4Zq => assumption); (case k6Zq => k_is); (case k7Zq => k_is); (case k8Zq => ktr_room); (case k9Zq => first | exact BindsTo.of_eq rfl | exact binds_K (Frag.In.keeps (by assumption) (Cx.st (by assumption))) rfl (by k_is) rfl rfl rfl); (case c5Zq => decide); (case kBZq => exact locs rfl); (case c2Zq => exact rfl); (case c3Zq => exact rfl); (case c4Zq => exact rfl); k_whole))
  intro g L' h₁ fr X' T' P GK GS' F' N' l1' GU GL
  (try dsimp only)
  (try k_fold)
  k_steps
  k_dflt (refine' callWith_F0 ?fa ?_)
  case fa => exact FnAt_up hA GU
  dsimp only [List.nil_append]
  have hMg : ∀ b ∈ sn.map Prod.fst, g.get? b = none := fun b hb => by
    obtain ⟨r, hr, rfl⟩ := List.mem_map.mp hb
    exact (N' r (List.mem_append_left _ hr)).2.2
  have hML : L' ∉ sn.map Prod.fst := fun hb => by
    obtain ⟨r, hr, e⟩ := List.mem_map.mp hb
    exact (N' r (List.mem_append_left _ hr)).2.1 e
  have hfs : ∀ p ∈ fr, p ∈ sn ++ fr := fun p hp => List.mem_append_right _ hp
  refine wpAny_mono (hdeed L' h₁ _ (P.cx F' N' hfs rfl) GU GL) ?_ ?_
  · rintro v s2 ⟨h2, tk2, rfl, k2, r1⟩
    have F2 := Fr.kp F' k2 hMg hML
    clear F'
    k_steps
    exact hret1 _ _ (Kp.of fun b o e hb => k2.at (GU b o e) hb) r1
  · rintro v s2 ⟨e', h2, tk2, hm, rfl, rfl, k2, r2, R⟩
    obtain ⟨oL, hoL, fo⟩ := frObj_of F'
    refine' caught_R rfl fo (k2.at hoL hML) F'.above (fun b o q => ⟨k2.at (F'.keep b o q) (fun z => by rw [hMg b z] at q; cases q), fun z => ?_⟩) R X' ?T ?ex ?hC ?hb ?k
    case T => k_asm
    case ex => k_is
    case hC => k_is
    case hb => rfl
    case k =>
      intro h5 F5 K5
      clear F'
      k_steps
      dsimp only
      show Q _ _
      have k3 : Kp (sn.map Prod.fst) [] s.heap hm := Kp.of fun b o e hb => k2.at (GU b o e) hb
      have nf : ∀ b, s.heap.get? b ≠ none → b ∉ frs (envX cn cs Lc a ccd cl :: outer) → b ∉ frs (envX (Str.ofString "_law_refused") refScope L' 1428 (.ref 1427) [] :: (envX cn cs Lc a ccd cl :: outer)) := fun b h1 h2 z => by
        rcases (frs_cons _).mp z with z | z
        · rw [z] at h1; exact h1 GL
        · exact h2 z
      refine hret2 _ _ hm k3 r2 (fun b o e h1 h2 => K5.1 b o e (fun q => nomatch q) (nf b h1 h2)) ⟨fun b o e hb hf => K5.1 b o (k3.at e hb) (fun q => nomatch q) (nf b (by rw [e]; exact fun q => nomatch q) hf), fun b o e hf hv => ?_⟩
      have hbM : b ∉ sn.map Prod.fst := fun z => by
        obtain ⟨r, hr, rfl⟩ := List.mem_map.mp z
        exact (O r hr).2.2 hf
      exact K5.2 b o (k3.at e hbM) ((frs_cons _).mpr (.inr hf)) hv
    rcases (frs_cons _).mp z with z | z
    · rw [z, Fr.free F'] at q; cases q
    · rw [P.off N' hfs z] at q; cases q
end
section -- V5
theorem reg_V5 : PySem.Challenge.rw_pq1204_01 = PySem.Challenge.rw_pq1204_01 ∧ K = K := by k_fill; exact ⟨rfl, rfl⟩
theorem law_told_R {prog : Program} {w : World} {p : Program} {loose : List Str} {mean : ExcName → Option Value} {mg mb : Str → Option Value} {dp un : Nat} {gd : Option (List Code)} {cn : Str} {cs : Scope} {a : Addr} {ccd : Value} {cl : List (Str × Addr)} {outer : List Env} {h₀ : Heap} {Lc : Addr} {s : Shared} {Q E : Value → Shared → Prop} {x dx aT : Nat} {f l fo tfo rP} {oT : Obj} {kvs : List (Int × Value)} {n fo' : Int}
  (X₀ : (K w.params).In h₀) (T₀ : Top p loose mean mg mb h₀) (C₀ : Cx h₀ (envX cn cs Lc a ccd cl :: outer) s.heap) (hd : dp + 20 < recursionLimit)
  (O : Own h₀ (envX cn cs Lc a ccd cl :: outer) s.heap [(x, instObj 154 dx), (dx, dPorts w f l fo tfo aT rP), (aT, oT)]) (o1 : dx < x) (o2 : x < aT) (hsm : (aT == sysModules) = false) (hTd : oT.IsDictOf (intKind prog w) kvs)
  (hf : 0 ≤ f) (hl : f ≤ l) (hl2 : l < 100000) (hsc : scan f l (fun n => (valueAt kvs n).isSome) (l - f + 1).toNat fo = some (n, fo'))
  (hret : ∀ h' tk' t' tfo', Kp [dx] [] s.heap h' → h'.get? dx = some (dPorts w f l fo' tfo' aT rP) → Q (.int n t') { s with heap := h', toks := tk' }) :
  wpAny (model prog w) (ktrTop dp un gd cn cs Lc a ccd cl outer) (call (.ref 1468) [.ref x]) Q E s := by
  have hA : Asc [dx, x, aT] := ⟨o1, o2, trivial⟩
  refine wpAny_call ?_; k_dflt ((refine' enterR ?k1Zq ?k2Zq ?k3Zq ?k4Zq ?k6Zq ?k7Zq ?k8Zq ?k9Zq ?kBZq ?_ ?c2Zq ?c3Zq ?c4Zq ?c5Zq; (case k1Zq => assumption); (case k2Zq => assumption); (case k3Zq => assumption); (case k4Zq => assumption); (case k6Zq => k_is); (case k7Zq => k_is); (case k8Zq => ktr_room); (case k9Zq => first | exact BindsTo.of_eq rfl | exact binds_K (Frag.In.keeps (by assumption) (Cx.st (by assumption))) rfl (by k_is) rfl rfl rfl); (case c5Zq => decide); (case kBZq => exact locs rfl); (case c2Zq => exact rfl); (case c3Zq => exact rfl); (case c4Zq => exact rfl); k_whole)); intro g L' h' X' T' C' GK GS' F' N' l1'; (try k_lt l1'); (try dsimp only); (try k_fold)
  (k_steps; repeat' ((first | ((try dsimp only [List.cons_append, List.nil_append]); (with_reducible show wpAny _ _ (call (Value.ref 137) [Value.ref _]) _ _ _); k_dflt (refine' next_free_R ?XZq ?TZq ?CZq ?dZq ?OZq ?o1Zq ?o2Zq ?mZq ?DZq ?fZq ?lZq ?l2Zq ?_ ?_; (case CZq => ((refine Cx.call ‹_› (by k_asm) (by rfl)))); (case XZq => assumption); (case TZq => assumption); (case dZq => ktr_room); (case OZq => ((refine Own.of ‹_› (by k_asm) (by keq_rows)))); (case o1Zq => regstrif_gather); (case o2Zq => regstrif_gather); (case mZq => assumption); (case DZq => k_asm); (case fZq => regstrif_gather); (case lZq => regstrif_gather); (case l2Zq => regstrif_gather)); (intro hZq' tkZq' nZq' tZq' foZq' tfoZq' hscZq' hKZq' hdxZq'; obtain ⟨FZq', NZq'⟩ := News.at1 (by k_asm) (by k_asm) (by k_updF) hKZq' hdxZq'); rotate_left; (intro eZq' hZq' tkZq' hmZq' hscZq' hKZq' RZq'; dsimp only))) <;> k_steps))

  · rename scan _ _ _ _ _ = none => q
    rw [hsc] at q; cases q
  · rename scan _ _ _ _ _ = some _ => q
    rw [hsc] at q
    simp only [Option.some.injEq, Prod.mk.injEq] at q
    obtain ⟨rfl, rfl⟩ := q
    (try dsimp only)
    (k_steps; repeat' ((first | ((try dsimp only [List.cons_append, List.nil_append]); (with_reducible show wpAny _ _ (call (Value.ref 137) [Value.ref _]) _ _ _); k_dflt (refine' next_free_R ?XZq ?TZq ?CZq ?dZq ?OZq ?o1Zq ?o2Zq ?mZq ?DZq ?fZq ?lZq ?l2Zq ?_ ?_; (case CZq => ((refine Cx.call ‹_› (by k_asm) (by rfl)))); (case XZq => assumption); (case TZq => assumption); (case dZq => ktr_room); (case OZq => ((refine Own.of ‹_› (by k_asm) (by keq_rows)))); (case o1Zq => regstrif_gather); (case o2Zq => regstrif_gather); (case mZq => assumption); (case DZq => k_asm); (case fZq => regstrif_gather); (case lZq => regstrif_gather); (case l2Zq => regstrif_gather)); (intro hZq' tkZq' nZq' tZq' foZq' tfoZq' hscZq' hKZq' hdxZq'; obtain ⟨FZq', NZq'⟩ := News.at1 (by k_asm) (by k_asm) (by k_updF) hKZq' hdxZq'); rotate_left; (intro eZq' hZq' tkZq' hmZq' hscZq' hKZq' RZq'; dsimp only))) <;> k_steps))
    exact hret _ _ _ _ (by ((refine kp_end ‹_› ‹_› (by k_asm) (by k_asm) (by ked_reads)))) (News.get (by k_asm) (by k_mem))
end
section
local macro_rules | `(tactic| walk_at "eval Name") => `(tactic| (k_dflt (refine' nameX_F ?N ?c ?m ?d ?_ (by rfl) (by rfl); (case N => k_asm); (case c => rfl); (case m => kpt_turns); (case d => assumption); k_whole)))
local macro_rules | `(tactic| tlg_ne) => `(tactic| (refine all_cons ?_ ?_; (first | exact noTup cls_inst | exact noTup cls_dict | exact noTup cls_list | exact noTup (cls_isDict ‹_›) | exact noTup ‹_› | exact noTup_cell ‹_› | assumption); first | apply all_nil | tlg_ne))
section -- W1
theorem reg_W1 : PySem.Challenge.rw_pq1204_01 = PySem.Challenge.rw_pq1204_01 ∧ K = K := by k_fill; exact ⟨rfl, rfl⟩
theorem lam_own1_R {prog : Program} {w : World} {p : Program} {loose : List Str} {mean : ExcName → Option Value} {mg mb : Str → Option Value} {dp un : Nat} {gd : Option (List Code)} {cn : Str} {cs : Scope} {a : Addr} {ccd : Value} {cl : List (Str × Addr)} {outer : List Env} {h₀ : Heap} {Lc : Addr} {s : Shared} {Q E : Value → Shared → Prop} {cS c' aD : Nat} {xS dS x dx aT xB dB dC dL : Nat} {rS rP j1 j2 : _} {f l tfo fo} {oT oc : Obj} {kvs : List (Int × Value)} {xsC : List (List (List Int) × Addr × Value)} {xsL : List (List Int × Addr × Value)} {qual : Str} {pm ctv : Value}
  (X₀ : (K w.params).In h₀) (T₀ : Top p loose mean mg mb h₀) (C₀ : Cx h₀ (envX cn cs Lc a ccd cl :: outer) s.heap) (hd : dp + 60 < recursionLimit)
  (O : Own h₀ (envX cn cs Lc a ccd cl :: outer) s.heap [(xS, instObj 1396 dS), (dS, dSock w x xB rS), (x, instObj 154 dx), (dx, dPorts w f l fo tfo aT rP), (aT, oT), (xB, instObj 1138 dB), (dB, dTable w dC dL j1 j2), (cS, oc)])
  (hoc : oc.data = .cell (some (.ref xS))) (haD : s.heap.get? aD = some (kla_obj "<lambda>" qual (Arguments.mk [] [] none [] [] none []) (Expr.Call (Expr.Attribute (Expr.Name (Str.ofString "sockets") ⟨963, 32, 963, 39⟩) (Str.ofString "own_port") ⟨963, 32, 963, 48⟩) [(Expr.Constant (Const.int 0) 0 ⟨963, 49, 963, 50⟩)] [] ⟨963, 32, 963, 51⟩) (Scope.mk ScopeKind.function [((Str.ofString "sockets"), NameKind.free)] false false []) [(Str.ofString "sockets", cS)] pm c' ctv)) (hcd : s.heap.CodeRec (.ref c') qual)
  (o1 : dS < xS) (o2 : xS < dx) (o3 : dx < x) (o4 : x < aT) (o5 : aT < dB) (o6 : dB < xB) (o7 : xB < dC) (o8 : dC < dL) (hcS : cS < dS ∨ dL < cS) (hsm : (aT == sysModules) = false) (hsm1 : (dC == sysModules) = false) (hsm2 : (dL == sysModules) = false)
  (hTd : oT.IsDictOf (intKind prog w) kvs)
  (hC : s.heap.DictOfH (ttKind prog w) dC xsC) (hC2 : ∀ x ∈ xsC, ∃ a b c d, x.1 = [[a, b], [c, d]]) (hL : s.heap.DictOfH (tupleKind (intKind prog w)) dL xsL) (hL2 : ∀ x ∈ xsL, ∃ a b, x.1 = [a, b]) (hlen : xsL.length ≤ 1000)
  (hlen2 : kvs.length ≤ 900) (hf : 0 ≤ f) (hl : f ≤ l) (hl2 : l < 100000) (hfo : f ≤ fo) (hfo2 : fo ≤ l)
  (hret : ∀ h' tk' n t' fo' tfo' oT', ownScan f l (fun n => (valueAt kvs n).isSome) (fun n => xsC.any (fun x => portC x.1 == n) || xsL.any fun x => portL x.1 == n) (l - f + 1).toNat fo = (some n, fo') → Kp [dx, aT] [] s.heap h' → h'.get? dx = some (dPorts w f l fo' tfo' aT rP) →
     h'.get? aT = some oT' → oT'.IsDictOf (intKind prog w) (stored kvs n (.bool true)) → Q (.int n t') { s with heap := h', toks := tk' })
  (hexc : ∀ e h' tk' hm fo' tfo' oT', ownScan f l (fun n => (valueAt kvs n).isSome) (fun n => xsC.any (fun x => portC x.1 == n) || xsL.any fun x => portL x.1 == n) (l - f + 1).toNat fo = (none, fo') → Kp [dx, aT] [] s.heap hm → hm.get? dx = some (dPorts w f l fo' tfo' aT rP) →
     hm.get? aT = some oT' → oT'.IsDictOf (intKind prog w) kvs → RaisedR hm (envX cn cs Lc a ccd cl :: outer) e 63 h' → E (.ref e) { s with heap := h', toks := tk' }) :
  wpAny (model prog w) (ktrTop dp un gd cn cs Lc a ccd cl outer) (call (.ref aD) []) Q E s := by
  have hA : Asc [dS, xS, dx, x, aT, dB, xB, dC, dL] := ⟨o1, o2, o3, o4, o5, o6, o7, o8, trivial⟩
  have hB := asc_off 8 hA rfl rfl hcS
  refine wpAny_call ?_
  k_dflt ((refine' enterL ?k1Zq ?k2Zq ?k3Zq ?k4Zq ?k6Zq ?k7Zq ?k8Zq ?k9Zq ?kBZq ?_ ?c2Zq ?c3Zq ?c4Zq ?c5Zq; (case k1Zq => assumption); (case k2Zq => assumption); (case k3Zq => assumption); (case k4Zq => assumption); (case k6Zq => assumption); (case k7Zq => assumption); (case k8Zq => ktr_room); (case k9Zq => exact rfl); (case c5Zq => decide); (case kBZq => exact locs rfl); (case c2Zq => exact rfl); (case c3Zq => exact rfl); (case c4Zq => exact rfl); k_whole))
  intro g L' h' X' T' C' GK GS' F' N' l1'
  (try k_lt l1')
  (try dsimp only)
  (try k_fold)
  have gC := dictOfH_base2 tupKnd2_tt hC GK O (by tlg_ne) (by kbo_bools)
  have gL := dictOfH_base2 tupKnd2_t hL GK O (by tlg_ne) (by kbo_bools)
  (k_steps; repeat' ((first | ((try dsimp only [List.cons_append, List.nil_append]); (with_reducible show wpAny _ _ (call (Value.ref 1274) [Value.ref _, Value.int 0 _]) _ _ _); k_dflt (refine' own_port_R ?XZq ?TZq ?CZq ?dZq ?OZq ?o1Zq ?o2Zq ?o3Zq ?o4Zq ?o5Zq ?o6Zq ?o7Zq ?o8Zq ?mZq ?m1Zq ?m2Zq ?DZq ?hCZq ?hC2Zq ?hLZq ?hL2Zq ?lenZq ?len2Zq ?fZq ?lZq ?l2Zq ?foZq ?fo2Zq ?_ ?_; (case CZq => ((refine Cx.call ‹_› (by k_asm) (by rfl)))); (case XZq => assumption); (case TZq => assumption); (case dZq => ktr_room); (case OZq => ((refine Own.of ‹_› (by k_asm) (by keq_rows)))); (case o1Zq => assumption); (case o2Zq => assumption); (case o3Zq => assumption); (case o4Zq => assumption); (case o5Zq => assumption); (case o6Zq => assumption); (case o7Zq => assumption); (case o8Zq => assumption); (case mZq => assumption); (case m1Zq => assumption); (case m2Zq => assumption); (case DZq => assumption); (case hCZq => (exact dictOfH_up tupKnd_tt ‹_› (Fr.keep (by k_asm)))); (case hLZq => (exact dictOfH_up tupKnd_t ‹_› (Fr.keep (by k_asm)))); (case hC2Zq => assumption); (case hL2Zq => assumption); (case lenZq => assumption); (case len2Zq => assumption); (case fZq => regstrif_gather); (case lZq => regstrif_gather); (case l2Zq => regstrif_gather); (case foZq => regstrif_gather); (case fo2Zq => regstrif_gather)); (intro hZq' tkZq' nZq' tZq' foZq' tfoZq' oTZq' hscZq' hKZq' hdxZq' haTZq' hTdZq'; obtain ⟨FZq', NZq'⟩ := News.at2 (by k_asm) (by k_asm) (by k_updF) (by k_updF) hKZq' hdxZq' haTZq' (by k_ne)); rotate_left; (intro eZq' hZq' tkZq' hmZq' foZq' tfoZq' oTZq' hscZq' hKZq' hdxZq' haTZq' hTdZq' RZq'; dsimp only))) <;> k_steps))
  · refine' hexc _ _ _ _ _ _ _ (by assumption) ?kp ?kb ?kc (by assumption) (by assumption)
    case kp => ((refine' kp_on ‹_› ‹_› ?FZq ?NZq ‹_› ?hAZq ?hMZq ?hsZq; (case FZq => k_asm); (case NZq => k_asm); (case hAZq => ((intro q hq; first | exact hq | exact List.Mem.tail _ hq | exact List.Mem.tail _ (List.Mem.tail _ hq) | exact absurd hq List.not_mem_nil | (repeat (first | (rcases List.mem_cons.mp hq with rfl | hq; kpt_turns) | exact absurd hq (List.not_mem_nil)))))); (case hMZq => ((intro q hq; first | exact hq | exact List.Mem.tail _ hq | exact List.Mem.tail _ (List.Mem.tail _ hq) | exact absurd hq List.not_mem_nil | (repeat (first | (rcases List.mem_cons.mp hq with rfl | hq; kpt_turns) | exact absurd hq (List.not_mem_nil)))))); (case hsZq => ked_reads)))
    case kb => ((refine' get_on' ?NZq ‹_› ?dZq; (case NZq => k_asm); (case dZq => k_mem)))
    case kc => ((refine' get_on' ?NZq ‹_› ?dZq; (case NZq => k_asm); (case dZq => k_mem)))
  · refine' hret _ _ _ _ _ _ _ (by assumption) ?kp ?kb ?kc (by assumption)
    case kp => ((refine kp_end ‹_› ‹_› (by k_asm) (by k_asm) (by ked_reads)))
    case kb => exact News.get (by k_asm) (by k_mem)
    case kc => exact News.get (by k_asm) (by k_mem)
theorem ref_own1_R {prog : Program} {w : World} {p : Program} {loose : List Str} {mean : ExcName → Option Value} {mg mb : Str → Option Value} {dp un : Nat} {gd : Option (List Code)} {cn : Str} {cs : Scope} {a : Addr} {ccd : Value} {cl : List (Str × Addr)} {outer : List Env} {h₀ : Heap} {Lc : Addr} {s : Shared} {Q E : Value → Shared → Prop} {cS c' aD : Nat} {xS dS x dx aT xB dB dC dL : Nat} {rS rP j1 j2 : _} {f l tfo fo} {b' : Int} {oT oc : Obj} {kvs : List (Int × Value)} {xsC : List (List (List Int) × Addr × Value)} {xsL : List (List Int × Addr × Value)} {qual : Str} {pm ctv : Value}
  (X₀ : (K w.params).In h₀) (T₀ : Top p loose mean mg mb h₀) (C₀ : Cx h₀ (envX cn cs Lc a ccd cl :: outer) s.heap) (hd : dp + 90 < recursionLimit)
  (O : Own h₀ (envX cn cs Lc a ccd cl :: outer) s.heap [(xS, instObj 1396 dS), (dS, dSock w x xB rS), (x, instObj 154 dx), (dx, dPorts w f l fo tfo aT rP), (aT, oT), (xB, instObj 1138 dB), (dB, dTable w dC dL j1 j2), (cS, oc)])
  (hoc : oc.data = .cell (some (.ref xS))) (haD : s.heap.get? aD = some (kla_obj "<lambda>" qual (Arguments.mk [] [] none [] [] none []) (Expr.Call (Expr.Attribute (Expr.Name (Str.ofString "sockets") ⟨963, 32, 963, 39⟩) (Str.ofString "own_port") ⟨963, 32, 963, 48⟩) [(Expr.Constant (Const.int 0) 0 ⟨963, 49, 963, 50⟩)] [] ⟨963, 32, 963, 51⟩) (Scope.mk ScopeKind.function [((Str.ofString "sockets"), NameKind.free)] false false []) [(Str.ofString "sockets", cS)] pm c' ctv)) (hcd : s.heap.CodeRec (.ref c') qual)
  (o1 : dS < xS) (o2 : xS < dx) (o3 : dx < x) (o4 : x < aT) (o5 : aT < dB) (o6 : dB < xB) (o7 : xB < dC) (o8 : dC < dL) (hcS : cS < dS ∨ dL < cS) (hsm : (aT == sysModules) = false) (hsm1 : (dC == sysModules) = false) (hsm2 : (dL == sysModules) = false)
  (hTd : oT.IsDictOf (intKind prog w) kvs)
  (hC : s.heap.DictOfH (ttKind prog w) dC xsC) (hC2 : ∀ x ∈ xsC, ∃ a b c d, x.1 = [[a, b], [c, d]]) (hL : s.heap.DictOfH (tupleKind (intKind prog w)) dL xsL) (hL2 : ∀ x ∈ xsL, ∃ a b, x.1 = [a, b]) (hlen : xsL.length ≤ 1000)
  (hlen2 : kvs.length ≤ 900) (hf : 0 ≤ f) (hl : f ≤ l) (hl2 : l < 100000) (hfo : f ≤ fo) (hfo2 : fo ≤ l)
  (hsc : (none, b') = ownScan f l (fun n => (valueAt kvs n).isSome) (fun n => xsC.any (fun x => portC x.1 == n) || xsL.any fun x => portL x.1 == n) (l - f + 1).toNat fo)
  (hret : ∀ h' tk' tfo' oT', Kp [dx, aT] (frs (envX cn cs Lc a ccd cl :: outer)) s.heap h' → h'.get? dx = some (dPorts w f l b' tfo' aT rP) → h'.get? aT = some oT' → oT'.IsDictOf (intKind prog w) kvs → Q (.bool true) { s with heap := h', toks := tk' }) :
  wpAny (model prog w) (ktrTop dp un gd cn cs Lc a ccd cl outer) (call (.ref 1428) [.ref aD]) Q E s := by
  refine' law_refused_R (sn := [(dx, _), (aT, oT)]) (R1 := fun _ => False) (R2 := fun hm => ∃ tfo' oT', hm.get? dx = some (dPorts w f l b' tfo' aT rP) ∧ hm.get? aT = some oT' ∧ oT'.IsDictOf (intKind prog w) kvs) X₀ T₀ C₀ (by omega) ⟨_, _, _, _, haD⟩ (O.sub (by keq_rows)) ?deed ?r1 ?r2
  case r1 => exact fun _ _ _ h => h.elim
  case r2 =>
    rintro h' tk' hm hK ⟨tfo', oT', ea, eb, ec⟩ hup hKF
    exact hret h' tk' tfo' oT' hKF (hup _ _ ea (live_of (O.get (by k_mem))) (O (dx, _) (by k_mem)).2.2) (hup _ _ eb (live_of (O.get (by k_mem))) (O (aT, _) (by k_mem)).2.2) ec
  case deed =>
    intro L' h₁ tk' C1 up1 hL1
    k_dflt (refine' lam_own1_R X₀ T₀ C1 ?d (Own.under O up1 hL1) hoc (up1 _ _ haD) (codeRec_up hcd up1) o1 o2 o3 o4 o5 o6 o7 o8 hcS hsm hsm1 hsm2 hTd (dictOfH_up tupKnd_tt hC up1) hC2 (dictOfH_up tupKnd_t hL up1) hL2 hlen hlen2 hf hl hl2 hfo hfo2 ?ret ?exc)
    case d => ktr_room
    case ret =>
      intro h' tk' n t' fo' tfo' oT' hsc'
      rw [← hsc] at hsc'; cases hsc'
    case exc =>
      intro e h' tk' hm fo' tfo' oT' hsc' hK hdx haT hTd' R
      obtain rfl := own_eq0 hsc hsc'
      exact ⟨e, h', tk', hm, rfl, rfl, hK, ⟨_, _, hdx, haT, hTd'⟩, R⟩
end
section -- W9
theorem reg_W9 : PySem.Challenge.rw_pq1204_01 = PySem.Challenge.rw_pq1204_01 ∧ K = K := by k_fill; exact ⟨rfl, rfl⟩
theorem lam_own3_R {prog : Program} {w : World} {p : Program} {loose : List Str} {mean : ExcName → Option Value} {mg mb : Str → Option Value} {dp un : Nat} {gd : Option (List Code)} {cn : Str} {cs : Scope} {a : Addr} {ccd : Value} {cl : List (Str × Addr)} {outer : List Env} {h₀ : Heap} {Lc : Addr} {s : Shared} {Q E : Value → Shared → Prop} {cS c' aD : Nat} {xS dS x dx aT xB dB dC dL : Nat} {rS rP j1 j2 : _} {f l tfo fo} {oT oc : Obj} {kvs : List (Int × Value)} {xsC : List (List (List Int) × Addr × Value)} {xsL : List (List Int × Addr × Value)} {qual : Str} {pm ctv : Value}
  (X₀ : (K w.params).In h₀) (T₀ : Top p loose mean mg mb h₀) (C₀ : Cx h₀ (envX cn cs Lc a ccd cl :: outer) s.heap) (hd : dp + 60 < recursionLimit)
  (O : Own h₀ (envX cn cs Lc a ccd cl :: outer) s.heap [(xS, instObj 1396 dS), (dS, dSock w x xB rS), (x, instObj 154 dx), (dx, dPorts w f l fo tfo aT rP), (aT, oT), (xB, instObj 1138 dB), (dB, dTable w dC dL j1 j2), (cS, oc)])
  (hoc : oc.data = .cell (some (.ref xS))) (haD : s.heap.get? aD = some (kla_obj "<lambda>" qual (Arguments.mk [] [] none [] [] none []) (Expr.Call (Expr.Attribute (Expr.Name (Str.ofString "few") ⟨1007, 57, 1007, 60⟩) (Str.ofString "own_port") ⟨1007, 57, 1007, 69⟩) [(Expr.Constant (Const.int 0) 0 ⟨1007, 70, 1007, 71⟩)] [] ⟨1007, 57, 1007, 72⟩) (Scope.mk ScopeKind.function [((Str.ofString "few"), NameKind.free)] false false []) [(Str.ofString "few", cS)] pm c' ctv)) (hcd : s.heap.CodeRec (.ref c') qual)
  (o1 : dS < xS) (o2 : xS < dx) (o3 : dx < x) (o4 : x < aT) (o5 : aT < dB) (o6 : dB < xB) (o7 : xB < dC) (o8 : dC < dL) (hcS : cS < dS ∨ dL < cS) (hsm : (aT == sysModules) = false) (hsm1 : (dC == sysModules) = false) (hsm2 : (dL == sysModules) = false)
  (hTd : oT.IsDictOf (intKind prog w) kvs)
  (hC : s.heap.DictOfH (ttKind prog w) dC xsC) (hC2 : ∀ x ∈ xsC, ∃ a b c d, x.1 = [[a, b], [c, d]]) (hL : s.heap.DictOfH (tupleKind (intKind prog w)) dL xsL) (hL2 : ∀ x ∈ xsL, ∃ a b, x.1 = [a, b]) (hlen : xsL.length ≤ 1000)
  (hlen2 : kvs.length ≤ 900) (hf : 0 ≤ f) (hl : f ≤ l) (hl2 : l < 100000) (hfo : f ≤ fo) (hfo2 : fo ≤ l)
  (hret : ∀ h' tk' n t' fo' tfo' oT', ownScan f l (fun n => (valueAt kvs n).isSome) (fun n => xsC.any (fun x => portC x.1 == n) || xsL.any fun x => portL x.1 == n) (l - f + 1).toNat fo = (some n, fo') → Kp [dx, aT] [] s.heap h' → h'.get? dx = some (dPorts w f l fo' tfo' aT rP) →
     h'.get? aT = some oT' → oT'.IsDictOf (intKind prog w) (stored kvs n (.bool true)) → Q (.int n t') { s with heap := h', toks := tk' })
  (hexc : ∀ e h' tk' hm fo' tfo' oT', ownScan f l (fun n => (valueAt kvs n).isSome) (fun n => xsC.any (fun x => portC x.1 == n) || xsL.any fun x => portL x.1 == n) (l - f + 1).toNat fo = (none, fo') → Kp [dx, aT] [] s.heap hm → hm.get? dx = some (dPorts w f l fo' tfo' aT rP) →
     hm.get? aT = some oT' → oT'.IsDictOf (intKind prog w) kvs → RaisedR hm (envX cn cs Lc a ccd cl :: outer) e 63 h' → E (.ref e) { s with heap := h', toks := tk' }) :
  wpAny (model prog w) (ktrTop dp un gd cn cs Lc a ccd cl outer) (call (.ref aD) []) Q E s := by
  have hA : Asc [dS, xS, dx, x, aT, dB, xB, dC, dL] := ⟨o1, o2, o3, o4, o5, o6, o7, o8, trivial⟩
  have hB := asc_off 8 hA rfl rfl hcS
  refine wpAny_call ?_
  k_dflt ((refine' enterL ?k1Zq ?k2Zq ?k3Zq ?k4Zq ?k6Zq ?k7Zq ?k8Zq ?k9Zq ?kBZq ?_ ?c2Zq ?c3Zq ?c4Zq ?c5Zq; (case k1Zq => assumption); (case k2Zq => assumption); (case k3Zq => assumption); (case k4Zq => assumption); (case k6Zq => assumption); (case k7Zq => assumption); (case k8Zq => ktr_room); (case k9Zq => exact rfl); (case c5Zq => decide); (case kBZq => exact locs rfl); (case c2Zq => exact rfl); (case c3Zq => exact rfl); (case c4Zq => exact rfl); k_whole))
  intro g L' h' X' T' C' GK GS' F' N' l1'
  (try k_lt l1')
  (try dsimp only)
  (try k_fold)
  have gC := dictOfH_base2 tupKnd2_tt hC GK O (by tlg_ne) (by kbo_bools)
  have gL := dictOfH_base2 tupKnd2_t hL GK O (by tlg_ne) (by kbo_bools)
  (k_steps; repeat' ((first | ((try dsimp only [List.cons_append, List.nil_append]); (with_reducible show wpAny _ _ (call (Value.ref 1274) [Value.ref _, Value.int 0 _]) _ _ _); k_dflt (refine' own_port_R ?XZq ?TZq ?CZq ?dZq ?OZq ?o1Zq ?o2Zq ?o3Zq ?o4Zq ?o5Zq ?o6Zq ?o7Zq ?o8Zq ?mZq ?m1Zq ?m2Zq ?DZq ?hCZq ?hC2Zq ?hLZq ?hL2Zq ?lenZq ?len2Zq ?fZq ?lZq ?l2Zq ?foZq ?fo2Zq ?_ ?_; (case CZq => ((refine Cx.call ‹_› (by k_asm) (by rfl)))); (case XZq => assumption); (case TZq => assumption); (case dZq => ktr_room); (case OZq => ((refine Own.of ‹_› (by k_asm) (by keq_rows)))); (case o1Zq => assumption); (case o2Zq => assumption); (case o3Zq => assumption); (case o4Zq => assumption); (case o5Zq => assumption); (case o6Zq => assumption); (case o7Zq => assumption); (case o8Zq => assumption); (case mZq => assumption); (case m1Zq => assumption); (case m2Zq => assumption); (case DZq => assumption); (case hCZq => (exact dictOfH_up tupKnd_tt ‹_› (Fr.keep (by k_asm)))); (case hLZq => (exact dictOfH_up tupKnd_t ‹_› (Fr.keep (by k_asm)))); (case hC2Zq => assumption); (case hL2Zq => assumption); (case lenZq => assumption); (case len2Zq => assumption); (case fZq => regstrif_gather); (case lZq => regstrif_gather); (case l2Zq => regstrif_gather); (case foZq => regstrif_gather); (case fo2Zq => regstrif_gather)); (intro hZq' tkZq' nZq' tZq' foZq' tfoZq' oTZq' hscZq' hKZq' hdxZq' haTZq' hTdZq'; obtain ⟨FZq', NZq'⟩ := News.at2 (by k_asm) (by k_asm) (by k_updF) (by k_updF) hKZq' hdxZq' haTZq' (by k_ne)); rotate_left; (intro eZq' hZq' tkZq' hmZq' foZq' tfoZq' oTZq' hscZq' hKZq' hdxZq' haTZq' hTdZq' RZq'; dsimp only))) <;> k_steps))
  · refine' hexc _ _ _ _ _ _ _ (by assumption) ?kp ?kb ?kc (by assumption) (by assumption)
    case kp => ((refine' kp_on ‹_› ‹_› ?FZq ?NZq ‹_› ?hAZq ?hMZq ?hsZq; (case FZq => k_asm); (case NZq => k_asm); (case hAZq => ((intro q hq; first | exact hq | exact List.Mem.tail _ hq | exact List.Mem.tail _ (List.Mem.tail _ hq) | exact absurd hq List.not_mem_nil | (repeat (first | (rcases List.mem_cons.mp hq with rfl | hq; kpt_turns) | exact absurd hq (List.not_mem_nil)))))); (case hMZq => ((intro q hq; first | exact hq | exact List.Mem.tail _ hq | exact List.Mem.tail _ (List.Mem.tail _ hq) | exact absurd hq List.not_mem_nil | (repeat (first | (rcases List.mem_cons.mp hq with rfl | hq; kpt_turns) | exact absurd hq (List.not_mem_nil)))))); (case hsZq => ked_reads)))
    case kb => ((refine' get_on' ?NZq ‹_› ?dZq; (case NZq => k_asm); (case dZq => k_mem)))
    case kc => ((refine' get_on' ?NZq ‹_› ?dZq; (case NZq => k_asm); (case dZq => k_mem)))
  · refine' hret _ _ _ _ _ _ _ (by assumption) ?kp ?kb ?kc (by assumption)
    case kp => ((refine kp_end ‹_› ‹_› (by k_asm) (by k_asm) (by ked_reads)))
    case kb => exact News.get (by k_asm) (by k_mem)
    case kc => exact News.get (by k_asm) (by k_mem)
theorem ref_own3_R {prog : Program} {w : World} {p : Program} {loose : List Str} {mean : ExcName → Option Value} {mg mb : Str → Option Value} {dp un : Nat} {gd : Option (List Code)} {cn : Str} {cs : Scope} {a : Addr} {ccd : Value} {cl : List (Str × Addr)} {outer : List Env} {h₀ : Heap} {Lc : Addr} {s : Shared} {Q E : Value → Shared → Prop} {cS c' aD : Nat} {xS dS x dx aT xB dB dC dL : Nat} {rS rP j1 j2 : _} {f l tfo fo} {b' : Int} {oT oc : Obj} {kvs : List (Int × Value)} {xsC : List (List (List Int) × Addr × Value)} {xsL : List (List Int × Addr × Value)} {qual : Str} {pm ctv : Value}
  (X₀ : (K w.params).In h₀) (T₀ : Top p loose mean mg mb h₀) (C₀ : Cx h₀ (envX cn cs Lc a ccd cl :: outer) s.heap) (hd : dp + 90 < recursionLimit)
  (O : Own h₀ (envX cn cs Lc a ccd cl :: outer) s.heap [(xS, instObj 1396 dS), (dS, dSock w x xB rS), (x, instObj 154 dx), (dx, dPorts w f l fo tfo aT rP), (aT, oT), (xB, instObj 1138 dB), (dB, dTable w dC dL j1 j2), (cS, oc)])
  (hoc : oc.data = .cell (some (.ref xS))) (haD : s.heap.get? aD = some (kla_obj "<lambda>" qual (Arguments.mk [] [] none [] [] none []) (Expr.Call (Expr.Attribute (Expr.Name (Str.ofString "few") ⟨1007, 57, 1007, 60⟩) (Str.ofString "own_port") ⟨1007, 57, 1007, 69⟩) [(Expr.Constant (Const.int 0) 0 ⟨1007, 70, 1007, 71⟩)] [] ⟨1007, 57, 1007, 72⟩) (Scope.mk ScopeKind.function [((Str.ofString "few"), NameKind.free)] false false []) [(Str.ofString "few", cS)] pm c' ctv)) (hcd : s.heap.CodeRec (.ref c') qual)
  (o1 : dS < xS) (o2 : xS < dx) (o3 : dx < x) (o4 : x < aT) (o5 : aT < dB) (o6 : dB < xB) (o7 : xB < dC) (o8 : dC < dL) (hcS : cS < dS ∨ dL < cS) (hsm : (aT == sysModules) = false) (hsm1 : (dC == sysModules) = false) (hsm2 : (dL == sysModules) = false)
  (hTd : oT.IsDictOf (intKind prog w) kvs)
  (hC : s.heap.DictOfH (ttKind prog w) dC xsC) (hC2 : ∀ x ∈ xsC, ∃ a b c d, x.1 = [[a, b], [c, d]]) (hL : s.heap.DictOfH (tupleKind (intKind prog w)) dL xsL) (hL2 : ∀ x ∈ xsL, ∃ a b, x.1 = [a, b]) (hlen : xsL.length ≤ 1000)
  (hlen2 : kvs.length ≤ 900) (hf : 0 ≤ f) (hl : f ≤ l) (hl2 : l < 100000) (hfo : f ≤ fo) (hfo2 : fo ≤ l)
  (hsc : (none, b') = ownScan f l (fun n => (valueAt kvs n).isSome) (fun n => xsC.any (fun x => portC x.1 == n) || xsL.any fun x => portL x.1 == n) (l - f + 1).toNat fo)
  (hret : ∀ h' tk' tfo' oT', Kp [dx, aT] (frs (envX cn cs Lc a ccd cl :: outer)) s.heap h' → h'.get? dx = some (dPorts w f l b' tfo' aT rP) → h'.get? aT = some oT' → oT'.IsDictOf (intKind prog w) kvs → Q (.bool true) { s with heap := h', toks := tk' }) :
  wpAny (model prog w) (ktrTop dp un gd cn cs Lc a ccd cl outer) (call (.ref 1428) [.ref aD]) Q E s := by
  refine' law_refused_R (sn := [(dx, _), (aT, oT)]) (R1 := fun _ => False) (R2 := fun hm => ∃ tfo' oT', hm.get? dx = some (dPorts w f l b' tfo' aT rP) ∧ hm.get? aT = some oT' ∧ oT'.IsDictOf (intKind prog w) kvs) X₀ T₀ C₀ (by omega) ⟨_, _, _, _, haD⟩ (O.sub (by keq_rows)) ?deed ?r1 ?r2
  case r1 => exact fun _ _ _ h => h.elim
  case r2 =>
    rintro h' tk' hm hK ⟨tfo', oT', ea, eb, ec⟩ hup hKF
    exact hret h' tk' tfo' oT' hKF (hup _ _ ea (live_of (O.get (by k_mem))) (O (dx, _) (by k_mem)).2.2) (hup _ _ eb (live_of (O.get (by k_mem))) (O (aT, _) (by k_mem)).2.2) ec
  case deed =>
    intro L' h₁ tk' C1 up1 hL1
    k_dflt (refine' lam_own3_R X₀ T₀ C1 ?d (Own.under O up1 hL1) hoc (up1 _ _ haD) (codeRec_up hcd up1) o1 o2 o3 o4 o5 o6 o7 o8 hcS hsm hsm1 hsm2 hTd (dictOfH_up tupKnd_tt hC up1) hC2 (dictOfH_up tupKnd_t hL up1) hL2 hlen hlen2 hf hl hl2 hfo hfo2 ?ret ?exc)
    case d => ktr_room
    case ret =>
      intro h' tk' n t' fo' tfo' oT' hsc'
      rw [← hsc] at hsc'; cases hsc'
    case exc =>
      intro e h' tk' hm fo' tfo' oT' hsc' hK hdx haT hTd' R
      obtain rfl := own_eq0 hsc hsc'
      exact ⟨e, h', tk', hm, rfl, rfl, hK, ⟨_, _, hdx, haT, hTd'⟩, R⟩
theorem lam_own4_R {prog : Program} {w : World} {p : Program} {loose : List Str} {mean : ExcName → Option Value} {mg mb : Str → Option Value} {dp un : Nat} {gd : Option (List Code)} {cn : Str} {cs : Scope} {a : Addr} {ccd : Value} {cl : List (Str × Addr)} {outer : List Env} {h₀ : Heap} {Lc : Addr} {s : Shared} {Q E : Value → Shared → Prop} {cS c' aD : Nat} {xS dS x dx aT xB dB dC dL : Nat} {rS rP j1 j2 : _} {f l tfo fo} {oT oc : Obj} {kvs : List (Int × Value)} {xsC : List (List (List Int) × Addr × Value)} {xsL : List (List Int × Addr × Value)} {qual : Str} {pm ctv : Value}
  (X₀ : (K w.params).In h₀) (T₀ : Top p loose mean mg mb h₀) (C₀ : Cx h₀ (envX cn cs Lc a ccd cl :: outer) s.heap) (hd : dp + 60 < recursionLimit)
  (O : Own h₀ (envX cn cs Lc a ccd cl :: outer) s.heap [(xS, instObj 1396 dS), (dS, dSock w x xB rS), (x, instObj 154 dx), (dx, dPorts w f l fo tfo aT rP), (aT, oT), (xB, instObj 1138 dB), (dB, dTable w dC dL j1 j2), (cS, oc)])
  (hoc : oc.data = .cell (some (.ref xS))) (haD : s.heap.get? aD = some (kla_obj "<lambda>" qual (Arguments.mk [] [] none [] [] none []) (Expr.Call (Expr.Attribute (Expr.Name (Str.ofString "few") ⟨1018, 28, 1018, 31⟩) (Str.ofString "own_port") ⟨1018, 28, 1018, 40⟩) [(Expr.Constant (Const.int 0) 0 ⟨1018, 41, 1018, 42⟩)] [] ⟨1018, 28, 1018, 43⟩) (Scope.mk ScopeKind.function [((Str.ofString "few"), NameKind.free)] false false []) [(Str.ofString "few", cS)] pm c' ctv)) (hcd : s.heap.CodeRec (.ref c') qual)
  (o1 : dS < xS) (o2 : xS < dx) (o3 : dx < x) (o4 : x < aT) (o5 : aT < dB) (o6 : dB < xB) (o7 : xB < dC) (o8 : dC < dL) (hcS : cS < dS ∨ dL < cS) (hsm : (aT == sysModules) = false) (hsm1 : (dC == sysModules) = false) (hsm2 : (dL == sysModules) = false)
  (hTd : oT.IsDictOf (intKind prog w) kvs)
  (hC : s.heap.DictOfH (ttKind prog w) dC xsC) (hC2 : ∀ x ∈ xsC, ∃ a b c d, x.1 = [[a, b], [c, d]]) (hL : s.heap.DictOfH (tupleKind (intKind prog w)) dL xsL) (hL2 : ∀ x ∈ xsL, ∃ a b, x.1 = [a, b]) (hlen : xsL.length ≤ 1000)
  (hlen2 : kvs.length ≤ 900) (hf : 0 ≤ f) (hl : f ≤ l) (hl2 : l < 100000) (hfo : f ≤ fo) (hfo2 : fo ≤ l)
  (hret : ∀ h' tk' n t' fo' tfo' oT', ownScan f l (fun n => (valueAt kvs n).isSome) (fun n => xsC.any (fun x => portC x.1 == n) || xsL.any fun x => portL x.1 == n) (l - f + 1).toNat fo = (some n, fo') → Kp [dx, aT] [] s.heap h' → h'.get? dx = some (dPorts w f l fo' tfo' aT rP) →
     h'.get? aT = some oT' → oT'.IsDictOf (intKind prog w) (stored kvs n (.bool true)) → Q (.int n t') { s with heap := h', toks := tk' })
  (hexc : ∀ e h' tk' hm fo' tfo' oT', ownScan f l (fun n => (valueAt kvs n).isSome) (fun n => xsC.any (fun x => portC x.1 == n) || xsL.any fun x => portL x.1 == n) (l - f + 1).toNat fo = (none, fo') → Kp [dx, aT] [] s.heap hm → hm.get? dx = some (dPorts w f l fo' tfo' aT rP) →
     hm.get? aT = some oT' → oT'.IsDictOf (intKind prog w) kvs → RaisedR hm (envX cn cs Lc a ccd cl :: outer) e 63 h' → E (.ref e) { s with heap := h', toks := tk' }) :
  wpAny (model prog w) (ktrTop dp un gd cn cs Lc a ccd cl outer) (call (.ref aD) []) Q E s := by
  have hA : Asc [dS, xS, dx, x, aT, dB, xB, dC, dL] := ⟨o1, o2, o3, o4, o5, o6, o7, o8, trivial⟩
  have hB := asc_off 8 hA rfl rfl hcS
  refine wpAny_call ?_
  k_dflt ((refine' enterL ?k1Zq ?k2Zq ?k3Zq ?k4Zq ?k6Zq ?k7Zq ?k8Zq ?k9Zq ?kBZq ?_ ?c2Zq ?c3Zq ?c4Zq ?c5Zq; (case k1Zq => assumption); (case k2Zq => assumption); (case k3Zq => assumption); (case k4Zq => assumption); (case k6Zq => assumption); (case k7Zq => assumption); (case k8Zq => ktr_room); (case k9Zq => exact rfl); (case c5Zq => decide); (case kBZq => exact locs rfl); (case c2Zq => exact rfl); (case c3Zq => exact rfl); (case c4Zq => exact rfl); k_whole))
  intro g L' h' X' T' C' GK GS' F' N' l1'
  (try k_lt l1')
  (try dsimp only)
  (try k_fold)
  have gC := dictOfH_base2 tupKnd2_tt hC GK O (by tlg_ne) (by kbo_bools)
  have gL := dictOfH_base2 tupKnd2_t hL GK O (by tlg_ne) (by kbo_bools)
  (k_steps; repeat' ((first | ((try dsimp only [List.cons_append, List.nil_append]); (with_reducible show wpAny _ _ (call (Value.ref 1274) [Value.ref _, Value.int 0 _]) _ _ _); k_dflt (refine' own_port_R ?XZq ?TZq ?CZq ?dZq ?OZq ?o1Zq ?o2Zq ?o3Zq ?o4Zq ?o5Zq ?o6Zq ?o7Zq ?o8Zq ?mZq ?m1Zq ?m2Zq ?DZq ?hCZq ?hC2Zq ?hLZq ?hL2Zq ?lenZq ?len2Zq ?fZq ?lZq ?l2Zq ?foZq ?fo2Zq ?_ ?_; (case CZq => ((refine Cx.call ‹_› (by k_asm) (by rfl)))); (case XZq => assumption); (case TZq => assumption); (case dZq => ktr_room); (case OZq => ((refine Own.of ‹_› (by k_asm) (by keq_rows)))); (case o1Zq => assumption); (case o2Zq => assumption); (case o3Zq => assumption); (case o4Zq => assumption); (case o5Zq => assumption); (case o6Zq => assumption); (case o7Zq => assumption); (case o8Zq => assumption); (case mZq => assumption); (case m1Zq => assumption); (case m2Zq => assumption); (case DZq => assumption); (case hCZq => (exact dictOfH_up tupKnd_tt ‹_› (Fr.keep (by k_asm)))); (case hLZq => (exact dictOfH_up tupKnd_t ‹_› (Fr.keep (by k_asm)))); (case hC2Zq => assumption); (case hL2Zq => assumption); (case lenZq => assumption); (case len2Zq => assumption); (case fZq => regstrif_gather); (case lZq => regstrif_gather); (case l2Zq => regstrif_gather); (case foZq => regstrif_gather); (case fo2Zq => regstrif_gather)); (intro hZq' tkZq' nZq' tZq' foZq' tfoZq' oTZq' hscZq' hKZq' hdxZq' haTZq' hTdZq'; obtain ⟨FZq', NZq'⟩ := News.at2 (by k_asm) (by k_asm) (by k_updF) (by k_updF) hKZq' hdxZq' haTZq' (by k_ne)); rotate_left; (intro eZq' hZq' tkZq' hmZq' foZq' tfoZq' oTZq' hscZq' hKZq' hdxZq' haTZq' hTdZq' RZq'; dsimp only))) <;> k_steps))
  · refine' hexc _ _ _ _ _ _ _ (by assumption) ?kp ?kb ?kc (by assumption) (by assumption)
    case kp => ((refine' kp_on ‹_› ‹_› ?FZq ?NZq ‹_› ?hAZq ?hMZq ?hsZq; (case FZq => k_asm); (case NZq => k_asm); (case hAZq => ((intro q hq; first | exact hq | exact List.Mem.tail _ hq | exact List.Mem.tail _ (List.Mem.tail _ hq) | exact absurd hq List.not_mem_nil | (repeat (first | (rcases List.mem_cons.mp hq with rfl | hq; kpt_turns) | exact absurd hq (List.not_mem_nil)))))); (case hMZq => ((intro q hq; first | exact hq | exact List.Mem.tail _ hq | exact List.Mem.tail _ (List.Mem.tail _ hq) | exact absurd hq List.not_mem_nil | (repeat (first | (rcases List.mem_cons.mp hq with rfl | hq; kpt_turns) | exact absurd hq (List.not_mem_nil)))))); (case hsZq => ked_reads)))
    case kb => ((refine' get_on' ?NZq ‹_› ?dZq; (case NZq => k_asm); (case dZq => k_mem)))
    case kc => ((refine' get_on' ?NZq ‹_› ?dZq; (case NZq => k_asm); (case dZq => k_mem)))
  · refine' hret _ _ _ _ _ _ _ (by assumption) ?kp ?kb ?kc (by assumption)
    case kp => ((refine kp_end ‹_› ‹_› (by k_asm) (by k_asm) (by ked_reads)))
    case kb => exact News.get (by k_asm) (by k_mem)
    case kc => exact News.get (by k_asm) (by k_mem)
theorem ref_ok4_R {prog : Program} {w : World} {p : Program} {loose : List Str} {mean : ExcName → Option Value} {mg mb : Str → Option Value} {dp un : Nat} {gd : Option (List Code)} {cn : Str} {cs : Scope} {a : Addr} {ccd : Value} {cl : List (Str × Addr)} {outer : List Env} {h₀ : Heap} {Lc : Addr} {s : Shared} {Q E : Value → Shared → Prop} {cS c' aD : Nat} {xS dS x dx aT xB dB dC dL : Nat} {rS rP j1 j2 : _} {f l tfo fo} {b' n0 : Int} {oT oc : Obj} {kvs : List (Int × Value)} {xsC : List (List (List Int) × Addr × Value)} {xsL : List (List Int × Addr × Value)} {qual : Str} {pm ctv : Value}
  (X₀ : (K w.params).In h₀) (T₀ : Top p loose mean mg mb h₀) (C₀ : Cx h₀ (envX cn cs Lc a ccd cl :: outer) s.heap) (hd : dp + 90 < recursionLimit)
  (O : Own h₀ (envX cn cs Lc a ccd cl :: outer) s.heap [(xS, instObj 1396 dS), (dS, dSock w x xB rS), (x, instObj 154 dx), (dx, dPorts w f l fo tfo aT rP), (aT, oT), (xB, instObj 1138 dB), (dB, dTable w dC dL j1 j2), (cS, oc)])
  (hoc : oc.data = .cell (some (.ref xS))) (haD : s.heap.get? aD = some (kla_obj "<lambda>" qual (Arguments.mk [] [] none [] [] none []) (Expr.Call (Expr.Attribute (Expr.Name (Str.ofString "few") ⟨1018, 28, 1018, 31⟩) (Str.ofString "own_port") ⟨1018, 28, 1018, 40⟩) [(Expr.Constant (Const.int 0) 0 ⟨1018, 41, 1018, 42⟩)] [] ⟨1018, 28, 1018, 43⟩) (Scope.mk ScopeKind.function [((Str.ofString "few"), NameKind.free)] false false []) [(Str.ofString "few", cS)] pm c' ctv)) (hcd : s.heap.CodeRec (.ref c') qual)
  (o1 : dS < xS) (o2 : xS < dx) (o3 : dx < x) (o4 : x < aT) (o5 : aT < dB) (o6 : dB < xB) (o7 : xB < dC) (o8 : dC < dL) (hcS : cS < dS ∨ dL < cS) (hsm : (aT == sysModules) = false) (hsm1 : (dC == sysModules) = false) (hsm2 : (dL == sysModules) = false)
  (hTd : oT.IsDictOf (intKind prog w) kvs)
  (hC : s.heap.DictOfH (ttKind prog w) dC xsC) (hC2 : ∀ x ∈ xsC, ∃ a b c d, x.1 = [[a, b], [c, d]]) (hL : s.heap.DictOfH (tupleKind (intKind prog w)) dL xsL) (hL2 : ∀ x ∈ xsL, ∃ a b, x.1 = [a, b]) (hlen : xsL.length ≤ 1000)
  (hlen2 : kvs.length ≤ 900) (hf : 0 ≤ f) (hl : f ≤ l) (hl2 : l < 100000) (hfo : f ≤ fo) (hfo2 : fo ≤ l)
  (hsc : (some n0, b') = ownScan f l (fun n => (valueAt kvs n).isSome) (fun n => xsC.any (fun x => portC x.1 == n) || xsL.any fun x => portL x.1 == n) (l - f + 1).toNat fo)
  (hret : ∀ h' tk' tfo' oT', Kp [dx, aT] [] s.heap h' → h'.get? dx = some (dPorts w f l b' tfo' aT rP) → h'.get? aT = some oT' → oT'.IsDictOf (intKind prog w) (stored kvs n0 (.bool true)) → Q (.bool false) { s with heap := h', toks := tk' }) :
  wpAny (model prog w) (ktrTop dp un gd cn cs Lc a ccd cl outer) (call (.ref 1428) [.ref aD]) Q E s := by
  refine' law_refused_R (sn := [(dx, _), (aT, oT)]) (R2 := fun _ => False) (R1 := fun hm => ∃ tfo' oT', hm.get? dx = some (dPorts w f l b' tfo' aT rP) ∧ hm.get? aT = some oT' ∧ oT'.IsDictOf (intKind prog w) (stored kvs n0 (.bool true))) X₀ T₀ C₀ (by omega) ⟨_, _, _, _, haD⟩ (O.sub (by keq_rows)) ?deed ?r1 ?r2
  case r2 => exact fun _ _ _ _ h => h.elim
  case r1 =>
    rintro h' tk' hK ⟨tfo', oT', ea, eb, ec⟩
    exact hret h' tk' tfo' oT' hK ea eb ec
  case deed =>
    intro L' h₁ tk' C1 up1 hL1
    k_dflt (refine' lam_own4_R X₀ T₀ C1 ?d (Own.under O up1 hL1) hoc (up1 _ _ haD) (codeRec_up hcd up1) o1 o2 o3 o4 o5 o6 o7 o8 hcS hsm hsm1 hsm2 hTd (dictOfH_up tupKnd_tt hC up1) hC2 (dictOfH_up tupKnd_t hL up1) hL2 hlen hlen2 hf hl hl2 hfo hfo2 ?ret ?exc)
    case d => ktr_room
    case exc =>
      intro e h' tk' hm fo' tfo' oT' hsc'
      rw [← hsc] at hsc'; cases hsc'
    case ret =>
      intro h' tk' n t' fo' tfo' oT' hsc' hK hdx haT hTd'
      obtain ⟨rfl, rfl⟩ := own_eq hsc hsc'
      exact ⟨h', tk', rfl, hK, _, _, hdx, haT, hTd'⟩
end
section -- W2
theorem reg_W2 : PySem.Challenge.rw_pq1204_01 = PySem.Challenge.rw_pq1204_01 ∧ K = K := by k_fill; exact ⟨rfl, rfl⟩
theorem own77_R {prog : Program} {w : World} {p : Program} {loose : List Str} {mean : ExcName → Option Value} {mg mb : Str → Option Value} {dp un : Nat} {gd : Option (List Code)} {cn : Str} {cs : Scope} {a : Addr} {ccd : Value} {cl : List (Str × Addr)} {outer : List Env} {h₀ : Heap} {Lc : Addr} {s : Shared} {Q E : Value → Shared → Prop} {xS : Nat} {t : Tok}
  (X₀ : (K w.params).In h₀) (T₀ : Top p loose mean mg mb h₀) (C₀ : Cx h₀ (envX cn cs Lc a ccd cl :: outer) s.heap) (hd : dp + 20 < recursionLimit)
  (hret : ∀ h' tk', Kp [] [] s.heap h' → Q (.int 77 t) { s with heap := h', toks := tk' }) :
  wpAny (model prog w) (ktrTop dp un gd cn cs Lc a ccd cl outer) (call (.ref 1274) [.ref xS, .int 77 t]) Q E s := by
  have O : Own h₀ (envX cn cs Lc a ccd cl :: outer) s.heap [] := fun _ h => nomatch h
  refine wpAny_call ?_; k_dflt ((refine' enterR ?k1Zq ?k2Zq ?k3Zq ?k4Zq ?k6Zq ?k7Zq ?k8Zq ?k9Zq ?kBZq ?_ ?c2Zq ?c3Zq ?c4Zq ?c5Zq; (case k1Zq => assumption); (case k2Zq => assumption); (case k3Zq => assumption); (case k4Zq => assumption); (case k6Zq => k_is); (case k7Zq => k_is); (case k8Zq => ktr_room); (case k9Zq => first | exact BindsTo.of_eq rfl | exact binds_K (Frag.In.keeps (by assumption) (Cx.st (by assumption))) rfl (by k_is) rfl rfl rfl); (case c5Zq => decide); (case kBZq => exact locs rfl); (case c2Zq => exact rfl); (case c3Zq => exact rfl); (case c4Zq => exact rfl); k_whole)); intro g L' h' X' T' C' GK GS' F' N' l1'; (try k_lt l1'); (try dsimp only); (try k_fold)
  (k_steps; repeat' ((first | ((try dsimp only [List.cons_append, List.nil_append]); (with_reducible show wpAny _ _ (call (Value.ref 151) [Value.ref _, Value.int _ _]) _ _ _); k_dflt (refine' free_R ?XZq ?TZq ?CZq ?dZq ?OZq ?o1Zq ?o2Zq ?mZq ?DZq ?lenZq ?nbZq ?_ ?_; (case CZq => ((refine Cx.call ‹_› (by k_asm) (by rfl)))); (case XZq => assumption); (case TZq => assumption); (case dZq => ktr_room); (case OZq => ((refine Own.of ‹_› (by k_asm) (by keq_rows)))); (case o1Zq => regstrif_gather); (case o2Zq => regstrif_gather); (case mZq => assumption); (case DZq => k_asm); (case lenZq => first | assumption | exact small_stored (by assumption)); (case nbZq => assumption)); (intro hZq' tkZq' oTZq' hsZq' hTdZq' hKZq' haTZq'; obtain ⟨FZq', NZq'⟩ := News.at1 (by k_asm) (by k_asm) (by k_updF) hKZq' haTZq'); rotate_left; (intro eZq' hZq' tkZq' hmZq' hscZq' hKZq' RZq'; dsimp only))) <;> k_steps))
  exact hret _ _ (kp_end GK O F' N' (fun _ h => nomatch h))

theorem lam_free_R {prog : Program} {w : World} {p : Program} {loose : List Str} {mean : ExcName → Option Value} {mg mb : Str → Option Value} {dp un : Nat} {gd : Option (List Code)} {cn : Str} {cs : Scope} {a : Addr} {ccd : Value} {cl : List (Str × Addr)} {outer : List Env} {h₀ : Heap} {Lc : Addr} {s : Shared} {Q E : Value → Shared → Prop} {cO cS c' aD : Nat} {xS dS x dx aT xB : Nat} {rS rP : _} {f l tfo fo} {n : Int} {tn : Tok} {oT oc oo : Obj} {kvs : List (Int × Value)} {qual : Str} {pm ctv : Value}
  (X₀ : (K w.params).In h₀) (T₀ : Top p loose mean mg mb h₀) (C₀ : Cx h₀ (envX cn cs Lc a ccd cl :: outer) s.heap) (hd : dp + 60 < recursionLimit)
  (O : Own h₀ (envX cn cs Lc a ccd cl :: outer) s.heap [(xS, instObj 1396 dS), (dS, dSock w x xB rS), (x, instObj 154 dx), (dx, dPorts w f l fo tfo aT rP), (aT, oT), (cS, oc), (cO, oo)])
  (hoc : oc.data = .cell (some (.ref xS))) (hoo : oo.data = .cell (some (.int n tn)))
  (haD : s.heap.get? aD = some (kla_obj "<lambda>" qual (Arguments.mk [] [] none [] [] none []) (Expr.Call (Expr.Attribute (Expr.Attribute (Expr.Name (Str.ofString "sockets") ⟨981, 36, 981, 43⟩) (Str.ofString "ports") ⟨981, 36, 981, 49⟩) (Str.ofString "free") ⟨981, 36, 981, 54⟩) [(Expr.Name (Str.ofString "one") ⟨981, 55, 981, 58⟩)] [] ⟨981, 36, 981, 59⟩) (Scope.mk ScopeKind.function [((Str.ofString "one"), NameKind.free), ((Str.ofString "sockets"), NameKind.free)] false false []) [(Str.ofString "sockets", cS), (Str.ofString "one", cO)] pm c' ctv)) (hcd : s.heap.CodeRec (.ref c') qual)
  (o1 : dS < xS) (o2 : xS < dx) (o3 : dx < x) (o4 : x < aT) (hcS : aT < cS) (hcO : cS < cO) (hsm : (aT == sysModules) = false)
  (hTd : oT.IsDictOf (intKind prog w) kvs) (hlen2 : kvs.length ≤ 900) (hn : SmallI n) (hnk : valueAt kvs n = none)
  (hexc : ∀ e h' tk' hm, Kp [] [] s.heap hm → RaisedR hm (envX cn cs Lc a ccd cl :: outer) e 63 h' → E (.ref e) { s with heap := h', toks := tk' }) :
  wpAny (model prog w) (ktrTop dp un gd cn cs Lc a ccd cl outer) (call (.ref aD) []) Q E s := by
  have hA : Asc [dS, xS, dx, x, aT, cS, cO] := ⟨o1, o2, o3, o4, hcS, hcO, trivial⟩
  refine wpAny_call ?_
  k_dflt ((refine' enterL ?k1Zq ?k2Zq ?k3Zq ?k4Zq ?k6Zq ?k7Zq ?k8Zq ?k9Zq ?kBZq ?_ ?c2Zq ?c3Zq ?c4Zq ?c5Zq; (case k1Zq => assumption); (case k2Zq => assumption); (case k3Zq => assumption); (case k4Zq => assumption); (case k6Zq => assumption); (case k7Zq => assumption); (case k8Zq => ktr_room); (case k9Zq => exact rfl); (case c5Zq => decide); (case kBZq => exact locs rfl); (case c2Zq => exact rfl); (case c3Zq => exact rfl); (case c4Zq => exact rfl); k_whole))
  intro g L' h' X' T' C' GK GS' F' N' l1'
  (try k_lt l1')
  (try dsimp only)
  (try k_fold)
  have hlen3 : kvs.length ≤ 1000 := Nat.le_trans hlen2 (by decide)
  (k_steps; repeat' ((first | ((try dsimp only [List.cons_append, List.nil_append]); (with_reducible show wpAny _ _ (call (Value.ref 151) [Value.ref _, Value.int _ _]) _ _ _); k_dflt (refine' free_R ?XZq ?TZq ?CZq ?dZq ?OZq ?o1Zq ?o2Zq ?mZq ?DZq ?lenZq ?nbZq ?_ ?_; (case CZq => ((refine Cx.call ‹_› (by k_asm) (by rfl)))); (case XZq => assumption); (case TZq => assumption); (case dZq => ktr_room); (case OZq => ((refine Own.of ‹_› (by k_asm) (by keq_rows)))); (case o1Zq => regstrif_gather); (case o2Zq => regstrif_gather); (case mZq => assumption); (case DZq => k_asm); (case lenZq => first | assumption | exact small_stored (by assumption)); (case nbZq => assumption)); (intro hZq' tkZq' oTZq' hsZq' hTdZq' hKZq' haTZq'; obtain ⟨FZq', NZq'⟩ := News.at1 (by k_asm) (by k_asm) (by k_updF) hKZq' haTZq'); rotate_left; (intro eZq' hZq' tkZq' hmZq' hscZq' hKZq' RZq'; dsimp only))) <;> k_steps))
  · refine' hexc _ _ _ _ ?kp (by assumption)
    case kp => ((refine' kp_on ‹_› ‹_› ?FZq ?NZq ‹_› ?hAZq ?hMZq ?hsZq; (case FZq => k_asm); (case NZq => k_asm); (case hAZq => ((intro q hq; first | exact hq | exact List.Mem.tail _ hq | exact List.Mem.tail _ (List.Mem.tail _ hq) | exact absurd hq List.not_mem_nil | (repeat (first | (rcases List.mem_cons.mp hq with rfl | hq; kpt_turns) | exact absurd hq (List.not_mem_nil)))))); (case hMZq => ((intro q hq; first | exact hq | exact List.Mem.tail _ hq | exact List.Mem.tail _ (List.Mem.tail _ hq) | exact absurd hq List.not_mem_nil | (repeat (first | (rcases List.mem_cons.mp hq with rfl | hq; kpt_turns) | exact absurd hq (List.not_mem_nil)))))); (case hsZq => ked_reads)))
  · rename Option.isSome _ = true => q
    rw [hnk] at q; cases q

theorem ref_free_R {prog : Program} {w : World} {p : Program} {loose : List Str} {mean : ExcName → Option Value} {mg mb : Str → Option Value} {dp un : Nat} {gd : Option (List Code)} {cn : Str} {cs : Scope} {a : Addr} {ccd : Value} {cl : List (Str × Addr)} {outer : List Env} {h₀ : Heap} {Lc : Addr} {s : Shared} {Q E : Value → Shared → Prop} {cO cS c' aD : Nat} {xS dS x dx aT xB : Nat} {rS rP : _} {f l tfo fo} {n : Int} {tn : Tok} {oT oc oo : Obj} {kvs : List (Int × Value)} {qual : Str} {pm ctv : Value}
  (X₀ : (K w.params).In h₀) (T₀ : Top p loose mean mg mb h₀) (C₀ : Cx h₀ (envX cn cs Lc a ccd cl :: outer) s.heap) (hd : dp + 90 < recursionLimit)
  (O : Own h₀ (envX cn cs Lc a ccd cl :: outer) s.heap [(xS, instObj 1396 dS), (dS, dSock w x xB rS), (x, instObj 154 dx), (dx, dPorts w f l fo tfo aT rP), (aT, oT), (cS, oc), (cO, oo)])
  (hoc : oc.data = .cell (some (.ref xS))) (hoo : oo.data = .cell (some (.int n tn)))
  (haD : s.heap.get? aD = some (kla_obj "<lambda>" qual (Arguments.mk [] [] none [] [] none []) (Expr.Call (Expr.Attribute (Expr.Attribute (Expr.Name (Str.ofString "sockets") ⟨981, 36, 981, 43⟩) (Str.ofString "ports") ⟨981, 36, 981, 49⟩) (Str.ofString "free") ⟨981, 36, 981, 54⟩) [(Expr.Name (Str.ofString "one") ⟨981, 55, 981, 58⟩)] [] ⟨981, 36, 981, 59⟩) (Scope.mk ScopeKind.function [((Str.ofString "one"), NameKind.free), ((Str.ofString "sockets"), NameKind.free)] false false []) [(Str.ofString "sockets", cS), (Str.ofString "one", cO)] pm c' ctv)) (hcd : s.heap.CodeRec (.ref c') qual)
  (o1 : dS < xS) (o2 : xS < dx) (o3 : dx < x) (o4 : x < aT) (hcS : aT < cS) (hcO : cS < cO) (hsm : (aT == sysModules) = false)
  (hTd : oT.IsDictOf (intKind prog w) kvs) (hlen2 : kvs.length ≤ 900) (hn : SmallI n) (hnk : valueAt kvs n = none)
  (hret : ∀ h' tk', Kp [] (frs (envX cn cs Lc a ccd cl :: outer)) s.heap h' → Q (.bool true) { s with heap := h', toks := tk' }) :
  wpAny (model prog w) (ktrTop dp un gd cn cs Lc a ccd cl outer) (call (.ref 1428) [.ref aD]) Q E s := by
  refine' law_refused_R (sn := []) (R1 := fun _ => False) (R2 := fun _ => True) X₀ T₀ C₀ (by omega) ⟨_, _, _, _, haD⟩ (fun _ h => nomatch h) ?deed ?r1 ?r2
  case r1 => exact fun _ _ _ h => h.elim
  case r2 => exact fun h' tk' hm hK _ hup hKF => hret h' tk' hKF
  case deed =>
    intro L' h₁ tk' C1 up1 hL1
    k_dflt (refine' lam_free_R X₀ T₀ C1 ?d (Own.under O up1 hL1) hoc hoo (up1 _ _ haD) (codeRec_up hcd up1) o1 o2 o3 o4 hcS hcO hsm hTd hlen2 hn hnk ?exc)
    case d => ktr_room
    case exc =>
      intro e h' tk' hm hK R
      exact ⟨e, h', tk', hm, rfl, rfl, hK, trivial, R⟩
end
section -- B24
noncomputable abbrev CL := List (List (List Int) × Addr × Value)
noncomputable abbrev LL := List (List Int × Addr × Value)
noncomputable def pC (x : List (List Int) × Addr × Value) : Int × Int := (vOf x.2.2, portC x.1)
noncomputable def pL (x : List Int × Addr × Value) : Int × Int := (vOf x.2.2, portL x.1)
noncomputable def pU (x : Int × Value) : Int × Int := (x.1, vOf x.2)
/-- what stands in the two tables, and in 'used' -/
structure TInv (turn : Int) (kvsU : List (Int × Value)) (xsC : CL) (xsL : LL) : Prop where
  c : ∀ x ∈ xsC, ∃ o p q t, x.1 = [[100 + o, p], [8, q]] ∧ x.2.2 = .int o t ∧ 0 ≤ o ∧ o < turn
  l : ∀ x ∈ xsL, ∃ o p t, x.1 = [o, p] ∧ x.2.2 = .int o t ∧ 0 ≤ o ∧ o < turn
  u : ∀ x ∈ kvsU, ∃ n t, x.2 = .int n t ∧ 0 ≤ x.1 ∧ x.1 < turn
  nd : (kvsU.map (·.1)).Nodup
  perm : (xsC.map pC ++ xsL.map pL).Perm (kvsU.map pU)
  len : (kvsU.length : Int) ≤ turn
section
variable {turn : Int} {kvsU : List (Int × Value)} {xsC : CL} {xsL : LL}
theorem TInv.nil : TInv 0 [] [] [] := ⟨(fun _ h => nomatch h), (fun _ h => nomatch h), (fun _ h => nomatch h), List.nodup_nil, .nil, Int.le_refl _⟩
theorem TInv.up (h : TInv turn kvsU xsC xsL) : TInv (turn + 1) kvsU xsC xsL where
  c := fun x hx => let ⟨o, p, q, t, a, b, d, e⟩ := h.c x hx; ⟨o, p, q, t, a, b, d, by omega⟩
  l := fun x hx => let ⟨o, p, t, a, b, d, e⟩ := h.l x hx; ⟨o, p, t, a, b, d, by omega⟩
  u := fun x hx => let ⟨n, t, a, b, d⟩ := h.u x hx; ⟨n, t, a, b, by omega⟩
  nd := h.nd
  perm := h.perm
  len := by have := h.len; omega
theorem TInv.C2 (h : TInv turn kvsU xsC xsL) : ∀ x ∈ xsC, ∃ a b c d, x.1 = [[a, b], [c, d]] := fun x hx => let ⟨o, p, q, _, a, _⟩ := h.c x hx; ⟨_, _, _, _, a⟩
theorem TInv.L2 (h : TInv turn kvsU xsC xsL) : ∀ x ∈ xsL, ∃ a b, x.1 = [a, b] := fun x hx => let ⟨o, p, _, a, _⟩ := h.l x hx; ⟨_, _, a⟩
theorem TInv.vC (h : TInv turn kvsU xsC xsL) : ∀ x ∈ xsC, ∃ n t, x.2.2 = .int n t := fun x hx => let ⟨o, _, _, t, _, b, _⟩ := h.c x hx; ⟨o, t, b⟩
theorem TInv.vL (h : TInv turn kvsU xsC xsL) : ∀ x ∈ xsL, ∃ n t, x.2.2 = .int n t := fun x hx => let ⟨o, _, t, _, b, _⟩ := h.l x hx; ⟨o, t, b⟩
theorem TInv.vU (h : TInv turn kvsU xsC xsL) : ∀ x ∈ kvsU, ∃ n t, x.2 = .int n t := fun x hx => let ⟨o, t, b, _⟩ := h.u x hx; ⟨o, t, b⟩
theorem TInv.sizes (h : TInv turn kvsU xsC xsL) : xsC.length + xsL.length = kvsU.length := by
  have := h.perm.length_eq
  simpa using this
theorem TInv.used (h : TInv turn kvsU xsC xsL) (n : Int) : (xsC.any (fun x => portC x.1 == n) || xsL.any fun x => portL x.1 == n) = kvsU.any fun x => vOf x.2 == n := by
  have e := h.perm.any_eq (f := fun p => p.2 == n)
  rw [List.any_append, List.any_map, List.any_map, List.any_map] at e
  exact e
theorem TInv.noL (h : TInv turn kvsU xsC xsL) (port : Int) : atKey xsL [turn, port] = none := by
  unfold atKey
  rw [Option.map_eq_none_iff, List.find?_eq_none]
  intro x hx e
  obtain ⟨o, p, t, a, b, d, f⟩ := h.l x hx
  have e := of_decide_eq_true e
  rw [a] at e
  injection e with e
  omega
theorem TInv.noC (h : TInv turn kvsU xsC xsL) (port q : Int) : atKey xsC [[100 + turn, port], [8, q]] = none := by
  unfold atKey
  rw [Option.map_eq_none_iff, List.find?_eq_none]
  intro x hx e
  obtain ⟨o, p, q, t, a, b, d, f⟩ := h.c x hx
  have e := of_decide_eq_true e
  rw [a] at e
  injection e with e
  injection e with e
  omega
theorem TInv.noU (h : TInv turn kvsU xsC xsL) : turn ∉ kvsU.map (·.1) := fun hm => by
  obtain ⟨x, hx, e⟩ := List.mem_map.mp hm
  obtain ⟨n, t, a, b, d⟩ := h.u x hx
  omega
theorem TInv.storedU (h : TInv turn kvsU xsC xsL) (v : Value) : stored kvsU turn v = kvsU ++ [(turn, v)] := by
  refine stored_absent ?_ v
  cases q : valueAt kvsU turn with
  | none => rfl
  | some y =>
    have e : (valueAt kvsU turn).isSome = true := by rw [q]; rfl
    rw [valueAt_isSome_eq_any, List.any_eq_true] at e
    obtain ⟨x, hx, hk⟩ := e
    exact absurd (List.mem_map.mpr ⟨x, hx, of_decide_eq_true hk⟩) h.noU
theorem TInv.grow (h : TInv turn kvsU xsC xsL) (h0 : 0 ≤ turn) (port : Int) (tp : Tok) (xsC' : CL) (xsL' : LL)
    (c : ∀ x ∈ xsC', ∃ o p q t, x.1 = [[100 + o, p], [8, q]] ∧ x.2.2 = .int o t ∧ 0 ≤ o ∧ o < turn + 1) (l : ∀ x ∈ xsL', ∃ o p t, x.1 = [o, p] ∧ x.2.2 = .int o t ∧ 0 ≤ o ∧ o < turn + 1)
    (pe : (xsC'.map pC ++ xsL'.map pL).Perm (xsC.map pC ++ xsL.map pL ++ [(turn, port)])) : TInv (turn + 1) (stored kvsU turn (.int port tp)) xsC' xsL' := by
  rw [h.storedU]
  refine ⟨c, l, fun x hx => ?_, ?_, ?_, ?_⟩
  · rcases List.mem_append.mp hx with hx | hx
    · exact h.up.u x hx
    · obtain rfl := List.mem_singleton.mp hx
      exact ⟨port, tp, rfl, h0, by show turn < _; omega⟩
  · rw [List.map_append, List.nodup_append]
    refine ⟨h.nd, List.nodup_cons.mpr ⟨(fun h => nomatch h), List.nodup_nil⟩, fun a ha b hb e => ?_⟩
    obtain rfl := List.mem_singleton.mp hb
    exact h.noU (e ▸ ha)
  · rw [List.map_append]
    exact pe.trans (h.perm.append_right _)
  · have := h.len
    rw [List.length_append]
    simp only [List.length_cons, List.length_nil]
    omega
theorem TInv.listen (h : TInv turn kvsU xsC xsL) (h0 : 0 ≤ turn) (port : Int) (tp t : Tok) (a : Addr) : TInv (turn + 1) (stored kvsU turn (.int port tp)) xsC (xsL ++ [([turn, port], a, .int turn t)]) := by
  refine h.grow h0 port tp _ _ h.up.c (fun x hx => ?_) ?_
  · rcases List.mem_append.mp hx with hx | hx
    · exact h.up.l x hx
    · obtain rfl := List.mem_singleton.mp hx
      exact ⟨turn, port, t, rfl, rfl, h0, by omega⟩
  · rw [List.map_append, ← List.append_assoc]
    exact .refl _
theorem TInv.connect (h : TInv turn kvsU xsC xsL) (h0 : 0 ≤ turn) (port q : Int) (tp t : Tok) (a : Addr) : TInv (turn + 1) (stored kvsU turn (.int port tp)) (xsC ++ [([[100 + turn, port], [8, q]], a, .int turn t)]) xsL := by
  refine h.grow h0 port tp _ _ (fun x hx => ?_) h.up.l ?_
  · rcases List.mem_append.mp hx with hx | hx
    · exact h.up.c x hx
    · obtain rfl := List.mem_singleton.mp hx
      exact ⟨turn, port, q, t, rfl, rfl, h0, by omega⟩
  · rw [List.map_append, List.append_assoc, List.append_assoc]
    exact List.Perm.append_left _ List.perm_append_comm
theorem TInv.remove (h : TInv turn kvsU xsC xsL) (w : Int) : TInv (turn + 1) (without kvsU w) (xsC.filter fun x => !(vOf x.2.2 == w)) (xsL.filter fun x => !(vOf x.2.2 == w)) := by
  have h' := h.up
  refine ⟨fun x hx => h'.c x (List.mem_filter.mp hx).1, fun x hx => h'.l x (List.mem_filter.mp hx).1, fun x hx => h'.u x (List.mem_filter.mp hx).1, ?_, ?_, ?_⟩
  · exact List.Nodup.sublist (List.Sublist.map _ List.filter_sublist) h.nd
  · have e := h.perm.filter fun p => !(p.1 == w)
    rw [List.filter_append, List.filter_map, List.filter_map, List.filter_map] at e
    have e2 : without kvsU w = kvsU.filter ((fun p : Int × Int => !(p.1 == w)) ∘ pU) := by
      unfold without
      refine List.filter_congr fun x _ => ?_
      show decide (x.1 ≠ w) = !(x.1 == w)
      by_cases q : x.1 = w <;> simp [q]
    rw [e2]
    exact e
  · have a := h'.len
    have b : (without kvsU w).length ≤ kvsU.length := List.length_filter_le _ _
    omega
theorem count_key {w : Int} : ∀ {kvs : List (Int × Value)}, (kvs.map (·.1)).Nodup → w ∈ kvs.map (·.1) → (kvs.filter fun x => x.1 == w).length = 1
  | [], _, h => nomatch h
  | x :: r, hn, h => by
    have hn' := List.nodup_cons.mp hn
    rw [List.filter_cons]
    by_cases q : x.1 = w
    · rw [if_pos (by simp [q]), List.length_cons, List.filter_eq_nil_iff.mpr fun y hy e => hn'.1 (List.mem_map.mpr ⟨y, hy, by show y.1 = x.1; rw [q]; simpa using e⟩)]
      rfl
    · rw [if_neg (by simpa using q)]
      refine count_key hn'.2 ?_
      rcases List.mem_cons.mp h with z | z
      · exact absurd z.symm q
      · exact z
theorem TInv.one (h : TInv turn kvsU xsC xsL) {w : Int} (hw : w ∈ kvsU.map (·.1)) : (((xsC.filter fun x => vOf x.2.2 == w).length : Int) + ((xsL.filter fun x => vOf x.2.2 == w).length : Int)) = 1 := by
  have e := (h.perm.filter fun p => p.1 == w).length_eq
  rw [List.filter_append, List.filter_map, List.filter_map, List.filter_map, List.length_append, List.length_map, List.length_map, List.length_map] at e
  have c := count_key h.nd hw
  have c2 : (kvsU.filter ((fun p : Int × Int => p.1 == w) ∘ pU)).length = 1 := c
  have e2 : (xsC.filter fun x => vOf x.2.2 == w).length + (xsL.filter fun x => vOf x.2.2 == w).length = 1 := e.trans c2
  omega
end
/-- one held port is given back -/
theorem key_at {kvs : List (Int × Value)} {i : Nat} {n : Int} (h : (kvs.map (·.1))[i]? = some n) : n ∈ kvs.map (·.1) := List.mem_of_getElem? h
theorem some_at {kvs : List (Int × Value)} {n : Int} (h : n ∈ kvs.map (·.1)) : (valueAt kvs n).isSome = true := by
  rw [valueAt_isSome_eq_any, List.any_eq_true]
  obtain ⟨x, hx, e⟩ := List.mem_map.mp h
  exact ⟨x, hx, decide_eq_true e⟩
theorem none_without {kvs : List (Int × Value)} {n : Int} : valueAt (without kvs n) n = none := by
  cases q : valueAt (without kvs n) n with
  | none => rfl
  | some y =>
    have e : (valueAt (without kvs n) n).isSome = true := by rw [q]; rfl
    rw [valueAt_isSome_eq_any, List.any_eq_true] at e
    obtain ⟨x, hx, hk⟩ := e
    have := (List.mem_filter.mp hx).2
    simp only [decide_eq_true_eq] at this hk
    exact absurd hk this
theorem erase_at : ∀ {kvs : List (Int × Value)} {i : Nat} {n : Int}, (kvs.map (·.1)).Nodup → (kvs.map (·.1))[i]? = some n → (kvs.map (·.1)).eraseIdx i = (without kvs n).map (·.1)
  | [], _, _, _, h => by simp at h
  | x :: r, 0, n, hn, h => by
    have hn' := List.nodup_cons.mp hn
    have e : x.1 = n := by simpa using h
    subst e
    have := without_of_not_mem r x.1 hn'.1
    show r.map (·.1) = ((x :: r).filter _).map _
    rw [List.filter_cons, if_neg (by simp)]
    exact congrArg (List.map (·.1)) this.symm
  | x :: r, i + 1, n, hn, h => by
    have hn' := List.nodup_cons.mp hn
    have h' : (r.map (·.1))[i]? = some n := by simpa using h
    have e : x.1 ≠ n := fun e => hn'.1 (by show x.1 ∈ _; rw [e]; exact List.mem_of_getElem? h')
    show x.1 :: (r.map (·.1)).eraseIdx i = ((x :: r).filter _).map _
    rw [List.filter_cons, if_pos (by simpa using e), List.map_cons, erase_at hn'.2 h']
    rfl
theorem nodup_isDict {prog : Program} {w : World} {o : Obj} {kvs : List (Int × Value)} (h : o.IsDictOf (intKind prog w) kvs) : (kvs.map (·.1)).Nodup := by
  obtain ⟨es, ep, hc, hd, hp⟩ := h
  exact hp.2.2
end
section -- B25
/-- a ledger ahead of its tail, without its tuples -/
inductive TailK (fr : List (Addr × Obj)) : List (Addr × Obj) → (List (Addr × Obj) → List (Addr × Obj)) → Prop
  | nil : TailK fr fr (fun r => r)
  | keep {p l g} : ¬ TupO p.2 → TailK fr l g → TailK fr (p :: l) (fun r => p :: g r)
  | drop {p l g} : TailK fr l g → TailK fr (p :: l) g
theorem TailK.split {fr : List (Addr × Obj)} {l : List (Addr × Obj)} {n : List (Addr × Obj) → List (Addr × Obj)} (T : TailK fr l n) : ∃ pre, (∀ r, n r = pre ++ r) ∧ (∀ q ∈ pre, q ∈ l ∧ ¬ TupO q.2) ∧ ∀ q ∈ fr, q ∈ l := by
  induction T with
  | nil => exact ⟨[], fun _ => rfl, (fun _ h => nomatch h), fun _ h => h⟩
  | @keep p _ _ h _ ih =>
    obtain ⟨pre, a, b, c⟩ := ih
    refine ⟨p :: pre, fun r => congrArg (p :: ·) (a r), fun q hq => ?_, fun q hq => .tail _ (c q hq)⟩
    rcases List.mem_cons.mp hq with rfl | hq
    · exact ⟨.head _, h⟩
    · exact ⟨.tail _ (b q hq).1, (b q hq).2⟩
  | drop _ ih =>
    obtain ⟨pre, a, b, c⟩ := ih
    exact ⟨pre, a, fun q hq => ⟨.tail _ (b q hq).1, (b q hq).2⟩, fun q hq => .tail _ (c q hq)⟩
theorem kt_newsK {g h : Heap} {L : Addr} {news fr kt : List (Addr × Obj)} {n : List (Addr × Obj) → List (Addr × Obj)} (N : News g L h news) (T : TailK fr news n) (hk : KtAt kt h) (hn : ∀ q ∈ kt, g.get? q.1 = none ∧ q.1 ≠ L) :
    News g L h (n (kt ++ fr)) ∧ ∀ q ∈ kt, ∀ p ∈ n [], q.1 ≠ p.1 := by
  obtain ⟨pre, a, b, c⟩ := T.split
  rw [a, a, List.append_nil]
  refine kt_news (pre := pre) (fun q hq => ?_) hk hn fun q hq => (b q hq).2
  rcases List.mem_append.mp hq with z | z
  · exact N q (b q z).1
  · exact N q (c q z)
theorem all_app {α : Type} {a b : List α} {p : α → Prop} (x : ∀ q ∈ a, p q) (y : ∀ q ∈ b, p q) : ∀ q ∈ a ++ b, p q := fun q hq => by
  rcases List.mem_append.mp hq with z | z
  · exact x q z
  · exact y q z
theorem kt_ne {kt pre : List (Addr × Obj)} {d : Addr} {o : Obj} (h : ∀ q ∈ kt, ∀ p ∈ pre, q.1 ≠ p.1) (hd : (d, o) ∈ pre) : ∀ q ∈ kt, q.1 ≠ d := fun q hq => h q hq _ hd
theorem un_lt {un U k j c : Nat} (h : un + 400 < c) (e : U = un) (hk : k + j ≤ 400) : U + k + j < c := by omega
theorem small_key {kvs : List (Int × Value)} {n : Int} (hkb : ∀ x ∈ kvs, 30 ≤ x.1 ∧ x.1 ≤ 33) (hn : n ∈ kvs.map (·.1)) : SmallI n := by
  obtain ⟨x, hx, rfl⟩ := List.mem_map.mp hn
  have := hkb x hx
  unfold SmallI; omega
end
section
local macro_rules | `(tactic| walk_at "compareOp NotIn int ref") => `(tactic| (k_dflt (refine notin_list (by exact list_at (by k_asm) (by k_mem)) ‹_› ?_; k_whole)))
local macro_rules | `(tactic| walk_at "compareOp NotIn int ref") => `(tactic| (k_dflt (refine' notin_vals ?hh (by k_asm) (by k_asm) (by k_mem) ?m ?d ?v ?_; (case hh => rfl); (case m => k_mem); (case d => assumption); (case v => assumption)); intro h' tk' k' F' N'))
local macro_rules | `(tactic| walk_at "call builtin:dict.values") => `(tactic| (k_dflt (refine values_call (by k_asm) (by k_asm) (by k_mem) ‹_› ‹_› ?_); intro V' h' k' F' N'))
local macro_rules | `(tactic| walk_at "compareOp NotEq ref ref") => `(tactic| (k_dflt (refine ne_intsK (by exact list_at (by k_asm) (by k_mem)) (by first | assumption | exact IntsAre.nil) (by exact list_at (by k_asm) (by k_mem)) (by first | assumption | exact IntsAre.nil) (by lsm_bools) ?_; k_whole)))
local macro_rules | `(tactic| walk_at "compareOp Eq ref ref") => `(tactic| (k_dflt (refine eq_intsK (by exact list_at (by k_asm) (by k_mem)) (by first | assumption | exact IntsAre.nil) (by exact list_at (by k_asm) (by k_mem)) (by first | assumption | exact IntsAre.nil) (by lsm_bools) ?_; k_whole)))
local macro_rules | `(tactic| lsm_bools) => `(tactic| (simp only [units_in1, units_deeper]; first | k_dflt (exact room1 (by with_reducible assumption) rfl) | k_dflt (exact room2 (by with_reducible assumption) rfl) | omega))
local macro_rules | `(tactic| k_all) => `(tactic| first | (apply all_cons; (· k_ne); (· k_all)) | (refine fr_ne ‹_› (by ktu_offI)))
local macro_rules | `(tactic| ktu_offI) => `(tactic| first | assumption | exact off_ltD ‹_› ‹_› (by intro q hq; kqd_all) | exact off_lt ‹_› (by first | exact leK1 | exact leK2 | exact leK3 | exact leK4 | exact leK5 | omega))
local macro_rules | `(tactic| krn_off) => `(tactic| (refine all_cons (by ktu_offI) ?_; first | apply all_nil | krn_off))
local macro_rules | `(tactic| walk_at "tailF") => `(tactic| (first | exact TailF.nil | (refine TailF.cons (by ktu_offI) (by walk_at "tailF"))))
local macro_rules | `(tactic| kp_flats) => `(tactic| (refine all_cons ?_ ?_; (first | exact noCode_plain | exact noCode_dict | exact noCode_list | exact noCode_isDict ‹_› | exact noCode_DO ‹_› | exact PsOk.code ‹_› | assumption); first | apply all_nil | kp_flats))
local macro_rules | `(tactic| ked_read) => `(tactic| first | exact getM_nil | (refine getM_cons (by (first | exact News.get (by k_asm) (by k_mem) | (rw [lst_push]; exact News.get (by k_asm) (by k_mem)))) (by ked_read)))
section -- V6
theorem reg_V6 : PySem.Challenge.rw_pq1204_01 = PySem.Challenge.rw_pq1204_01 ∧ K = K := by k_fill; exact ⟨rfl, rfl⟩
theorem asked_R {prog : Program} {w : World} {p : Program} {loose : List Str} {mean : ExcName → Option Value} {mg mb : Str → Option Value} {dp un : Nat} {gd : Option (List Code)} {cn : Str} {cs : Scope} {a : Addr} {ccd : Value} {cl : List (Str × Addr)} {outer : List Env} {h₀ : Heap} {Lc : Addr} {s : Shared} {Q E : Value → Shared → Prop} {xS dS x dx aT xB dB dC dL aU aH nH : Nat} {rS rP j1 j2 : _} {f l tfo many} {fo : Int} {oT oC oL oU : Obj} {kvs kvsU : List (Int × Value)} {vsH : List Value} {ps : Array Value} {tb tm : Tok} {xsC : List (List (List Int) × Addr × Value)} {xsL : List (List Int × Addr × Value)}
  (X₀ : (K w.params).In h₀) (T₀ : Top p loose mean mg mb h₀) (C₀ : Cx h₀ (envX cn cs Lc a ccd cl :: outer) s.heap) (hd : dp + 100 < recursionLimit) (hun : un + 200 < cLine)
  (O : Own h₀ (envX cn cs Lc a ccd cl :: outer) s.heap [(xS, instObj 1396 dS), (dS, dSock w x xB rS), (x, instObj 154 dx), (dx, dPorts w f l fo tfo aT rP), (aT, oT), (xB, instObj 1138 dB), (dB, dTable w dC dL j1 j2), (dC, oC), (dL, oL), (aU, oU), (aH, PySem.W.listOf vsH.toArray nH), (1437, tabObj ps)])
  (o1 : dS < xS) (o2 : xS < dx) (o3 : dx < x) (o4 : x < aT) (o5 : aT < dB) (o6 : dB < xB) (o7 : xB < dC) (o8 : dC < dL) (o9 : dL < aU) (o10 : aU < aH) (o0 : 1437 < dS) (hsm : (aT == sysModules) = false) (hsm1 : (dC == sysModules) = false) (hsm2 : (dL == sysModules) = false) (hsmU : (aU == sysModules) = false) (hm1 : 1 ≤ many) (hm2 : many ≤ 4) (ef : f = 30) (el : l = 29 + many)
  (hTd : oT.IsDictOf (intKind prog w) kvs) (hUd : oU.IsDictOf (intKind prog w) kvsU) (hI : IntsAre vsH (kvs.map (·.1)))
  (hC : s.heap.DictOfH (ttKind prog w) dC xsC) (hC2 : ∀ x ∈ xsC, ∃ a b c d, x.1 = [[a, b], [c, d]]) (hL : s.heap.DictOfH (tupleKind (intKind prog w)) dL xsL) (hL2 : ∀ x ∈ xsL, ∃ a b, x.1 = [a, b]) (hlen : xsL.length ≤ 1000)
  (hlen2 : kvs.length ≤ 900) (hlenU : kvsU.length ≤ 800) (hvU : ∀ x ∈ kvsU, ∃ n t, x.2 = .int n t) (hb1 : 30 ≤ fo) (hb2 : fo ≤ 29 + many)
  (hUU : ∀ n, (fun n => xsC.any (fun x => portC x.1 == n) || xsL.any fun x => portL x.1 == n) n = kvsU.any fun x => vOf x.2 == n) (hps : PsOk ⟨963, 24, 963, 51⟩ (Str.ofString "_law_asked_right.<locals>.<lambda>") ps s.heap)
  (hret : ∀ h' tk' b' t' tfo' oT' vsH' nH' ps' kvs', 30 ≤ b' → b' ≤ 29 + many → (kvs' = kvs ∨ ∃ g0, 30 ≤ g0 ∧ g0 ≤ 29 + many ∧ (valueAt kvs g0).isSome = false ∧ kvs' = kvs ++ [(g0, .bool true)]) → oT'.IsDictOf (intKind prog w) kvs' → IntsAre vsH' (kvs'.map (·.1)) →
    PsOk ⟨963, 24, 963, 51⟩ (Str.ofString "_law_asked_right.<locals>.<lambda>") ps' h' → Kp [dx, aT, aH, 1437] (frs (envX cn cs Lc a ccd cl :: outer)) s.heap h' → AllAt h' [(xS, instObj 1396 dS), (dS, dSock w x xB rS), (x, instObj 154 dx), (dx, dPorts w f l b' tfo' aT rP), (aT, oT'), (xB, instObj 1138 dB), (dB, dTable w dC dL j1 j2), (dC, oC), (dL, oL), (aU, oU), (aH, PySem.W.listOf vsH'.toArray nH'), (1437, tabObj ps')] →
    Q (.int b' t') { s with heap := h', toks := tk' }) :
  wpAny (model prog w) (ktrTop dp un gd cn cs Lc a ccd cl outer) (call (.ref 1440) [.ref xS, .ref aU, .ref aH, .int fo tb, .int many tm]) Q E s := by
  have hfl6 : f ≤ l := by rw [ef, el]; exact Int.le_trans (by decide : (30 : Int) ≤ 29 + 1) (Int.add_le_add_left hm1 29)
  have h0f6 : 0 ≤ f := by rw [ef]; decide
  have hl6 : l < 100000 := by rw [el]; exact Int.lt_of_le_of_lt (Int.add_le_add_left hm2 29) (by decide)
  have hm6 : 0 ≤ many := Int.le_trans (by decide) hm1
  have hm06 := many_ne hm1
  have hfo6 : fo ≤ l := by rw [el]; exact hb2
  have hfm6 : f ≤ fo := by rw [ef]; exact hb1
  have hmm6 : many ≤ 1000000 := Int.le_trans hm2 (by decide)
  have hA : Asc [1437, dS, xS, dx, x, aT, dB, xB, dC, dL, aU, aH] := ⟨o0, o1, o2, o3, o4, o5, o6, o7, o8, o9, o10, trivial⟩
  refine wpAny_call ?_; k_dflt ((refine' enterFC ?k1Zq ?k2Zq ?k3Zq ?k4Zq ?k6Zq ?k7Zq ?k8Zq ?k9Zq ?kBZq ?kDZq ?_ ?c2Zq ?c3Zq ?c4Zq; (case k1Zq => assumption); (case k2Zq => assumption); (case k3Zq => assumption); (case k4Zq => assumption); (case k6Zq => k_is); (case k7Zq => k_is); (case k8Zq => ktr_room); (case k9Zq => first | exact BindsTo.of_eq rfl | exact binds_K (Frag.In.keeps (by assumption) (Cx.st (by assumption))) rfl (by k_is) rfl rfl rfl); (case kBZq => exact rfl); (case kDZq => decide +kernel); (case c2Zq => exact rfl); (case c3Zq => exact rfl); (case c4Zq => exact rfl); k_whole)); intro g L' h' tk' cells' fr X' T' P GK GS' F' N' Y' l1' GU GL; have hfl := P.lt (fun q hq => l1' q (List.mem_append_right _ hq)); (try simp only [List.cons_append, List.nil_append] at N' l1'); (try k_lt l1'); k_cells Y'; (try simp only [List.cons_append, List.nil_append] at N'); dsimp only; (try k_fold)
  have cT : (tabObj ps).cls ≠ .type "tuple" := fun h => nomatch h
  have cC := cls_dictH hC (O.get (by k_mem))
  have cL := cls_dictH hL (O.get (by k_mem))
  have DC := DO.ofF tupKnd2_tt hC GK C₀ O (by kct_strs) (by k_mem)
  have DL := DO.ofF tupKnd2_t hL GK C₀ O (by kct_strs) (by k_mem)
  have off := fun q hq => (O q hq).2.2
  simp only [List.forall_mem_cons] at off
  obtain ⟨f1, f2, f3, f4, f5, f6, f7, f8, f9, f10, f11, f12, -⟩ := off
  (k_steps; repeat' ((first | ((try dsimp only [List.cons_append, List.nil_append]); (with_reducible show wpAny _ _ (call (Value.ref 1435) [Value.int _ _, Value.int _ _]) _ _ _); k_dflt (refine' law_behind_R ?XZq ?TZq ?CZq ?dZq ?m1Zq ?m2Zq ?p1Zq ?p2Zq ?_; (case CZq => (first | ((refine FrL.cx ‹_› (by k_asm) (by k_asm) (by (intro q hq; kqd_all)) (by rfl))) | ((refine Cx.call ‹_› (by k_asm) (by rfl))))); (case XZq => assumption); (case TZq => assumption); (case dZq => ktr_room); (case m1Zq => assumption); (case m2Zq => assumption); (case p1Zq => (first | assumption | omega)); (case p2Zq => (first | assumption | omega))); intro hZq' tkZq' tZq' hKZq'; obtain ⟨FZq', NZq'⟩ := News.at0 (by k_asm) (by k_asm) hKZq') | ((try dsimp only [List.cons_append, List.nil_append]); (with_reducible show wpAny _ _ (call (Value.ref 1274) [Value.ref _, Value.int 0 _]) _ _ _); k_dflt (refine' own_port_R ?XZq ?TZq ?CZq ?dZq ?OZq ?o1Zq ?o2Zq ?o3Zq ?o4Zq ?o5Zq ?o6Zq ?o7Zq ?o8Zq ?mZq ?m1Zq ?m2Zq ?DZq ?hCZq ?hC2Zq ?hLZq ?hL2Zq ?lenZq ?len2Zq ?fZq ?lZq ?l2Zq ?foZq ?fo2Zq ?_ ?_; (case CZq => (first | ((refine FrL.cx ‹_› (by k_asm) (by k_asm) (by (intro q hq; kqd_all)) (by rfl))) | ((refine Cx.call ‹_› (by k_asm) (by rfl))))); (case XZq => assumption); (case TZq => assumption); (case dZq => ktr_room); (case OZq => (first | ((refine FrL.own ‹_› (by k_asm) (by keq_rows) (by krn_off))) | ((refine Own.of ‹_› (by k_asm) (by keq_rows))))); (case o1Zq => assumption); (case o2Zq => assumption); (case o3Zq => assumption); (case o4Zq => assumption); (case o5Zq => assumption); (case o6Zq => assumption); (case o7Zq => assumption); (case o8Zq => assumption); (case mZq => assumption); (case m1Zq => assumption); (case m2Zq => assumption); (case DZq => assumption); (case hCZq => (exact DO.get ‹_› (by k_asm) (by k_asm) (by k_mem))); (case hLZq => (exact DO.get ‹_› (by k_asm) (by k_asm) (by k_mem))); (case hC2Zq => assumption); (case hL2Zq => assumption); (case lenZq => assumption); (case len2Zq => assumption); (case fZq => regstrif_gather); (case lZq => regstrif_gather); (case l2Zq => regstrif_gather); (case foZq => regstrif_gather); (case fo2Zq => regstrif_gather)); (intro hZq' tkZq' nZq' tZq' foZq' tfoZq' oTZq' hscZq' hKZq' hdxZq' haTZq' hTdZq'; obtain ⟨FZq', NZq'⟩ := News.at2 (by k_asm) (by k_asm) (by k_updF) (by k_updF) hKZq' hdxZq' haTZq' (by k_ne)); rotate_left; (intro eZq' hZq' tkZq' hmZq' foZq' tfoZq' oTZq' hscZq' hKZq' hdxZq' haTZq' hTdZq' RZq'; dsimp only))) <;> k_steps))
  unfold Stop
  refine' Assign_go (pxI (pxI' kvs)) (fun v y => ∃ a t u, v = Value.int a t ∧ y = Value.int (id a) u) ?hsw ?hcl ?c1 ?hk ?c2 ?hx ?hy ?hp ?h ?hs
  case hsw => rfl
  case hcl => rfl
  case c1 => decide
  case hk => rfl
  case c2 => decide
  case hx => rfl
  case hy => rfl
  case hp => rfl
  case hs => intro _; rfl
  case h =>
    (k_steps; repeat' ((first | ((try dsimp only [List.cons_append, List.nil_append]); (with_reducible show wpAny _ _ (call (Value.ref 1435) [Value.int _ _, Value.int _ _]) _ _ _); k_dflt (refine' law_behind_R ?XZq ?TZq ?CZq ?dZq ?m1Zq ?m2Zq ?p1Zq ?p2Zq ?_; (case CZq => (first | ((refine FrL.cx ‹_› (by k_asm) (by k_asm) (by (intro q hq; kqd_all)) (by rfl))) | ((refine Cx.call ‹_› (by k_asm) (by rfl))))); (case XZq => assumption); (case TZq => assumption); (case dZq => ktr_room); (case m1Zq => assumption); (case m2Zq => assumption); (case p1Zq => (first | assumption | omega)); (case p2Zq => (first | assumption | omega))); intro hZq' tkZq' tZq' hKZq'; obtain ⟨FZq', NZq'⟩ := News.at0 (by k_asm) (by k_asm) hKZq') | ((try dsimp only [List.cons_append, List.nil_append]); (with_reducible show wpAny _ _ (call (Value.ref 1274) [Value.ref _, Value.int 0 _]) _ _ _); k_dflt (refine' own_port_R ?XZq ?TZq ?CZq ?dZq ?OZq ?o1Zq ?o2Zq ?o3Zq ?o4Zq ?o5Zq ?o6Zq ?o7Zq ?o8Zq ?mZq ?m1Zq ?m2Zq ?DZq ?hCZq ?hC2Zq ?hLZq ?hL2Zq ?lenZq ?len2Zq ?fZq ?lZq ?l2Zq ?foZq ?fo2Zq ?_ ?_; (case CZq => (first | ((refine FrL.cx ‹_› (by k_asm) (by k_asm) (by (intro q hq; kqd_all)) (by rfl))) | ((refine Cx.call ‹_› (by k_asm) (by rfl))))); (case XZq => assumption); (case TZq => assumption); (case dZq => ktr_room); (case OZq => (first | ((refine FrL.own ‹_› (by k_asm) (by keq_rows) (by krn_off))) | ((refine Own.of ‹_› (by k_asm) (by keq_rows))))); (case o1Zq => assumption); (case o2Zq => assumption); (case o3Zq => assumption); (case o4Zq => assumption); (case o5Zq => assumption); (case o6Zq => assumption); (case o7Zq => assumption); (case o8Zq => assumption); (case mZq => assumption); (case m1Zq => assumption); (case m2Zq => assumption); (case DZq => assumption); (case hCZq => (exact DO.get ‹_› (by k_asm) (by k_asm) (by k_mem))); (case hLZq => (exact DO.get ‹_› (by k_asm) (by k_asm) (by k_mem))); (case hC2Zq => assumption); (case hL2Zq => assumption); (case lenZq => assumption); (case len2Zq => assumption); (case fZq => regstrif_gather); (case lZq => regstrif_gather); (case l2Zq => regstrif_gather); (case foZq => regstrif_gather); (case fo2Zq => regstrif_gather)); (intro hZq' tkZq' nZq' tZq' foZq' tfoZq' oTZq' hscZq' hKZq' hdxZq' haTZq' hTdZq'; obtain ⟨FZq', NZq'⟩ := News.at2 (by k_asm) (by k_asm) (by k_updF) (by k_updF) hKZq' hdxZq' haTZq' (by k_ne)); rotate_left; (intro eZq' hZq' tkZq' hmZq' foZq' tfoZq' oTZq' hscZq' hKZq' hdxZq' haTZq' hTdZq' RZq'; dsimp only))) <;> k_steps))
    unfold Stop
    refine' ListComp_go (pxI fun _ => true) (fun v y => ∃ a t u, v = Value.int a t ∧ y = Value.int (30 + (fo - 30 + a).fmod many) u) ?hcl ?c1 ?hk ?c2 ?hx ?h ?hs
    case hcl => rfl
    case c1 => decide
    case hk => rfl
    case c2 => decide
    case hx => rfl
    case hs => intro _; rfl
    case h =>
      (k_steps; repeat' ((first | ((try dsimp only [List.cons_append, List.nil_append]); (with_reducible show wpAny _ _ (call (Value.ref 1435) [Value.int _ _, Value.int _ _]) _ _ _); k_dflt (refine' law_behind_R ?XZq ?TZq ?CZq ?dZq ?m1Zq ?m2Zq ?p1Zq ?p2Zq ?_; (case CZq => (first | ((refine FrL.cx ‹_› (by k_asm) (by k_asm) (by (intro q hq; kqd_all)) (by rfl))) | ((refine Cx.call ‹_› (by k_asm) (by rfl))))); (case XZq => assumption); (case TZq => assumption); (case dZq => ktr_room); (case m1Zq => assumption); (case m2Zq => assumption); (case p1Zq => (first | assumption | omega)); (case p2Zq => (first | assumption | omega))); intro hZq' tkZq' tZq' hKZq'; obtain ⟨FZq', NZq'⟩ := News.at0 (by k_asm) (by k_asm) hKZq') | ((try dsimp only [List.cons_append, List.nil_append]); (with_reducible show wpAny _ _ (call (Value.ref 1274) [Value.ref _, Value.int 0 _]) _ _ _); k_dflt (refine' own_port_R ?XZq ?TZq ?CZq ?dZq ?OZq ?o1Zq ?o2Zq ?o3Zq ?o4Zq ?o5Zq ?o6Zq ?o7Zq ?o8Zq ?mZq ?m1Zq ?m2Zq ?DZq ?hCZq ?hC2Zq ?hLZq ?hL2Zq ?lenZq ?len2Zq ?fZq ?lZq ?l2Zq ?foZq ?fo2Zq ?_ ?_; (case CZq => (first | ((refine FrL.cx ‹_› (by k_asm) (by k_asm) (by (intro q hq; kqd_all)) (by rfl))) | ((refine Cx.call ‹_› (by k_asm) (by rfl))))); (case XZq => assumption); (case TZq => assumption); (case dZq => ktr_room); (case OZq => (first | ((refine FrL.own ‹_› (by k_asm) (by keq_rows) (by krn_off))) | ((refine Own.of ‹_› (by k_asm) (by keq_rows))))); (case o1Zq => assumption); (case o2Zq => assumption); (case o3Zq => assumption); (case o4Zq => assumption); (case o5Zq => assumption); (case o6Zq => assumption); (case o7Zq => assumption); (case o8Zq => assumption); (case mZq => assumption); (case m1Zq => assumption); (case m2Zq => assumption); (case DZq => assumption); (case hCZq => (exact DO.get ‹_› (by k_asm) (by k_asm) (by k_mem))); (case hLZq => (exact DO.get ‹_› (by k_asm) (by k_asm) (by k_mem))); (case hC2Zq => assumption); (case hL2Zq => assumption); (case lenZq => assumption); (case len2Zq => assumption); (case fZq => regstrif_gather); (case lZq => regstrif_gather); (case l2Zq => regstrif_gather); (case foZq => regstrif_gather); (case fo2Zq => regstrif_gather)); (intro hZq' tkZq' nZq' tZq' foZq' tfoZq' oTZq' hscZq' hKZq' hdxZq' haTZq' hTdZq'; obtain ⟨FZq', NZq'⟩ := News.at2 (by k_asm) (by k_asm) (by k_updF) (by k_updF) hKZq' hdxZq' haTZq' (by k_ne)); rotate_left; (intro eZq' hZq' tkZq' hmZq' foZq' tfoZq' oTZq' hscZq' hKZq' hdxZq' haTZq' hTdZq' RZq'; dsimp only))) <;> k_steps))
      unfold Stop
      refine' comp_range (fun _ => true) (fun a => 30 + (fo - 30 + a).fmod many) many.toNat ?r ?sm ?rs ?ln ?hh ?F ?N ?tests ?eltW ?hQ
      case r => assumption
      case sm => exact range_small hm6 hmm6
      case rs => exact range_size hm6
      case ln => exact many_nat hm2
      case hh => rfl
      case F => k_asm
      case N => k_asm
      case tests => exact fun _ _ _ _ _ _ _ _ _ _ => noTests rfl ⟨rfl, Keeps.refl _⟩
      case eltW =>
        intro C k t s₃ m₃ E' hk _ F7 N7 hm
        have hk1 : 0 ≤ k ∧ k < 5 := by
          obtain ⟨j, hj, rfl⟩ := List.mem_map.mp hk
          have := List.mem_range.mp hj
          constructor
          · exact Int.natCast_nonneg j
          · exact Int.lt_of_lt_of_le (Int.lt_toNat.mp this) (Int.le_trans hm2 (by decide))
        (k_steps; repeat' ((first | ((try dsimp only [List.cons_append, List.nil_append]); (with_reducible show wpAny _ _ (call (Value.ref 1435) [Value.int _ _, Value.int _ _]) _ _ _); k_dflt (refine' law_behind_R ?XZq ?TZq ?CZq ?dZq ?m1Zq ?m2Zq ?p1Zq ?p2Zq ?_; (case CZq => (first | ((refine FrL.cx ‹_› (by k_asm) (by k_asm) (by (intro q hq; kqd_all)) (by rfl))) | ((refine Cx.call ‹_› (by k_asm) (by rfl))))); (case XZq => assumption); (case TZq => assumption); (case dZq => ktr_room); (case m1Zq => assumption); (case m2Zq => assumption); (case p1Zq => (first | assumption | omega)); (case p2Zq => (first | assumption | omega))); intro hZq' tkZq' tZq' hKZq'; obtain ⟨FZq', NZq'⟩ := News.at0 (by k_asm) (by k_asm) hKZq') | ((try dsimp only [List.cons_append, List.nil_append]); (with_reducible show wpAny _ _ (call (Value.ref 1274) [Value.ref _, Value.int 0 _]) _ _ _); k_dflt (refine' own_port_R ?XZq ?TZq ?CZq ?dZq ?OZq ?o1Zq ?o2Zq ?o3Zq ?o4Zq ?o5Zq ?o6Zq ?o7Zq ?o8Zq ?mZq ?m1Zq ?m2Zq ?DZq ?hCZq ?hC2Zq ?hLZq ?hL2Zq ?lenZq ?len2Zq ?fZq ?lZq ?l2Zq ?foZq ?fo2Zq ?_ ?_; (case CZq => (first | ((refine FrL.cx ‹_› (by k_asm) (by k_asm) (by (intro q hq; kqd_all)) (by rfl))) | ((refine Cx.call ‹_› (by k_asm) (by rfl))))); (case XZq => assumption); (case TZq => assumption); (case dZq => ktr_room); (case OZq => (first | ((refine FrL.own ‹_› (by k_asm) (by keq_rows) (by krn_off))) | ((refine Own.of ‹_› (by k_asm) (by keq_rows))))); (case o1Zq => assumption); (case o2Zq => assumption); (case o3Zq => assumption); (case o4Zq => assumption); (case o5Zq => assumption); (case o6Zq => assumption); (case o7Zq => assumption); (case o8Zq => assumption); (case mZq => assumption); (case m1Zq => assumption); (case m2Zq => assumption); (case DZq => assumption); (case hCZq => (exact DO.get ‹_› (by k_asm) (by k_asm) (by k_mem))); (case hLZq => (exact DO.get ‹_› (by k_asm) (by k_asm) (by k_mem))); (case hC2Zq => assumption); (case hL2Zq => assumption); (case lenZq => assumption); (case len2Zq => assumption); (case fZq => regstrif_gather); (case lZq => regstrif_gather); (case l2Zq => regstrif_gather); (case foZq => regstrif_gather); (case fo2Zq => regstrif_gather)); (intro hZq' tkZq' nZq' tZq' foZq' tfoZq' oTZq' hscZq' hKZq' hdxZq' haTZq' hTdZq'; obtain ⟨FZq', NZq'⟩ := News.at2 (by k_asm) (by k_asm) (by k_updF) (by k_updF) hKZq' hdxZq' haTZq' (by k_ne)); rotate_left; (intro eZq' hZq' tkZq' hmZq' foZq' tfoZq' oTZq' hscZq' hKZq' hdxZq' haTZq' hTdZq' RZq'; dsimp only))) <;> k_steps))
        exact ⟨_, _, rfl, fun _ _ e => e⟩
      case hQ =>
        intro D1 h1 tk1 ys1 n1 hI1 F7 N7 hD1
        have hD1o := off_new P hD1 (by intro q hq; kqd_all)
        have hD1x : @Ne Nat dx D1 := hD1 (dx, _) (by k_mem)
        have hD1t : @Ne Nat aT D1 := hD1 (aT, _) (by k_mem)
        have hD1h : @Ne Nat aH D1 := hD1 (aH, _) (by k_mem)
        have hD1p : @Ne Nat 1437 D1 := hD1 (1437, _) (by k_mem)
        replace hI1 := ints_round hI1
        (k_steps; repeat' ((first | ((try dsimp only [List.cons_append, List.nil_append]); (with_reducible show wpAny _ _ (call (Value.ref 1435) [Value.int _ _, Value.int _ _]) _ _ _); k_dflt (refine' law_behind_R ?XZq ?TZq ?CZq ?dZq ?m1Zq ?m2Zq ?p1Zq ?p2Zq ?_; (case CZq => (first | ((refine FrL.cx ‹_› (by k_asm) (by k_asm) (by (intro q hq; kqd_all)) (by rfl))) | ((refine Cx.call ‹_› (by k_asm) (by rfl))))); (case XZq => assumption); (case TZq => assumption); (case dZq => ktr_room); (case m1Zq => assumption); (case m2Zq => assumption); (case p1Zq => (first | assumption | omega)); (case p2Zq => (first | assumption | omega))); intro hZq' tkZq' tZq' hKZq'; obtain ⟨FZq', NZq'⟩ := News.at0 (by k_asm) (by k_asm) hKZq') | ((try dsimp only [List.cons_append, List.nil_append]); (with_reducible show wpAny _ _ (call (Value.ref 1274) [Value.ref _, Value.int 0 _]) _ _ _); k_dflt (refine' own_port_R ?XZq ?TZq ?CZq ?dZq ?OZq ?o1Zq ?o2Zq ?o3Zq ?o4Zq ?o5Zq ?o6Zq ?o7Zq ?o8Zq ?mZq ?m1Zq ?m2Zq ?DZq ?hCZq ?hC2Zq ?hLZq ?hL2Zq ?lenZq ?len2Zq ?fZq ?lZq ?l2Zq ?foZq ?fo2Zq ?_ ?_; (case CZq => (first | ((refine FrL.cx ‹_› (by k_asm) (by k_asm) (by (intro q hq; kqd_all)) (by rfl))) | ((refine Cx.call ‹_› (by k_asm) (by rfl))))); (case XZq => assumption); (case TZq => assumption); (case dZq => ktr_room); (case OZq => (first | ((refine FrL.own ‹_› (by k_asm) (by keq_rows) (by krn_off))) | ((refine Own.of ‹_› (by k_asm) (by keq_rows))))); (case o1Zq => assumption); (case o2Zq => assumption); (case o3Zq => assumption); (case o4Zq => assumption); (case o5Zq => assumption); (case o6Zq => assumption); (case o7Zq => assumption); (case o8Zq => assumption); (case mZq => assumption); (case m1Zq => assumption); (case m2Zq => assumption); (case DZq => assumption); (case hCZq => (exact DO.get ‹_› (by k_asm) (by k_asm) (by k_mem))); (case hLZq => (exact DO.get ‹_› (by k_asm) (by k_asm) (by k_mem))); (case hC2Zq => assumption); (case hL2Zq => assumption); (case lenZq => assumption); (case len2Zq => assumption); (case fZq => regstrif_gather); (case lZq => regstrif_gather); (case l2Zq => regstrif_gather); (case foZq => regstrif_gather); (case fo2Zq => regstrif_gather)); (intro hZq' tkZq' nZq' tZq' foZq' tfoZq' oTZq' hscZq' hKZq' hdxZq' haTZq' hTdZq'; obtain ⟨FZq', NZq'⟩ := News.at2 (by k_asm) (by k_asm) (by k_updF) (by k_updF) hKZq' hdxZq' haTZq' (by k_ne)); rotate_left; (intro eZq' hZq' tkZq' hmZq' foZq' tfoZq' oTZq' hscZq' hKZq' hdxZq' haTZq' hTdZq' RZq'; dsimp only))) <;> k_steps))
        unfold Stop
        refine' comp_listA (pxI' kvs) id ?l hI1 ?ln ?hh ?F ?N ?tests ?eltW ?hQ
        case hh => rfl
        case F => k_asm
        case N => k_asm
        case l => exact list_at (by k_asm) (by k_mem)
        case ln => exact roundOf_len hm2
        case tests =>
          intro C k t s₃ m₃ E' hk F8 N8 hm
          refine oneTest ?_
          (k_steps; repeat' ((first | ((try dsimp only [List.cons_append, List.nil_append]); (with_reducible show wpAny _ _ (call (Value.ref 1435) [Value.int _ _, Value.int _ _]) _ _ _); k_dflt (refine' law_behind_R ?XZq ?TZq ?CZq ?dZq ?m1Zq ?m2Zq ?p1Zq ?p2Zq ?_; (case CZq => (first | ((refine FrL.cx ‹_› (by k_asm) (by k_asm) (by (intro q hq; kqd_all)) (by rfl))) | ((refine Cx.call ‹_› (by k_asm) (by rfl))))); (case XZq => assumption); (case TZq => assumption); (case dZq => ktr_room); (case m1Zq => assumption); (case m2Zq => assumption); (case p1Zq => (first | assumption | omega)); (case p2Zq => (first | assumption | omega))); intro hZq' tkZq' tZq' hKZq'; obtain ⟨FZq', NZq'⟩ := News.at0 (by k_asm) (by k_asm) hKZq') | ((try dsimp only [List.cons_append, List.nil_append]); (with_reducible show wpAny _ _ (call (Value.ref 1274) [Value.ref _, Value.int 0 _]) _ _ _); k_dflt (refine' own_port_R ?XZq ?TZq ?CZq ?dZq ?OZq ?o1Zq ?o2Zq ?o3Zq ?o4Zq ?o5Zq ?o6Zq ?o7Zq ?o8Zq ?mZq ?m1Zq ?m2Zq ?DZq ?hCZq ?hC2Zq ?hLZq ?hL2Zq ?lenZq ?len2Zq ?fZq ?lZq ?l2Zq ?foZq ?fo2Zq ?_ ?_; (case CZq => (first | ((refine FrL.cx ‹_› (by k_asm) (by k_asm) (by (intro q hq; kqd_all)) (by rfl))) | ((refine Cx.call ‹_› (by k_asm) (by rfl))))); (case XZq => assumption); (case TZq => assumption); (case dZq => ktr_room); (case OZq => (first | ((refine FrL.own ‹_› (by k_asm) (by keq_rows) (by krn_off))) | ((refine Own.of ‹_› (by k_asm) (by keq_rows))))); (case o1Zq => assumption); (case o2Zq => assumption); (case o3Zq => assumption); (case o4Zq => assumption); (case o5Zq => assumption); (case o6Zq => assumption); (case o7Zq => assumption); (case o8Zq => assumption); (case mZq => assumption); (case m1Zq => assumption); (case m2Zq => assumption); (case DZq => assumption); (case hCZq => (exact DO.get ‹_› (by k_asm) (by k_asm) (by k_mem))); (case hLZq => (exact DO.get ‹_› (by k_asm) (by k_asm) (by k_mem))); (case hC2Zq => assumption); (case hL2Zq => assumption); (case lenZq => assumption); (case len2Zq => assumption); (case fZq => regstrif_gather); (case lZq => regstrif_gather); (case l2Zq => regstrif_gather); (case foZq => regstrif_gather); (case fo2Zq => regstrif_gather)); (intro hZq' tkZq' nZq' tZq' foZq' tfoZq' oTZq' hscZq' hKZq' hdxZq' haTZq' hTdZq'; obtain ⟨FZq', NZq'⟩ := News.at2 (by k_asm) (by k_asm) (by k_updF) (by k_updF) hKZq' hdxZq' haTZq' (by k_ne)); rotate_left; (intro eZq' hZq' tkZq' hmZq' foZq' tfoZq' oTZq' hscZq' hKZq' hdxZq' haTZq' hTdZq' RZq'; dsimp only))) <;> k_steps))
          exact Keeps.refl _
        case eltW =>
          intro C k t s₃ m₃ E' hk _ F8 N8 hm
          (k_steps; repeat' ((first | ((try dsimp only [List.cons_append, List.nil_append]); (with_reducible show wpAny _ _ (call (Value.ref 1435) [Value.int _ _, Value.int _ _]) _ _ _); k_dflt (refine' law_behind_R ?XZq ?TZq ?CZq ?dZq ?m1Zq ?m2Zq ?p1Zq ?p2Zq ?_; (case CZq => (first | ((refine FrL.cx ‹_› (by k_asm) (by k_asm) (by (intro q hq; kqd_all)) (by rfl))) | ((refine Cx.call ‹_› (by k_asm) (by rfl))))); (case XZq => assumption); (case TZq => assumption); (case dZq => ktr_room); (case m1Zq => assumption); (case m2Zq => assumption); (case p1Zq => (first | assumption | omega)); (case p2Zq => (first | assumption | omega))); intro hZq' tkZq' tZq' hKZq'; obtain ⟨FZq', NZq'⟩ := News.at0 (by k_asm) (by k_asm) hKZq') | ((try dsimp only [List.cons_append, List.nil_append]); (with_reducible show wpAny _ _ (call (Value.ref 1274) [Value.ref _, Value.int 0 _]) _ _ _); k_dflt (refine' own_port_R ?XZq ?TZq ?CZq ?dZq ?OZq ?o1Zq ?o2Zq ?o3Zq ?o4Zq ?o5Zq ?o6Zq ?o7Zq ?o8Zq ?mZq ?m1Zq ?m2Zq ?DZq ?hCZq ?hC2Zq ?hLZq ?hL2Zq ?lenZq ?len2Zq ?fZq ?lZq ?l2Zq ?foZq ?fo2Zq ?_ ?_; (case CZq => (first | ((refine FrL.cx ‹_› (by k_asm) (by k_asm) (by (intro q hq; kqd_all)) (by rfl))) | ((refine Cx.call ‹_› (by k_asm) (by rfl))))); (case XZq => assumption); (case TZq => assumption); (case dZq => ktr_room); (case OZq => (first | ((refine FrL.own ‹_› (by k_asm) (by keq_rows) (by krn_off))) | ((refine Own.of ‹_› (by k_asm) (by keq_rows))))); (case o1Zq => assumption); (case o2Zq => assumption); (case o3Zq => assumption); (case o4Zq => assumption); (case o5Zq => assumption); (case o6Zq => assumption); (case o7Zq => assumption); (case o8Zq => assumption); (case mZq => assumption); (case m1Zq => assumption); (case m2Zq => assumption); (case DZq => assumption); (case hCZq => (exact DO.get ‹_› (by k_asm) (by k_asm) (by k_mem))); (case hLZq => (exact DO.get ‹_› (by k_asm) (by k_asm) (by k_mem))); (case hC2Zq => assumption); (case hL2Zq => assumption); (case lenZq => assumption); (case len2Zq => assumption); (case fZq => regstrif_gather); (case lZq => regstrif_gather); (case l2Zq => regstrif_gather); (case foZq => regstrif_gather); (case fo2Zq => regstrif_gather)); (intro hZq' tkZq' nZq' tZq' foZq' tfoZq' oTZq' hscZq' hKZq' hdxZq' haTZq' hTdZq'; obtain ⟨FZq', NZq'⟩ := News.at2 (by k_asm) (by k_asm) (by k_updF) (by k_updF) hKZq' hdxZq' haTZq' (by k_ne)); rotate_left; (intro eZq' hZq' tkZq' hmZq' foZq' tfoZq' oTZq' hscZq' hKZq' hdxZq' haTZq' hTdZq' RZq'; dsimp only))) <;> k_steps))
          exact Keeps.refl _
        case hQ =>
          intro D2 h2 tk2 ys2 n2 hI2 F8 N8 hD2
          have hD2o := off_new P hD2 (by intro q hq; kqd_all)
          have hD2x : @Ne Nat dx D2 := hD2 (dx, _) (by k_mem)
          have hD2t : @Ne Nat aT D2 := hD2 (aT, _) (by k_mem)
          have hD2h : @Ne Nat aH D2 := hD2 (aH, _) (by k_mem)
          have hD2p : @Ne Nat 1437 D2 := hD2 (1437, _) (by k_mem)
          rw [List.map_id] at hI2
          replace hI2 : IntsAre ys2 (freeOf many fo kvs) := hI2
          (k_steps; repeat' ((first | ((try dsimp only [List.cons_append, List.nil_append]); (with_reducible show wpAny _ _ (call (Value.ref 1435) [Value.int _ _, Value.int _ _]) _ _ _); k_dflt (refine' law_behind_R ?XZq ?TZq ?CZq ?dZq ?m1Zq ?m2Zq ?p1Zq ?p2Zq ?_; (case CZq => (first | ((refine FrL.cx ‹_› (by k_asm) (by k_asm) (by (intro q hq; kqd_all)) (by rfl))) | ((refine Cx.call ‹_› (by k_asm) (by rfl))))); (case XZq => assumption); (case TZq => assumption); (case dZq => ktr_room); (case m1Zq => assumption); (case m2Zq => assumption); (case p1Zq => (first | assumption | omega)); (case p2Zq => (first | assumption | omega))); intro hZq' tkZq' tZq' hKZq'; obtain ⟨FZq', NZq'⟩ := News.at0 (by k_asm) (by k_asm) hKZq') | ((try dsimp only [List.cons_append, List.nil_append]); (with_reducible show wpAny _ _ (call (Value.ref 1274) [Value.ref _, Value.int 0 _]) _ _ _); k_dflt (refine' own_port_R ?XZq ?TZq ?CZq ?dZq ?OZq ?o1Zq ?o2Zq ?o3Zq ?o4Zq ?o5Zq ?o6Zq ?o7Zq ?o8Zq ?mZq ?m1Zq ?m2Zq ?DZq ?hCZq ?hC2Zq ?hLZq ?hL2Zq ?lenZq ?len2Zq ?fZq ?lZq ?l2Zq ?foZq ?fo2Zq ?_ ?_; (case CZq => (first | ((refine FrL.cx ‹_› (by k_asm) (by k_asm) (by (intro q hq; kqd_all)) (by rfl))) | ((refine Cx.call ‹_› (by k_asm) (by rfl))))); (case XZq => assumption); (case TZq => assumption); (case dZq => ktr_room); (case OZq => (first | ((refine FrL.own ‹_› (by k_asm) (by keq_rows) (by krn_off))) | ((refine Own.of ‹_› (by k_asm) (by keq_rows))))); (case o1Zq => assumption); (case o2Zq => assumption); (case o3Zq => assumption); (case o4Zq => assumption); (case o5Zq => assumption); (case o6Zq => assumption); (case o7Zq => assumption); (case o8Zq => assumption); (case mZq => assumption); (case m1Zq => assumption); (case m2Zq => assumption); (case DZq => assumption); (case hCZq => (exact DO.get ‹_› (by k_asm) (by k_asm) (by k_mem))); (case hLZq => (exact DO.get ‹_› (by k_asm) (by k_asm) (by k_mem))); (case hC2Zq => assumption); (case hL2Zq => assumption); (case lenZq => assumption); (case len2Zq => assumption); (case fZq => regstrif_gather); (case lZq => regstrif_gather); (case l2Zq => regstrif_gather); (case foZq => regstrif_gather); (case fo2Zq => regstrif_gather)); (intro hZq' tkZq' nZq' tZq' foZq' tfoZq' oTZq' hscZq' hKZq' hdxZq' haTZq' hTdZq'; obtain ⟨FZq', NZq'⟩ := News.at2 (by k_asm) (by k_asm) (by k_updF) (by k_updF) hKZq' hdxZq' haTZq' (by k_ne)); rotate_left; (intro eZq' hZq' tkZq' hmZq' foZq' tfoZq' oTZq' hscZq' hKZq' hdxZq' haTZq' hTdZq' RZq'; dsimp only))) <;> k_steps))
          unfold Stop
          refine' Assign_go (pxI (pxU kvsU)) (fun v y => ∃ a t u, v = Value.int a t ∧ y = Value.int (id a) u) ?hsw ?hcl ?c1 ?hk ?c2 ?hx ?hy ?hp ?h ?hs
          case hsw => rfl
          case hcl => rfl
          case c1 => decide
          case hk => rfl
          case c2 => decide
          case hx => rfl
          case hy => rfl
          case hp => rfl
          case hs => intro _; rfl
          case h =>
            (k_steps; repeat' ((first | ((try dsimp only [List.cons_append, List.nil_append]); (with_reducible show wpAny _ _ (call (Value.ref 1435) [Value.int _ _, Value.int _ _]) _ _ _); k_dflt (refine' law_behind_R ?XZq ?TZq ?CZq ?dZq ?m1Zq ?m2Zq ?p1Zq ?p2Zq ?_; (case CZq => (first | ((refine FrL.cx ‹_› (by k_asm) (by k_asm) (by (intro q hq; kqd_all)) (by rfl))) | ((refine Cx.call ‹_› (by k_asm) (by rfl))))); (case XZq => assumption); (case TZq => assumption); (case dZq => ktr_room); (case m1Zq => assumption); (case m2Zq => assumption); (case p1Zq => (first | assumption | omega)); (case p2Zq => (first | assumption | omega))); intro hZq' tkZq' tZq' hKZq'; obtain ⟨FZq', NZq'⟩ := News.at0 (by k_asm) (by k_asm) hKZq') | ((try dsimp only [List.cons_append, List.nil_append]); (with_reducible show wpAny _ _ (call (Value.ref 1274) [Value.ref _, Value.int 0 _]) _ _ _); k_dflt (refine' own_port_R ?XZq ?TZq ?CZq ?dZq ?OZq ?o1Zq ?o2Zq ?o3Zq ?o4Zq ?o5Zq ?o6Zq ?o7Zq ?o8Zq ?mZq ?m1Zq ?m2Zq ?DZq ?hCZq ?hC2Zq ?hLZq ?hL2Zq ?lenZq ?len2Zq ?fZq ?lZq ?l2Zq ?foZq ?fo2Zq ?_ ?_; (case CZq => (first | ((refine FrL.cx ‹_› (by k_asm) (by k_asm) (by (intro q hq; kqd_all)) (by rfl))) | ((refine Cx.call ‹_› (by k_asm) (by rfl))))); (case XZq => assumption); (case TZq => assumption); (case dZq => ktr_room); (case OZq => (first | ((refine FrL.own ‹_› (by k_asm) (by keq_rows) (by krn_off))) | ((refine Own.of ‹_› (by k_asm) (by keq_rows))))); (case o1Zq => assumption); (case o2Zq => assumption); (case o3Zq => assumption); (case o4Zq => assumption); (case o5Zq => assumption); (case o6Zq => assumption); (case o7Zq => assumption); (case o8Zq => assumption); (case mZq => assumption); (case m1Zq => assumption); (case m2Zq => assumption); (case DZq => assumption); (case hCZq => (exact DO.get ‹_› (by k_asm) (by k_asm) (by k_mem))); (case hLZq => (exact DO.get ‹_› (by k_asm) (by k_asm) (by k_mem))); (case hC2Zq => assumption); (case hL2Zq => assumption); (case lenZq => assumption); (case len2Zq => assumption); (case fZq => regstrif_gather); (case lZq => regstrif_gather); (case l2Zq => regstrif_gather); (case foZq => regstrif_gather); (case fo2Zq => regstrif_gather)); (intro hZq' tkZq' nZq' tZq' foZq' tfoZq' oTZq' hscZq' hKZq' hdxZq' haTZq' hTdZq'; obtain ⟨FZq', NZq'⟩ := News.at2 (by k_asm) (by k_asm) (by k_updF) (by k_updF) hKZq' hdxZq' haTZq' (by k_ne)); rotate_left; (intro eZq' hZq' tkZq' hmZq' foZq' tfoZq' oTZq' hscZq' hKZq' hdxZq' haTZq' hTdZq' RZq'; dsimp only))) <;> k_steps))
            unfold Stop
            refine' comp_listA (pxU kvsU) id ?l hI2 ?ln ?hh ?F ?N ?tests ?eltW ?hQ
            case hh => rfl
            case F => k_asm
            case N => k_asm
            case l => exact list_at (by k_asm) (by k_mem)
            case ln => exact freeOf_len hm2
            case tests =>
              intro C k t s₃ m₃ E' hk F9 N9 hm
              refine oneTest ?_
              (k_steps; repeat' ((first | ((try dsimp only [List.cons_append, List.nil_append]); (with_reducible show wpAny _ _ (call (Value.ref 1435) [Value.int _ _, Value.int _ _]) _ _ _); k_dflt (refine' law_behind_R ?XZq ?TZq ?CZq ?dZq ?m1Zq ?m2Zq ?p1Zq ?p2Zq ?_; (case CZq => (first | ((refine FrL.cx ‹_› (by k_asm) (by k_asm) (by (intro q hq; kqd_all)) (by rfl))) | ((refine Cx.call ‹_› (by k_asm) (by rfl))))); (case XZq => assumption); (case TZq => assumption); (case dZq => ktr_room); (case m1Zq => assumption); (case m2Zq => assumption); (case p1Zq => (first | assumption | omega)); (case p2Zq => (first | assumption | omega))); intro hZq' tkZq' tZq' hKZq'; obtain ⟨FZq', NZq'⟩ := News.at0 (by k_asm) (by k_asm) hKZq') | ((try dsimp only [List.cons_append, List.nil_append]); (with_reducible show wpAny _ _ (call (Value.ref 1274) [Value.ref _, Value.int 0 _]) _ _ _); k_dflt (refine' own_port_R ?XZq ?TZq ?CZq ?dZq ?OZq ?o1Zq ?o2Zq ?o3Zq ?o4Zq ?o5Zq ?o6Zq ?o7Zq ?o8Zq ?mZq ?m1Zq ?m2Zq ?DZq ?hCZq ?hC2Zq ?hLZq ?hL2Zq ?lenZq ?len2Zq ?fZq ?lZq ?l2Zq ?foZq ?fo2Zq ?_ ?_; (case CZq => (first | ((refine FrL.cx ‹_› (by k_asm) (by k_asm) (by (intro q hq; kqd_all)) (by rfl))) | ((refine Cx.call ‹_› (by k_asm) (by rfl))))); (case XZq => assumption); (case TZq => assumption); (case dZq => ktr_room); (case OZq => (first | ((refine FrL.own ‹_› (by k_asm) (by keq_rows) (by krn_off))) | ((refine Own.of ‹_› (by k_asm) (by keq_rows))))); (case o1Zq => assumption); (case o2Zq => assumption); (case o3Zq => assumption); (case o4Zq => assumption); (case o5Zq => assumption); (case o6Zq => assumption); (case o7Zq => assumption); (case o8Zq => assumption); (case mZq => assumption); (case m1Zq => assumption); (case m2Zq => assumption); (case DZq => assumption); (case hCZq => (exact DO.get ‹_› (by k_asm) (by k_asm) (by k_mem))); (case hLZq => (exact DO.get ‹_› (by k_asm) (by k_asm) (by k_mem))); (case hC2Zq => assumption); (case hL2Zq => assumption); (case lenZq => assumption); (case len2Zq => assumption); (case fZq => regstrif_gather); (case lZq => regstrif_gather); (case l2Zq => regstrif_gather); (case foZq => regstrif_gather); (case fo2Zq => regstrif_gather)); (intro hZq' tkZq' nZq' tZq' foZq' tfoZq' oTZq' hscZq' hKZq' hdxZq' haTZq' hTdZq'; obtain ⟨FZq', NZq'⟩ := News.at2 (by k_asm) (by k_asm) (by k_updF) (by k_updF) hKZq' hdxZq' haTZq' (by k_ne)); rotate_left; (intro eZq' hZq' tkZq' hmZq' foZq' tfoZq' oTZq' hscZq' hKZq' hdxZq' haTZq' hTdZq' RZq'; dsimp only))) <;> k_steps))
              exact ⟨_, _, rfl, fun b o e => by solve_by_elim⟩
            case eltW =>
              intro C k t s₃ m₃ E' hk _ F9 N9 hm
              (k_steps; repeat' ((first | ((try dsimp only [List.cons_append, List.nil_append]); (with_reducible show wpAny _ _ (call (Value.ref 1435) [Value.int _ _, Value.int _ _]) _ _ _); k_dflt (refine' law_behind_R ?XZq ?TZq ?CZq ?dZq ?m1Zq ?m2Zq ?p1Zq ?p2Zq ?_; (case CZq => (first | ((refine FrL.cx ‹_› (by k_asm) (by k_asm) (by (intro q hq; kqd_all)) (by rfl))) | ((refine Cx.call ‹_› (by k_asm) (by rfl))))); (case XZq => assumption); (case TZq => assumption); (case dZq => ktr_room); (case m1Zq => assumption); (case m2Zq => assumption); (case p1Zq => (first | assumption | omega)); (case p2Zq => (first | assumption | omega))); intro hZq' tkZq' tZq' hKZq'; obtain ⟨FZq', NZq'⟩ := News.at0 (by k_asm) (by k_asm) hKZq') | ((try dsimp only [List.cons_append, List.nil_append]); (with_reducible show wpAny _ _ (call (Value.ref 1274) [Value.ref _, Value.int 0 _]) _ _ _); k_dflt (refine' own_port_R ?XZq ?TZq ?CZq ?dZq ?OZq ?o1Zq ?o2Zq ?o3Zq ?o4Zq ?o5Zq ?o6Zq ?o7Zq ?o8Zq ?mZq ?m1Zq ?m2Zq ?DZq ?hCZq ?hC2Zq ?hLZq ?hL2Zq ?lenZq ?len2Zq ?fZq ?lZq ?l2Zq ?foZq ?fo2Zq ?_ ?_; (case CZq => (first | ((refine FrL.cx ‹_› (by k_asm) (by k_asm) (by (intro q hq; kqd_all)) (by rfl))) | ((refine Cx.call ‹_› (by k_asm) (by rfl))))); (case XZq => assumption); (case TZq => assumption); (case dZq => ktr_room); (case OZq => (first | ((refine FrL.own ‹_› (by k_asm) (by keq_rows) (by krn_off))) | ((refine Own.of ‹_› (by k_asm) (by keq_rows))))); (case o1Zq => assumption); (case o2Zq => assumption); (case o3Zq => assumption); (case o4Zq => assumption); (case o5Zq => assumption); (case o6Zq => assumption); (case o7Zq => assumption); (case o8Zq => assumption); (case mZq => assumption); (case m1Zq => assumption); (case m2Zq => assumption); (case DZq => assumption); (case hCZq => (exact DO.get ‹_› (by k_asm) (by k_asm) (by k_mem))); (case hLZq => (exact DO.get ‹_› (by k_asm) (by k_asm) (by k_mem))); (case hC2Zq => assumption); (case hL2Zq => assumption); (case lenZq => assumption); (case len2Zq => assumption); (case fZq => regstrif_gather); (case lZq => regstrif_gather); (case l2Zq => regstrif_gather); (case foZq => regstrif_gather); (case fo2Zq => regstrif_gather)); (intro hZq' tkZq' nZq' tZq' foZq' tfoZq' oTZq' hscZq' hKZq' hdxZq' haTZq' hTdZq'; obtain ⟨FZq', NZq'⟩ := News.at2 (by k_asm) (by k_asm) (by k_updF) (by k_updF) hKZq' hdxZq' haTZq' (by k_ne)); rotate_left; (intro eZq' hZq' tkZq' hmZq' foZq' tfoZq' oTZq' hscZq' hKZq' hdxZq' haTZq' hTdZq' RZq'; dsimp only))) <;> k_steps))
              exact Keeps.refl _
            case hQ =>
              intro D3 h3 tk3 ys3 n3 hI3 F9 N9 hD3
              have hD3o := off_new P hD3 (by intro q hq; kqd_all)
              have hD3x : @Ne Nat dx D3 := hD3 (dx, _) (by k_mem)
              have hD3t : @Ne Nat aT D3 := hD3 (aT, _) (by k_mem)
              have hD3h : @Ne Nat aH D3 := hD3 (aH, _) (by k_mem)
              have hD3p : @Ne Nat 1437 D3 := hD3 (1437, _) (by k_mem)
              rw [List.map_id] at hI3
              replace hI3 : IntsAre ys3 (goodOf many fo kvs kvsU) := hI3
              cases hg : goodOf many fo kvs kvsU with
              | cons g0 gr =>
                rw [hg] at hI3
                rw [good_eq hUU] at hg
                obtain ⟨hsc, hT0, hg1, hg2, hg3, hg4⟩ := own_good hm1 hm2 hb1 hb2 hg
                have hgood : (some g0, 30 + (g0 - 29).fmod many) = ownScan f l (fun n => (valueAt kvs n).isSome) (fun n => xsC.any (fun x => portC x.1 == n) || xsL.any fun x => portL x.1 == n) (l - f + 1).toNat fo := by
                  subst ef el
                  rw [toNat30]
                  exact hsc.symm
                have hI3c := hI3
                cases hI3
                (k_steps; repeat' ((first | ((try dsimp only [List.cons_append, List.nil_append]); (with_reducible show wpAny _ _ (call (Value.ref 1435) [Value.int _ _, Value.int _ _]) _ _ _); k_dflt (refine' law_behind_R ?XZq ?TZq ?CZq ?dZq ?m1Zq ?m2Zq ?p1Zq ?p2Zq ?_; (case CZq => (first | ((refine FrL.cx ‹_› (by k_asm) (by k_asm) (by (intro q hq; kqd_all)) (by rfl))) | ((refine Cx.call ‹_› (by k_asm) (by rfl))))); (case XZq => assumption); (case TZq => assumption); (case dZq => ktr_room); (case m1Zq => assumption); (case m2Zq => assumption); (case p1Zq => (first | assumption | omega)); (case p2Zq => (first | assumption | omega))); intro hZq' tkZq' tZq' hKZq'; obtain ⟨FZq', NZq'⟩ := News.at0 (by k_asm) (by k_asm) hKZq') | ((try dsimp only [List.cons_append, List.nil_append]); (with_reducible show wpAny _ _ (call (Value.ref 1274) [Value.ref _, Value.int 0 _]) _ _ _); k_dflt (refine' own_port_R ?XZq ?TZq ?CZq ?dZq ?OZq ?o1Zq ?o2Zq ?o3Zq ?o4Zq ?o5Zq ?o6Zq ?o7Zq ?o8Zq ?mZq ?m1Zq ?m2Zq ?DZq ?hCZq ?hC2Zq ?hLZq ?hL2Zq ?lenZq ?len2Zq ?fZq ?lZq ?l2Zq ?foZq ?fo2Zq ?_ ?_; (case CZq => (first | ((refine FrL.cx ‹_› (by k_asm) (by k_asm) (by (intro q hq; kqd_all)) (by rfl))) | ((refine Cx.call ‹_› (by k_asm) (by rfl))))); (case XZq => assumption); (case TZq => assumption); (case dZq => ktr_room); (case OZq => (first | ((refine FrL.own ‹_› (by k_asm) (by keq_rows) (by krn_off))) | ((refine Own.of ‹_› (by k_asm) (by keq_rows))))); (case o1Zq => assumption); (case o2Zq => assumption); (case o3Zq => assumption); (case o4Zq => assumption); (case o5Zq => assumption); (case o6Zq => assumption); (case o7Zq => assumption); (case o8Zq => assumption); (case mZq => assumption); (case m1Zq => assumption); (case m2Zq => assumption); (case DZq => assumption); (case hCZq => (exact DO.get ‹_› (by k_asm) (by k_asm) (by k_mem))); (case hLZq => (exact DO.get ‹_› (by k_asm) (by k_asm) (by k_mem))); (case hC2Zq => assumption); (case hL2Zq => assumption); (case lenZq => assumption); (case len2Zq => assumption); (case fZq => regstrif_gather); (case lZq => regstrif_gather); (case l2Zq => regstrif_gather); (case foZq => regstrif_gather); (case fo2Zq => regstrif_gather)); (intro hZq' tkZq' nZq' tZq' foZq' tfoZq' oTZq' hscZq' hKZq' hdxZq' haTZq' hTdZq'; obtain ⟨FZq', NZq'⟩ := News.at2 (by k_asm) (by k_asm) (by k_updF) (by k_updF) hKZq' hdxZq' haTZq' (by k_ne)); rotate_left; (intro eZq' hZq' tkZq' hmZq' foZq' tfoZq' oTZq' hscZq' hKZq' hdxZq' haTZq' hTdZq' RZq'; dsimp only))) <;> k_steps))
                · rename decide _ = true => z
                  cases z
                · rename ownScan _ _ _ _ _ _ = _ => q
                  rw [← hgood] at q; cases q
                · rename ownScan _ _ _ _ _ _ = _ => q
                  obtain ⟨rfl, rfl⟩ := own_eq hgood q
                  contradiction
                · rename ownScan _ _ _ _ _ _ = _ => q
                  obtain ⟨rfl, rfl⟩ := own_eq hgood q
                  (try (first | ((try dsimp only [List.cons_append, List.nil_append]); (with_reducible show wpAny _ _ (call (Value.ref 1435) [Value.int _ _, Value.int _ _]) _ _ _); k_dflt (refine' law_behind_R ?XZq ?TZq ?CZq ?dZq ?m1Zq ?m2Zq ?p1Zq ?p2Zq ?_; (case CZq => (first | ((refine FrL.cx ‹_› (by k_asm) (by k_asm) (by (intro q hq; kqd_all)) (by rfl))) | ((refine Cx.call ‹_› (by k_asm) (by rfl))))); (case XZq => assumption); (case TZq => assumption); (case dZq => ktr_room); (case m1Zq => assumption); (case m2Zq => assumption); (case p1Zq => (first | assumption | omega)); (case p2Zq => (first | assumption | omega))); intro hZq' tkZq' tZq' hKZq'; obtain ⟨FZq', NZq'⟩ := News.at0 (by k_asm) (by k_asm) hKZq') | ((try dsimp only [List.cons_append, List.nil_append]); (with_reducible show wpAny _ _ (call (Value.ref 1274) [Value.ref _, Value.int 0 _]) _ _ _); k_dflt (refine' own_port_R ?XZq ?TZq ?CZq ?dZq ?OZq ?o1Zq ?o2Zq ?o3Zq ?o4Zq ?o5Zq ?o6Zq ?o7Zq ?o8Zq ?mZq ?m1Zq ?m2Zq ?DZq ?hCZq ?hC2Zq ?hLZq ?hL2Zq ?lenZq ?len2Zq ?fZq ?lZq ?l2Zq ?foZq ?fo2Zq ?_ ?_; (case CZq => (first | ((refine FrL.cx ‹_› (by k_asm) (by k_asm) (by (intro q hq; kqd_all)) (by rfl))) | ((refine Cx.call ‹_› (by k_asm) (by rfl))))); (case XZq => assumption); (case TZq => assumption); (case dZq => ktr_room); (case OZq => (first | ((refine FrL.own ‹_› (by k_asm) (by keq_rows) (by krn_off))) | ((refine Own.of ‹_› (by k_asm) (by keq_rows))))); (case o1Zq => assumption); (case o2Zq => assumption); (case o3Zq => assumption); (case o4Zq => assumption); (case o5Zq => assumption); (case o6Zq => assumption); (case o7Zq => assumption); (case o8Zq => assumption); (case mZq => assumption); (case m1Zq => assumption); (case m2Zq => assumption); (case DZq => assumption); (case hCZq => (exact DO.get ‹_› (by k_asm) (by k_asm) (by k_mem))); (case hLZq => (exact DO.get ‹_› (by k_asm) (by k_asm) (by k_mem))); (case hC2Zq => assumption); (case hL2Zq => assumption); (case lenZq => assumption); (case len2Zq => assumption); (case fZq => regstrif_gather); (case lZq => regstrif_gather); (case l2Zq => regstrif_gather); (case foZq => regstrif_gather); (case fo2Zq => regstrif_gather)); (intro hZq' tkZq' nZq' tZq' foZq' tfoZq' oTZq' hscZq' hKZq' hdxZq' haTZq' hTdZq'; obtain ⟨FZq', NZq'⟩ := News.at2 (by k_asm) (by k_asm) (by k_updF) (by k_updF) hKZq' hdxZq' haTZq' (by k_ne)); rotate_left; (intro eZq' hZq' tkZq' hmZq' foZq' tfoZq' oTZq' hscZq' hKZq' hdxZq' haTZq' hTdZq' RZq'; dsimp only))))
                  (k_steps; repeat' ((first | ((try dsimp only [List.cons_append, List.nil_append]); (with_reducible show wpAny _ _ (call (Value.ref 1435) [Value.int _ _, Value.int _ _]) _ _ _); k_dflt (refine' law_behind_R ?XZq ?TZq ?CZq ?dZq ?m1Zq ?m2Zq ?p1Zq ?p2Zq ?_; (case CZq => (first | ((refine FrL.cx ‹_› (by k_asm) (by k_asm) (by (intro q hq; kqd_all)) (by rfl))) | ((refine Cx.call ‹_› (by k_asm) (by rfl))))); (case XZq => assumption); (case TZq => assumption); (case dZq => ktr_room); (case m1Zq => assumption); (case m2Zq => assumption); (case p1Zq => (first | assumption | omega)); (case p2Zq => (first | assumption | omega))); intro hZq' tkZq' tZq' hKZq'; obtain ⟨FZq', NZq'⟩ := News.at0 (by k_asm) (by k_asm) hKZq') | ((try dsimp only [List.cons_append, List.nil_append]); (with_reducible show wpAny _ _ (call (Value.ref 1274) [Value.ref _, Value.int 0 _]) _ _ _); k_dflt (refine' own_port_R ?XZq ?TZq ?CZq ?dZq ?OZq ?o1Zq ?o2Zq ?o3Zq ?o4Zq ?o5Zq ?o6Zq ?o7Zq ?o8Zq ?mZq ?m1Zq ?m2Zq ?DZq ?hCZq ?hC2Zq ?hLZq ?hL2Zq ?lenZq ?len2Zq ?fZq ?lZq ?l2Zq ?foZq ?fo2Zq ?_ ?_; (case CZq => (first | ((refine FrL.cx ‹_› (by k_asm) (by k_asm) (by (intro q hq; kqd_all)) (by rfl))) | ((refine Cx.call ‹_› (by k_asm) (by rfl))))); (case XZq => assumption); (case TZq => assumption); (case dZq => ktr_room); (case OZq => (first | ((refine FrL.own ‹_› (by k_asm) (by keq_rows) (by krn_off))) | ((refine Own.of ‹_› (by k_asm) (by keq_rows))))); (case o1Zq => assumption); (case o2Zq => assumption); (case o3Zq => assumption); (case o4Zq => assumption); (case o5Zq => assumption); (case o6Zq => assumption); (case o7Zq => assumption); (case o8Zq => assumption); (case mZq => assumption); (case m1Zq => assumption); (case m2Zq => assumption); (case DZq => assumption); (case hCZq => (exact DO.get ‹_› (by k_asm) (by k_asm) (by k_mem))); (case hLZq => (exact DO.get ‹_› (by k_asm) (by k_asm) (by k_mem))); (case hC2Zq => assumption); (case hL2Zq => assumption); (case lenZq => assumption); (case len2Zq => assumption); (case fZq => regstrif_gather); (case lZq => regstrif_gather); (case l2Zq => regstrif_gather); (case foZq => regstrif_gather); (case fo2Zq => regstrif_gather)); (intro hZq' tkZq' nZq' tZq' foZq' tfoZq' oTZq' hscZq' hKZq' hdxZq' haTZq' hTdZq'; obtain ⟨FZq', NZq'⟩ := News.at2 (by k_asm) (by k_asm) (by k_updF) (by k_updF) hKZq' hdxZq' haTZq' (by k_ne)); rotate_left; (intro eZq' hZq' tkZq' hmZq' foZq' tfoZq' oTZq' hscZq' hKZq' hdxZq' haTZq' hTdZq' RZq'; dsimp only))) <;> k_steps))
                  rename Obj.IsDictOf _ _ (stored _ _ _) => qd
                  rw [stored_absent (none_of hT0)] at qd
                  refine' hret _ _ _ _ _ _ (vsH ++ [.int g0 _]) _ _ _ hg3 hg4 (.inr ⟨_, hg1, hg2, hT0, rfl⟩) qd ?ki ?kps ?kp ?k1
                  case k1 => ked_read
                  case ki => rw [List.map_append]; exact ints_snoc hI
                  case kps => exact (hps.base GK C₀ O (by kp_flats)).up (Fr.keep (by k_asm))
                  case kp => ((refine kp_endF ‹_› ‹_› ‹_› (by k_asm) (by k_asm) (by (intro q hq; kqd_all)) (by ked_reads)))
              | nil =>
                rw [hg] at hI3
                rw [good_eq hUU] at hg
                obtain ⟨hsc, hl1, hl2⟩ := own_none hm1 hm2 hb1 hb2 hg
                rw [← free_eq] at hsc hl1 hl2
                have hgood : (none, lastOf many fo (freeOf many fo kvs)) = ownScan f l (fun n => (valueAt kvs n).isSome) (fun n => xsC.any (fun x => portC x.1 == n) || xsL.any fun x => portL x.1 == n) (l - f + 1).toNat fo := by
                  subst ef el
                  rw [toNat30]
                  exact hsc.symm
                have hI3c := hI3
                cases hI3
                have hpsg := hps.base GK C₀ O (by kp_flats)
                have hCd : CodeHd g 1439 1437 := codeHd_of_K X' (by kernel_rfl)
                (k_steps; repeat' ((first | ((try dsimp only [List.cons_append, List.nil_append]); (with_reducible show wpAny _ _ (call (Value.ref 1435) [Value.int _ _, Value.int _ _]) _ _ _); k_dflt (refine' law_behind_R ?XZq ?TZq ?CZq ?dZq ?m1Zq ?m2Zq ?p1Zq ?p2Zq ?_; (case CZq => (first | ((refine FrL.cx ‹_› (by k_asm) (by k_asm) (by (intro q hq; kqd_all)) (by rfl))) | ((refine Cx.call ‹_› (by k_asm) (by rfl))))); (case XZq => assumption); (case TZq => assumption); (case dZq => ktr_room); (case m1Zq => assumption); (case m2Zq => assumption); (case p1Zq => (first | assumption | omega)); (case p2Zq => (first | assumption | omega))); intro hZq' tkZq' tZq' hKZq'; obtain ⟨FZq', NZq'⟩ := News.at0 (by k_asm) (by k_asm) hKZq') | ((try dsimp only [List.cons_append, List.nil_append]); (with_reducible show wpAny _ _ (call (Value.ref 1274) [Value.ref _, Value.int 0 _]) _ _ _); k_dflt (refine' own_port_R ?XZq ?TZq ?CZq ?dZq ?OZq ?o1Zq ?o2Zq ?o3Zq ?o4Zq ?o5Zq ?o6Zq ?o7Zq ?o8Zq ?mZq ?m1Zq ?m2Zq ?DZq ?hCZq ?hC2Zq ?hLZq ?hL2Zq ?lenZq ?len2Zq ?fZq ?lZq ?l2Zq ?foZq ?fo2Zq ?_ ?_; (case CZq => (first | ((refine FrL.cx ‹_› (by k_asm) (by k_asm) (by (intro q hq; kqd_all)) (by rfl))) | ((refine Cx.call ‹_› (by k_asm) (by rfl))))); (case XZq => assumption); (case TZq => assumption); (case dZq => ktr_room); (case OZq => (first | ((refine FrL.own ‹_› (by k_asm) (by keq_rows) (by krn_off))) | ((refine Own.of ‹_› (by k_asm) (by keq_rows))))); (case o1Zq => assumption); (case o2Zq => assumption); (case o3Zq => assumption); (case o4Zq => assumption); (case o5Zq => assumption); (case o6Zq => assumption); (case o7Zq => assumption); (case o8Zq => assumption); (case mZq => assumption); (case m1Zq => assumption); (case m2Zq => assumption); (case DZq => assumption); (case hCZq => (exact DO.get ‹_› (by k_asm) (by k_asm) (by k_mem))); (case hLZq => (exact DO.get ‹_› (by k_asm) (by k_asm) (by k_mem))); (case hC2Zq => assumption); (case hL2Zq => assumption); (case lenZq => assumption); (case len2Zq => assumption); (case fZq => regstrif_gather); (case lZq => regstrif_gather); (case l2Zq => regstrif_gather); (case foZq => regstrif_gather); (case fo2Zq => regstrif_gather)); (intro hZq' tkZq' nZq' tZq' foZq' tfoZq' oTZq' hscZq' hKZq' hdxZq' haTZq' hTdZq'; obtain ⟨FZq', NZq'⟩ := News.at2 (by k_asm) (by k_asm) (by k_updF) (by k_updF) hKZq' hdxZq' haTZq' (by k_ne)); rotate_left; (intro eZq' hZq' tkZq' hmZq' foZq' tfoZq' oTZq' hscZq' hKZq' hdxZq' haTZq' hTdZq' RZq'; dsimp only))) <;> k_steps))
                all_goals first
                  | (rename decide _ = false => z; cases z; done)
                  | skip
                refine' lam_mk ?F ?N ?T hCd rfl ?U hpsg ?q ?dd ?cl ?h1 ?h2
                case F => k_asm
                case N => k_asm
                case T => assumption
                case U => k_updF
                case q => rfl
                case dd => exact rfl
                case cl => exact rfl
                case' h1 => intro f' c' oc' vs' t' ctv h' tk F6 N6 d1 d2 l1 l2; have lo3 := ltD_in fun q hq => Nat.lt_trans (l1 q hq) l2
                case' h2 => intro f' c' ctv h' tk F6 N6 hpe hcr l1
                all_goals
                  (try dsimp only at N6)
                  k_lt l1
                  (k_steps; repeat' ((first | ((try dsimp only [List.cons_append, List.nil_append]); (with_reducible show wpAny _ _ (call (Value.ref 1435) [Value.int _ _, Value.int _ _]) _ _ _); k_dflt (refine' law_behind_R ?XZq ?TZq ?CZq ?dZq ?m1Zq ?m2Zq ?p1Zq ?p2Zq ?_; (case CZq => (first | ((refine FrL.cx ‹_› (by k_asm) (by k_asm) (by (intro q hq; kqd_all)) (by rfl))) | ((refine Cx.call ‹_› (by k_asm) (by rfl))))); (case XZq => assumption); (case TZq => assumption); (case dZq => ktr_room); (case m1Zq => assumption); (case m2Zq => assumption); (case p1Zq => (first | assumption | omega)); (case p2Zq => (first | assumption | omega))); intro hZq' tkZq' tZq' hKZq'; obtain ⟨FZq', NZq'⟩ := News.at0 (by k_asm) (by k_asm) hKZq') | ((try dsimp only [List.cons_append, List.nil_append]); (with_reducible show wpAny _ _ (call (Value.ref 1274) [Value.ref _, Value.int 0 _]) _ _ _); k_dflt (refine' own_port_R ?XZq ?TZq ?CZq ?dZq ?OZq ?o1Zq ?o2Zq ?o3Zq ?o4Zq ?o5Zq ?o6Zq ?o7Zq ?o8Zq ?mZq ?m1Zq ?m2Zq ?DZq ?hCZq ?hC2Zq ?hLZq ?hL2Zq ?lenZq ?len2Zq ?fZq ?lZq ?l2Zq ?foZq ?fo2Zq ?_ ?_; (case CZq => (first | ((refine FrL.cx ‹_› (by k_asm) (by k_asm) (by (intro q hq; kqd_all)) (by rfl))) | ((refine Cx.call ‹_› (by k_asm) (by rfl))))); (case XZq => assumption); (case TZq => assumption); (case dZq => ktr_room); (case OZq => (first | ((refine FrL.own ‹_› (by k_asm) (by keq_rows) (by krn_off))) | ((refine Own.of ‹_› (by k_asm) (by keq_rows))))); (case o1Zq => assumption); (case o2Zq => assumption); (case o3Zq => assumption); (case o4Zq => assumption); (case o5Zq => assumption); (case o6Zq => assumption); (case o7Zq => assumption); (case o8Zq => assumption); (case mZq => assumption); (case m1Zq => assumption); (case m2Zq => assumption); (case DZq => assumption); (case hCZq => (exact DO.get ‹_› (by k_asm) (by k_asm) (by k_mem))); (case hLZq => (exact DO.get ‹_› (by k_asm) (by k_asm) (by k_mem))); (case hC2Zq => assumption); (case hL2Zq => assumption); (case lenZq => assumption); (case len2Zq => assumption); (case fZq => regstrif_gather); (case lZq => regstrif_gather); (case l2Zq => regstrif_gather); (case foZq => regstrif_gather); (case fo2Zq => regstrif_gather)); (intro hZq' tkZq' nZq' tZq' foZq' tfoZq' oTZq' hscZq' hKZq' hdxZq' haTZq' hTdZq'; obtain ⟨FZq', NZq'⟩ := News.at2 (by k_asm) (by k_asm) (by k_updF) (by k_updF) hKZq' hdxZq' haTZq' (by k_ne)); rotate_left; (intro eZq' hZq' tkZq' hmZq' foZq' tfoZq' oTZq' hscZq' hKZq' hdxZq' haTZq' hTdZq' RZq'; dsimp only))) <;> k_steps))
                all_goals
                  k_dflt (refine' ref_own1_R (cS := L' + 1) ?X ?T ?C ?d ?O ?oc ?ha ?hcd o1 o2 o3 o4 o5 o6 o7 o8 ?hcS hsm hsm1 hsm2 hTd ?hC hC2 ?hL hL2 hlen hlen2 ?qa ?qb ?qc ?qd ?qe hgood ?r)
                  case C => (first | ((refine FrL.cx ‹_› (by k_asm) (by k_asm) (by (intro q hq; kqd_all)) (by rfl))) | ((refine Cx.call ‹_› (by k_asm) (by rfl))))
                  case X => assumption
                  case T => assumption
                  case d => ktr_room
                  case oc => assumption
                  case O => (first | ((refine FrL.own ‹_› (by k_asm) (by keq_rows) (by krn_off))) | ((refine Own.of ‹_› (by k_asm) (by keq_rows))))
                  case ha => exact News.get (by k_asm) (by k_mem)
                  case hcd => first
                    | exact codeRec_news (by k_asm) (by k_mem) d1 d2
                    | exact codeRec_up hcr (Fr.keep (by k_asm))
                  case hcS => right; omega
                  case hC => (exact DO.get ‹_› (by k_asm) (by k_asm) (by k_mem))
                  case hL => (exact DO.get ‹_› (by k_asm) (by k_asm) (by k_mem))
                  case qa => regstrif_gather
                  case qb => regstrif_gather
                  case qc => regstrif_gather
                  case qd => regstrif_gather
                  case qe => regstrif_gather
                  case r =>
                    intro h2 tk2 tfo2 oT2 hKF hdx2 haT2 hTd2
                    by_cases hfe : freeOf many fo kvs = []
                    · have hlo : lastOf many fo (freeOf many fo kvs) = fo := if_pos hfe
                      rw [hlo] at hdx2
                      obtain ⟨fr2, P2, F5, N5⟩ := catch2 P (by k_asm) (by k_asm) (by k_updF) (by k_updF) (by walk_at "tailF") hKF hdx2 haT2 (by k_ne) f4 f5
                      (try dsimp only at N5)
                      clear P F6 N6
                      (k_steps; repeat' ((first | ((try dsimp only [List.cons_append, List.nil_append]); (with_reducible show wpAny _ _ (call (Value.ref 1435) [Value.int _ _, Value.int _ _]) _ _ _); k_dflt (refine' law_behind_R ?XZq ?TZq ?CZq ?dZq ?m1Zq ?m2Zq ?p1Zq ?p2Zq ?_; (case CZq => (first | ((refine FrL.cx ‹_› (by k_asm) (by k_asm) (by (intro q hq; kqd_all)) (by rfl))) | ((refine Cx.call ‹_› (by k_asm) (by rfl))))); (case XZq => assumption); (case TZq => assumption); (case dZq => ktr_room); (case m1Zq => assumption); (case m2Zq => assumption); (case p1Zq => (first | assumption | omega)); (case p2Zq => (first | assumption | omega))); intro hZq' tkZq' tZq' hKZq'; obtain ⟨FZq', NZq'⟩ := News.at0 (by k_asm) (by k_asm) hKZq') | ((try dsimp only [List.cons_append, List.nil_append]); (with_reducible show wpAny _ _ (call (Value.ref 1274) [Value.ref _, Value.int 0 _]) _ _ _); k_dflt (refine' own_port_R ?XZq ?TZq ?CZq ?dZq ?OZq ?o1Zq ?o2Zq ?o3Zq ?o4Zq ?o5Zq ?o6Zq ?o7Zq ?o8Zq ?mZq ?m1Zq ?m2Zq ?DZq ?hCZq ?hC2Zq ?hLZq ?hL2Zq ?lenZq ?len2Zq ?fZq ?lZq ?l2Zq ?foZq ?fo2Zq ?_ ?_; (case CZq => (first | ((refine FrL.cx ‹_› (by k_asm) (by k_asm) (by (intro q hq; kqd_all)) (by rfl))) | ((refine Cx.call ‹_› (by k_asm) (by rfl))))); (case XZq => assumption); (case TZq => assumption); (case dZq => ktr_room); (case OZq => (first | ((refine FrL.own ‹_› (by k_asm) (by keq_rows) (by krn_off))) | ((refine Own.of ‹_› (by k_asm) (by keq_rows))))); (case o1Zq => assumption); (case o2Zq => assumption); (case o3Zq => assumption); (case o4Zq => assumption); (case o5Zq => assumption); (case o6Zq => assumption); (case o7Zq => assumption); (case o8Zq => assumption); (case mZq => assumption); (case m1Zq => assumption); (case m2Zq => assumption); (case DZq => assumption); (case hCZq => (exact DO.get ‹_› (by k_asm) (by k_asm) (by k_mem))); (case hLZq => (exact DO.get ‹_› (by k_asm) (by k_asm) (by k_mem))); (case hC2Zq => assumption); (case hL2Zq => assumption); (case lenZq => assumption); (case len2Zq => assumption); (case fZq => regstrif_gather); (case lZq => regstrif_gather); (case l2Zq => regstrif_gather); (case foZq => regstrif_gather); (case fo2Zq => regstrif_gather)); (intro hZq' tkZq' nZq' tZq' foZq' tfoZq' oTZq' hscZq' hKZq' hdxZq' haTZq' hTdZq'; obtain ⟨FZq', NZq'⟩ := News.at2 (by k_asm) (by k_asm) (by k_updF) (by k_updF) hKZq' hdxZq' haTZq' (by k_ne)); rotate_left; (intro eZq' hZq' tkZq' hmZq' foZq' tfoZq' oTZq' hscZq' hKZq' hdxZq' haTZq' hTdZq' RZq'; dsimp only))) <;> k_steps))
                      · refine' hret _ _ fo _ _ _ vsH _ _ kvs hb1 hb2 (.inl rfl) hTd2 hI ?kps ?kp ?k1
                        case k1 => ked_read
                        case kps => first
                          | exact .inr ⟨c', rfl, codeRec_news (by k_asm) (by k_mem) d1 d2⟩
                          | exact .inr ⟨c', hpe, codeRec_up hcr (Fr.keep (by k_asm))⟩
                        case kp => ((refine kp_endF ‹_› ‹_› ‹_› (by k_asm) (by k_asm) (by (intro q hq; kqd_all)) (by ked_reads)))
                    have hlo : lastOf many fo (freeOf many fo kvs) = 30 + ((freeOf many fo kvs).getD ((many - 1).fmod (freeOf many fo kvs).length).toNat 0 - 29).fmod many := if_neg hfe
                    rw [hlo] at hdx2 hl1 hl2
                    obtain ⟨z1, z2, z3, z4, z5, z6, z7, z8, z9⟩ := nil_facts hm1 hm2 hfe
                    obtain ⟨fr2, P2, F5, N5⟩ := catch2 P (by k_asm) (by k_asm) (by k_updF) (by k_updF) (by walk_at "tailF") hKF hdx2 haT2 (by k_ne) f4 f5
                    (try dsimp only at N5)
                    clear P F6 N6
                    (k_steps; repeat' ((first | ((try dsimp only [List.cons_append, List.nil_append]); (with_reducible show wpAny _ _ (call (Value.ref 1435) [Value.int _ _, Value.int _ _]) _ _ _); k_dflt (refine' law_behind_R ?XZq ?TZq ?CZq ?dZq ?m1Zq ?m2Zq ?p1Zq ?p2Zq ?_; (case CZq => (first | ((refine FrL.cx ‹_› (by k_asm) (by k_asm) (by (intro q hq; kqd_all)) (by rfl))) | ((refine Cx.call ‹_› (by k_asm) (by rfl))))); (case XZq => assumption); (case TZq => assumption); (case dZq => ktr_room); (case m1Zq => assumption); (case m2Zq => assumption); (case p1Zq => (first | assumption | omega)); (case p2Zq => (first | assumption | omega))); intro hZq' tkZq' tZq' hKZq'; obtain ⟨FZq', NZq'⟩ := News.at0 (by k_asm) (by k_asm) hKZq') | ((try dsimp only [List.cons_append, List.nil_append]); (with_reducible show wpAny _ _ (call (Value.ref 1274) [Value.ref _, Value.int 0 _]) _ _ _); k_dflt (refine' own_port_R ?XZq ?TZq ?CZq ?dZq ?OZq ?o1Zq ?o2Zq ?o3Zq ?o4Zq ?o5Zq ?o6Zq ?o7Zq ?o8Zq ?mZq ?m1Zq ?m2Zq ?DZq ?hCZq ?hC2Zq ?hLZq ?hL2Zq ?lenZq ?len2Zq ?fZq ?lZq ?l2Zq ?foZq ?fo2Zq ?_ ?_; (case CZq => (first | ((refine FrL.cx ‹_› (by k_asm) (by k_asm) (by (intro q hq; kqd_all)) (by rfl))) | ((refine Cx.call ‹_› (by k_asm) (by rfl))))); (case XZq => assumption); (case TZq => assumption); (case dZq => ktr_room); (case OZq => (first | ((refine FrL.own ‹_› (by k_asm) (by keq_rows) (by krn_off))) | ((refine Own.of ‹_› (by k_asm) (by keq_rows))))); (case o1Zq => assumption); (case o2Zq => assumption); (case o3Zq => assumption); (case o4Zq => assumption); (case o5Zq => assumption); (case o6Zq => assumption); (case o7Zq => assumption); (case o8Zq => assumption); (case mZq => assumption); (case m1Zq => assumption); (case m2Zq => assumption); (case DZq => assumption); (case hCZq => (exact DO.get ‹_› (by k_asm) (by k_asm) (by k_mem))); (case hLZq => (exact DO.get ‹_› (by k_asm) (by k_asm) (by k_mem))); (case hC2Zq => assumption); (case hL2Zq => assumption); (case lenZq => assumption); (case len2Zq => assumption); (case fZq => regstrif_gather); (case lZq => regstrif_gather); (case l2Zq => regstrif_gather); (case foZq => regstrif_gather); (case fo2Zq => regstrif_gather)); (intro hZq' tkZq' nZq' tZq' foZq' tfoZq' oTZq' hscZq' hKZq' hdxZq' haTZq' hTdZq'; obtain ⟨FZq', NZq'⟩ := News.at2 (by k_asm) (by k_asm) (by k_updF) (by k_updF) hKZq' hdxZq' haTZq' (by k_ne)); rotate_left; (intro eZq' hZq' tkZq' hmZq' foZq' tfoZq' oTZq' hscZq' hKZq' hdxZq' haTZq' hTdZq' RZq'; dsimp only))) <;> k_steps))
                    (try (first | ((try dsimp only [List.cons_append, List.nil_append]); (with_reducible show wpAny _ _ (call (Value.ref 1435) [Value.int _ _, Value.int _ _]) _ _ _); k_dflt (refine' law_behind_R ?XZq ?TZq ?CZq ?dZq ?m1Zq ?m2Zq ?p1Zq ?p2Zq ?_; (case CZq => (first | ((refine FrL.cx ‹_› (by k_asm) (by k_asm) (by (intro q hq; kqd_all)) (by rfl))) | ((refine Cx.call ‹_› (by k_asm) (by rfl))))); (case XZq => assumption); (case TZq => assumption); (case dZq => ktr_room); (case m1Zq => assumption); (case m2Zq => assumption); (case p1Zq => (first | assumption | omega)); (case p2Zq => (first | assumption | omega))); intro hZq' tkZq' tZq' hKZq'; obtain ⟨FZq', NZq'⟩ := News.at0 (by k_asm) (by k_asm) hKZq') | ((try dsimp only [List.cons_append, List.nil_append]); (with_reducible show wpAny _ _ (call (Value.ref 1274) [Value.ref _, Value.int 0 _]) _ _ _); k_dflt (refine' own_port_R ?XZq ?TZq ?CZq ?dZq ?OZq ?o1Zq ?o2Zq ?o3Zq ?o4Zq ?o5Zq ?o6Zq ?o7Zq ?o8Zq ?mZq ?m1Zq ?m2Zq ?DZq ?hCZq ?hC2Zq ?hLZq ?hL2Zq ?lenZq ?len2Zq ?fZq ?lZq ?l2Zq ?foZq ?fo2Zq ?_ ?_; (case CZq => (first | ((refine FrL.cx ‹_› (by k_asm) (by k_asm) (by (intro q hq; kqd_all)) (by rfl))) | ((refine Cx.call ‹_› (by k_asm) (by rfl))))); (case XZq => assumption); (case TZq => assumption); (case dZq => ktr_room); (case OZq => (first | ((refine FrL.own ‹_› (by k_asm) (by keq_rows) (by krn_off))) | ((refine Own.of ‹_› (by k_asm) (by keq_rows))))); (case o1Zq => assumption); (case o2Zq => assumption); (case o3Zq => assumption); (case o4Zq => assumption); (case o5Zq => assumption); (case o6Zq => assumption); (case o7Zq => assumption); (case o8Zq => assumption); (case mZq => assumption); (case m1Zq => assumption); (case m2Zq => assumption); (case DZq => assumption); (case hCZq => (exact DO.get ‹_› (by k_asm) (by k_asm) (by k_mem))); (case hLZq => (exact DO.get ‹_› (by k_asm) (by k_asm) (by k_mem))); (case hC2Zq => assumption); (case hL2Zq => assumption); (case lenZq => assumption); (case len2Zq => assumption); (case fZq => regstrif_gather); (case lZq => regstrif_gather); (case l2Zq => regstrif_gather); (case foZq => regstrif_gather); (case fo2Zq => regstrif_gather)); (intro hZq' tkZq' nZq' tZq' foZq' tfoZq' oTZq' hscZq' hKZq' hdxZq' haTZq' hTdZq'; obtain ⟨FZq', NZq'⟩ := News.at2 (by k_asm) (by k_asm) (by k_updF) (by k_updF) hKZq' hdxZq' haTZq' (by k_ne)); rotate_left; (intro eZq' hZq' tkZq' hmZq' foZq' tfoZq' oTZq' hscZq' hKZq' hdxZq' haTZq' hTdZq' RZq'; dsimp only))))
                    (k_steps; repeat' ((first | ((try dsimp only [List.cons_append, List.nil_append]); (with_reducible show wpAny _ _ (call (Value.ref 1435) [Value.int _ _, Value.int _ _]) _ _ _); k_dflt (refine' law_behind_R ?XZq ?TZq ?CZq ?dZq ?m1Zq ?m2Zq ?p1Zq ?p2Zq ?_; (case CZq => (first | ((refine FrL.cx ‹_› (by k_asm) (by k_asm) (by (intro q hq; kqd_all)) (by rfl))) | ((refine Cx.call ‹_› (by k_asm) (by rfl))))); (case XZq => assumption); (case TZq => assumption); (case dZq => ktr_room); (case m1Zq => assumption); (case m2Zq => assumption); (case p1Zq => (first | assumption | omega)); (case p2Zq => (first | assumption | omega))); intro hZq' tkZq' tZq' hKZq'; obtain ⟨FZq', NZq'⟩ := News.at0 (by k_asm) (by k_asm) hKZq') | ((try dsimp only [List.cons_append, List.nil_append]); (with_reducible show wpAny _ _ (call (Value.ref 1274) [Value.ref _, Value.int 0 _]) _ _ _); k_dflt (refine' own_port_R ?XZq ?TZq ?CZq ?dZq ?OZq ?o1Zq ?o2Zq ?o3Zq ?o4Zq ?o5Zq ?o6Zq ?o7Zq ?o8Zq ?mZq ?m1Zq ?m2Zq ?DZq ?hCZq ?hC2Zq ?hLZq ?hL2Zq ?lenZq ?len2Zq ?fZq ?lZq ?l2Zq ?foZq ?fo2Zq ?_ ?_; (case CZq => (first | ((refine FrL.cx ‹_› (by k_asm) (by k_asm) (by (intro q hq; kqd_all)) (by rfl))) | ((refine Cx.call ‹_› (by k_asm) (by rfl))))); (case XZq => assumption); (case TZq => assumption); (case dZq => ktr_room); (case OZq => (first | ((refine FrL.own ‹_› (by k_asm) (by keq_rows) (by krn_off))) | ((refine Own.of ‹_› (by k_asm) (by keq_rows))))); (case o1Zq => assumption); (case o2Zq => assumption); (case o3Zq => assumption); (case o4Zq => assumption); (case o5Zq => assumption); (case o6Zq => assumption); (case o7Zq => assumption); (case o8Zq => assumption); (case mZq => assumption); (case m1Zq => assumption); (case m2Zq => assumption); (case DZq => assumption); (case hCZq => (exact DO.get ‹_› (by k_asm) (by k_asm) (by k_mem))); (case hLZq => (exact DO.get ‹_› (by k_asm) (by k_asm) (by k_mem))); (case hC2Zq => assumption); (case hL2Zq => assumption); (case lenZq => assumption); (case len2Zq => assumption); (case fZq => regstrif_gather); (case lZq => regstrif_gather); (case l2Zq => regstrif_gather); (case foZq => regstrif_gather); (case fo2Zq => regstrif_gather)); (intro hZq' tkZq' nZq' tZq' foZq' tfoZq' oTZq' hscZq' hKZq' hdxZq' haTZq' hTdZq'; obtain ⟨FZq', NZq'⟩ := News.at2 (by k_asm) (by k_asm) (by k_updF) (by k_updF) hKZq' hdxZq' haTZq' (by k_ne)); rotate_left; (intro eZq' hZq' tkZq' hmZq' foZq' tfoZq' oTZq' hscZq' hKZq' hdxZq' haTZq' hTdZq' RZq'; dsimp only))) <;> k_steps))
                    refine' hret _ _ _ _ _ _ vsH _ _ kvs hl1 hl2 (.inl rfl) hTd2 hI ?kps ?kp ?k1
                    case k1 => ked_read
                    case kps => first
                      | exact .inr ⟨c', rfl, codeRec_news (by k_asm) (by k_mem) d1 d2⟩
                      | exact .inr ⟨c', hpe, codeRec_up hcr (Fr.keep (by k_asm))⟩
                    case kp => ((refine kp_endF ‹_› ‹_› ‹_› (by k_asm) (by k_asm) (by (intro q hq; kqd_all)) (by ked_reads)))
end
section
local macro_rules | `(tactic| k_all) => `(tactic| first | (apply all_cons; (· k_ne); (· k_all)) | (refine all_app (by exact kt_ne ‹_› (by k_mem)) (by (refine' fr_ne ?P ?d; (case P => assumption); (case d => ktu_offI)))))
local macro_rules | `(tactic| kqd_all) => `(tactic| (first | with_reducible assumption | with_reducible exact List.mem_append_right _ (by with_reducible assumption) | (with_reducible refine memT8 ?_; kqd_all) | (with_reducible refine memT4 ?_; kqd_all) | (refine memT1 ?_; kqd_all)))
local macro_rules | `(tactic| kqd_in) => `(tactic| (first | with_reducible exact List.mem_append_left _ (by with_reducible assumption) | (with_reducible refine memT8 ?_; kqd_in) | (with_reducible refine memT4 ?_; kqd_in) | (refine memT1 ?_; kqd_in)))
local macro_rules | `(tactic| keq_hits) => `(tactic| (first | exact TailK.nil | (refine TailK.keep (by kaf_suf) (by keq_hits)) | (refine TailK.drop (by keq_hits))))
local macro_rules | `(tactic| kaf_suf) => `(tactic| first | exact noTup cls_inst | exact noTup cls_dict | exact noTup cls_list | exact noTup (cls_isDict ‹_›) | exact noTup (cls_dictH ‹_› ‹_›) | exact noTup ‹_› | exact noTup_cell ‹_› | assumption)
local macro_rules | `(tactic| walk_at "getN") => `(tactic| exact News.get (by k_asm) (by k_mem))
local macro_rules | `(tactic| walk_at "call builtin:sorted") => `(tactic| (k_dflt (refine' sorted_dict ?hh (by k_asm) (by k_asm) (by k_mem) ?d ?s ?l ?_; (case hh => rfl); (case d => assumption); (case s => assumption); (case l => regstrif_gather)); intro D' h' tk' vs' ns' n' F' N' l1' hI' hp' hw'; k_lt l1'))
section
local macro_rules | `(tactic| walk_at "compareOp NotEq ref ref") => `(tactic| (k_dflt (refine ne_empty (by k_asm) (by k_mem) ‹_› ‹_› (by k_mem) ‹_› ‹_› (by lsm_bools) ?_; k_whole)))
local macro_rules | `(tactic| walk_at "call builtin:list.pop") => `(tactic| (k_dflt (refine pop_ints (by k_asm) (by k_asm) (by k_updF) ‹_› ‹_› ‹_› (by regstrif_gather) ?_); intro h' vs' n' c' t' F' N' hI' hc'; (try dsimp only at N'); have hm' := key_at hc'; have hs' := some_at hm'; have hb' := small_key ‹_› hm'))
local macro_rules | `(tactic| walk_at "call builtin:dict.pop") => `(tactic| (k_dflt (refine pop_int (by k_asm) (by k_asm) (by k_updF) (by k_asm) ‹_› (by regstrif_gather) ?_); intro v' h' o' hv' F' N' hd'; (try dsimp only at N')))
local macro_rules | `(tactic| walk_at "setItem ref int") => `(tactic| (k_dflt (refine set_int (by k_asm) (by k_asm) (by k_updF) ‹_› (by regstrif_gather) ?_); intro h' o' F' N' hd'; (try dsimp only at N')))
local macro_rules | `(tactic| walk_at "isTrue BoolOp") => `(tactic| ((with_reducible show wpAny _ _ (isTrue (PySem.Expr.BoolOp _ (_ :: _ :: _) _) _ _) _ _ _); refine stop_ ?_))
section -- V7
theorem reg_V7 : PySem.Challenge.rw_pq1204_01 = PySem.Challenge.rw_pq1204_01 ∧ K = K := by k_fill; exact ⟨rfl, rfl⟩
noncomputable def JoinP (s : Shared) (g : Heap) (L : Addr) (m : Str → Option Value) (news : List (Addr × Obj)) (P : Prop) (c : Bool) (s9 : Shared) : Prop := ∃ h9 tk9, s9 = { s with heap := h9, toks := tk9 } ∧ Fr g L h9 m ∧ News g L h9 news ∧ (c = true → P)
theorem stop_join {M : Model} {A : Around} {t : Sem Bool} {Q : Bool → Shared → Prop} {E : Value → Shared → Prop} {s : Shared} {g : Heap} {L : Addr} {m : Str → Option Value} {news : List (Addr × Obj)} {P : Prop} (F : Fr g L s.heap m) (N : News g L s.heap news)
    (ev : wpAny M A t (JoinP s g L m news P) E s)
    (co : ∀ c h9 tk9, Fr g L h9 m → News g L h9 news → (c = true → P) → Q c { s with heap := h9, toks := tk9 }) : wpAny M A t Q E s :=
  wpAny_mono ev (fun c s9 ⟨h9, tk9, e, F9, N9, hc⟩ => e ▸ co c h9 tk9 F9 N9 hc) fun _ _ y => y
theorem turn_R {prog : Program} {w : World} {p : Program} {loose : List Str} {mean : ExcName → Option Value} {mg mb : Str → Option Value} {dp un : Nat} {gd : Option (List Code)} {cn : Str} {cs : Scope} {a : Addr} {ccd : Value} {cl : List (Str × Addr)} {outer : List Env} {h₀ : Heap} {Lc : Addr} {s : Shared} {Q E : Value → Shared → Prop} {aQ xS dS x dx aT xB dB dC dL aU aH nH nQ : Nat} {rS rP j1 j2 : _} {f l tfo fo} {A S turn : Int} {ta ts tt : Tok} {oT oC oL oU : Obj} {kvs kvsU : List (Int × Value)} {vsH : List Value} {ps : Array Value} {xsC : CL} {xsL : LL}
  (X₀ : (K w.params).In h₀) (T₀ : Top p loose mean mg mb h₀) (C₀ : Cx h₀ (envX cn cs Lc a ccd cl :: outer) s.heap) (hd : dp + 200 < recursionLimit) (hun : un + 400 < cLine)
  (O : Own h₀ (envX cn cs Lc a ccd cl :: outer) s.heap [(xS, instObj 1396 dS), (dS, dSock w x xB rS), (x, instObj 154 dx), (dx, dPorts w f l fo tfo aT rP), (aT, oT), (xB, instObj 1138 dB), (dB, dTable w dC dL j1 j2), (dC, oC), (dL, oL), (aU, oU), (aH, PySem.W.listOf vsH.toArray nH), (aQ, PySem.W.listOf #[.int A ta, .int S ts] nQ), (1442, tabObj ps)])
  (o1 : dS < xS) (o2 : xS < dx) (o3 : dx < x) (o4 : x < aT) (o5 : aT < dB) (o6 : dB < xB) (o7 : xB < dC) (o8 : dC < dL) (o9 : dL < aU) (o10 : aU < aH) (oQ : aQ < dS) (o0 : 1442 < aQ) (hsm : (aT == sysModules) = false) (hsm1 : (dC == sysModules) = false) (hsm2 : (dL == sysModules) = false) (hsmU : (aU == sysModules) = false)
  (ht : 0 ≤ turn) (ht2 : turn ≤ 16) (hS1 : 0 ≤ S) (hS2 : S < 2147483647)
  (hTd : oT.IsDictOf (intKind prog w) kvs) (hUd : oU.IsDictOf (intKind prog w) kvsU) (hI : IntsAre vsH (kvs.map (·.1))) (hkb : ∀ x ∈ kvs, 30 ≤ x.1 ∧ x.1 ≤ 33) (hlen : kvs.length ≤ 20)
  (hC : s.heap.DictOfH (ttKind prog w) dC xsC) (hL : s.heap.DictOfH (tupleKind (intKind prog w)) dL xsL) (TI : TInv turn kvsU xsC xsL)
  (hps : PsOk ⟨981, 28, 981, 59⟩ (Str.ofString "_law_turn_right.<locals>.<lambda>") ps s.heap)
  (hret : ∀ h' tk' A' S' ta' ts' nQ' kvs' vsH' nH' oT' kvsU' oU' xsC' oC' xsL' oL' ps', 0 ≤ S' → S' < 2147483647 → kvs'.Sublist kvs → oT'.IsDictOf (intKind prog w) kvs' → IntsAre vsH' (kvs'.map (·.1)) → oU'.IsDictOf (intKind prog w) kvsU' → TInv (turn + 1) kvsU' xsC' xsL' →
    h'.DictOfH (ttKind prog w) dC xsC' → h'.DictOfH (tupleKind (intKind prog w)) dL xsL' → PsOk ⟨981, 28, 981, 59⟩ (Str.ofString "_law_turn_right.<locals>.<lambda>") ps' h' → Kp [aQ, aT, dC, dL, aU, aH, 1442] (frs (envX cn cs Lc a ccd cl :: outer)) s.heap h' →
    AllAt h' [(xS, instObj 1396 dS), (dS, dSock w x xB rS), (x, instObj 154 dx), (dx, dPorts w f l fo tfo aT rP), (aT, oT'), (xB, instObj 1138 dB), (dB, dTable w dC dL j1 j2), (dC, oC'), (dL, oL'), (aU, oU'), (aH, PySem.W.listOf vsH'.toArray nH'), (aQ, PySem.W.listOf #[.int A' ta', .int S' ts'] nQ'), (1442, tabObj ps')] →
    Q (.bool true) { s with heap := h', toks := tk' }) :
  wpAny (model prog w) (ktrTop dp un gd cn cs Lc a ccd cl outer) (call (.ref 1447) [.ref aQ, .ref xS, .ref aU, .ref aH, .int turn tt]) Q E s := by
  have hA : Asc [1442, aQ, dS, xS, dx, x, aT, dB, xB, dC, dL, aU, aH] := ⟨o0, oQ, o1, o2, o3, o4, o5, o6, o7, o8, o9, o10, trivial⟩
  refine wpAny_call ?_; k_dflt ((refine' enterFC ?k1Zq ?k2Zq ?k3Zq ?k4Zq ?k6Zq ?k7Zq ?k8Zq ?k9Zq ?kBZq ?kDZq ?_ ?c2Zq ?c3Zq ?c4Zq; (case k1Zq => assumption); (case k2Zq => assumption); (case k3Zq => assumption); (case k4Zq => assumption); (case k6Zq => k_is); (case k7Zq => k_is); (case k8Zq => ktr_room); (case k9Zq => first | exact BindsTo.of_eq rfl | exact binds_K (Frag.In.keeps (by assumption) (Cx.st (by assumption))) rfl (by k_is) rfl rfl rfl); (case kBZq => exact rfl); (case kDZq => decide +kernel); (case c2Zq => exact rfl); (case c3Zq => exact rfl); (case c4Zq => exact rfl); k_whole)); intro g L' h' tk' cells' fr X' T' P GK GS' F' N' Y' l1' GU GL; have hfl := P.lt (fun q hq => l1' q (List.mem_append_right _ hq)); (try simp only [List.cons_append, List.nil_append] at N' l1'); (try k_lt l1'); k_cells Y'; (try simp only [List.cons_append, List.nil_append] at N'); dsimp only; (try k_fold)
  have cT : (tabObj ps).cls ≠ .type "tuple" := fun h => nomatch h
  have cC := cls_dictH hC (O.get (by k_mem))
  have cL := cls_dictH hL (O.get (by k_mem))
  have DC := DO.ofF tupKnd2_tt hC GK C₀ O (by kct_strs) (by k_mem)
  have DL := DO.ofF tupKnd2_t hL GK C₀ O (by kct_strs) (by k_mem)
  have off := fun q hq => (O q hq).2.2
  simp only [List.forall_mem_cons] at off
  obtain ⟨f1, f2, f3, f4, f5, f6, f7, f8, f9, f10, f11, f12, f13, -⟩ := off
  have hsz := TI.sizes
  have hlU := TI.len
  have hlC : xsC.length ≤ 1000 := len_l hsz hlU ht2
  have hlL : xsL.length ≤ 1000 := len_r hsz hlU ht2
  k_steps
  (first | ((try dsimp only [List.cons_append, List.nil_append]); (with_reducible show wpAny _ _ (call (Value.ref 1118) _) _ _ _); k_dflt (refine' remove_R ?XZq ?TZq ?CZq ?dZq ?uZq ?OZq ?o1Zq ?o2Zq ?o3Zq ?m1Zq ?m2Zq ?hCZq ?hLZq ?vCZq ?vLZq ?lenZq ?len2Zq ?_; (case CZq => (first | ((refine FrL.cx ‹_› (by k_asm) (by k_asm) (by (intro q hq; kqd_all)) (by rfl))) | ((refine Cx.call ‹_› (by k_asm) (by rfl))))); (case XZq => assumption); (case TZq => assumption); (case dZq => ktr_room); (case uZq => exact un_lt (by assumption) rfl (by decide)); (case OZq => (first | ((refine FrL.own ‹_› (by k_asm) (by keq_rows) (by krn_off))) | ((refine Own.of ‹_› (by k_asm) (by keq_rows))))); (case o1Zq => assumption); (case o2Zq => assumption); (case o3Zq => assumption); (case m1Zq => assumption); (case m2Zq => assumption); (case hCZq => (exact DO.get ‹_› (by k_asm) (by k_asm) (by k_mem))); (case hLZq => (exact DO.get ‹_› (by k_asm) (by k_asm) (by k_mem))); (case vCZq => exact TInv.vC (by assumption)); (case vLZq => exact TInv.vL (by assumption)); (case lenZq => assumption); (case len2Zq => assumption)); intro hZq' tkZq' tZq' oCZq' oLZq' hKZq' gCZq' gLZq' hCZq' hLZq'; obtain ⟨FZq', NZq'⟩ := News.at2 (by k_asm) (by k_asm) (by k_updF) (by k_updF) hKZq' gCZq' gLZq' (by k_ne); (try dsimp only at NZq')) | ((try dsimp only [List.cons_append, List.nil_append]); (with_reducible show wpAny _ _ (call (Value.ref 1113) _) _ _ _); k_dflt (refine' connect_R ?XZq ?TZq ?CZq ?dZq ?uZq ?OZq ?o1Zq ?o2Zq ?o3Zq ?m2Zq ?hCZq ?lenZq ?nkZq ?h1Zq ?h2Zq ?_; (case CZq => (first | ((refine FrL.cx ‹_› (by k_asm) (by k_asm) (by (intro q hq; kqd_all)) (by rfl))) | ((refine Cx.call ‹_› (by k_asm) (by rfl))))); (case XZq => assumption); (case TZq => assumption); (case dZq => ktr_room); (case uZq => exact un_lt (by assumption) rfl (by decide)); (case OZq => (first | ((refine FrL.own ‹_› (by k_asm) (by keq_rows) (by krn_off))) | ((refine Own.of ‹_› (by k_asm) (by keq_rows))))); (case o1Zq => assumption); (case o2Zq => assumption); (case o3Zq => assumption); (case m2Zq => assumption); (case hCZq => (exact DO.get ‹_› (by k_asm) (by k_asm) (by k_mem))); (case lenZq => assumption); (case h1Zq => exact is_tup2 (by k_asm) (by k_mem)); (case h2Zq => exact is_tup2 (by k_asm) (by k_mem)); (case nkZq => exact TInv.noC (by assumption) _ _)); intro hZq' tkZq' oCZq' aTZq' hKZq' gZq' hCZq'; obtain ⟨FZq', NZq'⟩ := News.at1 (by k_asm) (by k_asm) (by k_updF) hKZq' gZq'; (try dsimp only at NZq')) | ((try dsimp only [List.cons_append, List.nil_append]); (with_reducible show wpAny _ _ (call (Value.ref 1106) _) _ _ _); k_dflt (refine' listen_R ?XZq ?TZq ?CZq ?dZq ?uZq ?OZq ?o1Zq ?o2Zq ?o3Zq ?m2Zq ?hLZq ?lenZq ?nkZq ?_; (case CZq => (first | ((refine FrL.cx ‹_› (by k_asm) (by k_asm) (by (intro q hq; kqd_all)) (by rfl))) | ((refine Cx.call ‹_› (by k_asm) (by rfl))))); (case XZq => assumption); (case TZq => assumption); (case dZq => ktr_room); (case uZq => exact un_lt (by assumption) rfl (by decide)); (case OZq => (first | ((refine FrL.own ‹_› (by k_asm) (by keq_rows) (by krn_off))) | ((refine Own.of ‹_› (by k_asm) (by keq_rows))))); (case o1Zq => assumption); (case o2Zq => assumption); (case o3Zq => assumption); (case m2Zq => assumption); (case hLZq => (exact DO.get ‹_› (by k_asm) (by k_asm) (by k_mem))); (case lenZq => assumption); (case nkZq => exact TInv.noL (by assumption) _)); intro hZq' tkZq' oLZq' aTZq' hKZq' gZq' hLZq'; obtain ⟨FZq', NZq'⟩ := News.at1 (by k_asm) (by k_asm) (by k_updF) hKZq' gZq'; (try dsimp only at NZq')) | ((try dsimp only [List.cons_append, List.nil_append]); (with_reducible show wpAny _ _ (call (Value.ref 1274) [Value.ref _, Value.int 77 _]) _ _ _); k_dflt (refine' own77_R ?XZq ?TZq ?CZq ?dZq ?_; (case CZq => (first | ((refine FrL.cx ‹_› (by k_asm) (by k_asm) (by (intro q hq; kqd_all)) (by rfl))) | ((refine Cx.call ‹_› (by k_asm) (by rfl))))); (case XZq => assumption); (case TZq => assumption); (case dZq => ktr_room)); intro hZq' tkZq' hKZq'; obtain ⟨FZq', NZq'⟩ := News.at0 (by k_asm) (by k_asm) hKZq') | ((try dsimp only [List.cons_append, List.nil_append]); (with_reducible show wpAny _ _ (call (Value.ref 1421) [Value.ref _, Value.ref _]) _ _ _); k_dflt (refine' law_one_R ?XZq ?TZq ?CZq ?dZq ?OZq ?o1Zq ?IZq ?n1Zq ?n2Zq ?S1Zq ?S2Zq ?_; (case CZq => (first | ((refine FrL.cx ‹_› (by k_asm) (by k_asm) (by (intro q hq; kqd_all)) (by rfl))) | ((refine Cx.call ‹_› (by k_asm) (by rfl))))); (case XZq => assumption); (case TZq => assumption); (case dZq => ktr_room); (case OZq => (first | ((refine FrL.own ‹_› (by k_asm) (by keq_rows) (by krn_off))) | ((refine Own.of ‹_› (by k_asm) (by keq_rows))))); (case o1Zq => regstrif_gather); (case IZq => assumption); (case n1Zq => assumption); (case n2Zq => assumption); (case S1Zq => assumption); (case S2Zq => assumption)); intro hZq' tkZq' dZq' tdZq' AZq' SZq' taZq' tsZq' nZq' b1Zq' b3Zq' b4Zq' hKZq' gZq'; obtain ⟨FZq', NZq'⟩ := News.at1 (by k_asm) (by k_asm) (by k_updF) hKZq' gZq'; (try dsimp only at NZq')) | ((try dsimp only [List.cons_append, List.nil_append]); (with_reducible show wpAny _ _ (call (Value.ref 1414) [Value.ref _, Value.int _ _]) _ _ _); k_dflt (refine' law_take_R ?XZq ?TZq ?CZq ?dZq ?OZq ?m1Zq ?m2Zq ?S1Zq ?S2Zq ?_; (case CZq => (first | ((refine FrL.cx ‹_› (by k_asm) (by k_asm) (by (intro q hq; kqd_all)) (by rfl))) | ((refine Cx.call ‹_› (by k_asm) (by rfl))))); (case XZq => assumption); (case TZq => assumption); (case dZq => ktr_room); (case OZq => (first | ((refine FrL.own ‹_› (by k_asm) (by keq_rows) (by krn_off))) | ((refine Own.of ‹_› (by k_asm) (by keq_rows))))); (case m1Zq => regstrif_gather); (case m2Zq => regstrif_gather); (case S1Zq => assumption); (case S2Zq => assumption)); intro hZq' tkZq' dZq' tdZq' AZq' SZq' taZq' tsZq' nZq' b1Zq' b2Zq' b3Zq' b4Zq' hKZq' gZq'; obtain ⟨FZq', NZq'⟩ := News.at1 (by k_asm) (by k_asm) (by k_updF) hKZq' gZq'; (try dsimp only at NZq')) | ((try dsimp only [List.cons_append, List.nil_append]); (with_reducible show wpAny _ _ (call (Value.ref 151) [Value.ref _, Value.int _ _]) _ _ _); k_dflt (refine' free_R ?XZq ?TZq ?CZq ?dZq ?OZq ?o1Zq ?o2Zq ?mZq ?DZq ?lenZq ?nbZq ?_ ?_; (case CZq => (first | ((refine FrL.cx ‹_› (by k_asm) (by k_asm) (by (intro q hq; kqd_all)) (by rfl))) | ((refine Cx.call ‹_› (by k_asm) (by rfl))))); (case XZq => assumption); (case TZq => assumption); (case dZq => ktr_room); (case OZq => (first | ((refine FrL.own ‹_› (by k_asm) (by keq_rows) (by krn_off))) | ((refine Own.of ‹_› (by k_asm) (by keq_rows))))); (case o1Zq => regstrif_gather); (case o2Zq => regstrif_gather); (case mZq => assumption); (case DZq => k_asm); (case lenZq => first | assumption | exact small_stored (by assumption)); (case nbZq => assumption)); (intro hZq' tkZq' oTZq' hsZq' hTdZq' hKZq' haTZq'; obtain ⟨FZq', NZq'⟩ := News.at1 (by k_asm) (by k_asm) (by k_updF) hKZq' haTZq'); rotate_left; (intro eZq' hZq' tkZq' hmZq' hscZq' hKZq' RZq'; dsimp only)))
  k_steps
  (first | ((try dsimp only [List.cons_append, List.nil_append]); (with_reducible show wpAny _ _ (call (Value.ref 1118) _) _ _ _); k_dflt (refine' remove_R ?XZq ?TZq ?CZq ?dZq ?uZq ?OZq ?o1Zq ?o2Zq ?o3Zq ?m1Zq ?m2Zq ?hCZq ?hLZq ?vCZq ?vLZq ?lenZq ?len2Zq ?_; (case CZq => (first | ((refine FrL.cx ‹_› (by k_asm) (by k_asm) (by (intro q hq; kqd_all)) (by rfl))) | ((refine Cx.call ‹_› (by k_asm) (by rfl))))); (case XZq => assumption); (case TZq => assumption); (case dZq => ktr_room); (case uZq => exact un_lt (by assumption) rfl (by decide)); (case OZq => (first | ((refine FrL.own ‹_› (by k_asm) (by keq_rows) (by krn_off))) | ((refine Own.of ‹_› (by k_asm) (by keq_rows))))); (case o1Zq => assumption); (case o2Zq => assumption); (case o3Zq => assumption); (case m1Zq => assumption); (case m2Zq => assumption); (case hCZq => (exact DO.get ‹_› (by k_asm) (by k_asm) (by k_mem))); (case hLZq => (exact DO.get ‹_› (by k_asm) (by k_asm) (by k_mem))); (case vCZq => exact TInv.vC (by assumption)); (case vLZq => exact TInv.vL (by assumption)); (case lenZq => assumption); (case len2Zq => assumption)); intro hZq' tkZq' tZq' oCZq' oLZq' hKZq' gCZq' gLZq' hCZq' hLZq'; obtain ⟨FZq', NZq'⟩ := News.at2 (by k_asm) (by k_asm) (by k_updF) (by k_updF) hKZq' gCZq' gLZq' (by k_ne); (try dsimp only at NZq')) | ((try dsimp only [List.cons_append, List.nil_append]); (with_reducible show wpAny _ _ (call (Value.ref 1113) _) _ _ _); k_dflt (refine' connect_R ?XZq ?TZq ?CZq ?dZq ?uZq ?OZq ?o1Zq ?o2Zq ?o3Zq ?m2Zq ?hCZq ?lenZq ?nkZq ?h1Zq ?h2Zq ?_; (case CZq => (first | ((refine FrL.cx ‹_› (by k_asm) (by k_asm) (by (intro q hq; kqd_all)) (by rfl))) | ((refine Cx.call ‹_› (by k_asm) (by rfl))))); (case XZq => assumption); (case TZq => assumption); (case dZq => ktr_room); (case uZq => exact un_lt (by assumption) rfl (by decide)); (case OZq => (first | ((refine FrL.own ‹_› (by k_asm) (by keq_rows) (by krn_off))) | ((refine Own.of ‹_› (by k_asm) (by keq_rows))))); (case o1Zq => assumption); (case o2Zq => assumption); (case o3Zq => assumption); (case m2Zq => assumption); (case hCZq => (exact DO.get ‹_› (by k_asm) (by k_asm) (by k_mem))); (case lenZq => assumption); (case h1Zq => exact is_tup2 (by k_asm) (by k_mem)); (case h2Zq => exact is_tup2 (by k_asm) (by k_mem)); (case nkZq => exact TInv.noC (by assumption) _ _)); intro hZq' tkZq' oCZq' aTZq' hKZq' gZq' hCZq'; obtain ⟨FZq', NZq'⟩ := News.at1 (by k_asm) (by k_asm) (by k_updF) hKZq' gZq'; (try dsimp only at NZq')) | ((try dsimp only [List.cons_append, List.nil_append]); (with_reducible show wpAny _ _ (call (Value.ref 1106) _) _ _ _); k_dflt (refine' listen_R ?XZq ?TZq ?CZq ?dZq ?uZq ?OZq ?o1Zq ?o2Zq ?o3Zq ?m2Zq ?hLZq ?lenZq ?nkZq ?_; (case CZq => (first | ((refine FrL.cx ‹_› (by k_asm) (by k_asm) (by (intro q hq; kqd_all)) (by rfl))) | ((refine Cx.call ‹_› (by k_asm) (by rfl))))); (case XZq => assumption); (case TZq => assumption); (case dZq => ktr_room); (case uZq => exact un_lt (by assumption) rfl (by decide)); (case OZq => (first | ((refine FrL.own ‹_› (by k_asm) (by keq_rows) (by krn_off))) | ((refine Own.of ‹_› (by k_asm) (by keq_rows))))); (case o1Zq => assumption); (case o2Zq => assumption); (case o3Zq => assumption); (case m2Zq => assumption); (case hLZq => (exact DO.get ‹_› (by k_asm) (by k_asm) (by k_mem))); (case lenZq => assumption); (case nkZq => exact TInv.noL (by assumption) _)); intro hZq' tkZq' oLZq' aTZq' hKZq' gZq' hLZq'; obtain ⟨FZq', NZq'⟩ := News.at1 (by k_asm) (by k_asm) (by k_updF) hKZq' gZq'; (try dsimp only at NZq')) | ((try dsimp only [List.cons_append, List.nil_append]); (with_reducible show wpAny _ _ (call (Value.ref 1274) [Value.ref _, Value.int 77 _]) _ _ _); k_dflt (refine' own77_R ?XZq ?TZq ?CZq ?dZq ?_; (case CZq => (first | ((refine FrL.cx ‹_› (by k_asm) (by k_asm) (by (intro q hq; kqd_all)) (by rfl))) | ((refine Cx.call ‹_› (by k_asm) (by rfl))))); (case XZq => assumption); (case TZq => assumption); (case dZq => ktr_room)); intro hZq' tkZq' hKZq'; obtain ⟨FZq', NZq'⟩ := News.at0 (by k_asm) (by k_asm) hKZq') | ((try dsimp only [List.cons_append, List.nil_append]); (with_reducible show wpAny _ _ (call (Value.ref 1421) [Value.ref _, Value.ref _]) _ _ _); k_dflt (refine' law_one_R ?XZq ?TZq ?CZq ?dZq ?OZq ?o1Zq ?IZq ?n1Zq ?n2Zq ?S1Zq ?S2Zq ?_; (case CZq => (first | ((refine FrL.cx ‹_› (by k_asm) (by k_asm) (by (intro q hq; kqd_all)) (by rfl))) | ((refine Cx.call ‹_› (by k_asm) (by rfl))))); (case XZq => assumption); (case TZq => assumption); (case dZq => ktr_room); (case OZq => (first | ((refine FrL.own ‹_› (by k_asm) (by keq_rows) (by krn_off))) | ((refine Own.of ‹_› (by k_asm) (by keq_rows))))); (case o1Zq => regstrif_gather); (case IZq => assumption); (case n1Zq => assumption); (case n2Zq => assumption); (case S1Zq => assumption); (case S2Zq => assumption)); intro hZq' tkZq' dZq' tdZq' AZq' SZq' taZq' tsZq' nZq' b1Zq' b3Zq' b4Zq' hKZq' gZq'; obtain ⟨FZq', NZq'⟩ := News.at1 (by k_asm) (by k_asm) (by k_updF) hKZq' gZq'; (try dsimp only at NZq')) | ((try dsimp only [List.cons_append, List.nil_append]); (with_reducible show wpAny _ _ (call (Value.ref 1414) [Value.ref _, Value.int _ _]) _ _ _); k_dflt (refine' law_take_R ?XZq ?TZq ?CZq ?dZq ?OZq ?m1Zq ?m2Zq ?S1Zq ?S2Zq ?_; (case CZq => (first | ((refine FrL.cx ‹_› (by k_asm) (by k_asm) (by (intro q hq; kqd_all)) (by rfl))) | ((refine Cx.call ‹_› (by k_asm) (by rfl))))); (case XZq => assumption); (case TZq => assumption); (case dZq => ktr_room); (case OZq => (first | ((refine FrL.own ‹_› (by k_asm) (by keq_rows) (by krn_off))) | ((refine Own.of ‹_› (by k_asm) (by keq_rows))))); (case m1Zq => regstrif_gather); (case m2Zq => regstrif_gather); (case S1Zq => assumption); (case S2Zq => assumption)); intro hZq' tkZq' dZq' tdZq' AZq' SZq' taZq' tsZq' nZq' b1Zq' b2Zq' b3Zq' b4Zq' hKZq' gZq'; obtain ⟨FZq', NZq'⟩ := News.at1 (by k_asm) (by k_asm) (by k_updF) hKZq' gZq'; (try dsimp only at NZq')) | ((try dsimp only [List.cons_append, List.nil_append]); (with_reducible show wpAny _ _ (call (Value.ref 151) [Value.ref _, Value.int _ _]) _ _ _); k_dflt (refine' free_R ?XZq ?TZq ?CZq ?dZq ?OZq ?o1Zq ?o2Zq ?mZq ?DZq ?lenZq ?nbZq ?_ ?_; (case CZq => (first | ((refine FrL.cx ‹_› (by k_asm) (by k_asm) (by (intro q hq; kqd_all)) (by rfl))) | ((refine Cx.call ‹_› (by k_asm) (by rfl))))); (case XZq => assumption); (case TZq => assumption); (case dZq => ktr_room); (case OZq => (first | ((refine FrL.own ‹_› (by k_asm) (by keq_rows) (by krn_off))) | ((refine Own.of ‹_› (by k_asm) (by keq_rows))))); (case o1Zq => regstrif_gather); (case o2Zq => regstrif_gather); (case mZq => assumption); (case DZq => k_asm); (case lenZq => first | assumption | exact small_stored (by assumption)); (case nbZq => assumption)); (intro hZq' tkZq' oTZq' hsZq' hTdZq' hKZq' haTZq'; obtain ⟨FZq', NZq'⟩ := News.at1 (by k_asm) (by k_asm) (by k_updF) hKZq' haTZq'); rotate_left; (intro eZq' hZq' tkZq' hmZq' hscZq' hKZq' RZq'; dsimp only)))
  k_steps
  · (first | ((try dsimp only [List.cons_append, List.nil_append]); (with_reducible show wpAny _ _ (call (Value.ref 1118) _) _ _ _); k_dflt (refine' remove_R ?XZq ?TZq ?CZq ?dZq ?uZq ?OZq ?o1Zq ?o2Zq ?o3Zq ?m1Zq ?m2Zq ?hCZq ?hLZq ?vCZq ?vLZq ?lenZq ?len2Zq ?_; (case CZq => (first | ((refine FrL.cx ‹_› (by k_asm) (by k_asm) (by (intro q hq; kqd_all)) (by rfl))) | ((refine Cx.call ‹_› (by k_asm) (by rfl))))); (case XZq => assumption); (case TZq => assumption); (case dZq => ktr_room); (case uZq => exact un_lt (by assumption) rfl (by decide)); (case OZq => (first | ((refine FrL.own ‹_› (by k_asm) (by keq_rows) (by krn_off))) | ((refine Own.of ‹_› (by k_asm) (by keq_rows))))); (case o1Zq => assumption); (case o2Zq => assumption); (case o3Zq => assumption); (case m1Zq => assumption); (case m2Zq => assumption); (case hCZq => (exact DO.get ‹_› (by k_asm) (by k_asm) (by k_mem))); (case hLZq => (exact DO.get ‹_› (by k_asm) (by k_asm) (by k_mem))); (case vCZq => exact TInv.vC (by assumption)); (case vLZq => exact TInv.vL (by assumption)); (case lenZq => assumption); (case len2Zq => assumption)); intro hZq' tkZq' tZq' oCZq' oLZq' hKZq' gCZq' gLZq' hCZq' hLZq'; obtain ⟨FZq', NZq'⟩ := News.at2 (by k_asm) (by k_asm) (by k_updF) (by k_updF) hKZq' gCZq' gLZq' (by k_ne); (try dsimp only at NZq')) | ((try dsimp only [List.cons_append, List.nil_append]); (with_reducible show wpAny _ _ (call (Value.ref 1113) _) _ _ _); k_dflt (refine' connect_R ?XZq ?TZq ?CZq ?dZq ?uZq ?OZq ?o1Zq ?o2Zq ?o3Zq ?m2Zq ?hCZq ?lenZq ?nkZq ?h1Zq ?h2Zq ?_; (case CZq => (first | ((refine FrL.cx ‹_› (by k_asm) (by k_asm) (by (intro q hq; kqd_all)) (by rfl))) | ((refine Cx.call ‹_› (by k_asm) (by rfl))))); (case XZq => assumption); (case TZq => assumption); (case dZq => ktr_room); (case uZq => exact un_lt (by assumption) rfl (by decide)); (case OZq => (first | ((refine FrL.own ‹_› (by k_asm) (by keq_rows) (by krn_off))) | ((refine Own.of ‹_› (by k_asm) (by keq_rows))))); (case o1Zq => assumption); (case o2Zq => assumption); (case o3Zq => assumption); (case m2Zq => assumption); (case hCZq => (exact DO.get ‹_› (by k_asm) (by k_asm) (by k_mem))); (case lenZq => assumption); (case h1Zq => exact is_tup2 (by k_asm) (by k_mem)); (case h2Zq => exact is_tup2 (by k_asm) (by k_mem)); (case nkZq => exact TInv.noC (by assumption) _ _)); intro hZq' tkZq' oCZq' aTZq' hKZq' gZq' hCZq'; obtain ⟨FZq', NZq'⟩ := News.at1 (by k_asm) (by k_asm) (by k_updF) hKZq' gZq'; (try dsimp only at NZq')) | ((try dsimp only [List.cons_append, List.nil_append]); (with_reducible show wpAny _ _ (call (Value.ref 1106) _) _ _ _); k_dflt (refine' listen_R ?XZq ?TZq ?CZq ?dZq ?uZq ?OZq ?o1Zq ?o2Zq ?o3Zq ?m2Zq ?hLZq ?lenZq ?nkZq ?_; (case CZq => (first | ((refine FrL.cx ‹_› (by k_asm) (by k_asm) (by (intro q hq; kqd_all)) (by rfl))) | ((refine Cx.call ‹_› (by k_asm) (by rfl))))); (case XZq => assumption); (case TZq => assumption); (case dZq => ktr_room); (case uZq => exact un_lt (by assumption) rfl (by decide)); (case OZq => (first | ((refine FrL.own ‹_› (by k_asm) (by keq_rows) (by krn_off))) | ((refine Own.of ‹_› (by k_asm) (by keq_rows))))); (case o1Zq => assumption); (case o2Zq => assumption); (case o3Zq => assumption); (case m2Zq => assumption); (case hLZq => (exact DO.get ‹_› (by k_asm) (by k_asm) (by k_mem))); (case lenZq => assumption); (case nkZq => exact TInv.noL (by assumption) _)); intro hZq' tkZq' oLZq' aTZq' hKZq' gZq' hLZq'; obtain ⟨FZq', NZq'⟩ := News.at1 (by k_asm) (by k_asm) (by k_updF) hKZq' gZq'; (try dsimp only at NZq')) | ((try dsimp only [List.cons_append, List.nil_append]); (with_reducible show wpAny _ _ (call (Value.ref 1274) [Value.ref _, Value.int 77 _]) _ _ _); k_dflt (refine' own77_R ?XZq ?TZq ?CZq ?dZq ?_; (case CZq => (first | ((refine FrL.cx ‹_› (by k_asm) (by k_asm) (by (intro q hq; kqd_all)) (by rfl))) | ((refine Cx.call ‹_› (by k_asm) (by rfl))))); (case XZq => assumption); (case TZq => assumption); (case dZq => ktr_room)); intro hZq' tkZq' hKZq'; obtain ⟨FZq', NZq'⟩ := News.at0 (by k_asm) (by k_asm) hKZq') | ((try dsimp only [List.cons_append, List.nil_append]); (with_reducible show wpAny _ _ (call (Value.ref 1421) [Value.ref _, Value.ref _]) _ _ _); k_dflt (refine' law_one_R ?XZq ?TZq ?CZq ?dZq ?OZq ?o1Zq ?IZq ?n1Zq ?n2Zq ?S1Zq ?S2Zq ?_; (case CZq => (first | ((refine FrL.cx ‹_› (by k_asm) (by k_asm) (by (intro q hq; kqd_all)) (by rfl))) | ((refine Cx.call ‹_› (by k_asm) (by rfl))))); (case XZq => assumption); (case TZq => assumption); (case dZq => ktr_room); (case OZq => (first | ((refine FrL.own ‹_› (by k_asm) (by keq_rows) (by krn_off))) | ((refine Own.of ‹_› (by k_asm) (by keq_rows))))); (case o1Zq => regstrif_gather); (case IZq => assumption); (case n1Zq => assumption); (case n2Zq => assumption); (case S1Zq => assumption); (case S2Zq => assumption)); intro hZq' tkZq' dZq' tdZq' AZq' SZq' taZq' tsZq' nZq' b1Zq' b3Zq' b4Zq' hKZq' gZq'; obtain ⟨FZq', NZq'⟩ := News.at1 (by k_asm) (by k_asm) (by k_updF) hKZq' gZq'; (try dsimp only at NZq')) | ((try dsimp only [List.cons_append, List.nil_append]); (with_reducible show wpAny _ _ (call (Value.ref 1414) [Value.ref _, Value.int _ _]) _ _ _); k_dflt (refine' law_take_R ?XZq ?TZq ?CZq ?dZq ?OZq ?m1Zq ?m2Zq ?S1Zq ?S2Zq ?_; (case CZq => (first | ((refine FrL.cx ‹_› (by k_asm) (by k_asm) (by (intro q hq; kqd_all)) (by rfl))) | ((refine Cx.call ‹_› (by k_asm) (by rfl))))); (case XZq => assumption); (case TZq => assumption); (case dZq => ktr_room); (case OZq => (first | ((refine FrL.own ‹_› (by k_asm) (by keq_rows) (by krn_off))) | ((refine Own.of ‹_› (by k_asm) (by keq_rows))))); (case m1Zq => regstrif_gather); (case m2Zq => regstrif_gather); (case S1Zq => assumption); (case S2Zq => assumption)); intro hZq' tkZq' dZq' tdZq' AZq' SZq' taZq' tsZq' nZq' b1Zq' b2Zq' b3Zq' b4Zq' hKZq' gZq'; obtain ⟨FZq', NZq'⟩ := News.at1 (by k_asm) (by k_asm) (by k_updF) hKZq' gZq'; (try dsimp only at NZq')) | ((try dsimp only [List.cons_append, List.nil_append]); (with_reducible show wpAny _ _ (call (Value.ref 151) [Value.ref _, Value.int _ _]) _ _ _); k_dflt (refine' free_R ?XZq ?TZq ?CZq ?dZq ?OZq ?o1Zq ?o2Zq ?mZq ?DZq ?lenZq ?nbZq ?_ ?_; (case CZq => (first | ((refine FrL.cx ‹_› (by k_asm) (by k_asm) (by (intro q hq; kqd_all)) (by rfl))) | ((refine Cx.call ‹_› (by k_asm) (by rfl))))); (case XZq => assumption); (case TZq => assumption); (case dZq => ktr_room); (case OZq => (first | ((refine FrL.own ‹_› (by k_asm) (by keq_rows) (by krn_off))) | ((refine Own.of ‹_› (by k_asm) (by keq_rows))))); (case o1Zq => regstrif_gather); (case o2Zq => regstrif_gather); (case mZq => assumption); (case DZq => k_asm); (case lenZq => first | assumption | exact small_stored (by assumption)); (case nbZq => assumption)); (intro hZq' tkZq' oTZq' hsZq' hTdZq' hKZq' haTZq'; obtain ⟨FZq', NZq'⟩ := News.at1 (by k_asm) (by k_asm) (by k_updF) hKZq' haTZq'); rotate_left; (intro eZq' hZq' tkZq' hmZq' hscZq' hKZq' RZq'; dsimp only)))
    rename Heap.DictOfH _ _ _ (xsL ++ _) => hL9
    rename Heap.get? _ dL = some _ => g9
    have chL9 := cls_dictH hL9 g9
    obtain ⟨kt, kt1, kt2, DK9⟩ := dk_of fin_t (by k_asm) hL9 g9
    obtain ⟨N9, hkt⟩ := kt_newsK (fr := fr) (by k_asm) (by keq_hits) kt1 kt2
    (try dsimp only at N9)
    (try dsimp only at hkt)
    k_steps
    (try (first | ((try dsimp only [List.cons_append, List.nil_append]); (with_reducible show wpAny _ _ (call (Value.ref 1118) _) _ _ _); k_dflt (refine' remove_R ?XZq ?TZq ?CZq ?dZq ?uZq ?OZq ?o1Zq ?o2Zq ?o3Zq ?m1Zq ?m2Zq ?hCZq ?hLZq ?vCZq ?vLZq ?lenZq ?len2Zq ?_; (case CZq => (first | ((refine FrL.cx ‹_› (by k_asm) (by k_asm) (by (intro q hq; kqd_all)) (by rfl))) | ((refine Cx.call ‹_› (by k_asm) (by rfl))))); (case XZq => assumption); (case TZq => assumption); (case dZq => ktr_room); (case uZq => exact un_lt (by assumption) rfl (by decide)); (case OZq => (first | ((refine FrL.own ‹_› (by k_asm) (by keq_rows) (by krn_off))) | ((refine Own.of ‹_› (by k_asm) (by keq_rows))))); (case o1Zq => assumption); (case o2Zq => assumption); (case o3Zq => assumption); (case m1Zq => assumption); (case m2Zq => assumption); (case hCZq => (exact DO.get ‹_› (by k_asm) (by k_asm) (by k_mem))); (case hLZq => (exact DO.get ‹_› (by k_asm) (by k_asm) (by k_mem))); (case vCZq => exact TInv.vC (by assumption)); (case vLZq => exact TInv.vL (by assumption)); (case lenZq => assumption); (case len2Zq => assumption)); intro hZq' tkZq' tZq' oCZq' oLZq' hKZq' gCZq' gLZq' hCZq' hLZq'; obtain ⟨FZq', NZq'⟩ := News.at2 (by k_asm) (by k_asm) (by k_updF) (by k_updF) hKZq' gCZq' gLZq' (by k_ne); (try dsimp only at NZq')) | ((try dsimp only [List.cons_append, List.nil_append]); (with_reducible show wpAny _ _ (call (Value.ref 1113) _) _ _ _); k_dflt (refine' connect_R ?XZq ?TZq ?CZq ?dZq ?uZq ?OZq ?o1Zq ?o2Zq ?o3Zq ?m2Zq ?hCZq ?lenZq ?nkZq ?h1Zq ?h2Zq ?_; (case CZq => (first | ((refine FrL.cx ‹_› (by k_asm) (by k_asm) (by (intro q hq; kqd_all)) (by rfl))) | ((refine Cx.call ‹_› (by k_asm) (by rfl))))); (case XZq => assumption); (case TZq => assumption); (case dZq => ktr_room); (case uZq => exact un_lt (by assumption) rfl (by decide)); (case OZq => (first | ((refine FrL.own ‹_› (by k_asm) (by keq_rows) (by krn_off))) | ((refine Own.of ‹_› (by k_asm) (by keq_rows))))); (case o1Zq => assumption); (case o2Zq => assumption); (case o3Zq => assumption); (case m2Zq => assumption); (case hCZq => (exact DO.get ‹_› (by k_asm) (by k_asm) (by k_mem))); (case lenZq => assumption); (case h1Zq => exact is_tup2 (by k_asm) (by k_mem)); (case h2Zq => exact is_tup2 (by k_asm) (by k_mem)); (case nkZq => exact TInv.noC (by assumption) _ _)); intro hZq' tkZq' oCZq' aTZq' hKZq' gZq' hCZq'; obtain ⟨FZq', NZq'⟩ := News.at1 (by k_asm) (by k_asm) (by k_updF) hKZq' gZq'; (try dsimp only at NZq')) | ((try dsimp only [List.cons_append, List.nil_append]); (with_reducible show wpAny _ _ (call (Value.ref 1106) _) _ _ _); k_dflt (refine' listen_R ?XZq ?TZq ?CZq ?dZq ?uZq ?OZq ?o1Zq ?o2Zq ?o3Zq ?m2Zq ?hLZq ?lenZq ?nkZq ?_; (case CZq => (first | ((refine FrL.cx ‹_› (by k_asm) (by k_asm) (by (intro q hq; kqd_all)) (by rfl))) | ((refine Cx.call ‹_› (by k_asm) (by rfl))))); (case XZq => assumption); (case TZq => assumption); (case dZq => ktr_room); (case uZq => exact un_lt (by assumption) rfl (by decide)); (case OZq => (first | ((refine FrL.own ‹_› (by k_asm) (by keq_rows) (by krn_off))) | ((refine Own.of ‹_› (by k_asm) (by keq_rows))))); (case o1Zq => assumption); (case o2Zq => assumption); (case o3Zq => assumption); (case m2Zq => assumption); (case hLZq => (exact DO.get ‹_› (by k_asm) (by k_asm) (by k_mem))); (case lenZq => assumption); (case nkZq => exact TInv.noL (by assumption) _)); intro hZq' tkZq' oLZq' aTZq' hKZq' gZq' hLZq'; obtain ⟨FZq', NZq'⟩ := News.at1 (by k_asm) (by k_asm) (by k_updF) hKZq' gZq'; (try dsimp only at NZq')) | ((try dsimp only [List.cons_append, List.nil_append]); (with_reducible show wpAny _ _ (call (Value.ref 1274) [Value.ref _, Value.int 77 _]) _ _ _); k_dflt (refine' own77_R ?XZq ?TZq ?CZq ?dZq ?_; (case CZq => (first | ((refine FrL.cx ‹_› (by k_asm) (by k_asm) (by (intro q hq; kqd_all)) (by rfl))) | ((refine Cx.call ‹_› (by k_asm) (by rfl))))); (case XZq => assumption); (case TZq => assumption); (case dZq => ktr_room)); intro hZq' tkZq' hKZq'; obtain ⟨FZq', NZq'⟩ := News.at0 (by k_asm) (by k_asm) hKZq') | ((try dsimp only [List.cons_append, List.nil_append]); (with_reducible show wpAny _ _ (call (Value.ref 1421) [Value.ref _, Value.ref _]) _ _ _); k_dflt (refine' law_one_R ?XZq ?TZq ?CZq ?dZq ?OZq ?o1Zq ?IZq ?n1Zq ?n2Zq ?S1Zq ?S2Zq ?_; (case CZq => (first | ((refine FrL.cx ‹_› (by k_asm) (by k_asm) (by (intro q hq; kqd_all)) (by rfl))) | ((refine Cx.call ‹_› (by k_asm) (by rfl))))); (case XZq => assumption); (case TZq => assumption); (case dZq => ktr_room); (case OZq => (first | ((refine FrL.own ‹_› (by k_asm) (by keq_rows) (by krn_off))) | ((refine Own.of ‹_› (by k_asm) (by keq_rows))))); (case o1Zq => regstrif_gather); (case IZq => assumption); (case n1Zq => assumption); (case n2Zq => assumption); (case S1Zq => assumption); (case S2Zq => assumption)); intro hZq' tkZq' dZq' tdZq' AZq' SZq' taZq' tsZq' nZq' b1Zq' b3Zq' b4Zq' hKZq' gZq'; obtain ⟨FZq', NZq'⟩ := News.at1 (by k_asm) (by k_asm) (by k_updF) hKZq' gZq'; (try dsimp only at NZq')) | ((try dsimp only [List.cons_append, List.nil_append]); (with_reducible show wpAny _ _ (call (Value.ref 1414) [Value.ref _, Value.int _ _]) _ _ _); k_dflt (refine' law_take_R ?XZq ?TZq ?CZq ?dZq ?OZq ?m1Zq ?m2Zq ?S1Zq ?S2Zq ?_; (case CZq => (first | ((refine FrL.cx ‹_› (by k_asm) (by k_asm) (by (intro q hq; kqd_all)) (by rfl))) | ((refine Cx.call ‹_› (by k_asm) (by rfl))))); (case XZq => assumption); (case TZq => assumption); (case dZq => ktr_room); (case OZq => (first | ((refine FrL.own ‹_› (by k_asm) (by keq_rows) (by krn_off))) | ((refine Own.of ‹_› (by k_asm) (by keq_rows))))); (case m1Zq => regstrif_gather); (case m2Zq => regstrif_gather); (case S1Zq => assumption); (case S2Zq => assumption)); intro hZq' tkZq' dZq' tdZq' AZq' SZq' taZq' tsZq' nZq' b1Zq' b2Zq' b3Zq' b4Zq' hKZq' gZq'; obtain ⟨FZq', NZq'⟩ := News.at1 (by k_asm) (by k_asm) (by k_updF) hKZq' gZq'; (try dsimp only at NZq')) | ((try dsimp only [List.cons_append, List.nil_append]); (with_reducible show wpAny _ _ (call (Value.ref 151) [Value.ref _, Value.int _ _]) _ _ _); k_dflt (refine' free_R ?XZq ?TZq ?CZq ?dZq ?OZq ?o1Zq ?o2Zq ?mZq ?DZq ?lenZq ?nbZq ?_ ?_; (case CZq => (first | ((refine FrL.cx ‹_› (by k_asm) (by k_asm) (by (intro q hq; kqd_all)) (by rfl))) | ((refine Cx.call ‹_› (by k_asm) (by rfl))))); (case XZq => assumption); (case TZq => assumption); (case dZq => ktr_room); (case OZq => (first | ((refine FrL.own ‹_› (by k_asm) (by keq_rows) (by krn_off))) | ((refine Own.of ‹_› (by k_asm) (by keq_rows))))); (case o1Zq => regstrif_gather); (case o2Zq => regstrif_gather); (case mZq => assumption); (case DZq => k_asm); (case lenZq => first | assumption | exact small_stored (by assumption)); (case nbZq => assumption)); (intro hZq' tkZq' oTZq' hsZq' hTdZq' hKZq' haTZq'; obtain ⟨FZq', NZq'⟩ := News.at1 (by k_asm) (by k_asm) (by k_updF) hKZq' haTZq'); rotate_left; (intro eZq' hZq' tkZq' hmZq' hscZq' hKZq' RZq'; dsimp only))))
    k_steps
    show Q (Value.bool true) _
    refine' hret _ _ _ _ _ _ _ kvs vsH _ oT _ _ xsC oC (xsL ++ _) _ ps ?S1 ?S2 (List.Sublist.refl _) ?T ?I ?U (TI.listen ht _ _ _ _) ?C ?L ?P ?kp ?g1
    case S1 => assumption
    case S2 => assumption
    case T => exact hTd
    case I => exact hI
    case U => assumption
    case C => exact DC.get (by k_asm) (by k_asm) (by k_mem)
    case L => exact DK.get (by assumption) (by k_asm) (by k_asm) (by k_mem) (by intro q hq; kqd_in)
    case kp => ((refine kp_endF ‹_› ‹_› ‹_› (by k_asm) (by k_asm) (by (intro q hq; kqd_all)) (by ked_reads)))
    case g1 => ked_read
    case P => exact (hps.base GK C₀ O (by kp_flats)).up (Fr.keep (by k_asm))
  · (first | ((try dsimp only [List.cons_append, List.nil_append]); (with_reducible show wpAny _ _ (call (Value.ref 1118) _) _ _ _); k_dflt (refine' remove_R ?XZq ?TZq ?CZq ?dZq ?uZq ?OZq ?o1Zq ?o2Zq ?o3Zq ?m1Zq ?m2Zq ?hCZq ?hLZq ?vCZq ?vLZq ?lenZq ?len2Zq ?_; (case CZq => (first | ((refine FrL.cx ‹_› (by k_asm) (by k_asm) (by (intro q hq; kqd_all)) (by rfl))) | ((refine Cx.call ‹_› (by k_asm) (by rfl))))); (case XZq => assumption); (case TZq => assumption); (case dZq => ktr_room); (case uZq => exact un_lt (by assumption) rfl (by decide)); (case OZq => (first | ((refine FrL.own ‹_› (by k_asm) (by keq_rows) (by krn_off))) | ((refine Own.of ‹_› (by k_asm) (by keq_rows))))); (case o1Zq => assumption); (case o2Zq => assumption); (case o3Zq => assumption); (case m1Zq => assumption); (case m2Zq => assumption); (case hCZq => (exact DO.get ‹_› (by k_asm) (by k_asm) (by k_mem))); (case hLZq => (exact DO.get ‹_› (by k_asm) (by k_asm) (by k_mem))); (case vCZq => exact TInv.vC (by assumption)); (case vLZq => exact TInv.vL (by assumption)); (case lenZq => assumption); (case len2Zq => assumption)); intro hZq' tkZq' tZq' oCZq' oLZq' hKZq' gCZq' gLZq' hCZq' hLZq'; obtain ⟨FZq', NZq'⟩ := News.at2 (by k_asm) (by k_asm) (by k_updF) (by k_updF) hKZq' gCZq' gLZq' (by k_ne); (try dsimp only at NZq')) | ((try dsimp only [List.cons_append, List.nil_append]); (with_reducible show wpAny _ _ (call (Value.ref 1113) _) _ _ _); k_dflt (refine' connect_R ?XZq ?TZq ?CZq ?dZq ?uZq ?OZq ?o1Zq ?o2Zq ?o3Zq ?m2Zq ?hCZq ?lenZq ?nkZq ?h1Zq ?h2Zq ?_; (case CZq => (first | ((refine FrL.cx ‹_› (by k_asm) (by k_asm) (by (intro q hq; kqd_all)) (by rfl))) | ((refine Cx.call ‹_› (by k_asm) (by rfl))))); (case XZq => assumption); (case TZq => assumption); (case dZq => ktr_room); (case uZq => exact un_lt (by assumption) rfl (by decide)); (case OZq => (first | ((refine FrL.own ‹_› (by k_asm) (by keq_rows) (by krn_off))) | ((refine Own.of ‹_› (by k_asm) (by keq_rows))))); (case o1Zq => assumption); (case o2Zq => assumption); (case o3Zq => assumption); (case m2Zq => assumption); (case hCZq => (exact DO.get ‹_› (by k_asm) (by k_asm) (by k_mem))); (case lenZq => assumption); (case h1Zq => exact is_tup2 (by k_asm) (by k_mem)); (case h2Zq => exact is_tup2 (by k_asm) (by k_mem)); (case nkZq => exact TInv.noC (by assumption) _ _)); intro hZq' tkZq' oCZq' aTZq' hKZq' gZq' hCZq'; obtain ⟨FZq', NZq'⟩ := News.at1 (by k_asm) (by k_asm) (by k_updF) hKZq' gZq'; (try dsimp only at NZq')) | ((try dsimp only [List.cons_append, List.nil_append]); (with_reducible show wpAny _ _ (call (Value.ref 1106) _) _ _ _); k_dflt (refine' listen_R ?XZq ?TZq ?CZq ?dZq ?uZq ?OZq ?o1Zq ?o2Zq ?o3Zq ?m2Zq ?hLZq ?lenZq ?nkZq ?_; (case CZq => (first | ((refine FrL.cx ‹_› (by k_asm) (by k_asm) (by (intro q hq; kqd_all)) (by rfl))) | ((refine Cx.call ‹_› (by k_asm) (by rfl))))); (case XZq => assumption); (case TZq => assumption); (case dZq => ktr_room); (case uZq => exact un_lt (by assumption) rfl (by decide)); (case OZq => (first | ((refine FrL.own ‹_› (by k_asm) (by keq_rows) (by krn_off))) | ((refine Own.of ‹_› (by k_asm) (by keq_rows))))); (case o1Zq => assumption); (case o2Zq => assumption); (case o3Zq => assumption); (case m2Zq => assumption); (case hLZq => (exact DO.get ‹_› (by k_asm) (by k_asm) (by k_mem))); (case lenZq => assumption); (case nkZq => exact TInv.noL (by assumption) _)); intro hZq' tkZq' oLZq' aTZq' hKZq' gZq' hLZq'; obtain ⟨FZq', NZq'⟩ := News.at1 (by k_asm) (by k_asm) (by k_updF) hKZq' gZq'; (try dsimp only at NZq')) | ((try dsimp only [List.cons_append, List.nil_append]); (with_reducible show wpAny _ _ (call (Value.ref 1274) [Value.ref _, Value.int 77 _]) _ _ _); k_dflt (refine' own77_R ?XZq ?TZq ?CZq ?dZq ?_; (case CZq => (first | ((refine FrL.cx ‹_› (by k_asm) (by k_asm) (by (intro q hq; kqd_all)) (by rfl))) | ((refine Cx.call ‹_› (by k_asm) (by rfl))))); (case XZq => assumption); (case TZq => assumption); (case dZq => ktr_room)); intro hZq' tkZq' hKZq'; obtain ⟨FZq', NZq'⟩ := News.at0 (by k_asm) (by k_asm) hKZq') | ((try dsimp only [List.cons_append, List.nil_append]); (with_reducible show wpAny _ _ (call (Value.ref 1421) [Value.ref _, Value.ref _]) _ _ _); k_dflt (refine' law_one_R ?XZq ?TZq ?CZq ?dZq ?OZq ?o1Zq ?IZq ?n1Zq ?n2Zq ?S1Zq ?S2Zq ?_; (case CZq => (first | ((refine FrL.cx ‹_› (by k_asm) (by k_asm) (by (intro q hq; kqd_all)) (by rfl))) | ((refine Cx.call ‹_› (by k_asm) (by rfl))))); (case XZq => assumption); (case TZq => assumption); (case dZq => ktr_room); (case OZq => (first | ((refine FrL.own ‹_› (by k_asm) (by keq_rows) (by krn_off))) | ((refine Own.of ‹_› (by k_asm) (by keq_rows))))); (case o1Zq => regstrif_gather); (case IZq => assumption); (case n1Zq => assumption); (case n2Zq => assumption); (case S1Zq => assumption); (case S2Zq => assumption)); intro hZq' tkZq' dZq' tdZq' AZq' SZq' taZq' tsZq' nZq' b1Zq' b3Zq' b4Zq' hKZq' gZq'; obtain ⟨FZq', NZq'⟩ := News.at1 (by k_asm) (by k_asm) (by k_updF) hKZq' gZq'; (try dsimp only at NZq')) | ((try dsimp only [List.cons_append, List.nil_append]); (with_reducible show wpAny _ _ (call (Value.ref 1414) [Value.ref _, Value.int _ _]) _ _ _); k_dflt (refine' law_take_R ?XZq ?TZq ?CZq ?dZq ?OZq ?m1Zq ?m2Zq ?S1Zq ?S2Zq ?_; (case CZq => (first | ((refine FrL.cx ‹_› (by k_asm) (by k_asm) (by (intro q hq; kqd_all)) (by rfl))) | ((refine Cx.call ‹_› (by k_asm) (by rfl))))); (case XZq => assumption); (case TZq => assumption); (case dZq => ktr_room); (case OZq => (first | ((refine FrL.own ‹_› (by k_asm) (by keq_rows) (by krn_off))) | ((refine Own.of ‹_› (by k_asm) (by keq_rows))))); (case m1Zq => regstrif_gather); (case m2Zq => regstrif_gather); (case S1Zq => assumption); (case S2Zq => assumption)); intro hZq' tkZq' dZq' tdZq' AZq' SZq' taZq' tsZq' nZq' b1Zq' b2Zq' b3Zq' b4Zq' hKZq' gZq'; obtain ⟨FZq', NZq'⟩ := News.at1 (by k_asm) (by k_asm) (by k_updF) hKZq' gZq'; (try dsimp only at NZq')) | ((try dsimp only [List.cons_append, List.nil_append]); (with_reducible show wpAny _ _ (call (Value.ref 151) [Value.ref _, Value.int _ _]) _ _ _); k_dflt (refine' free_R ?XZq ?TZq ?CZq ?dZq ?OZq ?o1Zq ?o2Zq ?mZq ?DZq ?lenZq ?nbZq ?_ ?_; (case CZq => (first | ((refine FrL.cx ‹_› (by k_asm) (by k_asm) (by (intro q hq; kqd_all)) (by rfl))) | ((refine Cx.call ‹_› (by k_asm) (by rfl))))); (case XZq => assumption); (case TZq => assumption); (case dZq => ktr_room); (case OZq => (first | ((refine FrL.own ‹_› (by k_asm) (by keq_rows) (by krn_off))) | ((refine Own.of ‹_› (by k_asm) (by keq_rows))))); (case o1Zq => regstrif_gather); (case o2Zq => regstrif_gather); (case mZq => assumption); (case DZq => k_asm); (case lenZq => first | assumption | exact small_stored (by assumption)); (case nbZq => assumption)); (intro hZq' tkZq' oTZq' hsZq' hTdZq' hKZq' haTZq'; obtain ⟨FZq', NZq'⟩ := News.at1 (by k_asm) (by k_asm) (by k_updF) hKZq' haTZq'); rotate_left; (intro eZq' hZq' tkZq' hmZq' hscZq' hKZq' RZq'; dsimp only)))
    rename Heap.DictOfH _ _ _ (xsC ++ _) => hC9
    rename Heap.get? _ dC = some _ => g9
    have chC9 := cls_dictH hC9 g9
    obtain ⟨kt, kt1, kt2, DK9⟩ := dk_of fin_tt (by k_asm) hC9 g9
    obtain ⟨N9, hkt⟩ := kt_newsK (fr := fr) (by k_asm) (by keq_hits) kt1 kt2
    (try dsimp only at N9)
    (try dsimp only at hkt)
    k_steps
    (try (first | ((try dsimp only [List.cons_append, List.nil_append]); (with_reducible show wpAny _ _ (call (Value.ref 1118) _) _ _ _); k_dflt (refine' remove_R ?XZq ?TZq ?CZq ?dZq ?uZq ?OZq ?o1Zq ?o2Zq ?o3Zq ?m1Zq ?m2Zq ?hCZq ?hLZq ?vCZq ?vLZq ?lenZq ?len2Zq ?_; (case CZq => (first | ((refine FrL.cx ‹_› (by k_asm) (by k_asm) (by (intro q hq; kqd_all)) (by rfl))) | ((refine Cx.call ‹_› (by k_asm) (by rfl))))); (case XZq => assumption); (case TZq => assumption); (case dZq => ktr_room); (case uZq => exact un_lt (by assumption) rfl (by decide)); (case OZq => (first | ((refine FrL.own ‹_› (by k_asm) (by keq_rows) (by krn_off))) | ((refine Own.of ‹_› (by k_asm) (by keq_rows))))); (case o1Zq => assumption); (case o2Zq => assumption); (case o3Zq => assumption); (case m1Zq => assumption); (case m2Zq => assumption); (case hCZq => (exact DO.get ‹_› (by k_asm) (by k_asm) (by k_mem))); (case hLZq => (exact DO.get ‹_› (by k_asm) (by k_asm) (by k_mem))); (case vCZq => exact TInv.vC (by assumption)); (case vLZq => exact TInv.vL (by assumption)); (case lenZq => assumption); (case len2Zq => assumption)); intro hZq' tkZq' tZq' oCZq' oLZq' hKZq' gCZq' gLZq' hCZq' hLZq'; obtain ⟨FZq', NZq'⟩ := News.at2 (by k_asm) (by k_asm) (by k_updF) (by k_updF) hKZq' gCZq' gLZq' (by k_ne); (try dsimp only at NZq')) | ((try dsimp only [List.cons_append, List.nil_append]); (with_reducible show wpAny _ _ (call (Value.ref 1113) _) _ _ _); k_dflt (refine' connect_R ?XZq ?TZq ?CZq ?dZq ?uZq ?OZq ?o1Zq ?o2Zq ?o3Zq ?m2Zq ?hCZq ?lenZq ?nkZq ?h1Zq ?h2Zq ?_; (case CZq => (first | ((refine FrL.cx ‹_› (by k_asm) (by k_asm) (by (intro q hq; kqd_all)) (by rfl))) | ((refine Cx.call ‹_› (by k_asm) (by rfl))))); (case XZq => assumption); (case TZq => assumption); (case dZq => ktr_room); (case uZq => exact un_lt (by assumption) rfl (by decide)); (case OZq => (first | ((refine FrL.own ‹_› (by k_asm) (by keq_rows) (by krn_off))) | ((refine Own.of ‹_› (by k_asm) (by keq_rows))))); (case o1Zq => assumption); (case o2Zq => assumption); (case o3Zq => assumption); (case m2Zq => assumption); (case hCZq => (exact DO.get ‹_› (by k_asm) (by k_asm) (by k_mem))); (case lenZq => assumption); (case h1Zq => exact is_tup2 (by k_asm) (by k_mem)); (case h2Zq => exact is_tup2 (by k_asm) (by k_mem)); (case nkZq => exact TInv.noC (by assumption) _ _)); intro hZq' tkZq' oCZq' aTZq' hKZq' gZq' hCZq'; obtain ⟨FZq', NZq'⟩ := News.at1 (by k_asm) (by k_asm) (by k_updF) hKZq' gZq'; (try dsimp only at NZq')) | ((try dsimp only [List.cons_append, List.nil_append]); (with_reducible show wpAny _ _ (call (Value.ref 1106) _) _ _ _); k_dflt (refine' listen_R ?XZq ?TZq ?CZq ?dZq ?uZq ?OZq ?o1Zq ?o2Zq ?o3Zq ?m2Zq ?hLZq ?lenZq ?nkZq ?_; (case CZq => (first | ((refine FrL.cx ‹_› (by k_asm) (by k_asm) (by (intro q hq; kqd_all)) (by rfl))) | ((refine Cx.call ‹_› (by k_asm) (by rfl))))); (case XZq => assumption); (case TZq => assumption); (case dZq => ktr_room); (case uZq => exact un_lt (by assumption) rfl (by decide)); (case OZq => (first | ((refine FrL.own ‹_› (by k_asm) (by keq_rows) (by krn_off))) | ((refine Own.of ‹_› (by k_asm) (by keq_rows))))); (case o1Zq => assumption); (case o2Zq => assumption); (case o3Zq => assumption); (case m2Zq => assumption); (case hLZq => (exact DO.get ‹_› (by k_asm) (by k_asm) (by k_mem))); (case lenZq => assumption); (case nkZq => exact TInv.noL (by assumption) _)); intro hZq' tkZq' oLZq' aTZq' hKZq' gZq' hLZq'; obtain ⟨FZq', NZq'⟩ := News.at1 (by k_asm) (by k_asm) (by k_updF) hKZq' gZq'; (try dsimp only at NZq')) | ((try dsimp only [List.cons_append, List.nil_append]); (with_reducible show wpAny _ _ (call (Value.ref 1274) [Value.ref _, Value.int 77 _]) _ _ _); k_dflt (refine' own77_R ?XZq ?TZq ?CZq ?dZq ?_; (case CZq => (first | ((refine FrL.cx ‹_› (by k_asm) (by k_asm) (by (intro q hq; kqd_all)) (by rfl))) | ((refine Cx.call ‹_› (by k_asm) (by rfl))))); (case XZq => assumption); (case TZq => assumption); (case dZq => ktr_room)); intro hZq' tkZq' hKZq'; obtain ⟨FZq', NZq'⟩ := News.at0 (by k_asm) (by k_asm) hKZq') | ((try dsimp only [List.cons_append, List.nil_append]); (with_reducible show wpAny _ _ (call (Value.ref 1421) [Value.ref _, Value.ref _]) _ _ _); k_dflt (refine' law_one_R ?XZq ?TZq ?CZq ?dZq ?OZq ?o1Zq ?IZq ?n1Zq ?n2Zq ?S1Zq ?S2Zq ?_; (case CZq => (first | ((refine FrL.cx ‹_› (by k_asm) (by k_asm) (by (intro q hq; kqd_all)) (by rfl))) | ((refine Cx.call ‹_› (by k_asm) (by rfl))))); (case XZq => assumption); (case TZq => assumption); (case dZq => ktr_room); (case OZq => (first | ((refine FrL.own ‹_› (by k_asm) (by keq_rows) (by krn_off))) | ((refine Own.of ‹_› (by k_asm) (by keq_rows))))); (case o1Zq => regstrif_gather); (case IZq => assumption); (case n1Zq => assumption); (case n2Zq => assumption); (case S1Zq => assumption); (case S2Zq => assumption)); intro hZq' tkZq' dZq' tdZq' AZq' SZq' taZq' tsZq' nZq' b1Zq' b3Zq' b4Zq' hKZq' gZq'; obtain ⟨FZq', NZq'⟩ := News.at1 (by k_asm) (by k_asm) (by k_updF) hKZq' gZq'; (try dsimp only at NZq')) | ((try dsimp only [List.cons_append, List.nil_append]); (with_reducible show wpAny _ _ (call (Value.ref 1414) [Value.ref _, Value.int _ _]) _ _ _); k_dflt (refine' law_take_R ?XZq ?TZq ?CZq ?dZq ?OZq ?m1Zq ?m2Zq ?S1Zq ?S2Zq ?_; (case CZq => (first | ((refine FrL.cx ‹_› (by k_asm) (by k_asm) (by (intro q hq; kqd_all)) (by rfl))) | ((refine Cx.call ‹_› (by k_asm) (by rfl))))); (case XZq => assumption); (case TZq => assumption); (case dZq => ktr_room); (case OZq => (first | ((refine FrL.own ‹_› (by k_asm) (by keq_rows) (by krn_off))) | ((refine Own.of ‹_› (by k_asm) (by keq_rows))))); (case m1Zq => regstrif_gather); (case m2Zq => regstrif_gather); (case S1Zq => assumption); (case S2Zq => assumption)); intro hZq' tkZq' dZq' tdZq' AZq' SZq' taZq' tsZq' nZq' b1Zq' b2Zq' b3Zq' b4Zq' hKZq' gZq'; obtain ⟨FZq', NZq'⟩ := News.at1 (by k_asm) (by k_asm) (by k_updF) hKZq' gZq'; (try dsimp only at NZq')) | ((try dsimp only [List.cons_append, List.nil_append]); (with_reducible show wpAny _ _ (call (Value.ref 151) [Value.ref _, Value.int _ _]) _ _ _); k_dflt (refine' free_R ?XZq ?TZq ?CZq ?dZq ?OZq ?o1Zq ?o2Zq ?mZq ?DZq ?lenZq ?nbZq ?_ ?_; (case CZq => (first | ((refine FrL.cx ‹_› (by k_asm) (by k_asm) (by (intro q hq; kqd_all)) (by rfl))) | ((refine Cx.call ‹_› (by k_asm) (by rfl))))); (case XZq => assumption); (case TZq => assumption); (case dZq => ktr_room); (case OZq => (first | ((refine FrL.own ‹_› (by k_asm) (by keq_rows) (by krn_off))) | ((refine Own.of ‹_› (by k_asm) (by keq_rows))))); (case o1Zq => regstrif_gather); (case o2Zq => regstrif_gather); (case mZq => assumption); (case DZq => k_asm); (case lenZq => first | assumption | exact small_stored (by assumption)); (case nbZq => assumption)); (intro hZq' tkZq' oTZq' hsZq' hTdZq' hKZq' haTZq'; obtain ⟨FZq', NZq'⟩ := News.at1 (by k_asm) (by k_asm) (by k_updF) hKZq' haTZq'); rotate_left; (intro eZq' hZq' tkZq' hmZq' hscZq' hKZq' RZq'; dsimp only))))
    k_steps
    show Q (Value.bool true) _
    refine' hret _ _ _ _ _ _ _ kvs vsH _ oT _ _ (xsC ++ _) _ xsL oL ps ?S1 ?S2 (List.Sublist.refl _) ?T ?I ?U (TI.connect ht _ _ _ _ _) ?C ?L ?P ?kp ?g1
    case S1 => assumption
    case S2 => assumption
    case T => exact hTd
    case I => exact hI
    case U => assumption
    case C => exact DK.get (by assumption) (by k_asm) (by k_asm) (by k_mem) (by intro q hq; kqd_in)
    case L => exact DL.get (by k_asm) (by k_asm) (by k_mem)
    case kp => ((refine kp_endF ‹_› ‹_› ‹_› (by k_asm) (by k_asm) (by (intro q hq; kqd_all)) (by ked_reads)))
    case g1 => ked_read
    case P => exact (hps.base GK C₀ O (by kp_flats)).up (Fr.keep (by k_asm))
  · unfold Stop
    rename Fr g L' _ _ => F20
    rename News g L' _ _ => N20
    refine' stop_join (P := kvsU.length ≠ 0) F20 N20 ?ev ?co
    case ev =>
      refine isTrue_and ?_
      k_steps
      all_goals
        rename Fr g L' _ _ => F21
        rename News g L' _ _ => N21
      all_goals first
        | exact ⟨_, _, rfl, F21, fun q hq => N21 q (.tail _ hq), fun hc => by (first | (cases hc; done) | (rename (kvsU.length == 0) = false => z9; intro e; rw [e] at z9; cases z9))⟩
        | exact ⟨_, _, rfl, F21, N21, fun hc => by cases hc⟩
    case co =>
      clear F20 N20
      intro c h9 tk9 F9 N9 hc
      cases c
      · (try simp only [Bool.false_eq_true, if_false])
        k_steps
        · (first | ((try dsimp only [List.cons_append, List.nil_append]); (with_reducible show wpAny _ _ (call (Value.ref 1118) _) _ _ _); k_dflt (refine' remove_R ?XZq ?TZq ?CZq ?dZq ?uZq ?OZq ?o1Zq ?o2Zq ?o3Zq ?m1Zq ?m2Zq ?hCZq ?hLZq ?vCZq ?vLZq ?lenZq ?len2Zq ?_; (case CZq => (first | ((refine FrL.cx ‹_› (by k_asm) (by k_asm) (by (intro q hq; kqd_all)) (by rfl))) | ((refine Cx.call ‹_› (by k_asm) (by rfl))))); (case XZq => assumption); (case TZq => assumption); (case dZq => ktr_room); (case uZq => exact un_lt (by assumption) rfl (by decide)); (case OZq => (first | ((refine FrL.own ‹_› (by k_asm) (by keq_rows) (by krn_off))) | ((refine Own.of ‹_› (by k_asm) (by keq_rows))))); (case o1Zq => assumption); (case o2Zq => assumption); (case o3Zq => assumption); (case m1Zq => assumption); (case m2Zq => assumption); (case hCZq => (exact DO.get ‹_› (by k_asm) (by k_asm) (by k_mem))); (case hLZq => (exact DO.get ‹_› (by k_asm) (by k_asm) (by k_mem))); (case vCZq => exact TInv.vC (by assumption)); (case vLZq => exact TInv.vL (by assumption)); (case lenZq => assumption); (case len2Zq => assumption)); intro hZq' tkZq' tZq' oCZq' oLZq' hKZq' gCZq' gLZq' hCZq' hLZq'; obtain ⟨FZq', NZq'⟩ := News.at2 (by k_asm) (by k_asm) (by k_updF) (by k_updF) hKZq' gCZq' gLZq' (by k_ne); (try dsimp only at NZq')) | ((try dsimp only [List.cons_append, List.nil_append]); (with_reducible show wpAny _ _ (call (Value.ref 1113) _) _ _ _); k_dflt (refine' connect_R ?XZq ?TZq ?CZq ?dZq ?uZq ?OZq ?o1Zq ?o2Zq ?o3Zq ?m2Zq ?hCZq ?lenZq ?nkZq ?h1Zq ?h2Zq ?_; (case CZq => (first | ((refine FrL.cx ‹_› (by k_asm) (by k_asm) (by (intro q hq; kqd_all)) (by rfl))) | ((refine Cx.call ‹_› (by k_asm) (by rfl))))); (case XZq => assumption); (case TZq => assumption); (case dZq => ktr_room); (case uZq => exact un_lt (by assumption) rfl (by decide)); (case OZq => (first | ((refine FrL.own ‹_› (by k_asm) (by keq_rows) (by krn_off))) | ((refine Own.of ‹_› (by k_asm) (by keq_rows))))); (case o1Zq => assumption); (case o2Zq => assumption); (case o3Zq => assumption); (case m2Zq => assumption); (case hCZq => (exact DO.get ‹_› (by k_asm) (by k_asm) (by k_mem))); (case lenZq => assumption); (case h1Zq => exact is_tup2 (by k_asm) (by k_mem)); (case h2Zq => exact is_tup2 (by k_asm) (by k_mem)); (case nkZq => exact TInv.noC (by assumption) _ _)); intro hZq' tkZq' oCZq' aTZq' hKZq' gZq' hCZq'; obtain ⟨FZq', NZq'⟩ := News.at1 (by k_asm) (by k_asm) (by k_updF) hKZq' gZq'; (try dsimp only at NZq')) | ((try dsimp only [List.cons_append, List.nil_append]); (with_reducible show wpAny _ _ (call (Value.ref 1106) _) _ _ _); k_dflt (refine' listen_R ?XZq ?TZq ?CZq ?dZq ?uZq ?OZq ?o1Zq ?o2Zq ?o3Zq ?m2Zq ?hLZq ?lenZq ?nkZq ?_; (case CZq => (first | ((refine FrL.cx ‹_› (by k_asm) (by k_asm) (by (intro q hq; kqd_all)) (by rfl))) | ((refine Cx.call ‹_› (by k_asm) (by rfl))))); (case XZq => assumption); (case TZq => assumption); (case dZq => ktr_room); (case uZq => exact un_lt (by assumption) rfl (by decide)); (case OZq => (first | ((refine FrL.own ‹_› (by k_asm) (by keq_rows) (by krn_off))) | ((refine Own.of ‹_› (by k_asm) (by keq_rows))))); (case o1Zq => assumption); (case o2Zq => assumption); (case o3Zq => assumption); (case m2Zq => assumption); (case hLZq => (exact DO.get ‹_› (by k_asm) (by k_asm) (by k_mem))); (case lenZq => assumption); (case nkZq => exact TInv.noL (by assumption) _)); intro hZq' tkZq' oLZq' aTZq' hKZq' gZq' hLZq'; obtain ⟨FZq', NZq'⟩ := News.at1 (by k_asm) (by k_asm) (by k_updF) hKZq' gZq'; (try dsimp only at NZq')) | ((try dsimp only [List.cons_append, List.nil_append]); (with_reducible show wpAny _ _ (call (Value.ref 1274) [Value.ref _, Value.int 77 _]) _ _ _); k_dflt (refine' own77_R ?XZq ?TZq ?CZq ?dZq ?_; (case CZq => (first | ((refine FrL.cx ‹_› (by k_asm) (by k_asm) (by (intro q hq; kqd_all)) (by rfl))) | ((refine Cx.call ‹_› (by k_asm) (by rfl))))); (case XZq => assumption); (case TZq => assumption); (case dZq => ktr_room)); intro hZq' tkZq' hKZq'; obtain ⟨FZq', NZq'⟩ := News.at0 (by k_asm) (by k_asm) hKZq') | ((try dsimp only [List.cons_append, List.nil_append]); (with_reducible show wpAny _ _ (call (Value.ref 1421) [Value.ref _, Value.ref _]) _ _ _); k_dflt (refine' law_one_R ?XZq ?TZq ?CZq ?dZq ?OZq ?o1Zq ?IZq ?n1Zq ?n2Zq ?S1Zq ?S2Zq ?_; (case CZq => (first | ((refine FrL.cx ‹_› (by k_asm) (by k_asm) (by (intro q hq; kqd_all)) (by rfl))) | ((refine Cx.call ‹_› (by k_asm) (by rfl))))); (case XZq => assumption); (case TZq => assumption); (case dZq => ktr_room); (case OZq => (first | ((refine FrL.own ‹_› (by k_asm) (by keq_rows) (by krn_off))) | ((refine Own.of ‹_› (by k_asm) (by keq_rows))))); (case o1Zq => regstrif_gather); (case IZq => assumption); (case n1Zq => assumption); (case n2Zq => assumption); (case S1Zq => assumption); (case S2Zq => assumption)); intro hZq' tkZq' dZq' tdZq' AZq' SZq' taZq' tsZq' nZq' b1Zq' b3Zq' b4Zq' hKZq' gZq'; obtain ⟨FZq', NZq'⟩ := News.at1 (by k_asm) (by k_asm) (by k_updF) hKZq' gZq'; (try dsimp only at NZq')) | ((try dsimp only [List.cons_append, List.nil_append]); (with_reducible show wpAny _ _ (call (Value.ref 1414) [Value.ref _, Value.int _ _]) _ _ _); k_dflt (refine' law_take_R ?XZq ?TZq ?CZq ?dZq ?OZq ?m1Zq ?m2Zq ?S1Zq ?S2Zq ?_; (case CZq => (first | ((refine FrL.cx ‹_› (by k_asm) (by k_asm) (by (intro q hq; kqd_all)) (by rfl))) | ((refine Cx.call ‹_› (by k_asm) (by rfl))))); (case XZq => assumption); (case TZq => assumption); (case dZq => ktr_room); (case OZq => (first | ((refine FrL.own ‹_› (by k_asm) (by keq_rows) (by krn_off))) | ((refine Own.of ‹_› (by k_asm) (by keq_rows))))); (case m1Zq => regstrif_gather); (case m2Zq => regstrif_gather); (case S1Zq => assumption); (case S2Zq => assumption)); intro hZq' tkZq' dZq' tdZq' AZq' SZq' taZq' tsZq' nZq' b1Zq' b2Zq' b3Zq' b4Zq' hKZq' gZq'; obtain ⟨FZq', NZq'⟩ := News.at1 (by k_asm) (by k_asm) (by k_updF) hKZq' gZq'; (try dsimp only at NZq')) | ((try dsimp only [List.cons_append, List.nil_append]); (with_reducible show wpAny _ _ (call (Value.ref 151) [Value.ref _, Value.int _ _]) _ _ _); k_dflt (refine' free_R ?XZq ?TZq ?CZq ?dZq ?OZq ?o1Zq ?o2Zq ?mZq ?DZq ?lenZq ?nbZq ?_ ?_; (case CZq => (first | ((refine FrL.cx ‹_› (by k_asm) (by k_asm) (by (intro q hq; kqd_all)) (by rfl))) | ((refine Cx.call ‹_› (by k_asm) (by rfl))))); (case XZq => assumption); (case TZq => assumption); (case dZq => ktr_room); (case OZq => (first | ((refine FrL.own ‹_› (by k_asm) (by keq_rows) (by krn_off))) | ((refine Own.of ‹_› (by k_asm) (by keq_rows))))); (case o1Zq => regstrif_gather); (case o2Zq => regstrif_gather); (case mZq => assumption); (case DZq => k_asm); (case lenZq => first | assumption | exact small_stored (by assumption)); (case nbZq => assumption)); (intro hZq' tkZq' oTZq' hsZq' hTdZq' hKZq' haTZq'; obtain ⟨FZq', NZq'⟩ := News.at1 (by k_asm) (by k_asm) (by k_updF) hKZq' haTZq'); rotate_left; (intro eZq' hZq' tkZq' hmZq' hscZq' hKZq' RZq'; dsimp only)))
          k_steps
          show Q (Value.bool true) _
          refine' hret _ _ _ _ _ _ _ kvs vsH _ oT kvsU oU xsC oC xsL oL ps ?S1 ?S2 (List.Sublist.refl _) ?T ?I ?U TI.up ?C ?L ?P ?kp ?g1
          case S1 => assumption
          case S2 => assumption
          case T => exact hTd
          case I => exact hI
          case U => exact hUd
          case C => exact DC.get (by k_asm) (by k_asm) (by k_mem)
          case L => exact DL.get (by k_asm) (by k_asm) (by k_mem)
          case kp => ((refine kp_endF ‹_› ‹_› ‹_› (by k_asm) (by k_asm) (by (intro q hq; kqd_all)) (by ked_reads)))
          case g1 => ked_read
          case P => exact (hps.base GK C₀ O (by kp_flats)).up (Fr.keep (by k_asm))
        · have hk1 : 1 ≤ (List.map (fun x : Int × Value => x.1) kvs).length := len_pos (of_decide_eq_false (by assumption))
          have hk2 : (List.map (fun x : Int × Value => x.1) kvs).length ≤ 20 := by rw [List.length_map]; exact hlen
          have hk3 : kvs.length ≤ 1000 := Nat.le_trans hlen (by decide)
          have hpsg := hps.base GK C₀ O (by kp_flats)
          have hCd : CodeHd g 1446 1442 := codeHd_of_K X' (by kernel_rfl)
          (first | ((try dsimp only [List.cons_append, List.nil_append]); (with_reducible show wpAny _ _ (call (Value.ref 1118) _) _ _ _); k_dflt (refine' remove_R ?XZq ?TZq ?CZq ?dZq ?uZq ?OZq ?o1Zq ?o2Zq ?o3Zq ?m1Zq ?m2Zq ?hCZq ?hLZq ?vCZq ?vLZq ?lenZq ?len2Zq ?_; (case CZq => (first | ((refine FrL.cx ‹_› (by k_asm) (by k_asm) (by (intro q hq; kqd_all)) (by rfl))) | ((refine Cx.call ‹_› (by k_asm) (by rfl))))); (case XZq => assumption); (case TZq => assumption); (case dZq => ktr_room); (case uZq => exact un_lt (by assumption) rfl (by decide)); (case OZq => (first | ((refine FrL.own ‹_› (by k_asm) (by keq_rows) (by krn_off))) | ((refine Own.of ‹_› (by k_asm) (by keq_rows))))); (case o1Zq => assumption); (case o2Zq => assumption); (case o3Zq => assumption); (case m1Zq => assumption); (case m2Zq => assumption); (case hCZq => (exact DO.get ‹_› (by k_asm) (by k_asm) (by k_mem))); (case hLZq => (exact DO.get ‹_› (by k_asm) (by k_asm) (by k_mem))); (case vCZq => exact TInv.vC (by assumption)); (case vLZq => exact TInv.vL (by assumption)); (case lenZq => assumption); (case len2Zq => assumption)); intro hZq' tkZq' tZq' oCZq' oLZq' hKZq' gCZq' gLZq' hCZq' hLZq'; obtain ⟨FZq', NZq'⟩ := News.at2 (by k_asm) (by k_asm) (by k_updF) (by k_updF) hKZq' gCZq' gLZq' (by k_ne); (try dsimp only at NZq')) | ((try dsimp only [List.cons_append, List.nil_append]); (with_reducible show wpAny _ _ (call (Value.ref 1113) _) _ _ _); k_dflt (refine' connect_R ?XZq ?TZq ?CZq ?dZq ?uZq ?OZq ?o1Zq ?o2Zq ?o3Zq ?m2Zq ?hCZq ?lenZq ?nkZq ?h1Zq ?h2Zq ?_; (case CZq => (first | ((refine FrL.cx ‹_› (by k_asm) (by k_asm) (by (intro q hq; kqd_all)) (by rfl))) | ((refine Cx.call ‹_› (by k_asm) (by rfl))))); (case XZq => assumption); (case TZq => assumption); (case dZq => ktr_room); (case uZq => exact un_lt (by assumption) rfl (by decide)); (case OZq => (first | ((refine FrL.own ‹_› (by k_asm) (by keq_rows) (by krn_off))) | ((refine Own.of ‹_› (by k_asm) (by keq_rows))))); (case o1Zq => assumption); (case o2Zq => assumption); (case o3Zq => assumption); (case m2Zq => assumption); (case hCZq => (exact DO.get ‹_› (by k_asm) (by k_asm) (by k_mem))); (case lenZq => assumption); (case h1Zq => exact is_tup2 (by k_asm) (by k_mem)); (case h2Zq => exact is_tup2 (by k_asm) (by k_mem)); (case nkZq => exact TInv.noC (by assumption) _ _)); intro hZq' tkZq' oCZq' aTZq' hKZq' gZq' hCZq'; obtain ⟨FZq', NZq'⟩ := News.at1 (by k_asm) (by k_asm) (by k_updF) hKZq' gZq'; (try dsimp only at NZq')) | ((try dsimp only [List.cons_append, List.nil_append]); (with_reducible show wpAny _ _ (call (Value.ref 1106) _) _ _ _); k_dflt (refine' listen_R ?XZq ?TZq ?CZq ?dZq ?uZq ?OZq ?o1Zq ?o2Zq ?o3Zq ?m2Zq ?hLZq ?lenZq ?nkZq ?_; (case CZq => (first | ((refine FrL.cx ‹_› (by k_asm) (by k_asm) (by (intro q hq; kqd_all)) (by rfl))) | ((refine Cx.call ‹_› (by k_asm) (by rfl))))); (case XZq => assumption); (case TZq => assumption); (case dZq => ktr_room); (case uZq => exact un_lt (by assumption) rfl (by decide)); (case OZq => (first | ((refine FrL.own ‹_› (by k_asm) (by keq_rows) (by krn_off))) | ((refine Own.of ‹_› (by k_asm) (by keq_rows))))); (case o1Zq => assumption); (case o2Zq => assumption); (case o3Zq => assumption); (case m2Zq => assumption); (case hLZq => (exact DO.get ‹_› (by k_asm) (by k_asm) (by k_mem))); (case lenZq => assumption); (case nkZq => exact TInv.noL (by assumption) _)); intro hZq' tkZq' oLZq' aTZq' hKZq' gZq' hLZq'; obtain ⟨FZq', NZq'⟩ := News.at1 (by k_asm) (by k_asm) (by k_updF) hKZq' gZq'; (try dsimp only at NZq')) | ((try dsimp only [List.cons_append, List.nil_append]); (with_reducible show wpAny _ _ (call (Value.ref 1274) [Value.ref _, Value.int 77 _]) _ _ _); k_dflt (refine' own77_R ?XZq ?TZq ?CZq ?dZq ?_; (case CZq => (first | ((refine FrL.cx ‹_› (by k_asm) (by k_asm) (by (intro q hq; kqd_all)) (by rfl))) | ((refine Cx.call ‹_› (by k_asm) (by rfl))))); (case XZq => assumption); (case TZq => assumption); (case dZq => ktr_room)); intro hZq' tkZq' hKZq'; obtain ⟨FZq', NZq'⟩ := News.at0 (by k_asm) (by k_asm) hKZq') | ((try dsimp only [List.cons_append, List.nil_append]); (with_reducible show wpAny _ _ (call (Value.ref 1421) [Value.ref _, Value.ref _]) _ _ _); k_dflt (refine' law_one_R ?XZq ?TZq ?CZq ?dZq ?OZq ?o1Zq ?IZq ?n1Zq ?n2Zq ?S1Zq ?S2Zq ?_; (case CZq => (first | ((refine FrL.cx ‹_› (by k_asm) (by k_asm) (by (intro q hq; kqd_all)) (by rfl))) | ((refine Cx.call ‹_› (by k_asm) (by rfl))))); (case XZq => assumption); (case TZq => assumption); (case dZq => ktr_room); (case OZq => (first | ((refine FrL.own ‹_› (by k_asm) (by keq_rows) (by krn_off))) | ((refine Own.of ‹_› (by k_asm) (by keq_rows))))); (case o1Zq => regstrif_gather); (case IZq => assumption); (case n1Zq => assumption); (case n2Zq => assumption); (case S1Zq => assumption); (case S2Zq => assumption)); intro hZq' tkZq' dZq' tdZq' AZq' SZq' taZq' tsZq' nZq' b1Zq' b3Zq' b4Zq' hKZq' gZq'; obtain ⟨FZq', NZq'⟩ := News.at1 (by k_asm) (by k_asm) (by k_updF) hKZq' gZq'; (try dsimp only at NZq')) | ((try dsimp only [List.cons_append, List.nil_append]); (with_reducible show wpAny _ _ (call (Value.ref 1414) [Value.ref _, Value.int _ _]) _ _ _); k_dflt (refine' law_take_R ?XZq ?TZq ?CZq ?dZq ?OZq ?m1Zq ?m2Zq ?S1Zq ?S2Zq ?_; (case CZq => (first | ((refine FrL.cx ‹_› (by k_asm) (by k_asm) (by (intro q hq; kqd_all)) (by rfl))) | ((refine Cx.call ‹_› (by k_asm) (by rfl))))); (case XZq => assumption); (case TZq => assumption); (case dZq => ktr_room); (case OZq => (first | ((refine FrL.own ‹_› (by k_asm) (by keq_rows) (by krn_off))) | ((refine Own.of ‹_› (by k_asm) (by keq_rows))))); (case m1Zq => regstrif_gather); (case m2Zq => regstrif_gather); (case S1Zq => assumption); (case S2Zq => assumption)); intro hZq' tkZq' dZq' tdZq' AZq' SZq' taZq' tsZq' nZq' b1Zq' b2Zq' b3Zq' b4Zq' hKZq' gZq'; obtain ⟨FZq', NZq'⟩ := News.at1 (by k_asm) (by k_asm) (by k_updF) hKZq' gZq'; (try dsimp only at NZq')) | ((try dsimp only [List.cons_append, List.nil_append]); (with_reducible show wpAny _ _ (call (Value.ref 151) [Value.ref _, Value.int _ _]) _ _ _); k_dflt (refine' free_R ?XZq ?TZq ?CZq ?dZq ?OZq ?o1Zq ?o2Zq ?mZq ?DZq ?lenZq ?nbZq ?_ ?_; (case CZq => (first | ((refine FrL.cx ‹_› (by k_asm) (by k_asm) (by (intro q hq; kqd_all)) (by rfl))) | ((refine Cx.call ‹_› (by k_asm) (by rfl))))); (case XZq => assumption); (case TZq => assumption); (case dZq => ktr_room); (case OZq => (first | ((refine FrL.own ‹_› (by k_asm) (by keq_rows) (by krn_off))) | ((refine Own.of ‹_› (by k_asm) (by keq_rows))))); (case o1Zq => regstrif_gather); (case o2Zq => regstrif_gather); (case mZq => assumption); (case DZq => k_asm); (case lenZq => first | assumption | exact small_stored (by assumption)); (case nbZq => assumption)); (intro hZq' tkZq' oTZq' hsZq' hTdZq' hKZq' haTZq'; obtain ⟨FZq', NZq'⟩ := News.at1 (by k_asm) (by k_asm) (by k_updF) hKZq' haTZq'); rotate_left; (intro eZq' hZq' tkZq' hmZq' hscZq' hKZq' RZq'; dsimp only)))
          k_steps
          (try (first | ((try dsimp only [List.cons_append, List.nil_append]); (with_reducible show wpAny _ _ (call (Value.ref 1118) _) _ _ _); k_dflt (refine' remove_R ?XZq ?TZq ?CZq ?dZq ?uZq ?OZq ?o1Zq ?o2Zq ?o3Zq ?m1Zq ?m2Zq ?hCZq ?hLZq ?vCZq ?vLZq ?lenZq ?len2Zq ?_; (case CZq => (first | ((refine FrL.cx ‹_› (by k_asm) (by k_asm) (by (intro q hq; kqd_all)) (by rfl))) | ((refine Cx.call ‹_› (by k_asm) (by rfl))))); (case XZq => assumption); (case TZq => assumption); (case dZq => ktr_room); (case uZq => exact un_lt (by assumption) rfl (by decide)); (case OZq => (first | ((refine FrL.own ‹_› (by k_asm) (by keq_rows) (by krn_off))) | ((refine Own.of ‹_› (by k_asm) (by keq_rows))))); (case o1Zq => assumption); (case o2Zq => assumption); (case o3Zq => assumption); (case m1Zq => assumption); (case m2Zq => assumption); (case hCZq => (exact DO.get ‹_› (by k_asm) (by k_asm) (by k_mem))); (case hLZq => (exact DO.get ‹_› (by k_asm) (by k_asm) (by k_mem))); (case vCZq => exact TInv.vC (by assumption)); (case vLZq => exact TInv.vL (by assumption)); (case lenZq => assumption); (case len2Zq => assumption)); intro hZq' tkZq' tZq' oCZq' oLZq' hKZq' gCZq' gLZq' hCZq' hLZq'; obtain ⟨FZq', NZq'⟩ := News.at2 (by k_asm) (by k_asm) (by k_updF) (by k_updF) hKZq' gCZq' gLZq' (by k_ne); (try dsimp only at NZq')) | ((try dsimp only [List.cons_append, List.nil_append]); (with_reducible show wpAny _ _ (call (Value.ref 1113) _) _ _ _); k_dflt (refine' connect_R ?XZq ?TZq ?CZq ?dZq ?uZq ?OZq ?o1Zq ?o2Zq ?o3Zq ?m2Zq ?hCZq ?lenZq ?nkZq ?h1Zq ?h2Zq ?_; (case CZq => (first | ((refine FrL.cx ‹_› (by k_asm) (by k_asm) (by (intro q hq; kqd_all)) (by rfl))) | ((refine Cx.call ‹_› (by k_asm) (by rfl))))); (case XZq => assumption); (case TZq => assumption); (case dZq => ktr_room); (case uZq => exact un_lt (by assumption) rfl (by decide)); (case OZq => (first | ((refine FrL.own ‹_› (by k_asm) (by keq_rows) (by krn_off))) | ((refine Own.of ‹_› (by k_asm) (by keq_rows))))); (case o1Zq => assumption); (case o2Zq => assumption); (case o3Zq => assumption); (case m2Zq => assumption); (case hCZq => (exact DO.get ‹_› (by k_asm) (by k_asm) (by k_mem))); (case lenZq => assumption); (case h1Zq => exact is_tup2 (by k_asm) (by k_mem)); (case h2Zq => exact is_tup2 (by k_asm) (by k_mem)); (case nkZq => exact TInv.noC (by assumption) _ _)); intro hZq' tkZq' oCZq' aTZq' hKZq' gZq' hCZq'; obtain ⟨FZq', NZq'⟩ := News.at1 (by k_asm) (by k_asm) (by k_updF) hKZq' gZq'; (try dsimp only at NZq')) | ((try dsimp only [List.cons_append, List.nil_append]); (with_reducible show wpAny _ _ (call (Value.ref 1106) _) _ _ _); k_dflt (refine' listen_R ?XZq ?TZq ?CZq ?dZq ?uZq ?OZq ?o1Zq ?o2Zq ?o3Zq ?m2Zq ?hLZq ?lenZq ?nkZq ?_; (case CZq => (first | ((refine FrL.cx ‹_› (by k_asm) (by k_asm) (by (intro q hq; kqd_all)) (by rfl))) | ((refine Cx.call ‹_› (by k_asm) (by rfl))))); (case XZq => assumption); (case TZq => assumption); (case dZq => ktr_room); (case uZq => exact un_lt (by assumption) rfl (by decide)); (case OZq => (first | ((refine FrL.own ‹_› (by k_asm) (by keq_rows) (by krn_off))) | ((refine Own.of ‹_› (by k_asm) (by keq_rows))))); (case o1Zq => assumption); (case o2Zq => assumption); (case o3Zq => assumption); (case m2Zq => assumption); (case hLZq => (exact DO.get ‹_› (by k_asm) (by k_asm) (by k_mem))); (case lenZq => assumption); (case nkZq => exact TInv.noL (by assumption) _)); intro hZq' tkZq' oLZq' aTZq' hKZq' gZq' hLZq'; obtain ⟨FZq', NZq'⟩ := News.at1 (by k_asm) (by k_asm) (by k_updF) hKZq' gZq'; (try dsimp only at NZq')) | ((try dsimp only [List.cons_append, List.nil_append]); (with_reducible show wpAny _ _ (call (Value.ref 1274) [Value.ref _, Value.int 77 _]) _ _ _); k_dflt (refine' own77_R ?XZq ?TZq ?CZq ?dZq ?_; (case CZq => (first | ((refine FrL.cx ‹_› (by k_asm) (by k_asm) (by (intro q hq; kqd_all)) (by rfl))) | ((refine Cx.call ‹_› (by k_asm) (by rfl))))); (case XZq => assumption); (case TZq => assumption); (case dZq => ktr_room)); intro hZq' tkZq' hKZq'; obtain ⟨FZq', NZq'⟩ := News.at0 (by k_asm) (by k_asm) hKZq') | ((try dsimp only [List.cons_append, List.nil_append]); (with_reducible show wpAny _ _ (call (Value.ref 1421) [Value.ref _, Value.ref _]) _ _ _); k_dflt (refine' law_one_R ?XZq ?TZq ?CZq ?dZq ?OZq ?o1Zq ?IZq ?n1Zq ?n2Zq ?S1Zq ?S2Zq ?_; (case CZq => (first | ((refine FrL.cx ‹_› (by k_asm) (by k_asm) (by (intro q hq; kqd_all)) (by rfl))) | ((refine Cx.call ‹_› (by k_asm) (by rfl))))); (case XZq => assumption); (case TZq => assumption); (case dZq => ktr_room); (case OZq => (first | ((refine FrL.own ‹_› (by k_asm) (by keq_rows) (by krn_off))) | ((refine Own.of ‹_› (by k_asm) (by keq_rows))))); (case o1Zq => regstrif_gather); (case IZq => assumption); (case n1Zq => assumption); (case n2Zq => assumption); (case S1Zq => assumption); (case S2Zq => assumption)); intro hZq' tkZq' dZq' tdZq' AZq' SZq' taZq' tsZq' nZq' b1Zq' b3Zq' b4Zq' hKZq' gZq'; obtain ⟨FZq', NZq'⟩ := News.at1 (by k_asm) (by k_asm) (by k_updF) hKZq' gZq'; (try dsimp only at NZq')) | ((try dsimp only [List.cons_append, List.nil_append]); (with_reducible show wpAny _ _ (call (Value.ref 1414) [Value.ref _, Value.int _ _]) _ _ _); k_dflt (refine' law_take_R ?XZq ?TZq ?CZq ?dZq ?OZq ?m1Zq ?m2Zq ?S1Zq ?S2Zq ?_; (case CZq => (first | ((refine FrL.cx ‹_› (by k_asm) (by k_asm) (by (intro q hq; kqd_all)) (by rfl))) | ((refine Cx.call ‹_› (by k_asm) (by rfl))))); (case XZq => assumption); (case TZq => assumption); (case dZq => ktr_room); (case OZq => (first | ((refine FrL.own ‹_› (by k_asm) (by keq_rows) (by krn_off))) | ((refine Own.of ‹_› (by k_asm) (by keq_rows))))); (case m1Zq => regstrif_gather); (case m2Zq => regstrif_gather); (case S1Zq => assumption); (case S2Zq => assumption)); intro hZq' tkZq' dZq' tdZq' AZq' SZq' taZq' tsZq' nZq' b1Zq' b2Zq' b3Zq' b4Zq' hKZq' gZq'; obtain ⟨FZq', NZq'⟩ := News.at1 (by k_asm) (by k_asm) (by k_updF) hKZq' gZq'; (try dsimp only at NZq')) | ((try dsimp only [List.cons_append, List.nil_append]); (with_reducible show wpAny _ _ (call (Value.ref 151) [Value.ref _, Value.int _ _]) _ _ _); k_dflt (refine' free_R ?XZq ?TZq ?CZq ?dZq ?OZq ?o1Zq ?o2Zq ?mZq ?DZq ?lenZq ?nbZq ?_ ?_; (case CZq => (first | ((refine FrL.cx ‹_› (by k_asm) (by k_asm) (by (intro q hq; kqd_all)) (by rfl))) | ((refine Cx.call ‹_› (by k_asm) (by rfl))))); (case XZq => assumption); (case TZq => assumption); (case dZq => ktr_room); (case OZq => (first | ((refine FrL.own ‹_› (by k_asm) (by keq_rows) (by krn_off))) | ((refine Own.of ‹_› (by k_asm) (by keq_rows))))); (case o1Zq => regstrif_gather); (case o2Zq => regstrif_gather); (case mZq => assumption); (case DZq => k_asm); (case lenZq => first | assumption | exact small_stored (by assumption)); (case nbZq => assumption)); (intro hZq' tkZq' oTZq' hsZq' hTdZq' hKZq' haTZq'; obtain ⟨FZq', NZq'⟩ := News.at1 (by k_asm) (by k_asm) (by k_updF) hKZq' haTZq'); rotate_left; (intro eZq' hZq' tkZq' hmZq' hscZq' hKZq' RZq'; dsimp only))))
          k_steps
          · rename valueAt _ _ = none => z
            rename Option.isSome _ = true => z2
            rw [z] at z2; cases z2
          rename Obj.IsDictOf _ _ (without kvs _) => qd
          rename IntsAre _ (List.eraseIdx _ _) => qi
          rename (List.map _ kvs)[_]? = some _ => qc
          rw [erase_at (nodup_isDict hTd) qc] at qi
          refine' lam_mk ?F ?N ?T hCd rfl ?U hpsg ?q ?dd ?cl ?h1 ?h2
          case F => k_asm
          case N => k_asm
          case T => assumption
          case U => k_updF
          case q => rfl
          case dd => exact rfl
          case cl => exact rfl
          case' h1 => intro f' c' oc' vs' t' ctv h' tk F6 N6 d1 d2 l1 l2; have lo3 := ltD_in fun q hq => Nat.lt_trans (l1 q hq) l2
          case' h2 => intro f' c' ctv h' tk F6 N6 hpe hcr l1
          all_goals
            (try dsimp only at N6)
            k_lt l1
            k_steps
          all_goals
            k_dflt (refine' ref_free_R (cO := L' + 1 + 1) (cS := L' + 1) ?X ?T ?C ?d ?O ?hoc ?hoo ?ha ?hcd o1 o2 o3 o4 ?hcS ?hcO hsm qd ?hlen2 ?hn none_without ?r)
            case C => (first | ((refine FrL.cx ‹_› (by k_asm) (by k_asm) (by (intro q hq; kqd_all)) (by rfl))) | ((refine Cx.call ‹_› (by k_asm) (by rfl))))
            case X => assumption
            case T => assumption
            case d => ktr_room
            case hoc => assumption
            case hoo => assumption
            case O => (first | ((refine FrL.own ‹_› (by k_asm) (by keq_rows) (by krn_off))) | ((refine Own.of ‹_› (by k_asm) (by keq_rows))))
            case ha => exact News.get (by k_asm) (by k_mem)
            case hcd => first
              | exact codeRec_news (by k_asm) (by k_mem) d1 d2
              | exact codeRec_up hcr (Fr.keep (by k_asm))
            case hcS => omega
            case hcO => omega
            case hlen2 => exact Nat.le_trans (List.length_filter_le _ _) (Nat.le_trans hlen (by decide))
            case hn => assumption
            case r =>
              intro h2 tk2 hKF
              obtain ⟨fr2, P2, F5, N5⟩ := catch0 P (by k_asm) (by k_asm) (by walk_at "tailF") hKF
              (try dsimp only at N5)
              clear P F6 N6
              k_steps
              show Q (Value.bool true) _
              refine' hret _ _ _ _ _ _ _ (without kvs _) _ _ _ kvsU oU xsC oC xsL oL _ ?S1 ?S2 List.filter_sublist ?T ?I ?U TI.up ?C ?L ?P ?kp ?g1
              case S1 => assumption
              case S2 => assumption
              case T => exact qd
              case I => exact qi
              case U => exact hUd
              case C => exact DC.get (by k_asm) (by k_asm) (by k_mem)
              case L => exact DL.get (by k_asm) (by k_asm) (by k_mem)
              case kp => ((refine kp_endF ‹_› ‹_› ‹_› (by k_asm) (by k_asm) (by (intro q hq; kqd_all)) (by ked_reads)))
              case g1 => ked_read
              case P => first
                | exact .inr ⟨c', rfl, codeRec_news (by k_asm) (by k_mem) d1 d2⟩
                | exact .inr ⟨c', hpe, codeRec_up hcr (Fr.keep (by k_asm))⟩
      · have hz9 := hc rfl
        (try simp only [if_true])
        k_steps
        rename List.Perm _ (List.map _ kvsU) => hp9
        have hq9 := hp9.length_eq
        rw [List.length_map] at hq9
        have hn1 : 1 ≤ List.length _ := hq9 ▸ Nat.one_le_iff_ne_zero.mpr hz9
        have hn2 : List.length _ ≤ 100 := hq9 ▸ (by omega : kvsU.length ≤ 100)
        (first | ((try dsimp only [List.cons_append, List.nil_append]); (with_reducible show wpAny _ _ (call (Value.ref 1118) _) _ _ _); k_dflt (refine' remove_R ?XZq ?TZq ?CZq ?dZq ?uZq ?OZq ?o1Zq ?o2Zq ?o3Zq ?m1Zq ?m2Zq ?hCZq ?hLZq ?vCZq ?vLZq ?lenZq ?len2Zq ?_; (case CZq => (first | ((refine FrL.cx ‹_› (by k_asm) (by k_asm) (by (intro q hq; kqd_all)) (by rfl))) | ((refine Cx.call ‹_› (by k_asm) (by rfl))))); (case XZq => assumption); (case TZq => assumption); (case dZq => ktr_room); (case uZq => exact un_lt (by assumption) rfl (by decide)); (case OZq => (first | ((refine FrL.own ‹_› (by k_asm) (by keq_rows) (by krn_off))) | ((refine Own.of ‹_› (by k_asm) (by keq_rows))))); (case o1Zq => assumption); (case o2Zq => assumption); (case o3Zq => assumption); (case m1Zq => assumption); (case m2Zq => assumption); (case hCZq => (exact DO.get ‹_› (by k_asm) (by k_asm) (by k_mem))); (case hLZq => (exact DO.get ‹_› (by k_asm) (by k_asm) (by k_mem))); (case vCZq => exact TInv.vC (by assumption)); (case vLZq => exact TInv.vL (by assumption)); (case lenZq => assumption); (case len2Zq => assumption)); intro hZq' tkZq' tZq' oCZq' oLZq' hKZq' gCZq' gLZq' hCZq' hLZq'; obtain ⟨FZq', NZq'⟩ := News.at2 (by k_asm) (by k_asm) (by k_updF) (by k_updF) hKZq' gCZq' gLZq' (by k_ne); (try dsimp only at NZq')) | ((try dsimp only [List.cons_append, List.nil_append]); (with_reducible show wpAny _ _ (call (Value.ref 1113) _) _ _ _); k_dflt (refine' connect_R ?XZq ?TZq ?CZq ?dZq ?uZq ?OZq ?o1Zq ?o2Zq ?o3Zq ?m2Zq ?hCZq ?lenZq ?nkZq ?h1Zq ?h2Zq ?_; (case CZq => (first | ((refine FrL.cx ‹_› (by k_asm) (by k_asm) (by (intro q hq; kqd_all)) (by rfl))) | ((refine Cx.call ‹_› (by k_asm) (by rfl))))); (case XZq => assumption); (case TZq => assumption); (case dZq => ktr_room); (case uZq => exact un_lt (by assumption) rfl (by decide)); (case OZq => (first | ((refine FrL.own ‹_› (by k_asm) (by keq_rows) (by krn_off))) | ((refine Own.of ‹_› (by k_asm) (by keq_rows))))); (case o1Zq => assumption); (case o2Zq => assumption); (case o3Zq => assumption); (case m2Zq => assumption); (case hCZq => (exact DO.get ‹_› (by k_asm) (by k_asm) (by k_mem))); (case lenZq => assumption); (case h1Zq => exact is_tup2 (by k_asm) (by k_mem)); (case h2Zq => exact is_tup2 (by k_asm) (by k_mem)); (case nkZq => exact TInv.noC (by assumption) _ _)); intro hZq' tkZq' oCZq' aTZq' hKZq' gZq' hCZq'; obtain ⟨FZq', NZq'⟩ := News.at1 (by k_asm) (by k_asm) (by k_updF) hKZq' gZq'; (try dsimp only at NZq')) | ((try dsimp only [List.cons_append, List.nil_append]); (with_reducible show wpAny _ _ (call (Value.ref 1106) _) _ _ _); k_dflt (refine' listen_R ?XZq ?TZq ?CZq ?dZq ?uZq ?OZq ?o1Zq ?o2Zq ?o3Zq ?m2Zq ?hLZq ?lenZq ?nkZq ?_; (case CZq => (first | ((refine FrL.cx ‹_› (by k_asm) (by k_asm) (by (intro q hq; kqd_all)) (by rfl))) | ((refine Cx.call ‹_› (by k_asm) (by rfl))))); (case XZq => assumption); (case TZq => assumption); (case dZq => ktr_room); (case uZq => exact un_lt (by assumption) rfl (by decide)); (case OZq => (first | ((refine FrL.own ‹_› (by k_asm) (by keq_rows) (by krn_off))) | ((refine Own.of ‹_› (by k_asm) (by keq_rows))))); (case o1Zq => assumption); (case o2Zq => assumption); (case o3Zq => assumption); (case m2Zq => assumption); (case hLZq => (exact DO.get ‹_› (by k_asm) (by k_asm) (by k_mem))); (case lenZq => assumption); (case nkZq => exact TInv.noL (by assumption) _)); intro hZq' tkZq' oLZq' aTZq' hKZq' gZq' hLZq'; obtain ⟨FZq', NZq'⟩ := News.at1 (by k_asm) (by k_asm) (by k_updF) hKZq' gZq'; (try dsimp only at NZq')) | ((try dsimp only [List.cons_append, List.nil_append]); (with_reducible show wpAny _ _ (call (Value.ref 1274) [Value.ref _, Value.int 77 _]) _ _ _); k_dflt (refine' own77_R ?XZq ?TZq ?CZq ?dZq ?_; (case CZq => (first | ((refine FrL.cx ‹_› (by k_asm) (by k_asm) (by (intro q hq; kqd_all)) (by rfl))) | ((refine Cx.call ‹_› (by k_asm) (by rfl))))); (case XZq => assumption); (case TZq => assumption); (case dZq => ktr_room)); intro hZq' tkZq' hKZq'; obtain ⟨FZq', NZq'⟩ := News.at0 (by k_asm) (by k_asm) hKZq') | ((try dsimp only [List.cons_append, List.nil_append]); (with_reducible show wpAny _ _ (call (Value.ref 1421) [Value.ref _, Value.ref _]) _ _ _); k_dflt (refine' law_one_R ?XZq ?TZq ?CZq ?dZq ?OZq ?o1Zq ?IZq ?n1Zq ?n2Zq ?S1Zq ?S2Zq ?_; (case CZq => (first | ((refine FrL.cx ‹_› (by k_asm) (by k_asm) (by (intro q hq; kqd_all)) (by rfl))) | ((refine Cx.call ‹_› (by k_asm) (by rfl))))); (case XZq => assumption); (case TZq => assumption); (case dZq => ktr_room); (case OZq => (first | ((refine FrL.own ‹_› (by k_asm) (by keq_rows) (by krn_off))) | ((refine Own.of ‹_› (by k_asm) (by keq_rows))))); (case o1Zq => regstrif_gather); (case IZq => assumption); (case n1Zq => assumption); (case n2Zq => assumption); (case S1Zq => assumption); (case S2Zq => assumption)); intro hZq' tkZq' dZq' tdZq' AZq' SZq' taZq' tsZq' nZq' b1Zq' b3Zq' b4Zq' hKZq' gZq'; obtain ⟨FZq', NZq'⟩ := News.at1 (by k_asm) (by k_asm) (by k_updF) hKZq' gZq'; (try dsimp only at NZq')) | ((try dsimp only [List.cons_append, List.nil_append]); (with_reducible show wpAny _ _ (call (Value.ref 1414) [Value.ref _, Value.int _ _]) _ _ _); k_dflt (refine' law_take_R ?XZq ?TZq ?CZq ?dZq ?OZq ?m1Zq ?m2Zq ?S1Zq ?S2Zq ?_; (case CZq => (first | ((refine FrL.cx ‹_› (by k_asm) (by k_asm) (by (intro q hq; kqd_all)) (by rfl))) | ((refine Cx.call ‹_› (by k_asm) (by rfl))))); (case XZq => assumption); (case TZq => assumption); (case dZq => ktr_room); (case OZq => (first | ((refine FrL.own ‹_› (by k_asm) (by keq_rows) (by krn_off))) | ((refine Own.of ‹_› (by k_asm) (by keq_rows))))); (case m1Zq => regstrif_gather); (case m2Zq => regstrif_gather); (case S1Zq => assumption); (case S2Zq => assumption)); intro hZq' tkZq' dZq' tdZq' AZq' SZq' taZq' tsZq' nZq' b1Zq' b2Zq' b3Zq' b4Zq' hKZq' gZq'; obtain ⟨FZq', NZq'⟩ := News.at1 (by k_asm) (by k_asm) (by k_updF) hKZq' gZq'; (try dsimp only at NZq')) | ((try dsimp only [List.cons_append, List.nil_append]); (with_reducible show wpAny _ _ (call (Value.ref 151) [Value.ref _, Value.int _ _]) _ _ _); k_dflt (refine' free_R ?XZq ?TZq ?CZq ?dZq ?OZq ?o1Zq ?o2Zq ?mZq ?DZq ?lenZq ?nbZq ?_ ?_; (case CZq => (first | ((refine FrL.cx ‹_› (by k_asm) (by k_asm) (by (intro q hq; kqd_all)) (by rfl))) | ((refine Cx.call ‹_› (by k_asm) (by rfl))))); (case XZq => assumption); (case TZq => assumption); (case dZq => ktr_room); (case OZq => (first | ((refine FrL.own ‹_› (by k_asm) (by keq_rows) (by krn_off))) | ((refine Own.of ‹_› (by k_asm) (by keq_rows))))); (case o1Zq => regstrif_gather); (case o2Zq => regstrif_gather); (case mZq => assumption); (case DZq => k_asm); (case lenZq => first | assumption | exact small_stored (by assumption)); (case nbZq => assumption)); (intro hZq' tkZq' oTZq' hsZq' hTdZq' hKZq' haTZq'; obtain ⟨FZq', NZq'⟩ := News.at1 (by k_asm) (by k_asm) (by k_updF) hKZq' haTZq'); rotate_left; (intro eZq' hZq' tkZq' hmZq' hscZq' hKZq' RZq'; dsimp only)))
        rename _ ∈ _ => hm9
        have hmU := hp9.mem_iff.mp hm9
        have hsU := some_at hmU
        k_steps
        (try (first | ((try dsimp only [List.cons_append, List.nil_append]); (with_reducible show wpAny _ _ (call (Value.ref 1118) _) _ _ _); k_dflt (refine' remove_R ?XZq ?TZq ?CZq ?dZq ?uZq ?OZq ?o1Zq ?o2Zq ?o3Zq ?m1Zq ?m2Zq ?hCZq ?hLZq ?vCZq ?vLZq ?lenZq ?len2Zq ?_; (case CZq => (first | ((refine FrL.cx ‹_› (by k_asm) (by k_asm) (by (intro q hq; kqd_all)) (by rfl))) | ((refine Cx.call ‹_› (by k_asm) (by rfl))))); (case XZq => assumption); (case TZq => assumption); (case dZq => ktr_room); (case uZq => exact un_lt (by assumption) rfl (by decide)); (case OZq => (first | ((refine FrL.own ‹_› (by k_asm) (by keq_rows) (by krn_off))) | ((refine Own.of ‹_› (by k_asm) (by keq_rows))))); (case o1Zq => assumption); (case o2Zq => assumption); (case o3Zq => assumption); (case m1Zq => assumption); (case m2Zq => assumption); (case hCZq => (exact DO.get ‹_› (by k_asm) (by k_asm) (by k_mem))); (case hLZq => (exact DO.get ‹_› (by k_asm) (by k_asm) (by k_mem))); (case vCZq => exact TInv.vC (by assumption)); (case vLZq => exact TInv.vL (by assumption)); (case lenZq => assumption); (case len2Zq => assumption)); intro hZq' tkZq' tZq' oCZq' oLZq' hKZq' gCZq' gLZq' hCZq' hLZq'; obtain ⟨FZq', NZq'⟩ := News.at2 (by k_asm) (by k_asm) (by k_updF) (by k_updF) hKZq' gCZq' gLZq' (by k_ne); (try dsimp only at NZq')) | ((try dsimp only [List.cons_append, List.nil_append]); (with_reducible show wpAny _ _ (call (Value.ref 1113) _) _ _ _); k_dflt (refine' connect_R ?XZq ?TZq ?CZq ?dZq ?uZq ?OZq ?o1Zq ?o2Zq ?o3Zq ?m2Zq ?hCZq ?lenZq ?nkZq ?h1Zq ?h2Zq ?_; (case CZq => (first | ((refine FrL.cx ‹_› (by k_asm) (by k_asm) (by (intro q hq; kqd_all)) (by rfl))) | ((refine Cx.call ‹_› (by k_asm) (by rfl))))); (case XZq => assumption); (case TZq => assumption); (case dZq => ktr_room); (case uZq => exact un_lt (by assumption) rfl (by decide)); (case OZq => (first | ((refine FrL.own ‹_› (by k_asm) (by keq_rows) (by krn_off))) | ((refine Own.of ‹_› (by k_asm) (by keq_rows))))); (case o1Zq => assumption); (case o2Zq => assumption); (case o3Zq => assumption); (case m2Zq => assumption); (case hCZq => (exact DO.get ‹_› (by k_asm) (by k_asm) (by k_mem))); (case lenZq => assumption); (case h1Zq => exact is_tup2 (by k_asm) (by k_mem)); (case h2Zq => exact is_tup2 (by k_asm) (by k_mem)); (case nkZq => exact TInv.noC (by assumption) _ _)); intro hZq' tkZq' oCZq' aTZq' hKZq' gZq' hCZq'; obtain ⟨FZq', NZq'⟩ := News.at1 (by k_asm) (by k_asm) (by k_updF) hKZq' gZq'; (try dsimp only at NZq')) | ((try dsimp only [List.cons_append, List.nil_append]); (with_reducible show wpAny _ _ (call (Value.ref 1106) _) _ _ _); k_dflt (refine' listen_R ?XZq ?TZq ?CZq ?dZq ?uZq ?OZq ?o1Zq ?o2Zq ?o3Zq ?m2Zq ?hLZq ?lenZq ?nkZq ?_; (case CZq => (first | ((refine FrL.cx ‹_› (by k_asm) (by k_asm) (by (intro q hq; kqd_all)) (by rfl))) | ((refine Cx.call ‹_› (by k_asm) (by rfl))))); (case XZq => assumption); (case TZq => assumption); (case dZq => ktr_room); (case uZq => exact un_lt (by assumption) rfl (by decide)); (case OZq => (first | ((refine FrL.own ‹_› (by k_asm) (by keq_rows) (by krn_off))) | ((refine Own.of ‹_› (by k_asm) (by keq_rows))))); (case o1Zq => assumption); (case o2Zq => assumption); (case o3Zq => assumption); (case m2Zq => assumption); (case hLZq => (exact DO.get ‹_› (by k_asm) (by k_asm) (by k_mem))); (case lenZq => assumption); (case nkZq => exact TInv.noL (by assumption) _)); intro hZq' tkZq' oLZq' aTZq' hKZq' gZq' hLZq'; obtain ⟨FZq', NZq'⟩ := News.at1 (by k_asm) (by k_asm) (by k_updF) hKZq' gZq'; (try dsimp only at NZq')) | ((try dsimp only [List.cons_append, List.nil_append]); (with_reducible show wpAny _ _ (call (Value.ref 1274) [Value.ref _, Value.int 77 _]) _ _ _); k_dflt (refine' own77_R ?XZq ?TZq ?CZq ?dZq ?_; (case CZq => (first | ((refine FrL.cx ‹_› (by k_asm) (by k_asm) (by (intro q hq; kqd_all)) (by rfl))) | ((refine Cx.call ‹_› (by k_asm) (by rfl))))); (case XZq => assumption); (case TZq => assumption); (case dZq => ktr_room)); intro hZq' tkZq' hKZq'; obtain ⟨FZq', NZq'⟩ := News.at0 (by k_asm) (by k_asm) hKZq') | ((try dsimp only [List.cons_append, List.nil_append]); (with_reducible show wpAny _ _ (call (Value.ref 1421) [Value.ref _, Value.ref _]) _ _ _); k_dflt (refine' law_one_R ?XZq ?TZq ?CZq ?dZq ?OZq ?o1Zq ?IZq ?n1Zq ?n2Zq ?S1Zq ?S2Zq ?_; (case CZq => (first | ((refine FrL.cx ‹_› (by k_asm) (by k_asm) (by (intro q hq; kqd_all)) (by rfl))) | ((refine Cx.call ‹_› (by k_asm) (by rfl))))); (case XZq => assumption); (case TZq => assumption); (case dZq => ktr_room); (case OZq => (first | ((refine FrL.own ‹_› (by k_asm) (by keq_rows) (by krn_off))) | ((refine Own.of ‹_› (by k_asm) (by keq_rows))))); (case o1Zq => regstrif_gather); (case IZq => assumption); (case n1Zq => assumption); (case n2Zq => assumption); (case S1Zq => assumption); (case S2Zq => assumption)); intro hZq' tkZq' dZq' tdZq' AZq' SZq' taZq' tsZq' nZq' b1Zq' b3Zq' b4Zq' hKZq' gZq'; obtain ⟨FZq', NZq'⟩ := News.at1 (by k_asm) (by k_asm) (by k_updF) hKZq' gZq'; (try dsimp only at NZq')) | ((try dsimp only [List.cons_append, List.nil_append]); (with_reducible show wpAny _ _ (call (Value.ref 1414) [Value.ref _, Value.int _ _]) _ _ _); k_dflt (refine' law_take_R ?XZq ?TZq ?CZq ?dZq ?OZq ?m1Zq ?m2Zq ?S1Zq ?S2Zq ?_; (case CZq => (first | ((refine FrL.cx ‹_› (by k_asm) (by k_asm) (by (intro q hq; kqd_all)) (by rfl))) | ((refine Cx.call ‹_› (by k_asm) (by rfl))))); (case XZq => assumption); (case TZq => assumption); (case dZq => ktr_room); (case OZq => (first | ((refine FrL.own ‹_› (by k_asm) (by keq_rows) (by krn_off))) | ((refine Own.of ‹_› (by k_asm) (by keq_rows))))); (case m1Zq => regstrif_gather); (case m2Zq => regstrif_gather); (case S1Zq => assumption); (case S2Zq => assumption)); intro hZq' tkZq' dZq' tdZq' AZq' SZq' taZq' tsZq' nZq' b1Zq' b2Zq' b3Zq' b4Zq' hKZq' gZq'; obtain ⟨FZq', NZq'⟩ := News.at1 (by k_asm) (by k_asm) (by k_updF) hKZq' gZq'; (try dsimp only at NZq')) | ((try dsimp only [List.cons_append, List.nil_append]); (with_reducible show wpAny _ _ (call (Value.ref 151) [Value.ref _, Value.int _ _]) _ _ _); k_dflt (refine' free_R ?XZq ?TZq ?CZq ?dZq ?OZq ?o1Zq ?o2Zq ?mZq ?DZq ?lenZq ?nbZq ?_ ?_; (case CZq => (first | ((refine FrL.cx ‹_› (by k_asm) (by k_asm) (by (intro q hq; kqd_all)) (by rfl))) | ((refine Cx.call ‹_› (by k_asm) (by rfl))))); (case XZq => assumption); (case TZq => assumption); (case dZq => ktr_room); (case OZq => (first | ((refine FrL.own ‹_› (by k_asm) (by keq_rows) (by krn_off))) | ((refine Own.of ‹_› (by k_asm) (by keq_rows))))); (case o1Zq => regstrif_gather); (case o2Zq => regstrif_gather); (case mZq => assumption); (case DZq => k_asm); (case lenZq => first | assumption | exact small_stored (by assumption)); (case nbZq => assumption)); (intro hZq' tkZq' oTZq' hsZq' hTdZq' hKZq' haTZq'; obtain ⟨FZq', NZq'⟩ := News.at1 (by k_asm) (by k_asm) (by k_updF) hKZq' haTZq'); rotate_left; (intro eZq' hZq' tkZq' hmZq' hscZq' hKZq' RZq'; dsimp only))))
        k_steps
        rw [TI.one hmU]
        show Q (Value.bool true) _
        refine' hret _ _ _ _ _ _ _ kvs vsH _ oT _ _ _ _ _ _ ps ?S1 ?S2 (List.Sublist.refl _) ?T ?I ?U (TI.remove _) ?C ?L ?P ?kp ?g1
        case S1 => assumption
        case S2 => assumption
        case T => exact hTd
        case I => exact hI
        case U => assumption
        case C => assumption
        case L => assumption
        case kp => ((refine kp_endF ‹_› ‹_› ‹_› (by k_asm) (by k_asm) (by (intro q hq; kqd_all)) (by ked_reads)))
        case g1 => ked_read
        case P => exact (hps.base GK C₀ O (by kp_flats)).up (Fr.keep (by k_asm))
end
end
section -- B27
/-- a table of code wherever g and the objects ex stay -/
noncomputable def PsK (pos : Pos) (qual : Str) (g : Heap) (ex : List (Addr × Obj)) (ps : Array Value) : Prop :=
  ps = #[] ∨ ∃ c', ps = #[rawInt pos.line, rawInt pos.col, .ref c'] ∧ ∀ h, g.StaysIn h → AllAt h ex → h.CodeRec (.ref c') qual
/-- a key tuple, or a code object -/
noncomputable def ExO (o : Obj) : Prop := TupO o ∨ ∃ vs q t, o.data = .fields vs ∧ vs[1]? = some (.str q t)
noncomputable def ExAt (g : Heap) (L : Addr) (h : Heap) (ex : List (Addr × Obj)) : Prop := ∀ q ∈ ex, h.get? q.1 = some q.2 ∧ ExO q.2 ∧ g.get? q.1 = none ∧ q.1 ≠ L
theorem notEx {o : Obj} (h1 : ¬ TupO o) (h2 : NoCode o) : ¬ ExO o := fun h => h.elim h1 fun ⟨vs, q, t, a, b⟩ => h2 vs q t a b
theorem notEx_it {o : Obj} {a b c : Int} (hc : o.cls = .type "range_iterator") (hd : o.data = .fields #[rawInt a, rawInt b, rawInt c]) : ¬ ExO o := fun h => h.elim
  (fun x => by have := x.1; rw [hc] at this; injection this with e; exact absurd e (by decide))
  fun ⟨vs, q, t, x, y⟩ => by rw [hd] at x; injection x with x; subst x; cases y
section
variable {g h : Heap} {L : Addr} {m : Str → Option Value} {news : List (Addr × Obj)} {pos : Pos} {qual : Str} {ps : Array Value} {ex ex' : List (Addr × Obj)}
theorem PsK.get (P : PsK pos qual g ex ps) (F : Fr g L h m) (N : News g L h news) (hk : ∀ q ∈ ex, q ∈ news) : PsOk pos qual ps h :=
  P.imp id fun ⟨c', a, b⟩ => ⟨c', a, b h F.keep fun q hq => (N q (hk q hq)).1⟩
theorem PsK.mono (P : PsK pos qual g ex ps) (hk : ∀ q ∈ ex, q ∈ ex') : PsK pos qual g ex' ps :=
  P.imp id fun ⟨c', a, b⟩ => ⟨c', a, fun h st hh => b h st fun q hq => hh q (hk q hq)⟩
theorem PsK.code (P : PsK pos qual g ex ps) : NoCode (tabObj ps) := fun vs q t e he => by
  have e2 : ps = vs := by injection e
  subst e2
  rcases P with rfl | ⟨c', rfl, _⟩
  · cases he
  · cases he
theorem psk_of (F : Fr g L h m) (hp : PsOk pos qual ps h) : ∃ ex, ExAt g L h ex ∧ PsK pos qual g ex ps := by
  rcases hp with rfl | ⟨c', rfl, c, oc, vs, t, hc, hoc, hd, hq⟩
  · exact ⟨[], (fun _ h => nomatch h), .inl rfl⟩
  · cases z : g.get? c with
    | some o' =>
      have e := F.keep _ _ z
      rw [hoc] at e
      obtain rfl := Option.some.inj e
      exact ⟨[], (fun _ h => nomatch h), .inr ⟨c', rfl, fun h' st _ => ⟨c, oc, vs, t, hc, st _ _ z, hd, hq⟩⟩⟩
    | none =>
      refine ⟨[(c, oc)], fun q hq' => ?_, .inr ⟨c', rfl, fun h' st hh => ⟨c, oc, vs, t, hc, hh _ (.head _), hd, hq⟩⟩⟩
      obtain rfl := List.mem_singleton.mp hq'
      refine ⟨hoc, .inr ⟨vs, _, t, hd, hq⟩, z, fun e => ?_⟩
      obtain ⟨oL, hoL, ⟨_, _, hdL⟩, _⟩ := frObj_of F
      have e : c = L := e
      rw [e, hoL] at hoc
      obtain rfl := Option.some.inj hoc
      rw [hdL] at hd; cases hd
end
section
variable {prog : Program} {w : World} {K : Type} [DecidableEq K] {knd : HeapKind prog w K} {g h : Heap} {L d : Addr} {o : Obj} {m : Str → Option Value} {xs : List (K × Addr × Value)}
theorem dkx_of (T : FinKnd knd) (F : Fr g L h m) (hm : h.DictOfH knd d xs) (e : h.get? d = some o) : ∃ ex, ExAt g L h ex ∧ DK knd g ex o xs := by
  obtain ⟨kt, a, b, c⟩ := dk_of T F hm e
  exact ⟨kt, fun q hq => ⟨(a q hq).1, .inl (a q hq).2, b q hq⟩, c⟩
end
/-- what the tables rest on: key tuples, code objects, none of them in the base -/
theorem ex_all {prog : Program} {w : World} {g h : Heap} {L dC dL : Addr} {oC oL : Obj} {m : Str → Option Value} {xsC : CL} {xsL : LL} {p1 p2 : Pos} {q1 q2 : Str} {ps1 ps2 : Array Value} (F : Fr g L h m)
    (hC : h.DictOfH (ttKind prog w) dC xsC) (hL : h.DictOfH (tupleKind (intKind prog w)) dL xsL) (gC : h.get? dC = some oC) (gL : h.get? dL = some oL) (hp1 : PsOk p1 q1 ps1 h) (hp2 : PsOk p2 q2 ps2 h) :
    ∃ ex, ExAt g L h ex ∧ DK (ttKind prog w) g ex oC xsC ∧ DK (tupleKind (intKind prog w)) g ex oL xsL ∧ PsK p1 q1 g ex ps1 ∧ PsK p2 q2 g ex ps2 := by
  obtain ⟨e1, a1, b1⟩ := dkx_of fin_tt F hC gC
  obtain ⟨e2, a2, b2⟩ := dkx_of fin_t F hL gL
  obtain ⟨e3, a3, b3⟩ := psk_of F hp1
  obtain ⟨e4, a4, b4⟩ := psk_of F hp2
  refine ⟨e1 ++ (e2 ++ (e3 ++ e4)), fun q hq => ?_, b1.mono fun q hq => by simp [hq], b2.mono fun q hq => by simp [hq], b3.mono fun q hq => by simp [hq], b4.mono fun q hq => by simp [hq]⟩
  rcases List.mem_append.mp hq with z | hq
  · exact a1 q z
  rcases List.mem_append.mp hq with z | hq
  · exact a2 q z
  rcases List.mem_append.mp hq with z | z
  · exact a3 q z
  · exact a4 q z
theorem ex_news {g h : Heap} {L : Addr} {pre fr ex : List (Addr × Obj)} (N : News g L h (pre ++ fr)) (hk : ExAt g L h ex) (hp : ∀ q ∈ pre, ¬ ExO q.2) :
    News g L h (pre ++ (ex ++ fr)) ∧ ∀ q ∈ ex, ∀ p ∈ pre, q.1 ≠ p.1 := by
  refine ⟨fun q hq => ?_, fun q hq p hpp e => ?_⟩
  · rcases List.mem_append.mp hq with z | z
    · exact N q (List.mem_append_left _ z)
    · rcases List.mem_append.mp z with z | z
      · exact ⟨(hk q z).1, (hk q z).2.2.2, (hk q z).2.2.1⟩
      · exact N q (List.mem_append_right _ z)
  · have a := hk q hq
    rw [e, (N p (List.mem_append_left _ hpp)).1] at a
    exact hp p hpp (Option.some.inj a.1 ▸ a.2.1)
/-- behind a call that turned what pre tells -/
theorem turn_back {prog : Program} {w : World} {s h₀ g h h' : Heap} {L dC dL : Addr} {m : Str → Option Value} {news pre fr : List (Addr × Obj)} {outer : List Env} {cn : Str} {cs : Scope} {a : Addr} {ccd : Value} {cl : List (Str × Addr)} {M ad : List Addr}
    {oC oL : Obj} {xsC : CL} {xsL : LL} {p1 p2 : Pos} {q1 q2 : Str} {ps1 ps2 : Array Value} (it : List (Addr × Obj))
    (P : FrL s h₀ g outer fr) (F : Fr g L h m) (N : News g L h news) (hfr : ∀ p ∈ fr, p ∈ news) (k : Kp M (frs (envX cn cs L a ccd cl :: outer)) h h')
    (hM : ∀ b ∈ M, b ∈ ad) (hall : AllAt h' pre) (had : pre.map Prod.fst = ad) (hpre : ∀ b ∈ ad, ∃ o, (b, o) ∈ news) (hpf : ∀ b ∈ ad, b ∉ frs outer)
    (hit : ∀ q ∈ it, q ∈ news ∧ q.1 ∉ M ∧ q.1 ∉ frs outer)
    (hC : h'.DictOfH (ttKind prog w) dC xsC) (hL : h'.DictOfH (tupleKind (intKind prog w)) dL xsL) (mC : (dC, oC) ∈ pre) (mL : (dL, oL) ∈ pre) (hp1 : PsOk p1 q1 ps1 h') (hp2 : PsOk p2 q2 ps2 h') (hx : ∀ q ∈ it ++ pre, ¬ ExO q.2) :
    ∃ fr' ex, FrL s h₀ g outer fr' ∧ Fr g L h' m ∧ News g L h' ((it ++ pre) ++ (ex ++ fr')) ∧ (∀ q ∈ ex, ∀ p ∈ it ++ pre, q.1 ≠ p.1) ∧
      DK (ttKind prog w) g ex oC xsC ∧ DK (tupleKind (intKind prog w)) g ex oL xsL ∧ PsK p1 q1 g ex ps1 ∧ PsK p2 q2 g ex ps2 := by
  subst had
  obtain ⟨fr', P', F', N'⟩ := behind_F (news' := it ++ pre) P F N hfr k (fun b hb => let ⟨o, ho⟩ := hpre b (hM b hb); ⟨o, ho, hpf b (hM b hb)⟩) fun q hq => by
    rcases List.mem_append.mp hq with z | z
    · exact .inl (hit q z)
    · exact .inr ⟨hall q z, hpre _ (List.mem_map_of_mem z)⟩
  obtain ⟨ex, x1, x2, x3, x4, x5⟩ := ex_all F' hC hL (hall _ mC) (hall _ mL) hp1 hp2
  obtain ⟨N2, x6⟩ := ex_news N' x1 hx
  exact ⟨fr', ex, P', F', N2, x6, x2, x3, x4, x5⟩
/-- what a turn of own_ports leaves -/
structure LI (prog : Program) (w : World) (many : Int) (i : Nat) (S fo : Int) (kvs kvsU : List (Int × Value)) (vsH : List Value) (oT oU : Obj) (xsC : CL) (xsL : LL) : Prop where
  S1 : 0 ≤ S
  S2 : S < 2147483647
  b1 : 30 ≤ fo
  b2 : fo ≤ 29 + many
  T : oT.IsDictOf (intKind prog w) kvs
  U : oU.IsDictOf (intKind prog w) kvsU
  I : IntsAre vsH (kvs.map (·.1))
  kb : ∀ x ∈ kvs, 30 ≤ x.1 ∧ x.1 ≤ 33
  len : kvs.length ≤ i
  TI : TInv (i : Int) kvsU xsC xsL
section
variable {prog : Program} {w : World} {many : Int} {i : Nat} {S S' fo fo' : Int} {kvs kvs' kvsU kvsU' : List (Int × Value)} {vsH vsH' : List Value} {oT oT' oU oU' : Obj} {xsC xsC' : CL} {xsL xsL' : LL}
theorem LI.asked (h : LI prog w many i S fo kvs kvsU vsH oT oU xsC xsL) (hm : many ≤ 4) (s1 : 0 ≤ S') (s2 : S' < 2147483647) (b1 : 30 ≤ fo') (b2 : fo' ≤ 29 + many) (hk : kvs' = kvs ∨ ∃ g0, 30 ≤ g0 ∧ g0 ≤ 29 + many ∧ (valueAt kvs g0).isSome = false ∧ kvs' = kvs ++ [(g0, .bool true)])
    (hT : oT'.IsDictOf (intKind prog w) kvs') (hI : IntsAre vsH' (kvs'.map (·.1))) : LI prog w many (i + 1) S' fo' kvs' kvsU vsH' oT' oU xsC xsL := by
  refine ⟨s1, s2, b1, b2, hT, h.U, hI, ?_, ?_, by have := h.TI.up; rwa [Int.natCast_succ]⟩
  · rcases hk with rfl | ⟨g0, c1, c2, _, rfl⟩
    · exact h.kb
    · intro x hx
      rcases List.mem_append.mp hx with hx | hx
      · exact h.kb x hx
      · obtain rfl := List.mem_singleton.mp hx
        exact ⟨c1, by show g0 ≤ 33; omega⟩
  · have := h.len
    rcases hk with rfl | ⟨g0, _, _, _, rfl⟩
    · omega
    · rw [List.length_append]; simp only [List.length_cons, List.length_nil]; omega
theorem LI.turned (h : LI prog w many i S fo kvs kvsU vsH oT oU xsC xsL) (s1 : 0 ≤ S') (s2 : S' < 2147483647) (hk : kvs'.Sublist kvs)
    (hT : oT'.IsDictOf (intKind prog w) kvs') (hI : IntsAre vsH' (kvs'.map (·.1))) (hU : oU'.IsDictOf (intKind prog w) kvsU') (TI : TInv ((i : Int) + 1) kvsU' xsC' xsL') : LI prog w many (i + 1) S' fo kvs' kvsU' vsH' oT' oU' xsC' xsL' :=
  ⟨s1, s2, h.b1, h.b2, hT, hU, hI, fun x hx => h.kb x (hk.subset hx), Nat.le_succ_of_le (Nat.le_trans hk.length_le h.len), by rwa [Int.natCast_succ]⟩
end
end
section -- B28
section
variable {prog : Program} {w : World} {A : Around} {s : Shared} {env : Env} {h₀ : Heap} {x : Str} {body : List Stmt} {Q : Flow → Shared → Prop} {E : Value → Shared → Prop}

theorem loop_rangeX {r : Addr} {a₀ b₀ c₀ : Int} {t₀ u₀ v₀ : Tok} {m : Str → Option Value} {news : List (Addr × Obj)} (n : Nat) (J : Nat → (Str → Option Value) → List (Addr × Obj) → Prop)
    (hr : IsRange s.heap r a₀ b₀ c₀ t₀ u₀ v₀) (hsmall : Builtin.Range.small a₀ b₀ c₀ = true) (hn : Builtin.Range.rangeSize a₀ b₀ c₀ = (n : Int))
    (F : Fr h₀ env.locals s.heap m) (N : News h₀ env.locals s.heap news) (hh : A.handled = none) (h0 : J 0 m news)
    (turn : ∀ i t m₁ news₁ h tk I oI, oI.cls = .type "range_iterator" → (∃ a b c, oI.data = .fields #[rawInt a, rawInt b, rawInt c]) → i < n → J i m₁ news₁ → (∀ p ∈ news₁, p.1 ≠ I) → (∀ p ∈ news, p.1 < I) → env.locals < I →
      Fr h₀ env.locals h (fun y => if y = x then some (.int (a₀ + i * c₀) t) else m₁ y) → News h₀ env.locals h ((I, oI) :: news₁) →
      wpAny (model prog w) A (execs body env) (Turned h₀ env.locals I [(I, oI)] (J (i + 1)) s (fun v s' => Q (.ret v) s') fun s' => Q .next s') E { s with heap := h, toks := tk })
    (done : ∀ h' tk m' news', Fr h₀ env.locals h' m' → News h₀ env.locals h' news' → J n m' news' → Q .next { s with heap := h', toks := tk }) :
    wpAny (model prog w) A (pyIter (.ref r)) (fun it s₂ => LoopAtV prog w A h₀ env x body Q E it s₂) E s := by
  refine wpAny_pyIter_range hr hsmall ?_
  have hlt := F.ns.lt
  refine loop_walks (m := m) (news := news) (s := { s with heap := _ }) (Walks.range hh s.heap.objs.size a₀ c₀ n) rfl (fun hm => absurd hlt ((List.mem_singleton.mp hm) ▸ Nat.lt_irrefl _)) (next_is_new F) (fun p hp => Nat.ne_of_lt (Heap.lt_size (N p hp).1)) (by show IsRangeIter _ _ _ _ _; rw [hn]; simpa using Heap.get?_push_size _ rfl)
    (F.push _) (fun p hp => ⟨Heap.get?_push_of_some _ (N p hp).1, (N p hp).2⟩) J h0 ?_ fun h' tk m' news' F' N' _ hJ => done h' tk m' news' F' N' hJ
  rintro i v m₁ news₁ h tk own hi ⟨t, rfl⟩ hJ hI hfp hin hst F₁ N₁
  have hmem := hin s.heap.objs.size (.head _) (next_is_new F) _ hst
  have hown : ∀ p ∈ own, p = (s.heap.objs.size, { cls := .type "range_iterator", data := .fields #[rawInt (a₀ + ((i + 1 : Nat) : Int) * c₀), rawInt ((n : Int) - ((i + 1 : Nat) : Int)), rawInt c₀] }) := fun p hp => by
    have h1 := List.mem_singleton.mp (hfp p hp)
    have h2 := (N₁ p (List.mem_append_left _ hp)).1
    rw [h1, hst] at h2
    exact Prod.ext h1 (Option.some.inj h2).symm
  have N₂ : News h₀ env.locals h ((s.heap.objs.size, _) :: news₁) := fun q hq => by
    rcases List.mem_cons.mp hq with rfl | hq
    · exact N₁ _ (List.mem_append_left _ hmem)
    · exact N₁ _ (List.mem_append_right _ hq)
  refine wpAny_mono (turn i t m₁ news₁ h tk _ _ rfl ⟨_, _, _, rfl⟩ hi hJ hI (fun p hp => Heap.lt_size (N p hp).1) hlt F₁ N₂) (fun f s₂ h₂ => ?_) fun _ _ y => y
  · have back : ∀ {h' : Heap} {news₂ : List (Addr × Obj)} {o : Obj}, (s.heap.objs.size, o) ∈ own → News h₀ env.locals h' ([(s.heap.objs.size, o)] ++ news₂) → News h₀ env.locals h' (own ++ news₂) := fun {h' news₂ o} ho N' q hq => by
      rcases List.mem_append.mp hq with hq | hq
      · have := (hown q hq).trans (hown _ ho).symm
        subst this; exact N' _ (.head _)
      · exact N' _ (List.mem_append_right _ hq)
    cases f with
    | ret v => exact h₂
    | brk => exact h₂
    | cont => obtain ⟨h', tk', m₂, news₂, e, F₂, N₂, r⟩ := h₂; exact ⟨h', tk', m₂, news₂, e, F₂, back hmem N₂, r⟩
    | next => obtain ⟨h', tk', m₂, news₂, e, F₂, N₂, r⟩ := h₂; exact ⟨h', tk', m₂, news₂, e, F₂, back hmem N₂, r⟩
end
end
section -- B29
section
variable {s h₀ g h h' : Heap} {L d : Addr} {o : Obj} {m : Str → Option Value} {news fr l : List (Addr × Obj)} {outer : List Env} {M : List Addr} {cn : Str} {cs : Scope} {a : Addr} {ccd : Value} {cl : List (Str × Addr)}
theorem notEx_dict {o : Obj} {es : Array DictEntry} {ep : Nat} (h : o.data = .dict es ep) : ¬ ExO o := fun x => x.elim (fun ⟨_, _, _, y⟩ => by rw [h] at y; cases y) fun ⟨_, _, _, y, _⟩ => by rw [h] at y; cases y
/-- key tuples and code objects outlive a call -/
theorem exo_over (P : FrL s h₀ g outer fr) (F : Fr g L h m) (N : News g L h news) (hfr : ∀ p ∈ fr, p ∈ news) (k : Kp M (frs (envX cn cs L a ccd cl :: outer)) h h') (hM : ∀ b ∈ M, ∃ o, (b, o) ∈ news ∧ ¬ ExO o) :
    ∀ b o, h.get? b = some o → ExO o → h'.get? b = some o := fun b o e hx => by
  refine k.1 b o e (fun hb => ?_) fun hb => ?_
  · obtain ⟨o', ho, hn⟩ := hM b hb
    obtain rfl := Option.some.inj ((N _ ho).1.symm.trans e)
    exact hn hx
  · rcases (frs_cons _).mp hb with rfl | hb
    · obtain ⟨oL, hoL, ⟨_, _, hdL⟩, _⟩ := frObj_of F
      obtain rfl := Option.some.inj (hoL.symm.trans e)
      exact notEx_dict hdL hx
    · obtain ⟨env, he, hf⟩ := List.mem_filterMap.mp hb
      obtain ⟨_, L', o', hf', hm', _, es, ep, hd⟩ := P.fi env he
      obtain rfl : L' = b := by rw [hf'] at hf; exact Option.some.inj hf
      obtain rfl := Option.some.inj ((N _ (hfr _ hm')).1.symm.trans e)
      exact notEx_dict hd hx
theorem ps_exo {pos : Pos} {qual : Str} {ps : Array Value} (hp : PsOk pos qual ps h) (kx : ∀ b o, h.get? b = some o → ExO o → h'.get? b = some o) : PsOk pos qual ps h' :=
  hp.imp id fun ⟨c', x, c, oc, vs, t, e, hc, hd, hq⟩ => ⟨c', x, c, oc, vs, t, e, kx _ _ hc (.inr ⟨vs, _, t, hd, hq⟩), hd, hq⟩
theorem dict_exo {prog : Program} {w : World} {K : Type} [DecidableEq K] {knd : HeapKind prog w K} {xs : List (K × Addr × Value)} (T : TupKnd2 knd) (hm : h.DictOfH knd d xs) (kx : ∀ b o, h.get? b = some o → ExO o → h'.get? b = some o) (e : h.get? d = some o) (e' : h'.get? d = some o) : h'.DictOfH knd d xs :=
  dictOfH_go2 T hm fun b o' hb hc => by
    rcases hc with hc | rfl
    · exact kx b o' hb (.inl hc)
    · obtain rfl := Option.some.inj (e.symm.trans hb)
      exact e'
/-- objects made by a call -/
theorem news_made (F : Fr g L h m) (N : News g L h news) (k : Kp [] [] h h') (hn : ∀ q ∈ l, h'.get? q.1 = some q.2 ∧ h.get? q.1 = none) : Fr g L h' m ∧ News g L h' (l ++ news) := by
  obtain ⟨F', N'⟩ := News.at0 F N k
  refine ⟨F', fun q hq => ?_⟩
  rcases List.mem_append.mp hq with z | z
  · refine ⟨(hn q z).1, fun e => ?_, ?_⟩
    · obtain ⟨oL, hoL, _⟩ := frObj_of F
      have := (hn q z).2
      rw [e, hoL] at this; cases this
    · cases y : g.get? q.1 with
      | none => rfl
      | some o' => have := F.keep _ _ y; rw [(hn q z).2] at this; cases this
  · exact N' q z
theorem off_made (P : FrL s h₀ g outer fr) (N : News g L h news) (hs : ∀ p ∈ fr, p ∈ news) (e : h.get? d = none) : d ∉ frs outer := fun hb => by
  obtain ⟨env, he, hf⟩ := List.mem_filterMap.mp hb
  obtain ⟨_, L', o', hf', hm', _⟩ := P.fi env he
  obtain rfl : L' = d := by rw [hf'] at hf; exact Option.some.inj hf
  rw [(N _ (hs _ hm')).1] at e; cases e
end
theorem news_sub {g h : Heap} {L : Addr} {news l fr : List (Addr × Obj)} (N : News g L h news) (hs : ∀ q ∈ l, q ∈ news) (hf : ∀ q ∈ fr, q ∈ news) : News g L h (l ++ ([] ++ fr)) := fun q hq => by
  rcases List.mem_append.mp hq with z | z
  · exact N q (hs q z)
  · exact N q (hf q z)
theorem dk_nil {prog : Program} {w : World} {K : Type} [DecidableEq K] {knd : HeapKind prog w K} {g : Heap} {o : Obj} (hd : o.IsDictOf (intKind prog w) []) : DK knd g [] o [] := by
  obtain ⟨es, ep, hc, hda, _, hp, _⟩ := hd
  refine ⟨(fun _ _ _ _ h => nomatch h), ⟨es, ep, hc, hda, ?_⟩, List.nodup_nil⟩
  cases h : es.toList with
  | nil => rfl
  | cons a r => rw [h] at hp; cases hp
theorem psk_ok {pos : Pos} {qual : Str} {ps : Array Value} {g : Heap} (h : PsOk pos qual ps g) : PsK pos qual g [] ps :=
  h.imp id fun ⟨c', a, c, oc, vs, t, e, hc, hd, hq⟩ => ⟨c', a, fun h st _ => ⟨c, oc, vs, t, e, st _ _ hc, hd, hq⟩⟩
theorem li_nil {prog : Program} {w : World} {many : Int} {S : Int} {oT oU : Obj} (hm : 1 ≤ many) (s1 : 0 ≤ S) (s2 : S < 2147483647) (hT : oT.IsDictOf (intKind prog w) []) (hU : oU.IsDictOf (intKind prog w) []) : LI prog w many 0 S 30 [] [] [] oT oU [] [] :=
  ⟨s1, s2, Int.le_refl _, by omega, hT, hU, .nil, (fun _ h => nomatch h), Nat.le_refl _, TInv.nil⟩
theorem un_ltG {un U k j c n : Nat} (h : un + n < c) (e : U = un) (hk : k + j ≤ n) : U + k + j < c := by omega
theorem allAt_get {h : Heap} {l : List (Addr × Obj)} {a : Addr} {o : Obj} (x : AllAt h l) (hm : (a, o) ∈ l) : h.get? a = some o := x _ hm
theorem offB_nil {c : Nat} : OffB c [] := fun _ h => nomatch h
theorem offB_cons {c b : Nat} {l : List Nat} (x : c ≠ b) (y : OffB c l) : OffB c (b :: l) := fun z hz => by
  rcases List.mem_cons.mp hz with rfl | hz
  · exact x
  · exact y z hz
theorem offB_not {c : Nat} {l : List Nat} (x : OffB c l) : c ∉ l := fun h => x c h rfl
theorem kp_get {M fr : List Addr} {h h' : Heap} {b : Addr} {o : Obj} (k : Kp M fr h h') (e : h.get? b = some o) (hM : OffB b M) (hf : b ∉ fr) : h'.get? b = some o := k.1 b o e (offB_not hM) hf
theorem nex_inst {C d : Addr} : ¬ ExO (instObj C d) := notEx (noTup cls_inst) noCode_plain
theorem nex_dict {es : List DictEntry} {n : Nat} : ¬ ExO (dictOf es n) := notEx (noTup cls_dict) noCode_dict
theorem nex_list {its : Array Value} {n : Nat} : ¬ ExO (PySem.W.listOf its n) := notEx (noTup cls_list) noCode_list
theorem nex_isDict {prog : Program} {w : World} {K : Type} [DecidableEq K] {knd : KeyKind prog w K} {o : Obj} {kvs : List (K × Value)} (h : o.IsDictOf knd kvs) : ¬ ExO o := notEx (noTup (cls_isDict h)) (noCode_isDict h)
theorem nex_H {prog : Program} {w : World} {K : Type} [DecidableEq K] {knd : HeapKind prog w K} {h : Heap} {d : Addr} {o : Obj} {xs : List (K × Addr × Value)} (x : h.DictOfH knd d xs) (e : h.get? d = some o) : ¬ ExO o := by
  obtain ⟨o', es, ep, ho, hc, hda, _⟩ := x
  obtain rfl := Option.some.inj (ho.symm.trans e)
  exact notEx_dict hda
theorem nex_DK {prog : Program} {w : World} {K : Type} [DecidableEq K] {knd : HeapKind prog w K} {g : Heap} {ex : List (Addr × Obj)} {o : Obj} {xs : List (K × Addr × Value)} (x : DK knd g ex o xs) : ¬ ExO o := notEx (noTup x.cls) x.code
theorem nex_ps {pos : Pos} {qual : Str} {ps : Array Value} {h : Heap} (x : PsOk pos qual ps h) : ¬ ExO (tabObj ps) := notEx (fun h => nomatch h.1) x.code
theorem nex_psk {pos : Pos} {qual : Str} {ps : Array Value} {g : Heap} {ex : List (Addr × Obj)} (x : PsK pos qual g ex ps) : ¬ ExO (tabObj ps) := notEx (fun h => nomatch h.1) x.code
theorem nf_cons {cn : Str} {cs : Scope} {L a b : Addr} {ccd : Value} {cl : List (Str × Addr)} {outer : List Env} (h1 : b ≠ L) (h2 : b ∉ frs outer) : b ∉ frs (envX cn cs L a ccd cl :: outer) := fun z => ((frs_cons _).mp z).elim h1 h2
theorem nexM_nil : ∀ q ∈ ([] : List (Addr × Obj)), ¬ ExO q.2 := fun _ h => nomatch h
theorem nexM_cons {a : Addr} {o : Obj} {l : List (Addr × Obj)} (x : ¬ ExO o) (y : ∀ q ∈ l, ¬ ExO q.2) : ∀ q ∈ (a, o) :: l, ¬ ExO q.2 := fun q hq => by
  rcases List.mem_cons.mp hq with rfl | hq
  · exact x
  · exact y q hq
theorem mM_nil {ad : List Addr} : ∀ b ∈ ([] : List Addr), b ∈ ad := fun _ h => nomatch h
theorem mM_cons {ad l : List Addr} {a : Addr} (x : a ∈ ad) (y : ∀ b ∈ l, b ∈ ad) : ∀ b ∈ a :: l, b ∈ ad := fun b hb => by
  rcases List.mem_cons.mp hb with rfl | hb
  · exact x
  · exact y b hb
theorem eM_nil {news : List (Addr × Obj)} : ∀ b ∈ ([] : List Addr), ∃ o, (b, o) ∈ news := fun _ h => nomatch h
theorem eM_cons {news : List (Addr × Obj)} {l : List Addr} {a : Addr} {o : Obj} (x : (a, o) ∈ news) (y : ∀ b ∈ l, ∃ o, (b, o) ∈ news) : ∀ b ∈ a :: l, ∃ o, (b, o) ∈ news := fun b hb => by
  rcases List.mem_cons.mp hb with rfl | hb
  · exact ⟨o, x⟩
  · exact y b hb
theorem xM_nil {news : List (Addr × Obj)} : ∀ b ∈ ([] : List Addr), ∃ o, (b, o) ∈ news ∧ ¬ ExO o := fun _ h => nomatch h
theorem xM_cons {news : List (Addr × Obj)} {l : List Addr} {a : Addr} {o : Obj} (x : (a, o) ∈ news) (z : ¬ ExO o) (y : ∀ b ∈ l, ∃ o, (b, o) ∈ news ∧ ¬ ExO o) : ∀ b ∈ a :: l, ∃ o, (b, o) ∈ news ∧ ¬ ExO o := fun b hb => by
  rcases List.mem_cons.mp hb with rfl | hb
  · exact ⟨o, x, z⟩
  · exact y b hb
theorem ltD_mono {d e : Nat} {l : List (Addr × Obj)} (h : LtD d l) (x : @LE.le Nat _ d e) : LtD e l := fun p hp => Nat.lt_of_lt_of_le (h p hp) x
end
section
local macro_rules | `(tactic| walk_at "call builtin:sorted") => `(tactic| (k_dflt (refine' kso_sorted ?F ?N (by exact list_at (by k_asm) (by k_mem)) ‹_› ?z ?_; (case F => k_asm); (case N => k_asm); (case z => regstrif_gather)); intro D' vs' ns' n' h' F' N' l1' hI' e' hp' hw' b'; clear e' b'; (try k_lt l1')))
local macro_rules | `(tactic| ktu_off1L) => `(tactic| first | exact nex_inst | exact nex_dict | exact nex_list | exact nex_isDict ‹_› | exact nex_ps ‹_› | exact nex_DK ‹_› | exact nex_psk ‹_› | exact nex_H ‹_› ‹_› | assumption)
local macro_rules | `(tactic| walk_at "nexM") => `(tactic| first | exact nexM_nil | (refine nexM_cons (by ktu_off1L) (by walk_at "nexM")))
local macro_rules | `(tactic| walk_at "mM") => `(tactic| first | exact mM_nil | (refine mM_cons (by k_mem) (by walk_at "mM")))
local macro_rules | `(tactic| walk_at "eM") => `(tactic| first | exact eM_nil | (refine eM_cons (by k_mem) (by walk_at "eM")))
local macro_rules | `(tactic| walk_at "xM") => `(tactic| first | exact xM_nil | (refine xM_cons (by k_mem) (by ktu_off1L) (by walk_at "xM")))
local macro_rules | `(tactic| ktu_offL) => `(tactic| first | exact offB_nil | (refine offB_cons (by k_ne) (by ktu_offL)))
local macro_rules | `(tactic| walk_at "getA") => `(tactic| first | exact getM_nil | (refine getM_cons (by (first | exact allAt_get ‹_› (by k_mem) | (refine' kp_get ‹_› ?gc ?gd ?ge; (case gc => walk_at "getN"); (case gd => ktu_offL); (case ge => exact nf_cons (by k_ne) ‹_›)))) (by walk_at "getA")))
local macro_rules | `(tactic| walk_at "offL") => `(tactic| (refine all_cons ‹_› ?_; first | apply all_nil | walk_at "offL"))
section -- V8
theorem reg_V8 : PySem.Challenge.rw_pq1204_01 = PySem.Challenge.rw_pq1204_01 ∧ K = K := by k_fill; exact ⟨rfl, rfl⟩
inductive LoopI (prog : Program) (w : World) (g h₀ hs : Heap) (fs : List Env) (dm : Int) (xS dS x dx aT xB dB dC dL aU aH aQ : Nat) (rS : SR) (rP : PR) (j1 j2 : Tok) (i : Nat) (m : Str → Option Value) (news : List (Addr × Obj)) : Prop
  | mk (A S : Int) (ta ts : Tok) (nQ : Nat) (fo : Int) (tfo : Tok) (kvs kvsU : List (Int × Value)) (vsH : List Value) (nH : Nat) (oT oU oC oL : Obj) (xsC : CL) (xsL : LL) (psA psB : Array Value) (ex fr : List (Addr × Obj)) (tb tm : Tok)
    (e0 : news = [(xS, instObj 1396 dS), (dS, dSock w x xB rS), (x, instObj 154 dx), (dx, dPorts w 30 (29 + (1 + dm)) fo tfo aT rP), (aT, oT), (xB, instObj 1138 dB), (dB, dTable w dC dL j1 j2), (dC, oC), (dL, oL), (aU, oU), (aH, PySem.W.listOf vsH.toArray nH), (aQ, PySem.W.listOf #[.int A ta, .int S ts] nQ), (1437, tabObj psA), (1442, tabObj psB)] ++ (ex ++ fr)) (e1 : LI prog w (1 + dm) i S fo kvs kvsU vsH oT oU xsC xsL)
    (e2 : DK (ttKind prog w) g ex oC xsC) (e3 : DK (tupleKind (intKind prog w)) g ex oL xsL) (e4 : PsK ⟨963, 24, 963, 51⟩ (Str.ofString "_law_asked_right.<locals>.<lambda>") g ex psA) (e5 : PsK ⟨981, 28, 981, 59⟩ (Str.ofString "_law_turn_right.<locals>.<lambda>") g ex psB) (e6 : FrL hs h₀ g fs fr) (e7 : ∀ q ∈ ex, ∀ p ∈ [(xS, instObj 1396 dS), (dS, dSock w x xB rS), (x, instObj 154 dx), (dx, dPorts w 30 (29 + (1 + dm)) fo tfo aT rP), (aT, oT), (xB, instObj 1138 dB), (dB, dTable w dC dL j1 j2), (dC, oC), (dL, oL), (aU, oU), (aH, PySem.W.listOf vsH.toArray nH), (aQ, PySem.W.listOf #[.int A ta, .int S ts] nQ), (1437, tabObj psA), (1442, tabObj psB)], q.1 ≠ p.1)
    (f1 : m (Str.ofString "source") = some (.ref aQ)) (f2 : m (Str.ofString "many") = some (.int (1 + dm) tm)) (f3 : m (Str.ofString "sockets") = some (.ref xS)) (f4 : m (Str.ofString "used") = some (.ref aU)) (f5 : m (Str.ofString "held") = some (.ref aH)) (f6 : m (Str.ofString "begin") = some (.int fo tb)) :
    LoopI prog w g h₀ hs fs dm xS dS x dx aT xB dB dC dL aU aH aQ rS rP j1 j2 i m news
theorem own_ports_R {prog : Program} {w : World} {p : Program} {loose : List Str} {mean : ExcName → Option Value} {mg mb : Str → Option Value} {dp un : Nat} {gd : Option (List Code)} {cn : Str} {cs : Scope} {a : Addr} {ccd : Value} {cl : List (Str × Addr)} {outer : List Env} {h₀ : Heap} {Lc : Addr} {s : Shared} {Q E : Value → Shared → Prop} {aQ nQ : Nat} {A S : Int} {ta ts : Tok} {psA psB : Array Value}
  (X₀ : (K w.params).In h₀) (T₀ : Top p loose mean mg mb h₀) (C₀ : Cx h₀ (envX cn cs Lc a ccd cl :: outer) s.heap) (hd : dp + 300 < recursionLimit) (hun : un + 600 < cLine)
  (O : Own h₀ (envX cn cs Lc a ccd cl :: outer) s.heap [(aQ, PySem.W.listOf #[.int A ta, .int S ts] nQ), (1437, tabObj psA), (1442, tabObj psB)])
  (o0 : 1442 < aQ) (hS1 : 0 ≤ S) (hS2 : S < 2147483647)
  (hpsA : PsOk ⟨963, 24, 963, 51⟩ (Str.ofString "_law_asked_right.<locals>.<lambda>") psA s.heap) (hpsB : PsOk ⟨981, 28, 981, 59⟩ (Str.ofString "_law_turn_right.<locals>.<lambda>") psB s.heap)
  (hret : ∀ h' tk' A' S' ta' ts' nQ' psA' psB', PsOk ⟨963, 24, 963, 51⟩ (Str.ofString "_law_asked_right.<locals>.<lambda>") psA' h' → PsOk ⟨981, 28, 981, 59⟩ (Str.ofString "_law_turn_right.<locals>.<lambda>") psB' h' → Kp [aQ, 1437, 1442] (frs (envX cn cs Lc a ccd cl :: outer)) s.heap h' →
    AllAt h' [(aQ, PySem.W.listOf #[.int A' ta', .int S' ts'] nQ'), (1437, tabObj psA'), (1442, tabObj psB')] → Q (.bool true) { s with heap := h', toks := tk' }) :
  wpAny (model prog w) (ktrTop dp un gd cn cs Lc a ccd cl outer) (call (.ref 1461) [.ref aQ]) Q E s := by
  refine wpAny_call ?_; k_dflt ((refine' enterF ?k1Zq ?k2Zq ?k3Zq ?k4Zq ?k6Zq ?k7Zq ?k8Zq ?k9Zq ?kBZq ?_ ?c2Zq ?c3Zq ?c4Zq ?c5Zq; (case k1Zq => assumption); (case k2Zq => assumption); (case k3Zq => assumption); (case k4Zq => assumption); (case k6Zq => k_is); (case k7Zq => k_is); (case k8Zq => ktr_room); (case k9Zq => first | exact BindsTo.of_eq rfl | exact binds_K (Frag.In.keeps (by assumption) (Cx.st (by assumption))) rfl (by k_is) rfl rfl rfl); (case c5Zq => decide); (case kBZq => exact locs rfl); (case c2Zq => exact rfl); (case c3Zq => exact rfl); (case c4Zq => exact rfl); k_whole)); intro g L' h' fr X' T' P GK GS' F' N' l1' GU GL; have hfl := P.lt (fun q hq => l1' q (List.mem_append_right _ hq)); (try simp only [List.cons_append, List.nil_append] at N' l1'); (try k_lt l1'); (try dsimp only); (try k_fold)
  have hpsAg := hpsA.base GK C₀ O (by kp_flats)
  have hpsBg := hpsB.base GK C₀ O (by kp_flats)
  have off := fun q hq => (O q hq).2.2
  simp only [List.forall_mem_cons] at off
  obtain ⟨f1, f2, f3, -⟩ := off
  have hA0 : Asc [1437, 1442, aQ] := ⟨by decide, o0, trivial⟩
  k_steps
  (try dsimp only [List.cons_append, List.nil_append])
  k_dflt (refine' law_take_R ?X ?T ?C ?d ?O ?m1 ?m2 ?S1 ?S2 ?rF0)
  case C => (first | ((refine FrL.cx ‹_› (by k_asm) (by k_asm) (by (intro q hq; kqd_all)) (by rfl))) | ((refine Cx.call ‹_› (by k_asm) (by rfl))))
  case X => assumption
  case T => assumption
  case d => ktr_room
  case O => (first | ((refine FrL.own ‹_› (by k_asm) (by keq_rows) (by krn_off))) | ((refine Own.of ‹_› (by k_asm) (by keq_rows))))
  case m1 => regstrif_gather
  case m2 => regstrif_gather
  case S1 => assumption
  case S2 => assumption
  case' rF0 => intro h9 tk9 dm td9 A9 S9 ta9 ts9 n9 z1 z2 z3 z4 hK9 g9
  obtain ⟨F0, N0⟩ := News.at1 (by k_asm) (by k_asm) (by k_updF) hK9 g9
  (try dsimp only at N0)
  k_steps
  rename_i h8 F1 N1
  k_dflt (refine' law_sockets_R ?X ?T ?C ?d ?m1 ?m2 ?r)
  case C => (first | ((refine FrL.cx ‹_› (by k_asm) (by k_asm) (by (intro q hq; kqd_all)) (by rfl))) | ((refine Cx.call ‹_› (by k_asm) (by rfl))))
  case X => assumption
  case T => assumption
  case d => ktr_room
  case m1 => omega
  case m2 => omega
  case r =>
    intro h2 tk2 xS dS x dx aT xB dB dC dL rS rP j1 j2 tfo oT oC oL o1 o2 o3 o4 o5 o6 o7 o8 hlow hsm hsm1 hsm2 hTd hCd hLd hmade hK2
    have ld : LtD dS _ := fun q hq => hlow _ _ (N1 q hq).1
    have lL : @LT.lt Nat _ L' dS := by obtain ⟨oL0, hoL0, _⟩ := frObj_of F1; exact hlow _ _ hoL0
    have oQ : aQ < dS := ld _ (by k_mem)
    have offs := fun q hq => off_made P N1 (by intro q hq; kqd_all) (hmade q hq).2
    simp only [List.forall_mem_cons] at offs
    obtain ⟨f4, f5, f6, f7, f8, f9, f10, f11, f12, -⟩ := offs
    obtain ⟨F2, N2⟩ := news_made F1 N1 hK2 hmade
    simp only [List.cons_append, List.nil_append] at N2
    clear hA0 F1 N1 ld hlow hmade hK2
    have hA1 : Asc [1437, 1442, aQ, dS, xS, dx, x, aT, dB, xB, dC, dL] := ⟨by decide, o0, oQ, o1, o2, o3, o4, o5, o6, o7, o8, trivial⟩
    k_steps
    rename_i aU hU1 oU hsmU hsU fsU hiU fiU ldU lU aH hH1 ldH lH aD hD1 ldD lD ha hb hc hd hf F3 N3
    have f13 := off_ltD P ldU (by intro q hq; kqd_all)
    have f14 := off_ltD P ldH (by intro q hq; kqd_all)
    have o9 : dL < aU := ldU (dL, oL) (by k_mem)
    have o10 : aU < aH := ldH (aU, oU) (by k_mem)
    have N4 := news_sub (fr := fr) (l := [(xS, instObj 1396 dS), (dS, dSock w x xB rS), (x, instObj 154 dx), (dx, dPorts w 30 (29 + (1 + dm)) 30 tfo aT rP), (aT, oT), (xB, instObj 1138 dB), (dB, dTable w dC dL j1 j2), (dC, oC), (dL, oL), (aU, oU), (aH, PySem.W.listOf ([] : List Value).toArray 0), (aQ, PySem.W.listOf _ _), (1437, tabObj psA), (1442, tabObj psB)]) N3 (by keq_rows) (by intro q hq; kqd_all)
    simp only [List.cons_append, List.nil_append] at N4
    clear N3 ldU ldH ldD lU lH lD hsU fsU fiU hA1
    have hA : Asc [1437, 1442, aQ, dS, xS, dx, x, aT, dB, xB, dC, dL, aU, aH] := ⟨by decide, o0, oQ, o1, o2, o3, o4, o5, o6, o7, o8, o9, o10, trivial⟩
    (try dsimp only [List.cons_append, List.nil_append])
    k_dflt (refine' law_take_R ?X ?T ?C ?d ?O ?m1 ?m2 ?S1 ?S2 ?rF7a)
    case C => (first | ((refine FrL.cx ‹_› (by k_asm) (by k_asm) (by (intro q hq; kqd_all)) (by rfl))) | ((refine Cx.call ‹_› (by k_asm) (by rfl))))
    case X => assumption
    case T => assumption
    case d => ktr_room
    case O => (first | ((refine FrL.own ‹_› (by k_asm) (by keq_rows) (by krn_off))) | ((refine Own.of ‹_› (by k_asm) (by keq_rows))))
    case m1 => regstrif_gather
    case m2 => regstrif_gather
    case S1 => assumption
    case S2 => assumption
    case' rF7a => intro h7 tk7 d7 td7 A7 S7 ta7 ts7 n7 x1 x2 x3 x4 hK7 g7
    obtain ⟨F7a, N7a⟩ := News.at1 (by k_asm) (by k_asm) (by k_updF) hK7 g7
    (try dsimp only at N7a)
    k_steps
    unfold Stop
    have hoff : ∀ b ∈ [xS, dS, x, dx, aT, xB, dB, dC, dL, aU, aH, aQ, 1437, 1442], b ∉ frs (envX cn cs Lc a ccd cl :: outer) := by walk_at "offL"
    obtain ⟨Inv, hInv⟩ : ∃ I : Nat → (Str → Option Value) → List (Addr × Obj) → Prop, I = LoopI prog w g h₀ s.heap (envX cn cs Lc a ccd cl :: outer) dm xS dS x dx aT xB dB dC dL aU aH aQ rS rP j1 j2 := ⟨_, rfl⟩
    refine' loop_rangeX _ Inv
      (by assumption) (range_small (by omega) (by omega)) (range_size (by omega)) ?lF ?lN rfl ?l0 ?turn ?done
    case lF => k_asm
    case lN => k_asm
    case l0 => rw [hInv]; exact ⟨_, _, _, _, _, _, _, _, _, _, _, oT, oU, oC, oL, _, _, psA, psB, [], fr, _, _, rfl, li_nil (by omega) (by assumption) (by assumption) hTd hiU, dk_nil hCd, dk_nil hLd, psk_ok hpsAg, psk_ok hpsBg, P, (fun _ h => nomatch h), by kaf_pre, by kaf_pre, by kaf_pre, by kaf_pre, by kaf_pre, by kaf_pre⟩
    case turn =>
      rintro i t m₁ news₁ h tk I oI hcl ⟨r1, r2, r3, hdat⟩ hi hJ0 hI hI2 hI3 F9 N9
      rw [hInv] at hJ0
      obtain ⟨A, S, ta, ts, nQ, fo, tfo, kvs, kvsU, vsH, nH, oT, oU, oC, oL, xsC, xsL, psA, psB, ex, fr1, tb, tm, rfl, LIv, DCk, DLk, pA, pB, P2, hex, ms, mm, mk, mu, mh, mb⟩ := hJ0
      have hIf := off_ltD P (ltD_in hI2) (by intro q hq; kqd_all)
      have hLI := ltD_in hI2
      clear P hI2
      have P := P2
      clear P2
      have hIx := notEx_it hcl hdat
      simp only [Int.zero_add, Int.mul_one] at F9
      simp only [List.cons_append, List.nil_append] at N9 hI
      have hexI : ∀ q ∈ ex, q.1 ≠ I := fun q hq => hI q (by kqd_in)
      have hi16 : (i : Int) < 17 := by omega
      have hz := LIv.TI.sizes
      have hzl := LIv.TI.len
      have hzk := LIv.len
      have hs1 := LIv.S1
      have hTo := LIv.T
      have hUo := LIv.U
      have hs2 := LIv.S2
      k_steps
      (try dsimp only [List.cons_append, List.nil_append])
      k_dflt (refine' law_take_R ?X ?T ?C ?d ?O ?m1 ?m2 ?S1 ?S2 ?rF5a)
      case C => (first | ((refine FrL.cx ‹_› (by k_asm) (by k_asm) (by (intro q hq; kqd_all)) (by rfl))) | ((refine Cx.call ‹_› (by k_asm) (by rfl))))
      case X => assumption
      case T => assumption
      case d => ktr_room
      case O => (first | ((refine FrL.own ‹_› (by k_asm) (by keq_rows) (by krn_off))) | ((refine Own.of ‹_› (by k_asm) (by keq_rows))))
      case m1 => regstrif_gather
      case m2 => regstrif_gather
      case S1 => assumption
      case S2 => assumption
      case' rF5a => intro h5 tk5 d5 td5 A5 S5 ta5 ts5 n5 y1 y2 y3 y4 hK5 g5
      obtain ⟨F5a, N5a⟩ := News.at1 (by k_asm) (by k_asm) (by k_updF) hK5 g5
      (try dsimp only at N5a)
      k_steps
      · k_dflt (refine' asked_R ?X ?T ?C ?d ?u ?O o1 o2 o3 o4 o5 o6 o7 o8 o9 o10 (asc_lt' hA (ixc 0 rfl) (ixc 3 rfl) rfl) hsm hsm1 hsm2 hsmU ?m1 ?m2 rfl rfl LIv.T LIv.U LIv.I ?hC (TInv.C2 LIv.TI) ?hL (TInv.L2 LIv.TI) ?len ?len2 ?lenU (TInv.vU LIv.TI) LIv.b1 LIv.b2 (fun n => LIv.TI.used n) ?ps ?r)
        case C => (first | ((refine FrL.cx ‹_› (by k_asm) (by k_asm) (by (intro q hq; kqd_all)) (by rfl))) | ((refine Cx.call ‹_› (by k_asm) (by rfl))))
        case X => assumption
        case T => assumption
        case d => ktr_room
        case u => exact un_ltG hun rfl (by decide)
        case O => (first | ((refine FrL.own ‹_› (by k_asm) (by keq_rows) (by krn_off))) | ((refine Own.of ‹_› (by k_asm) (by keq_rows))))
        case m1 => omega
        case m2 => omega
        case hC => exact DCk.get (by k_asm) (by k_asm) (by k_mem) (by intro q hq; kqd_in)
        case hL => exact DLk.get (by k_asm) (by k_asm) (by k_mem) (by intro q hq; kqd_in)
        case len => omega
        case len2 => omega
        case lenU => omega
        case ps => exact pA.get (by k_asm) (by k_asm) (by intro q hq; kqd_in)
        case r =>
          intro h3 tk3 b' t' tfo' oT' vsH' nH' psA' kvs' hb1 hb2 hk' hT' hI' hps' hKF hall
          have hCk := DCk.get (by k_asm) (by k_asm) (by k_mem) (by intro q hq; kqd_in)
          have hLk := DLk.get (by k_asm) (by k_asm) (by k_mem) (by intro q hq; kqd_in)
          have kx := exo_over (M := [dx, aT, aH, 1437]) P (by k_asm) (by k_asm) (by intro q hq; kqd_all) hKF (by walk_at "xM")
          have hallJ : AllAt h3 [(xS, instObj 1396 dS), (dS, dSock w x xB rS), (x, instObj 154 dx), (dx, dPorts w 30 (29 + (1 + dm)) b' tfo' aT rP), (aT, oT'), (xB, instObj 1138 dB), (dB, dTable w dC dL j1 j2), (dC, oC), (dL, oL), (aU, oU), (aH, PySem.W.listOf vsH'.toArray nH'), (aQ, PySem.W.listOf #[.int A5 ta5, .int S5 ts5] n5), (1437, tabObj psA'), (1442, tabObj psB)] := by walk_at "getA"
          have DC3 := dict_exo tupKnd2_tt hCk kx (by walk_at "getN") (allAt_get hallJ (by k_mem))
          have DL3 := dict_exo tupKnd2_t hLk kx (by walk_at "getN") (allAt_get hallJ (by k_mem))
          have LI2 := LIv.asked (by omega) (by assumption) (by assumption) hb1 hb2 hk' hT' hI'
          have psk := ps_exo (pB.get (by k_asm) (by k_asm) (by intro q hq; kqd_in)) kx
          obtain ⟨fr2, ex2, P2, F5, N5, hex2, DC2, DL2, pA2, pB2⟩ := turn_back (pre := [(xS, instObj 1396 dS), (dS, dSock w x xB rS), (x, instObj 154 dx), (dx, dPorts w 30 (29 + (1 + dm)) b' tfo' aT rP), (aT, oT'), (xB, instObj 1138 dB), (dB, dTable w dC dL j1 j2), (dC, oC), (dL, oL), (aU, oU), (aH, PySem.W.listOf vsH'.toArray nH'), (aQ, PySem.W.listOf #[.int A5 ta5, .int S5 ts5] n5), (1437, tabObj psA'), (1442, tabObj psB)]) (ad := [xS, dS, x, dx, aT, xB, dB, dC, dL, aU, aH, aQ, 1437, 1442]) [(I, oI)] P (by k_asm) (by k_asm) (by intro q hq; kqd_all) hKF (by walk_at "mM") hallJ rfl (by walk_at "eM") hoff
            (fun q hq => by obtain rfl := List.mem_singleton.mp hq; exact ⟨by k_mem, offB_not (by ktu_offL), hIf⟩) DC3 DL3 (by k_mem) (by k_mem) hps' psk (by simp only [List.cons_append, List.nil_append]; exact nexM_cons hIx (by walk_at "nexM"))
          simp only [List.cons_append, List.nil_append] at N5 hex2
          clear P hex DCk DLk pA pB kx hallJ hall hKF
          have hl1 := LI2.len
          have hl2 : (List.map (fun x : Int × Value => x.1) _).length ≤ 17 := Nat.le_trans (Nat.le_of_eq (List.length_map ..)) (Nat.le_trans LI2.len (by omega))
          have hTT := LI2.T
          have hII := LI2.I
          k_steps
          all_goals try (rename @Ne Int _ _ => z9; exact absurd rfl z9)
          rotate_left
          · rename Not (@Eq (List Int) _ _) => z9
            rename List.Perm _ (List.map _ kvs') => p9
            rename List.Pairwise _ _ => w9
            revert w9 p9
            rename List.Perm _ (List.map _ kvs') => p8
            rename List.Pairwise _ _ => w8
            intro p9 w9
            exact absurd (ksm_same (p8.trans p9.symm) w8 w9) z9
          rename Fr g L' _ _ => F7
          rename News g L' _ _ => N7
          refine' turned_next ((xS, instObj 1396 dS) :: (dS, dSock w x xB rS) :: (x, instObj 154 dx) :: (dx, dPorts w 30 (29 + (1 + dm)) b' tfo' aT rP) :: (aT, oT') :: (xB, instObj 1138 dB) :: (dB, dTable w dC dL j1 j2) :: (dC, oC) :: (dL, oL) :: (aU, oU) :: (aH, PySem.W.listOf vsH'.toArray nH') :: (aQ, PySem.W.listOf #[.int A5 ta5, .int S5 ts5] n5) :: (1437, tabObj psA') :: (1442, tabObj psB) :: (ex2 ++ fr2)) ?kF ?kN ?kI ?kJ
          case kF => exact F7
          case kN => exact fun q hq => N7 q (.tail _ (.tail _ hq))
          case kI => first | k_all | fail
          case kJ => rw [hInv]; exact ⟨_, _, _, _, _, _, _, _, _, _, _, _, _, _, _, _, _, _, _, ex2, fr2, _, _, rfl, LI2, DC2, DL2, pA2, pB2, P2, fun q hq p hp => hex2 q hq p (.tail _ hp), by kaf_pre, by kaf_pre, by kaf_pre, by kaf_pre, by kaf_pre, by kaf_pre⟩
      · k_dflt (refine' turn_R ?X ?T ?C ?d ?u ?O o1 o2 o3 o4 o5 o6 o7 o8 o9 o10 oQ o0 hsm hsm1 hsm2 hsmU ?t1 ?t2 ?S1 ?S2 LIv.T LIv.U LIv.I LIv.kb ?len ?hC ?hL LIv.TI ?ps ?r)
        case C => (first | ((refine FrL.cx ‹_› (by k_asm) (by k_asm) (by (intro q hq; kqd_all)) (by rfl))) | ((refine Cx.call ‹_› (by k_asm) (by rfl))))
        case X => assumption
        case T => assumption
        case d => ktr_room
        case u => exact un_ltG hun rfl (by decide)
        case O => (first | ((refine FrL.own ‹_› (by k_asm) (by keq_rows) (by krn_off))) | ((refine Own.of ‹_› (by k_asm) (by keq_rows))))
        case t1 => omega
        case t2 => omega
        case S1 => assumption
        case S2 => assumption
        case len => omega
        case hC => exact DCk.get (by k_asm) (by k_asm) (by k_mem) (by intro q hq; kqd_in)
        case hL => exact DLk.get (by k_asm) (by k_asm) (by k_mem) (by intro q hq; kqd_in)
        case ps => exact pB.get (by k_asm) (by k_asm) (by intro q hq; kqd_in)
        case r =>
          intro h3 tk3 A' S' ta' ts' nQ' kvs' vsH' nH' oT' kvsU' oU' xsC' oC' xsL' oL' psB' hs1 hs2 hk' hT' hI' hU' TI' hC' hL' hps' hKF hall
          have kx := exo_over (M := [aQ, aT, dC, dL, aU, aH, 1442]) P (by k_asm) (by k_asm) (by intro q hq; kqd_all) hKF (by walk_at "xM")
          have hallJ : AllAt h3 [(xS, instObj 1396 dS), (dS, dSock w x xB rS), (x, instObj 154 dx), (dx, dPorts w 30 (29 + (1 + dm)) fo tfo aT rP), (aT, oT'), (xB, instObj 1138 dB), (dB, dTable w dC dL j1 j2), (dC, oC'), (dL, oL'), (aU, oU'), (aH, PySem.W.listOf vsH'.toArray nH'), (aQ, PySem.W.listOf #[.int A' ta', .int S' ts'] nQ'), (1437, tabObj psA), (1442, tabObj psB')] := by walk_at "getA"
          have LI2 := LIv.turned hs1 hs2 hk' hT' hI' hU' TI'
          have psk := ps_exo (pA.get (by k_asm) (by k_asm) (by intro q hq; kqd_in)) kx
          have nC' := nex_H hC' (allAt_get hallJ (by k_mem))
          have nL' := nex_H hL' (allAt_get hallJ (by k_mem))
          obtain ⟨fr2, ex2, P2, F5, N5, hex2, DC2, DL2, pA2, pB2⟩ := turn_back (pre := [(xS, instObj 1396 dS), (dS, dSock w x xB rS), (x, instObj 154 dx), (dx, dPorts w 30 (29 + (1 + dm)) fo tfo aT rP), (aT, oT'), (xB, instObj 1138 dB), (dB, dTable w dC dL j1 j2), (dC, oC'), (dL, oL'), (aU, oU'), (aH, PySem.W.listOf vsH'.toArray nH'), (aQ, PySem.W.listOf #[.int A' ta', .int S' ts'] nQ'), (1437, tabObj psA), (1442, tabObj psB')]) (ad := [xS, dS, x, dx, aT, xB, dB, dC, dL, aU, aH, aQ, 1437, 1442]) [(I, oI)] P (by k_asm) (by k_asm) (by intro q hq; kqd_all) hKF (by walk_at "mM") hallJ rfl (by walk_at "eM") hoff
            (fun q hq => by obtain rfl := List.mem_singleton.mp hq; exact ⟨by k_mem, offB_not (by ktu_offL), hIf⟩) hC' hL' (by k_mem) (by k_mem) psk hps' (by simp only [List.cons_append, List.nil_append]; exact nexM_cons hIx (by walk_at "nexM"))
          simp only [List.cons_append, List.nil_append] at N5 hex2
          clear P hex DCk DLk pA pB kx hallJ hall hKF
          have hl1 := LI2.len
          have hl2 : (List.map (fun x : Int × Value => x.1) _).length ≤ 17 := Nat.le_trans (Nat.le_of_eq (List.length_map ..)) (Nat.le_trans LI2.len (by omega))
          have hTT := LI2.T
          have hII := LI2.I
          k_steps
          all_goals try (rename @Ne Int _ _ => z9; exact absurd rfl z9)
          rotate_left
          · rename Not (@Eq (List Int) _ _) => z9
            rename List.Perm _ (List.map _ kvs') => p9
            rename List.Pairwise _ _ => w9
            revert w9 p9
            rename List.Perm _ (List.map _ kvs') => p8
            rename List.Pairwise _ _ => w8
            intro p9 w9
            exact absurd (ksm_same (p8.trans p9.symm) w8 w9) z9
          rename Fr g L' _ _ => F7
          rename News g L' _ _ => N7
          refine' turned_next ((xS, instObj 1396 dS) :: (dS, dSock w x xB rS) :: (x, instObj 154 dx) :: (dx, dPorts w 30 (29 + (1 + dm)) fo tfo aT rP) :: (aT, oT') :: (xB, instObj 1138 dB) :: (dB, dTable w dC dL j1 j2) :: (dC, oC') :: (dL, oL') :: (aU, oU') :: (aH, PySem.W.listOf vsH'.toArray nH') :: (aQ, PySem.W.listOf #[.int A' ta', .int S' ts'] nQ') :: (1437, tabObj psA) :: (1442, tabObj psB') :: (ex2 ++ fr2)) ?kF ?kN ?kI ?kJ
          case kF => exact F7
          case kN => exact fun q hq => N7 q (.tail _ (.tail _ hq))
          case kI => first | k_all | fail
          case kJ => rw [hInv]; exact ⟨_, _, _, _, _, _, _, _, _, _, _, _, _, _, _, _, _, _, _, ex2, fr2, _, _, rfl, LI2, DC2, DL2, pA2, pB2, P2, fun q hq p hp => hex2 q hq p (.tail _ hp), by kaf_pre, by kaf_pre, by kaf_pre, by kaf_pre, by kaf_pre, by kaf_pre⟩
    case done =>
      rintro h' tk m' news' F9 N9 hJ0
      rw [hInv] at hJ0
      obtain ⟨A, S, ta, ts, nQ, fo, tfo, kvs, kvsU, vsH, nH, oT, oU, oC, oL, xsC, xsL, psA, psB, ex, fr1, tb, tm, rfl, LIv, DCk, DLk, pA, pB, P2, hex, ms, mm, mk, mu, mh, mb⟩ := hJ0
      simp only [List.cons_append, List.nil_append] at N9
      k_steps
      rename Fr g L' _ _ => F7
      rename News g L' _ _ => N7
      refine' hret _ _ _ _ _ _ _ _ _ ?p1 ?p2 ?kp ?ga
      case ga => ked_read
      case p1 => exact pA.get F7 N7 (by intro q hq; kqd_in)
      case p2 => exact pB.get F7 N7 (by intro q hq; kqd_in)
      case kp => exact kp_endF GK O P2 F7 N7 (by intro q hq; kqd_all) (by ked_reads)
end
section -- B30
theorem news_sub0 {g h : Heap} {L : Addr} {news l fr : List (Addr × Obj)} (N : News g L h news) (hs : ∀ q ∈ l, q ∈ news) (hf : ∀ q ∈ fr, q ∈ news) : News g L h (l ++ fr) := fun q hq => by
  rcases List.mem_append.mp hq with z | z
  · exact N q (hs q z)
  · exact N q (hf q z)
theorem own_no {X : Option Int × Int} {g b fo' : Int} (a : (some g, b) = X) (h : X = (none, fo')) : False := by rw [← a] at h; cases h
theorem nex_tab1 {l c : Int} {a : Addr} : ¬ ExO (tabObj #[rawInt l, rawInt c, .ref a]) := fun h => h.elim (fun h => nomatch h.1) fun ⟨vs, q, t, e, he⟩ => by
  have e2 : (#[rawInt l, rawInt c, .ref a] : Array Value) = vs := by injection e
  subst e2; cases he
theorem nex_tab2 {l c l' c' : Int} {a a' : Addr} : ¬ ExO (tabObj (#[rawInt l, rawInt c, .ref a] ++ #[rawInt l', rawInt c', .ref a'])) := fun h => h.elim (fun h => nomatch h.1) fun ⟨vs, q, t, e, he⟩ => by
  have e2 : (#[rawInt l, rawInt c, .ref a] ++ #[rawInt l', rawInt c', .ref a'] : Array Value) = vs := by injection e
  subst e2; cases he
theorem law_off {ex : List (Addr × Obj)} {p0 p1 pq a b : Addr × Obj} (h : ∀ q ∈ ex, ∀ p ∈ [p0, p1, pq, a, b], q.1 ≠ p.1) : ∀ q ∈ ex, ∀ p ∈ [a, b, p1], q.1 ≠ p.1 := fun q hq p hp => h q hq p (by
  simp only [List.mem_cons, List.not_mem_nil, or_false] at hp ⊢
  rcases hp with rfl | rfl | rfl <;> simp)
noncomputable def HidB (B : Int) : Prop := 1 ≤ B ∧ B ≤ 2
theorem gen_range {M : Model} {A : Around} {Q E : Value → Shared → Prop} {s : Shared} {e : Int} {t : Tok} (he : 1 ≤ e ∧ e ≤ 2) (h : ∀ B, HidB B → wpAny M A (call (.type "range") [.int B t]) Q E s) : wpAny M A (call (.type "range") [.int e t]) Q E s := h e he
theorem vat_no {kvs : List (Int × Value)} {n : Int} (h : (valueAt kvs n).isSome = true) (e : valueAt kvs n = none) : False := by rw [e] at h; cases h
theorem ltD_cons {d a : Nat} {o : Obj} {l : List (Addr × Obj)} (x : @LT.lt Nat _ a d) (h : LtD d l) : LtD d ((a, o) :: l) := fun p hp => by
  rcases List.mem_cons.mp hp with rfl | hp
  · exact x
  · exact h p hp
theorem tailF_all : ∀ l : List (Addr × Obj), TailF [] [] l (fun r => l ++ r)
  | [] => .nil
  | _ :: l => .cons List.not_mem_nil (tailF_all l)
section
variable {s h₀ g h h' : Heap} {L : Addr} {m : Str → Option Value} {news fr : List (Addr × Obj)} {cn : Str} {cs : Scope} {a : Addr} {ccd : Value} {cl : List (Str × Addr)}
theorem fr_nil (P : FrL s h₀ g [] fr) : fr = [] := List.eq_nil_iff_forall_not_mem.mpr fun p hp => by have := P.ad p hp; cases this
/-- behind a call from the law that caught -/
theorem catch_law {d₁ d₂ : Addr} {o₁ o₂ o₁' o₂' : Obj} {n₁ n₂ : Obj → List (Addr × Obj)} (P : FrL s h₀ g [] []) (F : Fr g L h m) (N : News g L h news) (U₁ : UpdF d₁ o₁ news n₁) (U₂ : UpdF d₂ o₂ (n₁ o₁') n₂)
    (k : Kp [d₁, d₂] (frs [envX cn cs L a ccd cl]) h h') (e₁ : h'.get? d₁ = some o₁') (e₂ : h'.get? d₂ = some o₂') (hne : d₁ ≠ d₂) : Fr g L h' m ∧ News g L h' (n₂ o₂') := by
  obtain ⟨fr', P', F', N'⟩ := catch2 P F N U₁ U₂ (tailF_all _) k e₁ e₂ hne List.not_mem_nil List.not_mem_nil
  rw [fr_nil P', List.append_nil] at N'
  exact ⟨F', N'⟩
/-- behind a turn of the law's loop -/
theorem law_back {M ad : List Addr} {pre : List (Addr × Obj)} {p1 p2 : Pos} {q1 q2 : Str} {ps1 ps2 : Array Value} (it : List (Addr × Obj))
    (P : FrL s h₀ g [] []) (F : Fr g L h m) (N : News g L h news) (k : Kp M (frs [envX cn cs L a ccd cl]) h h')
    (hM : ∀ b ∈ M, b ∈ ad) (hall : AllAt h' pre) (had : pre.map Prod.fst = ad) (hpre : ∀ b ∈ ad, ∃ o, (b, o) ∈ news)
    (hit : ∀ q ∈ it, q ∈ news ∧ q.1 ∉ M) (hp1 : PsOk p1 q1 ps1 h') (hp2 : PsOk p2 q2 ps2 h') (hx : ∀ q ∈ it ++ pre, ¬ ExO q.2) :
    ∃ ex, Fr g L h' m ∧ News g L h' ((it ++ pre) ++ (ex ++ [])) ∧ (∀ q ∈ ex, ∀ p ∈ it ++ pre, q.1 ≠ p.1) ∧ PsK p1 q1 g ex ps1 ∧ PsK p2 q2 g ex ps2 := by
  subst had
  obtain ⟨fr', P', F', N'⟩ := behind_F (news' := it ++ pre) P F N (fun _ h => nomatch h) k (fun b hb => let ⟨o, ho⟩ := hpre b (hM b hb); ⟨o, ho, List.not_mem_nil⟩) fun q hq => by
    rcases List.mem_append.mp hq with z | z
    · exact .inl ⟨(hit q z).1, (hit q z).2, List.not_mem_nil⟩
    · exact .inr ⟨hall q z, hpre _ (List.mem_map_of_mem z)⟩
  rw [fr_nil P'] at N'
  obtain ⟨e3, a3, b3⟩ := psk_of F' hp1
  obtain ⟨e4, a4, b4⟩ := psk_of F' hp2
  have hE : ExAt g L h' (e3 ++ e4) := fun q hq => by
    rcases List.mem_append.mp hq with z | z
    · exact a3 q z
    · exact a4 q z
  obtain ⟨N2, x6⟩ := ex_news N' hE hx
  exact ⟨e3 ++ e4, F', N2, x6, b3.mono fun q hq => by simp [hq], b4.mono fun q hq => by simp [hq]⟩
end
end
section
local macro_rules | `(tactic| walk_at "call builtin:len") => `(tactic| (k_dflt (refine' lenB ?F ‹_› ‹_› ?n ?_; (case F => k_asm); (case n => assumption)); intro _ _))
local macro_rules | `(tactic| ktu_offI) => `(tactic| exact List.not_mem_nil)
local macro_rules | `(tactic| walk_at "compareOp NotEq ref ref") => `(tactic| (k_dflt (refine ne_intsK (by exact list_at (by k_asm) (by k_mem)) ‹_› (by exact list_at (by k_asm) (by k_mem)) (by exact .cons _ _ (.cons _ _ (.cons _ _ .nil))) (by lsm_bools) ?_; k_whole)))
local macro_rules | `(tactic| lsm_bools) => `(tactic| (simp only [units_in1, units_deeper]; first | decide | k_dflt (exact room1 (by with_reducible assumption) rfl) | k_dflt (exact room2 (by with_reducible assumption) rfl) | omega))
local macro_rules | `(tactic| walk_at "call type:range") => `(tactic| ((with_reducible show wpAny _ _ (call (Value.type "range") [Value.int (if _ then _ else _) _]) _ _ _); refine stop_ ?_))
local macro_rules | `(tactic| walk_at "inKx") => `(tactic| first | assumption | (refine' List.mem_cons_of_mem _ ?_; walk_at "inKx"))
local macro_rules | `(tactic| kqd_all) => `(tactic| exact (List.not_mem_nil (by with_reducible assumption)).elim)
local macro_rules | `(tactic| ktr_room) => `(tactic| k_dflt (first | decide | omega))
section -- V9
theorem reg_V9 : PySem.Challenge.rw_pq1204_01 = PySem.Challenge.rw_pq1204_01 ∧ K = K := by k_fill; exact ⟨rfl, rfl⟩
theorem law_R {prog : Program} {w : World} {p : Program} {loose : List Str} {mean : ExcName → Option Value} {mg mb : Str → Option Value} {h₀ : Heap} {s : Shared} {aX : Nat} {vs : List Value} {ns : List Int} {R : Result → Shared → Prop}
  (X₀ : (K w.params).In h₀) (T₀ : Top p loose mean mg mb h₀) (C₀ : Cx h₀ [] s.heap) (O : Own h₀ [] s.heap [(1437, tabObj #[]), (1442, tabObj #[]), (1470, tabObj #[])])
  (hX : h₀.IsList aX vs.toArray) (hI : IntsAre vs ns) (hn63 : ns.length ≤ 63)
  (hret : ∀ h' tk' psA psB psC, Kp [1437, 1442, 1470] [] s.heap h' → AllAt h' [(1437, tabObj psA), (1442, tabObj psB), (1470, tabObj psC)] → R (.ok (.ret (.bool true))) { s with heap := h', toks := tk' }) :
  codeAny (model prog w) callerA (.call (.ref 1475) ⟨[.ref aX], []⟩) R s := by
  k_dflt ((refine' enterFC ?k1Zq ?k2Zq ?k3Zq ?k4Zq ?k6Zq ?k7Zq ?k8Zq ?k9Zq ?kBZq ?kDZq ?_ ?c2Zq ?c3Zq ?c4Zq; (case k1Zq => assumption); (case k2Zq => assumption); (case k3Zq => assumption); (case k4Zq => assumption); (case k6Zq => k_is); (case k7Zq => k_is); (case k8Zq => ktr_room); (case k9Zq => first | exact BindsTo.of_eq rfl | exact binds_K (Frag.In.keeps (by assumption) (Cx.st (by assumption))) rfl (by k_is) rfl rfl rfl); (case kBZq => exact rfl); (case kDZq => decide +kernel); (case c2Zq => exact rfl); (case c3Zq => exact rfl); (case c4Zq => exact rfl); k_whole))
  intro g L' h' tk' cells' fr X' T' P GK GS' F' N' Y' l1' GU GL
  have hfl := P.lt (fun q hq => l1' q (List.mem_append_right _ hq))
  (try simp only [List.cons_append, List.nil_append] at N' l1')
  (try k_lt l1')
  k_cells Y'
  (try simp only [List.cons_append, List.nil_append] at N')
  (try dsimp only)
  (try k_fold)
  k_steps
  rename Fr g L' _ _ => F1
  rename News g L' _ _ => N1
  k_dflt (refine' law_sockets_R ?X ?T ?C ?d ?m1 ?m2 ?r1)
  case C => (first | ((refine FrL.cx ‹_› (by k_asm) (by k_asm) (by (intro q hq; kqd_all)) (by rfl))) | ((refine Cx.call ‹_› (by k_asm) (by rfl))))
  case X => assumption
  case T => assumption
  case d => ktr_room
  case m1 => decide
  case m2 => decide
  case' r1 => intro h2 tk2 xS dS x dx aT xB dB dC dL rS rP j1 j2 tfo oT oC oL o1 o2 o3 o4 o5 o6 o7 o8 hlow hsm hsm1 hsm2 hTd hCd hLd hmade hK2
  have ld : LtD dS _ := fun q hq => hlow _ _ (N1 q hq).1
  have lc : L' + 1 < dS := ld (L' + 1, _) (by k_mem)
  obtain ⟨F2, N2⟩ := news_made F1 N1 hK2 hmade
  simp only [List.cons_append, List.nil_append] at N2
  clear F1 N1 hlow hmade hK2 ld
  have hA : Asc [1437, 1442, 1470, L' + 1, dS, xS, dx, x, aT, dB, xB, dC, dL] := ⟨by decide, by decide, ltN (by omega), lc, o1, o2, o3, o4, o5, o6, o7, o8, trivial⟩
  obtain rfl := fr_nil P
  have cT : (tabObj #[]).cls ≠ .type "tuple" := fun h => nomatch h
  k_steps
  rename_i ha oF dF D1 hb ldD1 lD1 D2 hc F3 N3 ldD2 lD2
  obtain ⟨tkA, htkA⟩ : ∃ t, t = tk := ⟨_, rfl⟩
  subst htkA
  k_dflt (refine' connect_R ?X ?T ?C ?d ?u ?O o6 o7 o8 hsm1 ?hC ?len ?nk ?h1 ?h2 ?r2)
  case C => (first | ((refine FrL.cx ‹_› (by k_asm) (by k_asm) (by (intro q hq; kqd_all)) (by rfl))) | ((refine Cx.call ‹_› (by k_asm) (by rfl))))
  case X => assumption
  case T => assumption
  case d => ktr_room
  case u => exact un_ltG (un := 4) (n := 600) (by decide) rfl (by decide)
  case O => (first | ((refine FrL.own ‹_› (by k_asm) (by keq_rows) (by krn_off))) | ((refine Own.of ‹_› (by k_asm) (by keq_rows))))
  case hC => exact dictH_nil hCd (by walk_at "getN")
  case len => exact Nat.zero_le _
  case nk => exact rfl
  case h1 => exact is_tup2 (by k_asm) (by k_mem)
  case h2 => exact is_tup2 (by k_asm) (by k_mem)
  case' r2 => intro h3 tk3 oC3 aC3 hK3 g3 hC3
  obtain ⟨F4, N4⟩ := News.at1 (by k_asm) (by k_asm) (by k_updF) hK3 g3
  (try dsimp only at N4)
  have cC3 := cls_dictH hC3 g3
  obtain ⟨kt, kt1, kt2, DK3⟩ := dk_of fin_tt (by k_asm) hC3 g3
  obtain ⟨N5, hkt⟩ := kt_newsK (fr := []) (by k_asm) (by keq_hits) kt1 kt2
  (try dsimp only at N5)
  (try dsimp only at hkt)
  clear N3 N4 F3 ldD1 lD1 ldD2 lD2 hK3
  k_steps
  k_dflt (refine' listen_R ?X ?T ?C ?d ?u ?O o6 o7 o8 hsm2 ?hL ?len ?nk ?r3)
  case C => (first | ((refine FrL.cx ‹_› (by k_asm) (by k_asm) (by (intro q hq; kqd_all)) (by rfl))) | ((refine Cx.call ‹_› (by k_asm) (by rfl))))
  case X => assumption
  case T => assumption
  case d => ktr_room
  case u => exact un_ltG (un := 4) (n := 600) (by decide) rfl (by decide)
  case O => (first | ((refine FrL.own ‹_› (by k_asm) (by keq_rows) (by krn_off))) | ((refine Own.of ‹_› (by k_asm) (by keq_rows))))
  case hL => exact dictH_nil hLd (by walk_at "getN")
  case len => exact Nat.zero_le _
  case nk => exact rfl
  case' r3 => intro h5 tk5 oL5 aL5 hK5 g5 hL5
  obtain ⟨F6, N6⟩ := News.at1 (by k_asm) (by k_asm) (by k_updF) hK5 g5
  (try dsimp only at N6)
  have hC5 := DK3.get F6 N6 (by k_mem) (by intro q hq; kqd_in)
  obtain ⟨ex, x1, DCx, DLx, -, -⟩ := ex_all (p1 := ⟨963, 24, 963, 51⟩) (p2 := ⟨963, 24, 963, 51⟩) (q1 := Str.ofString "") (q2 := Str.ofString "") (ps1 := #[]) (ps2 := #[]) F6 hC5 hL5 (N6.get (by k_mem)) g5 (.inl rfl) (.inl rfl)
  have nC5 := nex_DK DCx
  have nL5 := nex_DK DLx
  have nT := nex_isDict hTd
  have nF : ¬ ExO oF := notEx (noTup_cell dF) (fun _ _ _ h => by rw [dF] at h; cases h)
  have nZ : ¬ ExO (tabObj #[]) := nex_ps (pos := ⟨963, 24, 963, 51⟩) (qual := Str.ofString "") (h := g) (.inl rfl)
  obtain ⟨N7, hex⟩ := ex_news (news_sub0 (fr := []) (l := [(xS, instObj 1396 dS), (dS, dSock w x xB rS), (x, instObj 154 dx), (dx, dPorts w 30 (29 + 3) 30 tfo aT rP), (aT, oT), (xB, instObj 1138 dB), (dB, dTable w dC dL j1 j2), (dC, oC3), (dL, oL5), (L' + 1, oF), (1437, tabObj #[]), (1442, tabObj #[]), (1470, tabObj #[])]) N6 (by keq_rows) (by intro q hq; kqd_all)) x1 (by walk_at "nexM")
  simp only [List.cons_append, List.nil_append] at N7 hex
  clear N5 N6 F4 hkt DK3 kt1 kt2 hK5 hC5 hL5 hC3 g5 g3 x1
  k_steps
  have hC2a : ∀ x ∈ (([] : CL) ++ [([[7, 30], [8, 31]], aC3, Value.int 1 (tkA + 1 + 1 + 1 + 1 + 1))]), ∃ a b c d, x.1 = [[a, b], [c, d]] := fun x hx => by obtain rfl := List.mem_singleton.mp hx; exact ⟨_, _, _, _, rfl⟩
  have hL2a : ∀ x ∈ (([] : LL) ++ [([0, 32], aL5, Value.int 2 (tk3 + 1 + 1 + 1))]), ∃ a b, x.1 = [a, b] := fun x hx => by obtain rfl := List.mem_singleton.mp hx; exact ⟨_, _, rfl⟩
  k_dflt (refine' own_port_R ?X ?T ?C ?d ?O o1 o2 o3 o4 o5 o6 o7 o8 hsm hsm1 hsm2 hTd ?hC hC2a ?hL hL2a ?len ?len2 ?f ?l ?l2 ?fo ?fo2 ?rA11 ?rB11)
  case C => (first | ((refine FrL.cx ‹_› (by k_asm) (by k_asm) (by (intro q hq; kqd_all)) (by rfl))) | ((refine Cx.call ‹_› (by k_asm) (by rfl))))
  case X => assumption
  case T => assumption
  case d => ktr_room
  case O => (first | ((refine FrL.own ‹_› (by k_asm) (by keq_rows) (by krn_off))) | ((refine Own.of ‹_› (by k_asm) (by keq_rows))))
  case hC => exact DCx.get (by k_asm) (by k_asm) (by k_mem) (by intro q hq; kqd_in)
  case hL => exact DLx.get (by k_asm) (by k_asm) (by k_mem) (by intro q hq; kqd_in)
  case len => exact Nat.le_of_ble_eq_true rfl
  case len2 => exact Nat.le_of_ble_eq_true rfl
  case f => decide
  case l => decide
  case l2 => decide
  case fo => decide
  case fo2 => decide
  case rB11 => exact fun e' h' tk' hm' fo' tfo' oT' hsc' => (own_no (g := 31) (b := 32) (by kernel_rfl) hsc').elim
  case' rA11 => intro h11 tk11 n11 t11 fo11 tfo11 oT11 hsc11 hK11 hdx11 haT11 hTx11
  obtain ⟨rfl, rfl⟩ := own_eq (g := 31) (b := 32) (by kernel_rfl) hsc11
  obtain ⟨F11, N11⟩ := News.at2 (by k_asm) (by k_asm) (by k_updF) (by k_updF) hK11 hdx11 haT11 (by k_ne)
  (try dsimp only at N11)
  have hT11 : oT11.IsDictOf (intKind prog w) [(31, .bool true)] := hTx11
  clear hK11 hdx11 haT11 hTx11 hsc11
  k_steps
  all_goals try (rename @Ne Int _ _ => z9; exact absurd rfl z9)
  have hCdL : CodeHd g 1474 1470 := codeHd_of_K X' (by kernel_rfl)
  refine' lam_mk (ps := #[]) ?F ?N ?T hCdL rfl ?U (.inl rfl) ?q ?dd ?cl ?lh1 ?lh2
  case F => k_asm
  case N => k_asm
  case T => assumption
  case U => k_updF
  case q => rfl
  case dd => exact rfl
  case cl => exact rfl
  case lh2 => exact fun f' c' ctv h' tk F6 N6 hpe => Nat.noConfusion (show 0 = 3 from congrArg Array.size hpe)
  case' lh1 => intro f20 c20 oc20 vs20 t20 ctv20 h20 tk20 F20 N20 d20 e20 l20 m20
  (try dsimp only at N20)
  have ldc20 := ltD_in l20
  have ldf20 := ltD_cons (o := oc20) m20 (ltD_mono ldc20 (Nat.le_of_lt m20))
  clear l20
  k_steps
  have nZ20 : ¬ ExO (tabObj #[rawInt (⟨1007, 49, 1007, 72⟩ : Pos).line, rawInt (⟨1007, 49, 1007, 72⟩ : Pos).col, .ref c20]) := nex_tab1
  k_dflt (refine' ref_own3_R (cS := L' + 1) (b' := 30) ?X ?T ?C ?d ?O dF ?ha ?hcd o1 o2 o3 o4 o5 o6 o7 o8 (.inl lc) hsm hsm1 hsm2 hT11 ?hC hC2a ?hL hL2a ?len ?len2 ?f ?l ?l2 ?fo ?fo2 (by kernel_rfl) ?r4)
  case C => (first | ((refine FrL.cx ‹_› (by k_asm) (by k_asm) (by (intro q hq; kqd_all)) (by rfl))) | ((refine Cx.call ‹_› (by k_asm) (by rfl))))
  case X => assumption
  case T => assumption
  case d => ktr_room
  case O => (first | ((refine FrL.own ‹_› (by k_asm) (by keq_rows) (by krn_off))) | ((refine Own.of ‹_› (by k_asm) (by keq_rows))))
  case hC => exact DCx.get (by k_asm) (by k_asm) (by k_mem) (by intro q hq; kqd_in)
  case hL => exact DLx.get (by k_asm) (by k_asm) (by k_mem) (by intro q hq; kqd_in)
  case len => exact Nat.le_of_ble_eq_true rfl
  case len2 => exact Nat.le_of_ble_eq_true rfl
  case f => decide
  case l => decide
  case l2 => decide
  case fo => decide
  case fo2 => decide
  case ha => exact News.get (by k_asm) (by k_mem)
  case hcd => exact codeRec_news (by k_asm) (by k_mem) d20 e20
  case' r4 => intro h21 tk21 tfo21 oT21 hKF21 hdx21 haT21 hT21
  obtain ⟨F21, N21⟩ := catch_law P (by k_asm) (by k_asm) (by k_updF) (by k_updF) hKF21 hdx21 haT21 (by k_ne)
  (try dsimp only at N21)
  clear hKF21 hdx21 haT21
  k_steps
  all_goals try (rename @Ne Int _ _ => z9; exact absurd rfl z9)
  k_dflt (refine' remove_R ?X ?T ?C ?d ?u ?O o6 o7 o8 hsm1 hsm2 ?hC ?hL ?vC ?vL ?len ?len2 ?r5)
  case C => (first | ((refine FrL.cx ‹_› (by k_asm) (by k_asm) (by (intro q hq; kqd_all)) (by rfl))) | ((refine Cx.call ‹_› (by k_asm) (by rfl))))
  case X => assumption
  case T => assumption
  case d => ktr_room
  case u => exact un_ltG (un := 4) (n := 600) (by decide) rfl (by decide)
  case O => (first | ((refine FrL.own ‹_› (by k_asm) (by keq_rows) (by krn_off))) | ((refine Own.of ‹_› (by k_asm) (by keq_rows))))
  case hC => exact DCx.get (by k_asm) (by k_asm) (by k_mem) (by intro q hq; kqd_in)
  case hL => exact DLx.get (by k_asm) (by k_asm) (by k_mem) (by intro q hq; kqd_in)
  case len => exact Nat.le_of_ble_eq_true rfl
  case len2 => exact Nat.le_of_ble_eq_true rfl
  case vC => exact (fun x hx => by obtain rfl := List.mem_singleton.mp hx; exact ⟨_, _, rfl⟩)
  case vL => exact (fun x hx => by obtain rfl := List.mem_singleton.mp hx; exact ⟨_, _, rfl⟩)
  case' r5 => intro h22 tk22 t22 oC22 oL22 hK22 gC22 gL22 hC22 hL22
  obtain ⟨F22, N22⟩ := News.at2 (by k_asm) (by k_asm) (by k_updF) (by k_updF) hK22 gC22 gL22 (by k_ne)
  (try dsimp only at N22)
  generalize hg22 : ((List.filter _ _).length : Int) + ((List.filter _ _).length : Int) = cnt22
  have hc22 : cnt22 = 1 := hg22.symm.trans rfl
  subst hc22
  clear hg22
  have hCx22 : h22.DictOfH (ttKind prog w) dC (([] : CL) ++ [([[7, 30], [8, 31]], aC3, Value.int 1 (tkA + 1 + 1 + 1 + 1 + 1))]) := hC22
  have hLx22 : h22.DictOfH (tupleKind (intKind prog w)) dL ([] : LL) := hL22
  obtain ⟨ex22, x22, DC22, DL22, -, -⟩ := ex_all (p1 := ⟨963, 24, 963, 51⟩) (p2 := ⟨963, 24, 963, 51⟩) (q1 := Str.ofString "") (q2 := Str.ofString "") (ps1 := #[]) (ps2 := #[]) F22 hCx22 hLx22 gC22 gL22 (.inl rfl) (.inl rfl)
  have mC22 := nex_DK DC22
  have mL22 := nex_DK DL22
  have mT22 := nex_isDict hT21
  obtain ⟨M22, hex22⟩ := ex_news (news_sub0 (fr := []) (l := [(xS, instObj 1396 dS), (dS, dSock w x xB rS), (x, instObj 154 dx), (dx, dPorts w 30 (29 + 3) 30 tfo21 aT rP), (aT, oT21), (xB, instObj 1138 dB), (dB, dTable w dC dL j1 j2), (dC, oC22), (dL, oL22), (L' + 1, oF), (1437, tabObj #[]), (1442, tabObj #[]), (1470, tabObj #[rawInt (⟨1007, 49, 1007, 72⟩ : Pos).line, rawInt (⟨1007, 49, 1007, 72⟩ : Pos).col, .ref c20])]) N22 (by keq_rows) (fun _ h => nomatch h)) x22 (by walk_at "nexM")
  simp only [List.cons_append, List.nil_append] at M22 hex22
  clear N22 hK22 gC22 gL22 hC22 hL22 hCx22 hLx22 x22 DCx DLx
  k_steps
  all_goals try (rename @Ne Int _ _ => z9; exact absurd rfl z9)
  have hC222 : ∀ x ∈ (([] : CL) ++ [([[7, 30], [8, 31]], aC3, Value.int 1 (tkA + 1 + 1 + 1 + 1 + 1))]), ∃ a b c d, x.1 = [[a, b], [c, d]] := fun x hx => by obtain rfl := List.mem_singleton.mp hx; exact ⟨_, _, _, _, rfl⟩
  have hL222 : ∀ x ∈ ([] : LL), ∃ a b, x.1 = [a, b] := fun _ h => nomatch h
  k_dflt (refine' own_port_R ?X ?T ?C ?d ?O o1 o2 o3 o4 o5 o6 o7 o8 hsm hsm1 hsm2 hT21 ?hC hC222 ?hL hL222 ?len ?len2 ?f ?l ?l2 ?fo ?fo2 ?rA12 ?rB12)
  case C => (first | ((refine FrL.cx ‹_› (by k_asm) (by k_asm) (by (intro q hq; kqd_all)) (by rfl))) | ((refine Cx.call ‹_› (by k_asm) (by rfl))))
  case X => assumption
  case T => assumption
  case d => ktr_room
  case O => (first | ((refine FrL.own ‹_› (by k_asm) (by keq_rows) (by krn_off))) | ((refine Own.of ‹_› (by k_asm) (by keq_rows))))
  case hC => exact DC22.get (by k_asm) (by k_asm) (by k_mem) (by intro q hq; kqd_in)
  case hL => exact DL22.get (by k_asm) (by k_asm) (by k_mem) (by intro q hq; kqd_in)
  case len => exact Nat.le_of_ble_eq_true rfl
  case len2 => exact Nat.le_of_ble_eq_true rfl
  case f => decide
  case l => decide
  case l2 => decide
  case fo => decide
  case fo2 => decide
  case rB12 => exact fun e' h' tk' hm' fo' tfo' oT' hsc' => (own_no (g := 32) (b := 30) (by kernel_rfl) hsc').elim
  case' rA12 => intro h12 tk12 n12 t12 fo12 tfo12 oT12 hsc12 hK12 hdx12 haT12 hTx12
  obtain ⟨rfl, rfl⟩ := own_eq (g := 32) (b := 30) (by kernel_rfl) hsc12
  obtain ⟨F12, N12⟩ := News.at2 (by k_asm) (by k_asm) (by k_updF) (by k_updF) hK12 hdx12 haT12 (by k_ne)
  (try dsimp only at N12)
  have hT12 : oT12.IsDictOf (intKind prog w) [(31, .bool true), (32, .bool true)] := hTx12
  clear hK12 hdx12 haT12 hTx12 hsc12
  k_steps
  all_goals try (rename @Ne Int _ _ => z9; exact absurd rfl z9)
  k_dflt (refine' remove_R ?X ?T ?C ?d ?u ?O o6 o7 o8 hsm1 hsm2 ?hC ?hL ?vC ?vL ?len ?len2 ?r6)
  case C => (first | ((refine FrL.cx ‹_› (by k_asm) (by k_asm) (by (intro q hq; kqd_all)) (by rfl))) | ((refine Cx.call ‹_› (by k_asm) (by rfl))))
  case X => assumption
  case T => assumption
  case d => ktr_room
  case u => exact un_ltG (un := 4) (n := 600) (by decide) rfl (by decide)
  case O => (first | ((refine FrL.own ‹_› (by k_asm) (by keq_rows) (by krn_off))) | ((refine Own.of ‹_› (by k_asm) (by keq_rows))))
  case hC => exact DC22.get (by k_asm) (by k_asm) (by k_mem) (by intro q hq; kqd_in)
  case hL => exact DL22.get (by k_asm) (by k_asm) (by k_mem) (by intro q hq; kqd_in)
  case len => exact Nat.le_of_ble_eq_true rfl
  case len2 => exact Nat.le_of_ble_eq_true rfl
  case vC => exact (fun x hx => by obtain rfl := List.mem_singleton.mp hx; exact ⟨_, _, rfl⟩)
  case vL => exact (fun _ h => nomatch h)
  case' r6 => intro h30 tk30 t30 oC30 oL30 hK30 gC30 gL30 hC30 hL30
  obtain ⟨F30, N30⟩ := News.at2 (by k_asm) (by k_asm) (by k_updF) (by k_updF) hK30 gC30 gL30 (by k_ne)
  (try dsimp only at N30)
  generalize hg30 : ((List.filter _ _).length : Int) + ((List.filter _ _).length : Int) = cnt30
  have hc30 : cnt30 = 1 := hg30.symm.trans rfl
  subst hc30
  clear hg30
  have hCx30 : h30.DictOfH (ttKind prog w) dC ([] : CL) := hC30
  have hLx30 : h30.DictOfH (tupleKind (intKind prog w)) dL ([] : LL) := hL30
  obtain ⟨ex30, x30, DC30, DL30, -, -⟩ := ex_all (p1 := ⟨963, 24, 963, 51⟩) (p2 := ⟨963, 24, 963, 51⟩) (q1 := Str.ofString "") (q2 := Str.ofString "") (ps1 := #[]) (ps2 := #[]) F30 hCx30 hLx30 gC30 gL30 (.inl rfl) (.inl rfl)
  have mC30 := nex_DK DC30
  have mL30 := nex_DK DL30
  have mT30 := nex_isDict hT12
  obtain ⟨M30, hex30⟩ := ex_news (news_sub0 (fr := []) (l := [(xS, instObj 1396 dS), (dS, dSock w x xB rS), (x, instObj 154 dx), (dx, dPorts w 30 (29 + 3) 30 tfo12 aT rP), (aT, oT12), (xB, instObj 1138 dB), (dB, dTable w dC dL j1 j2), (dC, oC30), (dL, oL30), (L' + 1, oF), (1437, tabObj #[]), (1442, tabObj #[]), (1470, tabObj #[rawInt (⟨1007, 49, 1007, 72⟩ : Pos).line, rawInt (⟨1007, 49, 1007, 72⟩ : Pos).col, .ref c20])]) N30 (by keq_rows) (fun _ h => nomatch h)) x30 (by walk_at "nexM")
  simp only [List.cons_append, List.nil_append] at M30 hex30
  clear N30 hK30 gC30 gL30 hC30 hL30 hCx30 hLx30 x30 DC22 DL22
  k_steps
  all_goals try (rename @Ne Int _ _ => z9; exact absurd rfl z9)
  have hC230 : ∀ x ∈ ([] : CL), ∃ a b c d, x.1 = [[a, b], [c, d]] := fun _ h => nomatch h
  have hL230 : ∀ x ∈ ([] : LL), ∃ a b, x.1 = [a, b] := fun _ h => nomatch h
  k_dflt (refine' own_port_R ?X ?T ?C ?d ?O o1 o2 o3 o4 o5 o6 o7 o8 hsm hsm1 hsm2 hT12 ?hC hC230 ?hL hL230 ?len ?len2 ?f ?l ?l2 ?fo ?fo2 ?rA13 ?rB13)
  case C => (first | ((refine FrL.cx ‹_› (by k_asm) (by k_asm) (by (intro q hq; kqd_all)) (by rfl))) | ((refine Cx.call ‹_› (by k_asm) (by rfl))))
  case X => assumption
  case T => assumption
  case d => ktr_room
  case O => (first | ((refine FrL.own ‹_› (by k_asm) (by keq_rows) (by krn_off))) | ((refine Own.of ‹_› (by k_asm) (by keq_rows))))
  case hC => exact DC30.get (by k_asm) (by k_asm) (by k_mem) (by intro q hq; kqd_in)
  case hL => exact DL30.get (by k_asm) (by k_asm) (by k_mem) (by intro q hq; kqd_in)
  case len => exact Nat.le_of_ble_eq_true rfl
  case len2 => exact Nat.le_of_ble_eq_true rfl
  case f => decide
  case l => decide
  case l2 => decide
  case fo => decide
  case fo2 => decide
  case rB13 => exact fun e' h' tk' hm' fo' tfo' oT' hsc' => (own_no (g := 30) (b := 31) (by kernel_rfl) hsc').elim
  case' rA13 => intro h13 tk13 n13 t13 fo13 tfo13 oT13 hsc13 hK13 hdx13 haT13 hTx13
  obtain ⟨rfl, rfl⟩ := own_eq (g := 30) (b := 31) (by kernel_rfl) hsc13
  obtain ⟨F13, N13⟩ := News.at2 (by k_asm) (by k_asm) (by k_updF) (by k_updF) hK13 hdx13 haT13 (by k_ne)
  (try dsimp only at N13)
  have hT13 : oT13.IsDictOf (intKind prog w) [(31, .bool true), (32, .bool true), (30, .bool true)] := hTx13
  clear hK13 hdx13 haT13 hTx13 hsc13
  k_steps
  all_goals try (rename @Ne Int _ _ => z9; exact absurd rfl z9)
  k_dflt (refine' free_R ?X ?T ?C ?d ?O o3 o4 hsm hT13 ?len ?nb ?fA40 ?fB40)
  case C => (first | ((refine FrL.cx ‹_› (by k_asm) (by k_asm) (by (intro q hq; kqd_all)) (by rfl))) | ((refine Cx.call ‹_› (by k_asm) (by rfl))))
  case X => assumption
  case T => assumption
  case d => ktr_room
  case O => (first | ((refine FrL.own ‹_› (by k_asm) (by keq_rows) (by krn_off))) | ((refine Own.of ‹_› (by k_asm) (by keq_rows))))
  case len => exact Nat.le_of_ble_eq_true rfl
  case nb => exact (by unfold SmallI; decide)
  case fB40 => exact fun e' h' tk' hm' hn' _ _ => (vat_no (by kernel_rfl) hn').elim
  case' fA40 => intro h40 tk40 oT40 hs40 hTx40 hK40 haT40
  obtain ⟨F40, N40⟩ := News.at1 (by k_asm) (by k_asm) (by k_updF) hK40 haT40
  (try dsimp only at N40)
  have hT40 : oT40.IsDictOf (intKind prog w) [(31, .bool true), (30, .bool true)] := hTx40
  clear hs40 hTx40 hK40 haT40
  k_steps
  all_goals try (rename @Ne Int _ _ => z9; exact absurd rfl z9)
  k_dflt (refine' free_R ?X ?T ?C ?d ?O o3 o4 hsm hT40 ?len ?nb ?fA41 ?fB41)
  case C => (first | ((refine FrL.cx ‹_› (by k_asm) (by k_asm) (by (intro q hq; kqd_all)) (by rfl))) | ((refine Cx.call ‹_› (by k_asm) (by rfl))))
  case X => assumption
  case T => assumption
  case d => ktr_room
  case O => (first | ((refine FrL.own ‹_› (by k_asm) (by keq_rows) (by krn_off))) | ((refine Own.of ‹_› (by k_asm) (by keq_rows))))
  case len => exact Nat.le_of_ble_eq_true rfl
  case nb => exact (by unfold SmallI; decide)
  case fB41 => exact fun e' h' tk' hm' hn' _ _ => (vat_no (by kernel_rfl) hn').elim
  case' fA41 => intro h41 tk41 oT41 hs41 hTx41 hK41 haT41
  obtain ⟨F41, N41⟩ := News.at1 (by k_asm) (by k_asm) (by k_updF) hK41 haT41
  (try dsimp only at N41)
  have hT41 : oT41.IsDictOf (intKind prog w) [(30, .bool true)] := hTx41
  clear hs41 hTx41 hK41 haT41
  k_steps
  all_goals try (rename @Ne Int _ _ => z9; exact absurd rfl z9)
  k_dflt (refine' own_port_R ?X ?T ?C ?d ?O o1 o2 o3 o4 o5 o6 o7 o8 hsm hsm1 hsm2 hT41 ?hC hC230 ?hL hL230 ?len ?len2 ?f ?l ?l2 ?fo ?fo2 ?rA14 ?rB14)
  case C => (first | ((refine FrL.cx ‹_› (by k_asm) (by k_asm) (by (intro q hq; kqd_all)) (by rfl))) | ((refine Cx.call ‹_› (by k_asm) (by rfl))))
  case X => assumption
  case T => assumption
  case d => ktr_room
  case O => (first | ((refine FrL.own ‹_› (by k_asm) (by keq_rows) (by krn_off))) | ((refine Own.of ‹_› (by k_asm) (by keq_rows))))
  case hC => exact DC30.get (by k_asm) (by k_asm) (by k_mem) (by intro q hq; kqd_in)
  case hL => exact DL30.get (by k_asm) (by k_asm) (by k_mem) (by intro q hq; kqd_in)
  case len => exact Nat.le_of_ble_eq_true rfl
  case len2 => exact Nat.le_of_ble_eq_true rfl
  case f => decide
  case l => decide
  case l2 => decide
  case fo => decide
  case fo2 => decide
  case rB14 => exact fun e' h' tk' hm' fo' tfo' oT' hsc' => (own_no (g := 31) (b := 32) (by kernel_rfl) hsc').elim
  case' rA14 => intro h14 tk14 n14 t14 fo14 tfo14 oT14 hsc14 hK14 hdx14 haT14 hTx14
  obtain ⟨rfl, rfl⟩ := own_eq (g := 31) (b := 32) (by kernel_rfl) hsc14
  obtain ⟨F14, N14⟩ := News.at2 (by k_asm) (by k_asm) (by k_updF) (by k_updF) hK14 hdx14 haT14 (by k_ne)
  (try dsimp only at N14)
  have hT14 : oT14.IsDictOf (intKind prog w) [(30, .bool true), (31, .bool true)] := hTx14
  clear hK14 hdx14 haT14 hTx14 hsc14
  k_steps
  all_goals try (rename @Ne Int _ _ => z9; exact absurd rfl z9)
  k_dflt (refine' own_port_R ?X ?T ?C ?d ?O o1 o2 o3 o4 o5 o6 o7 o8 hsm hsm1 hsm2 hT14 ?hC hC230 ?hL hL230 ?len ?len2 ?f ?l ?l2 ?fo ?fo2 ?rA15 ?rB15)
  case C => (first | ((refine FrL.cx ‹_› (by k_asm) (by k_asm) (by (intro q hq; kqd_all)) (by rfl))) | ((refine Cx.call ‹_› (by k_asm) (by rfl))))
  case X => assumption
  case T => assumption
  case d => ktr_room
  case O => (first | ((refine FrL.own ‹_› (by k_asm) (by keq_rows) (by krn_off))) | ((refine Own.of ‹_› (by k_asm) (by keq_rows))))
  case hC => exact DC30.get (by k_asm) (by k_asm) (by k_mem) (by intro q hq; kqd_in)
  case hL => exact DL30.get (by k_asm) (by k_asm) (by k_mem) (by intro q hq; kqd_in)
  case len => exact Nat.le_of_ble_eq_true rfl
  case len2 => exact Nat.le_of_ble_eq_true rfl
  case f => decide
  case l => decide
  case l2 => decide
  case fo => decide
  case fo2 => decide
  case rB15 => exact fun e' h' tk' hm' fo' tfo' oT' hsc' => (own_no (g := 32) (b := 30) (by kernel_rfl) hsc').elim
  case' rA15 => intro h15 tk15 n15 t15 fo15 tfo15 oT15 hsc15 hK15 hdx15 haT15 hTx15
  obtain ⟨rfl, rfl⟩ := own_eq (g := 32) (b := 30) (by kernel_rfl) hsc15
  obtain ⟨F15, N15⟩ := News.at2 (by k_asm) (by k_asm) (by k_updF) (by k_updF) hK15 hdx15 haT15 (by k_ne)
  (try dsimp only at N15)
  have hT15 : oT15.IsDictOf (intKind prog w) [(30, .bool true), (31, .bool true), (32, .bool true)] := hTx15
  clear hK15 hdx15 haT15 hTx15 hsc15
  k_steps
  all_goals try (rename @Ne Int _ _ => z9; exact absurd rfl z9)
  k_dflt (refine' free_R ?X ?T ?C ?d ?O o3 o4 hsm hT15 ?len ?nb ?fA42 ?fB42)
  case C => (first | ((refine FrL.cx ‹_› (by k_asm) (by k_asm) (by (intro q hq; kqd_all)) (by rfl))) | ((refine Cx.call ‹_› (by k_asm) (by rfl))))
  case X => assumption
  case T => assumption
  case d => ktr_room
  case O => (first | ((refine FrL.own ‹_› (by k_asm) (by keq_rows) (by krn_off))) | ((refine Own.of ‹_› (by k_asm) (by keq_rows))))
  case len => exact Nat.le_of_ble_eq_true rfl
  case nb => exact (by unfold SmallI; decide)
  case fB42 => exact fun e' h' tk' hm' hn' _ _ => (vat_no (by kernel_rfl) hn').elim
  case' fA42 => intro h42 tk42 oT42 hs42 hTx42 hK42 haT42
  obtain ⟨F42, N42⟩ := News.at1 (by k_asm) (by k_asm) (by k_updF) hK42 haT42
  (try dsimp only at N42)
  have hT42 : oT42.IsDictOf (intKind prog w) [(30, .bool true), (31, .bool true)] := hTx42
  clear hs42 hTx42 hK42 haT42
  k_steps
  all_goals try (rename @Ne Int _ _ => z9; exact absurd rfl z9)
  k_dflt (refine' law_told_R (n := 32) (fo' := 30) ?X ?T ?C ?d ?O o3 o4 hsm hT42 ?f ?l ?l2 (by kernel_rfl) ?r7)
  case C => (first | ((refine FrL.cx ‹_› (by k_asm) (by k_asm) (by (intro q hq; kqd_all)) (by rfl))) | ((refine Cx.call ‹_› (by k_asm) (by rfl))))
  case X => assumption
  case T => assumption
  case d => ktr_room
  case O => (first | ((refine FrL.own ‹_› (by k_asm) (by keq_rows) (by krn_off))) | ((refine Own.of ‹_› (by k_asm) (by keq_rows))))
  case f => decide
  case l => decide
  case l2 => decide
  case' r7 => intro h50 tk50 t50 tfo50 hK50 hdx50
  obtain ⟨F50, N50⟩ := News.at1 (by k_asm) (by k_asm) (by k_updF) hK50 hdx50
  (try dsimp only at N50)
  clear hK50 hdx50
  k_steps
  all_goals try (rename @Ne Int _ _ => z9; exact absurd rfl z9)
  rename_i f60 c60 oc60 vs60 t60 ctv60 h60 tk60 F60 N60 d60 e60 lo60 l60 m60
  have ldf60 := ltD_cons (o := oc60) m60 (ltD_mono lo60 (Nat.le_of_lt m60))
  clear l60
  k_dflt (refine' ref_ok4_R (cS := L' + 1) (b' := 30) (n0 := 32) ?X ?T ?C ?d ?O dF ?ha ?hcd o1 o2 o3 o4 o5 o6 o7 o8 (.inl lc) hsm hsm1 hsm2 hT42 ?hC hC230 ?hL hL230 ?len ?len2 ?f ?l ?l2 ?fo ?fo2 (by kernel_rfl) ?r8)
  case C => (first | ((refine FrL.cx ‹_› (by k_asm) (by k_asm) (by (intro q hq; kqd_all)) (by rfl))) | ((refine Cx.call ‹_› (by k_asm) (by rfl))))
  case X => assumption
  case T => assumption
  case d => ktr_room
  case O => (first | ((refine FrL.own ‹_› (by k_asm) (by keq_rows) (by krn_off))) | ((refine Own.of ‹_› (by k_asm) (by keq_rows))))
  case hC => exact DC30.get (by k_asm) (by k_asm) (by k_mem) (by intro q hq; kqd_in)
  case hL => exact DL30.get (by k_asm) (by k_asm) (by k_mem) (by intro q hq; kqd_in)
  case len => exact Nat.le_of_ble_eq_true rfl
  case len2 => exact Nat.le_of_ble_eq_true rfl
  case f => decide
  case l => decide
  case l2 => decide
  case fo => decide
  case fo2 => decide
  case ha => exact News.get (by k_asm) (by k_mem)
  case hcd => exact codeRec_news (by k_asm) (by k_mem) d60 e60
  case' r8 => intro h61 tk61 tfo61 oT61 hK61 hdx61 haT61 hTx61
  obtain ⟨F61, N61⟩ := News.at2 (by k_asm) (by k_asm) (by k_updF) (by k_updF) hK61 hdx61 haT61 (by k_ne)
  (try dsimp only at N61)
  have hT61 : oT61.IsDictOf (intKind prog w) [(30, .bool true), (31, .bool true), (32, .bool true)] := hTx61
  have hl61 : ([(30, .bool true), (31, .bool true), (32, .bool true)] : List (Int × Value)).length < 64 := by decide
  clear hK61 hdx61 haT61 hTx61
  k_steps
  all_goals try (rename @Ne Int _ _ => z9; exact absurd rfl z9)
  have hXg : g.IsList aX vs.toArray := hX.at fun o e => P.st _ o e
  all_goals try (rename Not (@Eq (List Int) _ _) => z9; exact absurd (ksm_same (b := [30, 31, 32]) (by assumption) (by assumption) (by decide)) z9)
  clear hex hex22 hex30
  have hX14 : aX ≠ 1442 := fun e => by
    obtain ⟨o9, e9, _⟩ := hX
    rw [e, (O (1442, _) (by k_mem)).2.1] at e9; cases e9
  have nC9 : ¬ ExO (tabObj (#[rawInt (⟨1007, 49, 1007, 72⟩ : Pos).line, rawInt (⟨1007, 49, 1007, 72⟩ : Pos).col, .ref c20] ++ #[rawInt (⟨1018, 20, 1018, 43⟩ : Pos).line, rawInt (⟨1018, 20, 1018, 43⟩ : Pos).col, .ref c60])) := nex_tab2
  clear hT61 hl61 nC5 nL5 nT nF nZ mC22 mL22 mT22 mC30 mL30 mT30
  k_steps
  unfold Stop
  refine' gen_range ?he ?_
  case he => constructor <;> (repeat' split) <;> omega
  intro B hB
  k_steps
  unfold Stop
  rename Fr g L' _ _ => F80
  rename News g L' _ _ => N80
  have N81 := news_sub0 (fr := []) (l := [(1437, tabObj #[]), (1442, tabObj #[]), (1470, tabObj (#[rawInt (⟨1007, 49, 1007, 72⟩ : Pos).line, rawInt (⟨1007, 49, 1007, 72⟩ : Pos).col, .ref c20] ++ #[rawInt (⟨1018, 20, 1018, 43⟩ : Pos).line, rawInt (⟨1018, 20, 1018, 43⟩ : Pos).col, .ref c60]))]) N80 (by keq_rows) (fun _ h => nomatch h)
  clear N80
  refine' loop_rangeX B.toNat (fun i m news => ∃ psA psB ex, news = [(1437, tabObj psA), (1442, tabObj psB), (1470, tabObj (#[rawInt (⟨1007, 49, 1007, 72⟩ : Pos).line, rawInt (⟨1007, 49, 1007, 72⟩ : Pos).col, .ref c20] ++ #[rawInt (⟨1018, 20, 1018, 43⟩ : Pos).line, rawInt (⟨1018, 20, 1018, 43⟩ : Pos).col, .ref c60]))] ++ (ex ++ []) ∧ PsK ⟨963, 24, 963, 51⟩ (Str.ofString "_law_asked_right.<locals>.<lambda>") g ex psA ∧ PsK ⟨981, 28, 981, 59⟩ (Str.ofString "_law_turn_right.<locals>.<lambda>") g ex psB ∧
      (∀ q ∈ ex, ∀ p ∈ [(1437, tabObj psA), (1442, tabObj psB), (1470, tabObj (#[rawInt (⟨1007, 49, 1007, 72⟩ : Pos).line, rawInt (⟨1007, 49, 1007, 72⟩ : Pos).col, .ref c20] ++ #[rawInt (⟨1018, 20, 1018, 43⟩ : Pos).line, rawInt (⟨1018, 20, 1018, 43⟩ : Pos).col, .ref c60]))], q.1 ≠ p.1) ∧ m (Str.ofString "script") = some (.ref aX))
    (by assumption) (range_small (by obtain ⟨z1, z2⟩ := hB; omega) (by obtain ⟨z1, z2⟩ := hB; omega)) (range_size (by obtain ⟨z1, z2⟩ := hB; omega)) F80 N81 rfl ?l0 ?turn ?done
  case l0 => exact ⟨#[], #[], [], rfl, .inl rfl, .inl rfl, (fun _ h => nomatch h), by kaf_pre⟩
  case turn =>
    rintro i t m₁ news₁ h tk I oI hcl ⟨r1, r2, r3, hdat⟩ hi ⟨psA, psB, ex, rfl, pA, pB, hex, ms⟩ hIn hI2 hI3 F9 N9
    have hLI : LtD I _ := ltD_in hI2
    have l70 : @LT.lt Nat _ 1470 I := hLI (1470, _) (by k_mem)
    have hIx := notEx_it hcl hdat
    simp only [Int.zero_add, Int.mul_one] at F9
    simp only [List.cons_append, List.nil_append] at N9 hIn
    have hexI : ∀ q ∈ ex, q.1 ≠ I := fun q hq => hIn q (by kqd_in)
    clear hA
    have hA : Asc [1437, 1442, 1470, I] := ⟨by decide, by decide, l70, trivial⟩
    have hk1 : (i : Int) ≤ 1 := by obtain ⟨z1, z2⟩ := hB; omega
    k_steps
    rename News g L' _ _ => N82
    k_dflt (refine' law_pool_R ?X ?T ?C ?d ?O hX14 ?hX hI hn63 (Int.natCast_nonneg i) hk1 ?r9)
    case C => (first | ((refine FrL.cx ‹_› (by k_asm) (by k_asm) (by (intro q hq; kqd_all)) (by rfl))) | ((refine Cx.call ‹_› (by k_asm) (by rfl))))
    case X => assumption
    case T => assumption
    case d => ktr_room
    case O => (first | ((refine FrL.own ‹_› (by k_asm) (by keq_rows) (by krn_off))) | ((refine Own.of ‹_› (by k_asm) (by keq_rows))))
    case hX => exact hXg.at fun o e => Fr.keep (by k_asm) _ o e
    case' r9 => intro h7 tk7 aQ A S ta ts nQ s1 s2 hK7 g7 hn7 lt7
    have hIQ : I ≠ aQ := fun e => by
      have x7 := (N82 (I, oI) (by k_mem)).1
      have x8 := hn7
      rw [← e] at x8
      cases x7.symm.trans x8
    have h7Q : @Ne Nat 1470 aQ := fun e => by
      have x7 := (N82 (1470, _) (by k_mem)).1
      have x8 := hn7
      rw [← e] at x8
      cases x7.symm.trans x8
    obtain ⟨F83, N83⟩ := news_made (l := [(aQ, _)]) (by k_asm) N82 hK7 (fun q hq => by obtain rfl := List.mem_singleton.mp hq; exact ⟨g7, hn7⟩)
    simp only [List.cons_append, List.nil_append] at N83
    clear N82 hK7 g7 hn7
    k_steps
    k_dflt (refine' own_ports_R ?X ?T ?C ?d ?uu ?O lt7 s1 s2 ?pa ?pb ?r10)
    case C => (first | ((refine FrL.cx ‹_› (by k_asm) (by k_asm) (by (intro q hq; kqd_all)) (by rfl))) | ((refine Cx.call ‹_› (by k_asm) (by rfl))))
    case X => assumption
    case T => assumption
    case d => ktr_room
    case uu => exact un_ltG (un := 4) (n := 1000) (by decide) rfl (by decide)
    case O => (first | ((refine FrL.own ‹_› (by k_asm) (by keq_rows) (by krn_off))) | ((refine Own.of ‹_› (by k_asm) (by keq_rows))))
    case pa => exact pA.get (by k_asm) (by k_asm) (by intro q hq; kqd_in)
    case pb => exact pB.get (by k_asm) (by k_asm) (by intro q hq; kqd_in)
    case' r10 => intro h8 tk8 A' S' ta' ts' nQ' psA' psB' ha' hb' hKF hall
    obtain ⟨ex2, F84, N84, hex2, pA2, pB2⟩ := law_back (pre := [(aQ, PySem.W.listOf #[.int A' ta', .int S' ts'] nQ'), (1437, tabObj psA'), (1442, tabObj psB')]) (ad := [aQ, 1437, 1442]) [(I, oI), (1470, tabObj (#[rawInt (⟨1007, 49, 1007, 72⟩ : Pos).line, rawInt (⟨1007, 49, 1007, 72⟩ : Pos).col, .ref c20] ++ #[rawInt (⟨1018, 20, 1018, 43⟩ : Pos).line, rawInt (⟨1018, 20, 1018, 43⟩ : Pos).col, .ref c60]))] P (by k_asm) (by k_asm) hKF (by walk_at "mM") hall rfl (by walk_at "eM")
      (List.forall_mem_cons.mpr ⟨⟨by k_mem, offB_not (by ktu_offL)⟩, List.forall_mem_cons.mpr ⟨⟨by k_mem, offB_not (by ktu_offL)⟩, fun _ h => nomatch h⟩⟩) ha' hb' (by simp only [List.cons_append, List.nil_append]; walk_at "nexM")
    simp only [List.cons_append, List.nil_append] at N84 hex2
    clear hKF hall ha' hb' F83 N83 F9
    k_steps
    rename Fr g L' _ _ => F85
    rename News g L' _ _ => N85
    have N86 := news_sub0 (fr := ex2 ++ []) (l := [(I, oI), (1437, tabObj psA'), (1442, tabObj psB'), (1470, tabObj (#[rawInt (⟨1007, 49, 1007, 72⟩ : Pos).line, rawInt (⟨1007, 49, 1007, 72⟩ : Pos).col, .ref c20] ++ #[rawInt (⟨1018, 20, 1018, 43⟩ : Pos).line, rawInt (⟨1018, 20, 1018, 43⟩ : Pos).col, .ref c60]))]) N85 (by keq_rows) (by intro q hq; walk_at "inKx")
    refine' turned_next ((1437, tabObj psA') :: (1442, tabObj psB') :: (1470, tabObj (#[rawInt (⟨1007, 49, 1007, 72⟩ : Pos).line, rawInt (⟨1007, 49, 1007, 72⟩ : Pos).col, .ref c20] ++ #[rawInt (⟨1018, 20, 1018, 43⟩ : Pos).line, rawInt (⟨1018, 20, 1018, 43⟩ : Pos).col, .ref c60])) :: (ex2 ++ [])) ?kF ?kN ?kI ?kJ
    case kF => exact F85
    case kN => exact N86
    case kI => first | k_all | fail
    case kJ => exact ⟨_, _, ex2, rfl, pA2, pB2, law_off hex2, by kaf_pre⟩
  case done =>
    rintro h' tk m' news' F9 N9 ⟨psA, psB, ex, rfl, pA, pB, hex, ms⟩
    simp only [List.cons_append, List.nil_append] at N9
    clear N81 F80
    k_steps
    rename Fr g L' _ _ => F7
    rename News g L' _ _ => N7
    refine' hret _ _ _ _ _ ?kp ?ga
    case ga => ked_read
    case kp => exact kp_endF GK O P F7 N7 (fun _ h => nomatch h) (by ked_reads)
end
end
end
end
end
end
end
end
end
end
end
end
section -- VX
theorem walk_law : WalkO qv lo (fun _ _ => True) hk.says PySem.Challenge.rw_pq1204_01.row.toRowW dL [] fun f vs => PySem.call f vs := by
  intro w s₀ s₁ mg mb G Y fa o pm cd doc dV kV ho hd hcd hD hmg hg args vals as hpre hlay hrd hwl hlo
  have KX : (K w.params).In s₁.heap := lIn_of (K := K) (as := asK) (e := asK_eq) (ts := tsK) Y
  have KT : ∀ P ∈ tsK, s₁.heap.get? P = some (tabObj #[]) := lTabs_of (K := K) (as := asK) (e := asK_eq) (ts := tsK) Y
  have T := G.T
  have hfa : fa = 1475 := by
    have e1 := mg_of (n := Str.ofString "law") (v := .ref 1475) KX T.g (by kernel_rfl)
    rw [dL_name] at hmg
    rw [hmg] at e1
    cases e1; rfl
  subst hfa
  have t1 : s₁.heap.get? 1437 = some (tabObj #[]) := KT _ (.head _)
  have t2 : s₁.heap.get? 1442 = some (tabObj #[]) := KT _ (.tail _ (.head _))
  have t3 : s₁.heap.get? 1470 = some (tabObj #[]) := KT _ (.tail _ (.tail _ (.head _)))
  have hT9 : TabsAt [(1439, 1437), (1446, 1442), (1474, 1470)] s₁.heap :=
    List.forall_mem_cons.mpr ⟨⟨codeHd_of_K KX (by kernel_rfl), t1⟩, List.forall_mem_cons.mpr ⟨⟨codeHd_of_K KX (by kernel_rfl), t2⟩, List.forall_mem_cons.mpr ⟨⟨codeHd_of_K KX (by kernel_rfl), t3⟩, fun _ h => nomatch h⟩⟩⟩
  clear KT hD hd hcd ho hmg
  wrow_args hpre hlay hrd hwl hlo
  rename Heap.IsList _ _ _ => hX
  rename IntsAre _ _ => hI
  rename ¬ (_ < _) => h63
  show wpAny _ _ (call (Value.ref 1475) [Value.ref _]) _ _ _
  refine enter_call ?_
  refine kn_post hT9 (fun _ _ => rfl) ?_
  refine' law_R (h₀ := ghostOf s₁.heap [(1439, 1437), (1446, 1442), (1474, 1470)]) (ghost_K hT9 KX (by kernel_rfl)) (ghost_top hT9 T) ⟨fun b o e => of_hideAll _ e, fun _ h => nomatch h⟩ ?O (ghost_list hT9 hX) hI (by omega) ?ret
  case O => exact List.forall_mem_cons.mpr ⟨⟨t1, hideAll_none _ (.head _), List.not_mem_nil⟩, List.forall_mem_cons.mpr ⟨⟨t2, hideAll_none _ (.tail _ (.head _)), List.not_mem_nil⟩, List.forall_mem_cons.mpr ⟨⟨t3, hideAll_none _ (.tail _ (.tail _ (.head _))), List.not_mem_nil⟩, fun _ h => nomatch h⟩⟩⟩
  case ret =>
    intro h' tk' psA psB psC hk hall
    refine ⟨⟨.inl ⟨.bool true, .bool true, [], rfl, fun _ => rfl, .bool true, postW_of rfl rfl (by kernel_rfl), unshared_nil⟩, fun b o e => ?_, rfl, hg⟩, ⟨psA, hall _ (.head _)⟩, ⟨psB, hall _ (.tail _ (.head _))⟩, ⟨psC, hall _ (.tail _ (.tail _ (.head _)))⟩, trivial⟩
    refine hk.at (of_hideAll _ e) fun hb => ?_
    have e2 : (hideAll s₁.heap [1437, 1442, 1470]).get? b = some o := e
    rw [hideAll_none _ hb] at e2; cases e2
theorem done : PySem.Challenge.rw_pq1204_01.Holds := hd walk_law
end
end Mine.Internal
theorem PySem.Challenge.cw_pq1204_01_holds : PySem.Challenge.rw_pq1204_01.Holds :=
  Mine.Internal.done
