import PyProof.Rows.All
import Wide.All
import OpenK.AllK
import Wide.FinOn
import HandS.ForMost
import HandS.Exc
import HandS.TryOnly
import HandS.ExcOwn
import HandS.WordsExc
import HandS.Defaults
import HandS.Wide
import HandS.WideBits
import HandS.IsInst
import HandS.Evl
import HandS.Head0
import HandS.Head1
import HandS.Head2
import HandS.HeadEnd
import HandS.HeadHook1
import HandS.HeadHook2
import HandS.HeadHook3
import HandS.HeadNt
import PySem.Challenge.RW_lostpart_k09_whole_mirrored_rounding
set_option Elab.async false
set_option linter.all false
set_option maxRecDepth 100000
set_option maxHeartbeats 4000000
namespace LP
open PySem PySem.Spec PyProof.Rows L2

/-! ### what is known of the heap: a frozen part and what is owned -/
structure Wd (I : Hp) (O : List (Addr × HO)) (H : Hp) : Prop where
  fz : ∀ a o, I a = some o → H a = some o
  ow : ∀ p ∈ O, H p.1 = some p.2 ∧ I p.1 = none
  nd : (O.map (·.1)).Nodup
theorem memFst {q : Addr × HO} {O : List (Addr × HO)} (h : q ∈ O) : q.1 ∈ O.map (·.1) := List.mem_map.mpr ⟨q, h, rfl⟩
section
variable {I I' H : Hp} {O : List (Addr × HO)} {a b p x dx C : Addr} {o o' u u' : HO} {e f : Addr × HO}
theorem Wd.get (w : Wd I O H) (h : I a = some o) : H a = some o := w.fz a o h
theorem Wd.start (H : Hp) : Wd H [] H := ⟨fun _ _ h => h, fun _ h => (List.not_mem_nil h).elim, List.nodup_nil⟩
theorem Wd.none (w : Wd I O H) (h : H p = .none) : I p = .none := by
  cases q : I p with
  | none => rfl
  | some o => rw [w.fz p o q] at h; cases h
theorem sameUpd (h : I p = .none) : Same I (upd I p o) := fun b u e => by
  rw [upd_ne (ne_of_none e h)]
  exact e
theorem Wd.notIn (w : Wd I O H) (h : H p = .none) : ∀ q ∈ O, q.1 ≠ p := fun q hq z => by
  have y := (w.ow q hq).1
  rw [z, h] at y
  cases y
theorem Wd.new (w : Wd I O H) (h : H p = .none) : Wd (upd I p o) O (upd H p o) := by
  refine ⟨fun b u e => ?_, fun q hq => ?_, w.nd⟩
  · by_cases hb : b = p
    · rw [hb, upd_same] at e
      rw [hb, upd_same]
      exact e
    · rw [upd_ne hb] at e
      rw [upd_ne hb]
      exact w.fz b u e
  · have hn := w.notIn h q hq
    rw [upd_ne hn, upd_ne hn]
    exact w.ow q hq
theorem Wd.newS (w : Wd I O H) (h : H p = .none) : Same I (upd I p o) := sameUpd (w.none h)
theorem Wd.newO (w : Wd I O H) (h : H p = .none) : Wd I ((p, o) :: O) (upd H p o) := by
  refine ⟨fun b u e => ?_, fun q hq => ?_, ?_⟩
  · rw [upd_ne fun z => by rw [z, w.none h] at e; cases e]
    exact w.fz b u e
  · rcases List.mem_cons.mp hq with rfl | hq
    · exact ⟨upd_same, w.none h⟩
    · rw [upd_ne (w.notIn h q hq)]
      exact w.ow q hq
  · refine List.nodup_cons.mpr ⟨fun hm => ?_, w.nd⟩
    obtain ⟨q, hq, z⟩ := List.mem_map.mp hm
    exact w.notIn h q hq z
/-- what is not tracked yet, beside -/
theorem Wd.beside (w : Wd I O H) (h : H p = .none) : Wd I O (upd H p o) := by
  refine ⟨fun b u e => ?_, fun q hq => ?_, w.nd⟩
  · rw [upd_ne fun z => by rw [z, w.none h] at e; cases e]
    exact w.fz b u e
  · rw [upd_ne (w.notIn h q hq)]
    exact w.ow q hq
theorem Wd.make (w : Wd I O H) (hx : H x = .none) (hd : H dx = .none) (ne : dx ≠ x) : Wd I ((x, .ins C dx []) :: O) (upd (upd H dx (.own x)) x (.ins C dx [])) :=
  Wd.newO (w.beside hd) (by rw [upd_ne (Ne.symm ne)]; exact hx)
theorem Wd.own (w : Wd I ((a, o) :: O) H) : H a = some o := (w.ow _ (List.mem_cons_self ..)).1
theorem Wd.ownN (w : Wd I ((a, o) :: O) H) : I a = .none := (w.ow _ (List.mem_cons_self ..)).2
theorem Wd.own1 (w : Wd I (e :: (a, o) :: O) H) : H a = some o := (w.ow _ (List.mem_cons_of_mem _ (List.mem_cons_self ..))).1
theorem Wd.own2 (w : Wd I (e :: f :: (a, o) :: O) H) : H a = some o := (w.ow _ (List.mem_cons_of_mem _ (List.mem_cons_of_mem _ (List.mem_cons_self ..)))).1
theorem Wd.set (w : Wd I ((a, o) :: O) H) : Wd I ((a, u) :: O) (upd H a u) := by
  have nd := List.nodup_cons.mp w.nd
  refine ⟨fun b v e => ?_, fun q hq => ?_, w.nd⟩
  · rw [upd_ne fun z => by rw [z, w.ownN] at e; cases e]
    exact w.fz b v e
  · rcases List.mem_cons.mp hq with rfl | hq
    · exact ⟨upd_same, w.ownN⟩
    · have hn : q.1 ≠ a := fun z => nd.1 (by have y := memFst hq; rw [z] at y; exact y)
      rw [upd_ne hn]
      exact w.ow q (List.mem_cons_of_mem _ hq)
theorem Wd.swap (w : Wd I (e :: f :: O) H) : Wd I (f :: e :: O) H := by
  refine ⟨w.fz, fun q hq => w.ow q ?_, ?_⟩
  · rcases List.mem_cons.mp hq with rfl | hq
    · exact List.mem_cons_of_mem _ (List.mem_cons_self ..)
    · rcases List.mem_cons.mp hq with rfl | hq
      · exact List.mem_cons_self ..
      · exact List.mem_cons_of_mem _ (List.mem_cons_of_mem _ hq)
  · have n1 := List.nodup_cons.mp w.nd
    have n2 := List.nodup_cons.mp n1.2
    refine List.nodup_cons.mpr ⟨fun hm => ?_, List.nodup_cons.mpr ⟨fun hm => n1.1 (List.mem_cons_of_mem _ hm), n2.2⟩⟩
    rcases List.mem_cons.mp hm with z | hm
    · exact n1.1 (List.mem_cons.mpr (.inl z.symm))
    · exact n2.1 hm
theorem Wd.rest (w : Wd I (e :: O) H) : Wd I O H := ⟨w.fz, fun q hq => w.ow q (List.mem_cons_of_mem _ hq), (List.nodup_cons.mp w.nd).2⟩
theorem Wd.set1 (w : Wd I (e :: (a, o) :: O) H) : Wd I (e :: (a, u) :: O) (upd H a u) := w.swap.set.swap
/-- it will not change any more -/
theorem Wd.freeze (w : Wd I ((a, o) :: O) H) : Wd (upd I a o) O H := by
  refine ⟨fun b v e => ?_, fun q hq => ?_, w.rest.nd⟩
  · by_cases hb : b = a
    · rw [hb, upd_same] at e
      cases e
      rw [hb]
      exact w.own
    · rw [upd_ne hb] at e
      exact w.fz b v e
  · have hn : q.1 ≠ a := fun z => (List.nodup_cons.mp w.nd).1 (by have y := memFst hq; rw [z] at y; exact y)
    rw [upd_ne hn]
    exact w.rest.ow q hq
theorem Wd.freezeS (w : Wd I ((a, o) :: O) H) : Same I (upd I a o) := sameUpd w.ownN
theorem Wd.seq {K : PySem.W.Frag} {xs : List V} (w : Wd I O H) (h : SqL K I a xs) : SqL K H a xs := Same.seq w.fz h
end

/-! ### tests -/
section
variable {A B : Prop}
theorem iEqI {a b : Int} (h1 : a = b → A) (h2 : ¬ a = b → B) : if decide (V.int a = V.int b) = true then A else B :=
  ite2 (fun h => h1 (V.int.inj (of_decide_eq_true h))) fun h => h2 fun z => h (decide_eq_true (congrArg V.int z))
theorem iNeI {a b : Int} (h1 : ¬ a = b → A) (h2 : a = b → B) : if (!decide (V.int a = V.int b)) = true then A else B := by
  by_cases h : a = b
  · rw [decide_eq_true (congrArg V.int h)]
    exact iteF (h2 h)
  · rw [decide_eq_false fun z => h (V.int.inj z)]
    exact iteT (h1 h)
theorem iEqS {a b : Str} (h1 : a = b → A) (h2 : ¬ a = b → B) : if decide (V.str a = V.str b) = true then A else B :=
  ite2 (fun h => h1 (V.str.inj (of_decide_eq_true h))) fun h => h2 fun z => h (decide_eq_true (congrArg V.str z))
theorem iNeS {a b : Str} (h1 : ¬ a = b → A) (h2 : a = b → B) : if (!decide (V.str a = V.str b)) = true then A else B := by
  by_cases h : a = b
  · rw [decide_eq_true (congrArg V.str h)]
    exact iteF (h2 h)
  · rw [decide_eq_false fun z => h (V.str.inj z)]
    exact iteT (h1 h)
theorem iEqB {a b : Bool} (h1 : a = b → A) (h2 : ¬ a = b → B) : if decide (V.bl a = V.bl b) = true then A else B :=
  ite2 (fun h => h1 (V.bl.inj (of_decide_eq_true h))) fun h => h2 fun z => h (decide_eq_true (congrArg V.bl z))
theorem iNeB {a b : Bool} (h1 : ¬ a = b → A) (h2 : a = b → B) : if (!decide (V.bl a = V.bl b)) = true then A else B := by
  by_cases h : a = b
  · rw [decide_eq_true (congrArg V.bl h)]
    exact iteF (h2 h)
  · rw [decide_eq_false fun z => h (V.bl.inj z)]
    exact iteT (h1 h)
theorem iD {p : Prop} [Decidable p] (h1 : p → A) (h2 : ¬ p → B) : if decide p = true then A else B :=
  ite2 (fun h => h1 (of_decide_eq_true h)) fun h => h2 fun z => h (decide_eq_true z)
theorem iND {p : Prop} [Decidable p] (h1 : ¬ p → A) (h2 : p → B) : if (!decide p) = true then A else B := by
  by_cases h : p
  · rw [decide_eq_true h]
    exact iteF (h2 h)
  · rw [decide_eq_false h]
    exact iteT (h1 h)
theorem iB {b : Bool} (h1 : b = true → A) (h2 : b = false → B) : if b = true then A else B := by
  cases b
  · exact iteF (h2 rfl)
  · exact iteT (h1 rfl)
theorem iNB {b : Bool} (h1 : b = false → A) (h2 : b = true → B) : if (!b) = true then A else B := by
  cases b
  · exact iteT (h1 rfl)
  · exact iteF (h2 rfl)
theorem iTd {p : Prop} [Decidable p] (h : p) (q : A) : if decide p = true then A else B := by rw [decide_eq_true h]; exact iteT q
theorem iFd {p : Prop} [Decidable p] (h : ¬ p) (q : B) : if decide p = true then A else B := by rw [decide_eq_false h]; exact iteF q
theorem iNTd {p : Prop} [Decidable p] (h : ¬ p) (q : A) : if (!decide p) = true then A else B := by rw [decide_eq_false h]; exact iteT q
theorem iNFd {p : Prop} [Decidable p] (h : p) (q : B) : if (!decide p) = true then A else B := by rw [decide_eq_true h]; exact iteF q
end

theorem inV_str (m : Str) (l : List Str) : inV (V.str m) (l.map V.str) = decide (m ∈ l) := by
  induction l with
  | nil => rfl
  | cons a r ih =>
    show (eqV (V.str a) (V.str m) || inV (V.str m) (r.map V.str)) = _
    rw [ih]
    show ((a == m) || decide (m ∈ r)) = _
    by_cases h : m = a
    · rw [h]; simp
    · have h' : (a == m) = false := by simpa using fun z => h z.symm
      rw [h']
      simp [h]
section
variable {A B : Prop} {m : Str} {l : List Str}
theorem iInS (h1 : m ∈ l → A) (h2 : ¬ m ∈ l → B) : if inV (V.str m) (l.map V.str) = true then A else B := by rw [inV_str]; exact iD h1 h2
theorem iNInS (h1 : ¬ m ∈ l → A) (h2 : m ∈ l → B) : if (!inV (V.str m) (l.map V.str)) = true then A else B := by rw [inV_str]; exact iND h1 h2
end
theorem get_map {α : Type} {f : α → V} {l : List α} {i : Nat} {x : V} (h : (l.map f)[i]? = some x) : ∃ m, l[i]? = some m ∧ x = f m := by
  rw [List.getElem?_map] at h
  cases e : l[i]? with
  | none => rw [e] at h; cases h
  | some m => rw [e] at h; exact ⟨m, rfl, (Option.some.inj h).symm⟩
theorem at_map {α : Type} {f : α → V} {l : List α} {i : Int} (h0 : 0 ≤ i) (h1 : i < (l.length : Int)) : ∃ m, m ∈ l ∧ l[i.toNat]? = some m ∧ atI (l.map f) i = some (f m) := by
  obtain ⟨j, rfl⟩ : ∃ j : Nat, i = (j : Int) := ⟨i.toNat, by omega⟩
  have hj : j < l.length := by omega
  refine ⟨l[j], List.getElem_mem hj, by simp [hj], ?_⟩
  refine at_of (j := j) rfl ?_
  rw [List.getElem?_map, List.getElem?_eq_getElem hj]
  rfl

theorem take_map {α : Type} {f : α → V} {l : List α} {i : Nat} {m : α} (h : l[i]? = some m) : (l.take (i + 1)).map f = (l.take i).map f ++ [f m] := by
  rw [List.take_add_one, h]
  simp

/-! ### the drawn numbers -/
structure SrcOk (I : Hp) (xs : List V) : Prop where
  ex : ∃ (i0 i1 i2 i3 : Int) (c : Addr) (ns : List Int), xs = [.int i0, .int i1, .int i2, .int i3, .ref c] ∧ 0 ≤ i0 ∧ I c = some (.lst (ns.map V.int)) ∧ ns.length ≤ 63
theorem SrcOk.mono {I I' : Hp} {xs : List V} (s : Same I I') (h : SrcOk I xs) : SrcOk I' xs := by
  obtain ⟨i0, i1, i2, i3, c, ns, e, h0, hc, hn⟩ := h.ex
  exact ⟨i0, i1, i2, i3, c, ns, e, h0, s _ _ hc, hn⟩

theorem draw_many {m : Int} (h0 : 0 < m) (h : m < 2 ^ 200) : m.natAbs.log2 < 9000 := by
  have h1 : m.natAbs < 2 ^ 200 := by
    have e : ((2 ^ 200 : Nat) : Int) = 2 ^ 200 := by norm_cast
    omega
  exact Nat.lt_of_lt_of_le (PySem.Flt.log2_lt_of (by decide) h1) (by decide)

theorem bigstep {v d : Int} {i : Nat} (h : v < 10 ^ i) (h0 : 0 ≤ d) (h1 : d < 10) : v * 10 + d < 10 ^ (i + 1) := by
  rw [Int.pow_succ]
  omega
theorem big_end {v : Int} {i n : Nat} (h : v < 10 ^ i) (hn : i ≤ n) : v < 10 ^ n := by
  have h1 : (10 : Int) ^ i ≤ 10 ^ n := by
    have := Nat.pow_le_pow_right (n := 10) (by decide) hn
    exact_mod_cast this
  omega
/-- sizes by bits -/
def Sz (n : Nat) (x : Int) : Prop := x.natAbs < 2 ^ n
instance decSz (n : Nat) (x : Int) : Decidable (Sz n x) := inferInstanceAs (Decidable (_ < _))
theorem Sz.mono {n m : Nat} {x : Int} (h : Sz n x) (hm : n ≤ m) : Sz m x := Nat.lt_of_lt_of_le h (Nat.pow_le_pow_right (by decide) hm)
theorem Sz.mul {n m : Nat} {x y : Int} (h : Sz n x) (k : Sz m y) : Sz (n + m) (x * y) := wide_lt h k
theorem Sz.add {n m : Nat} {x y : Int} (h : Sz n x) (k : Sz m y) : Sz (n + m + 1) (x + y) := by
  have h1 := Sz.mono h (Nat.le_add_right n m)
  have k1 := Sz.mono k (Nat.le_add_left m n)
  unfold Sz at *
  rw [Nat.pow_succ]
  omega
theorem Sz.addm {n : Nat} {x y : Int} (h : Sz n x) (k : Sz n y) : Sz (n + 1) (x + y) := by
  unfold Sz at *
  rw [Nat.pow_succ]
  omega
theorem Sz.neg {n : Nat} {x : Int} (h : Sz n x) : Sz n (-x) := by unfold Sz at *; omega
theorem Sz.subm {n : Nat} {x y : Int} (h : Sz n x) (k : Sz n y) : Sz (n + 1) (x - y) := by
  unfold Sz at *
  rw [Nat.pow_succ]
  omega
theorem Sz.cmul {n m : Nat} {x y : Int} (h : Sz n x) (k : Sz m y) (h0 : 0 < n := by decide) (k0 : 0 < m := by decide) (l : n + m ≤ 1000000 := by decide) : CMulW x y := wide_mul h k h0 k0 l
theorem Sz.cdiv {n : Nat} {x y : Int} (h0 : 0 < y) (k : Sz n y) (n0 : 0 < n := by decide) (l : n ≤ 9000 := by decide) : CDivW x y := wide_div h0 k n0 l
theorem Sz.cdivP {n : Nat} {x y : Int} (h0 : 0 < y) (k : Sz n y) (n0 : 0 < n := by decide) (l : n ≤ 9000 := by decide) : CDivP x y := ⟨h0, PyProof.noPylong_of_log2 (wide_div (i := x) h0 k n0 l).2⟩
theorem Sz.of {n : Nat} {x : Int} (h : -((2 ^ n : Nat) : Int) < x) (k : x < ((2 ^ n : Nat) : Int)) : Sz n x := by unfold Sz; omega
theorem Sz.lo {n : Nat} {x : Int} (h : Sz n x) : -((2 ^ n : Nat) : Int) < x ∧ x < ((2 ^ n : Nat) : Int) := by unfold Sz at h; omega
theorem Sz.pow {b : Int} (h0 : 0 ≤ b) (h1 : b ≤ 64) (i : Nat) : Sz (6 * i + 1) (b ^ i) := by
  unfold Sz
  rw [Int.natAbs_pow]
  have h2 : b.natAbs ≤ 2 ^ 6 := by omega
  calc b.natAbs ^ i ≤ (2 ^ 6) ^ i := Nat.pow_le_pow_left h2 i
    _ = 2 ^ (6 * i) := (Nat.pow_mul 2 6 i).symm
    _ < 2 ^ (6 * i + 1) := Nat.pow_lt_pow_right (by decide) (Nat.lt_succ_self _)
theorem lp_mul_pow {b r : Int} {i : Nat} (h0 : 0 ≤ b) (h1 : b ≤ 64) (hi : i ≤ 20000) (hr : r = b ^ i) : CMulW r b := by
  have h := Sz.pow h0 h1 i
  rw [← hr] at h
  have k := Sz.pow h0 h1 1
  rw [Int.pow_succ, Int.pow_zero, Int.one_mul] at k
  exact wide_mul h k (by omega) (by omega) (by omega)

theorem lp_pow_pos {b r : Int} {i : Nat} (h : 0 < b) (e : r = b ^ i) : 0 < r := by rw [e]; exact Int.pow_pos h
theorem lp_pow_sz {b r : Int} {i : Nat} (h0 : 0 ≤ b) (h1 : b ≤ 64) (e : r = b ^ i) : Sz (6 * i + 1) r := by rw [e]; exact Sz.pow h0 h1 i
theorem num_sz {w d p : Int} (hw : Sz 110 w) (hd : Sz 160 d) (h0 : -1 ≤ p) (h1 : p ≤ d) (h2 : 0 < d) : Sz 271 (w * d + p) := by
  have k := Sz.mul hw hd
  refine Sz.addm (n := 270) k (Sz.mono (n := 161) ?_ (by decide))
  have := hd.lo
  exact Sz.of (by omega) (by omega)

/-! ### the hook of the head: any Bool of the written part, any def at an address, tables with text keys -/
abbrev Bf := PySem.W.Frag → Bool
abbrev Tb := PySem.W.Frag → Addr
abbrev AlB := He.AlD × List (Option (List (Option (Str × Int))))
def obsB (fa : List Bf) (fn : List He5.DefA) (ts : List (Tb × List Str)) (K : PySem.W.Frag) : AlB := (((fa.all fun f => f K) && fn.all fun d => d.ok K, fn.map fun d => He5.fnA K (d.at_ K)), ts.map fun t => He.dicW K (t.1 K))
def valB (fn : List He5.DefA) (ts : List (Tb × List Str)) (w : World) : AlB := (He5.valA fn, ts.map fun t => some (He.keysIn w.params t.2))
def SaysB (fa : List Bf) (fn : List He5.DefA) (ts : List (Tb × List Str)) (w : World) (K : PySem.W.Frag) : Prop := obsB fa fn ts K = valB fn ts w
def obsBG (n : Nat) (fa : List Bf) (fn : List He5.DefA) (ts : List (Tb × List Str)) (g : Addr → Option Obj) : AlB := obsB fa fn ts (He.frG g (He5.asA g n))
def hookB (n : Nat) (fa : List Bf) (fn : List He5.DefA) (ts : List (Tb × List Str)) : PySem.W.Hook where
  α := AlB
  obs := fun s => obsBG n fa fn ts s.heap.get?
  val := fun w => valB fn ts w
  says := fun w h => ∃ K : PySem.W.Frag, K.In h ∧ SaysB fa fn ts w K
  of := fun _ _ e => ⟨_, He.frG_in, e⟩
  keeps := fun _ _ _ ⟨K, hK, c⟩ k => ⟨K, PySem.W.Frag.In.keeps hK k, c⟩
theorem obsBG_eq {n : Nat} {fa : List Bf} {fn : List He5.DefA} {ts : List (Tb × List Str)} {g : Addr → Option Obj} {s : Shared} (h : ∀ a, g a = s.heap.get? a) : obsBG n fa fn ts g = (hookB n fa fn ts).obs s := by
  have e : g = s.heap.get? := funext h
  rw [e] <;> rfl
def fdOf (K : PySem.W.Frag) (a : Addr) : FuncData := match K.lookup a with
  | some ⟨_, _, .func fd, _⟩ => fd
  | _ => default
section
variable {fa : List Bf} {fn : List He5.DefA} {ts : List (Tb × List Str)} {w : World} {K : PySem.W.Frag}
theorem SaysB.one (c : SaysB fa fn ts w K) : ((fa.all fun f => f K) && fn.all fun d => d.ok K) = true := congrArg (fun z : AlB => z.1.1) c
theorem SaysB.fact (c : SaysB fa fn ts w K) (i : Nat) {f : Bf} (h : fa[i]? = some f) : f K = true :=
  List.all_eq_true.mp (He.ba c.one).1 f (List.mem_of_getElem? h)
theorem SaysB.def_ (c : SaysB fa fn ts w K) (i : Nat) {d : He5.DefA} (h : fn[i]? = some d) : FunD K d.name d.qual d.params d.body d.scope (d.dvs K) (d.kws K) (d.at_ K) (fdOf K (d.at_ K)) := by
  have c2 := (He.ba c.one).2
  have e : fn.map (fun d => He5.fnA K (d.at_ K)) = fn.map He5.DefA.val := congrArg (fun z : AlB => z.1.2) c
  have e2 : (fn.map fun d => He5.fnA K (d.at_ K))[i]? = (fn.map He5.DefA.val)[i]? := by rw [e]
  rw [List.getElem?_map, List.getElem?_map, h] at e2
  obtain ⟨fd, F⟩ := He5.DefA.funD (Option.some.inj e2) (List.all_eq_true.mp c2 d (List.mem_of_getElem? h))
  have ef : fdOf K (d.at_ K) = fd := by
    obtain ⟨oc, od, dV, kV, doc, pm, an, cdv, ct, osl, _, l, _⟩ := F.ex
    unfold fdOf
    rw [l]
  rw [ef]
  exact F
theorem SaysB.tab (c : SaysB fa fn ts w K) (i : Nat) {t : Tb × List Str} (h : ts[i]? = some t) : ∃ es n, KDict K w (t.1 K) es n := by
  have e : ts.map (fun t => He.dicW K (t.1 K)) = ts.map fun t => some (He.keysIn w.params t.2) := congrArg (fun z : AlB => z.2) c
  have e2 : (ts.map fun t => He.dicW K (t.1 K))[i]? = (ts.map fun t => some (He.keysIn w.params t.2))[i]? := by rw [e]
  rw [List.getElem?_map, List.getElem?_map, h] at e2
  exact He.dicW_ok (Option.some.inj e2)
end
/-- a module's name -/
def gB (x : Str) : Bf := fun K => He.eqO (PySem.W.nsIn K mainGlobals x) (some (some (.ref (He.ga K x))))
def fB (x : Str) : Bf := fun K => He.eqO (PySem.W.nsIn K mainGlobals x) (some none)
def tB (x : Str) (vs : List He.Dv) : Bf := fun K => He.tupB K x vs
/-- what a dict of the module holds at some texts: texts, or nothing -/
def hB (x : Str) (l : List (Str × Option Str)) : Bf := fun K => l.all fun p => match PySem.W.nsIn K (He.ga K x) p.1, p.2 with
  | some none, none => true
  | some (some (.str z _)), some y => decide (z = y)
  | _, _ => false
end LP

set_option Elab.async false
set_option linter.all false
set_option maxRecDepth 100000
set_option maxHeartbeats 4000000
namespace LP
open PySem PySem.Spec PyProof.Rows L2
/-! ### d.get(k, x) of a dict of the module whose keys are texts -/
def KDic (K : PySem.W.Frag) (w : World) (a : Addr) : Prop := ∃ es n, KDict K w a es n
/-- what such a dict holds at a text -/
def KHas (K : PySem.W.Frag) (a : Addr) (k : Str) (o : Option V) : Prop := ∃ r, PySem.W.nsIn K a k = some r ∧ RelO o r
theorem hB_ok {K : PySem.W.Frag} {x : Str} {l : List (Str × Option Str)} (h : hB x l K = true) {k : Str} {o : Option Str} (hk : (k, o) ∈ l) : KHas K (He.ga K x) k (o.map V.str) := by
  have q := List.all_eq_true.mp h _ hk
  dsimp only at q
  split at q
  · rename_i e1
    exact ⟨_, e1, trivial⟩
  · rename_i e1
    exact ⟨_, e1, _, by rw [of_decide_eq_true q]⟩
  · cases q
def tKGet2 (K : PySem.W.Frag) (w : World) (td ty tx : TE) : TE := fun σ H Q => td σ H fun x H1 => ∃ a, x = .ref a ∧ KDic K w a ∧ ty σ H1 fun y H2 => tx σ H2 fun z H3 =>
  ∃ (k : Str) (o : Option V) (z' : V), y = .str k ∧ KHas K a k o ∧ o.getD z = z' ∧ Q z' H3
section
variable {X : Cx} {o e f : Expr} {td ty tx : TE} {apos cpos : Pos}
theorem pe_kget2 (ho : PE X o td) (he : PE X e ty) (hf : PE X f tx) (m : M2 X o "get" apos e f cpos) : PE X (.Call (.Attribute o "get" apos) [e, f] [] cpos) (tKGet2 X.K X.w td ty tx) := by
  refine ⟨fun pins s σ H Q I h => ?_⟩
  refine wpAny_Call_method m.base m.few m.line PySem.F.plainAttrs_dict PySem.F.slot_dict_get PySem.F.type_dict_get (thn (ho.run pins s σ H _ I h) fun u s1 ⟨x, H1, I1, rx, a, ex, ⟨es, n, hd⟩, q1⟩ => ?_)
  subst ex
  obtain rfl : u = Value.ref a := rx
  have hm1 := PySem.W.mapOf_K (prog := X.prog) (w := X.w) I1.kIn hd.at_ hd.lit
  refine ⟨hm1.typeIs, hm1.noDict, ?_⟩
  rw [m.trees]
  refine Calls.callWith_builtin rfl (Calls.evalArgs_plain (Calls.spliced_cons (thn (he.run pins s1 σ H1 _ I1 q1) fun iv s2 ⟨y, H2, I2, ry, q2⟩ =>
    Calls.spliced_cons (thn (hf.run pins s2 σ H2 _ I2 q2) fun fv s3 ⟨z, H3, I3, rz, k, ov, z', ey, ⟨r, hr, rel⟩, ez, q3⟩ => Calls.spliced_nil ?_))))
  subst ey
  subst ez
  obtain ⟨t, rfl⟩ := ry
  have hm := PySem.W.mapOf_K (prog := X.prog) (w := X.w) I3.kIn hd.at_ hd.lit
  have e1 := PySem.W.find_K hd.at_ hr
  refine call_meetsIn PySem.F.slot_dict_get hm.typeIs PySem.F.entry_dict_get (PySem.F.args_dict_get_3 _ _ _) (meets_dict_get_default (strKind X.prog X.w) a (strKind_is X.prog X.w k t) hd.low fv) ⟨_, hm, ?_⟩
  rw [e1]
  refine ⟨ov.getD z, H3, I3.tok _, ?_, q3⟩
  cases ov with
  | none => cases r with
    | none => exact rz
    | some _ => exact rel.elim
  | some v => cases r with
    | none => exact rel.elim
    | some _ => exact rel
end
end LP

set_option Elab.async false
set_option linter.all false
set_option maxRecDepth 100000
set_option maxHeartbeats 4000000
namespace LX
open PySem L2 LP
/-! ### the modes, rounding of a quotient -/
def modesL : List Str := ["nearest-even", "nearest-out", "nearest-in", "nearest-up", "nearest-down", "inward", "outward", "upward", "downward"]
def nearL : List Str := ["nearest-even", "nearest-out", "nearest-in", "nearest-up", "nearest-down"]
def goesUp (mode : Str) (pos : Bool) : Bool := if mode = "inward" then !pos else if mode = "outward" then pos else decide (mode = "upward")
def tieUp (mode : Str) (low : Int) (pos : Bool) : Bool :=
  if mode = "nearest-even" then decide (low % 2 = 1) else if mode = "nearest-out" then pos else if mode = "nearest-in" then !pos else decide (mode = "nearest-up")
def rqUp (n d : Int) (mode : Str) : Bool :=
  if ¬ mode ∈ nearL then goesUp mode (decide (0 < n)) else if 2 * (n % d) = d then tieUp mode (n / d) (decide (0 < n)) else decide (d < 2 * (n % d))
def rq (n d : Int) (mode : Str) : Int := if n % d = 0 then n / d else if rqUp n d mode then n / d + 1 else n / d
def mirrorOpt (mode : Str) : Option Str :=
  if mode = "nearest-up" then some "nearest-down" else if mode = "nearest-down" then some "nearest-up" else if mode = "upward" then some "downward" else if mode = "downward" then some "upward" else none
def mirrorS (mode : Str) : Str := (mirrorOpt mode).getD mode
def steadyL : List Str := ["nearest-even", "nearest-up", "nearest-down", "upward", "downward"]
theorem mode_cases {m : Str} (h : m ∈ modesL) : m = "nearest-even" ∨ m = "nearest-out" ∨ m = "nearest-in" ∨ m = "nearest-up" ∨ m = "nearest-down" ∨ m = "inward" ∨ m = "outward" ∨ m = "upward" ∨ m = "downward" := by
  simpa [modesL] using h
theorem mirror_mem {m : Str} (h : m ∈ modesL) : mirrorS m ∈ modesL := by
  rcases mode_cases h with h | h | h | h | h | h | h | h | h <;> subst h <;> decide +kernel
theorem getD_str {o : Option Str} {m : Str} : (o.map V.str).getD (V.str m) = V.str (o.getD m) := by cases o <;> rfl
/-- where a mode stands in their order, and its mirror -/
def permL : List Int := [0, 1, 2, 4, 3, 5, 6, 8, 7]
theorem mode_index {m : Str} (h : m ∈ modesL) : ∃ j : Nat, j < 9 ∧ (modesL.map V.str)[j]? = some (V.str m) ∧ (∀ (k : Nat) (z : V), k < j → (modesL.map V.str)[k]? = some z → eqV z (V.str m) = false) ∧
    ∀ p, permL[j]? = some p → 0 ≤ p ∧ p < 9 ∧ ∀ s, modesL[p.toNat]? = some s → s = mirrorS m := by
  have key : ∀ j : Fin 9, ∀ m : Str, modesL[j.val]? = some m → (∀ k : Fin 9, k.val < j.val → (match modesL[k.val]? with | some z => !(z == m) | none => true) = true) →
      (match permL[j.val]? with | some p => decide (0 ≤ p ∧ p < 9) && (match modesL[p.toNat]? with | some s => decide (s = mirrorS m) | none => true) | none => true) = true → ∃ j : Nat, j < 9 ∧ (modesL.map V.str)[j]? = some (V.str m) ∧ (∀ (k : Nat) (z : V), k < j → (modesL.map V.str)[k]? = some z → eqV z (V.str m) = false) ∧
    ∀ p, permL[j]? = some p → 0 ≤ p ∧ p < 9 ∧ ∀ s, modesL[p.toNat]? = some s → s = mirrorS m := by
    intro j m h1 h2 h3
    refine ⟨j.val, j.isLt, by rw [List.getElem?_map, h1]; rfl, fun k z hk hz => ?_, fun p hp => ?_⟩
    · obtain ⟨z', e, rfl⟩ := get_map hz
      have q := h2 ⟨k, Nat.lt_trans hk j.isLt⟩ hk
      rw [show modesL[(⟨k, Nat.lt_trans hk j.isLt⟩ : Fin 9).val]? = some z' from e] at q
      show (z' == m) = false
      simpa using q
    · rw [hp] at h3
      obtain ⟨q1, q2⟩ := Bool.and_eq_true_iff.mp h3
      have q1 := of_decide_eq_true q1
      refine ⟨q1.1, q1.2, fun s hs => ?_⟩
      rw [hs] at q2
      exact of_decide_eq_true q2
  rcases mode_cases h with h | h | h | h | h | h | h | h | h <;> subst h
  · exact key 0 _ rfl (by decide +kernel) (by decide +kernel)
  · exact key 1 _ rfl (by decide +kernel) (by decide +kernel)
  · exact key 2 _ rfl (by decide +kernel) (by decide +kernel)
  · exact key 3 _ rfl (by decide +kernel) (by decide +kernel)
  · exact key 4 _ rfl (by decide +kernel) (by decide +kernel)
  · exact key 5 _ rfl (by decide +kernel) (by decide +kernel)
  · exact key 6 _ rfl (by decide +kernel) (by decide +kernel)
  · exact key 7 _ rfl (by decide +kernel) (by decide +kernel)
  · exact key 8 _ rfl (by decide +kernel) (by decide +kernel)
/-! #### the nine modes, one by one: with the quotient q and the rest r -/
/-- up or not, by quotient, rest, divisor -/
def upM (mode : Str) (q r d : Int) : Bool :=
  if mode = "nearest-even" then (if 2 * r = d then decide (q % 2 = 1) else decide (d < 2 * r))
  else if mode = "nearest-out" then (if 2 * r = d then decide (0 ≤ q) else decide (d < 2 * r))
  else if mode = "nearest-in" then (if 2 * r = d then decide (q < 0) else decide (d < 2 * r))
  else if mode = "nearest-up" then decide (d ≤ 2 * r)
  else if mode = "nearest-down" then decide (d < 2 * r)
  else if mode = "inward" then decide (q < 0)
  else if mode = "outward" then decide (0 ≤ q)
  else decide (mode = "upward")
theorem sign_of {n d : Int} (hd : 0 < d) (hr : ¬ n % d = 0) : decide (0 < n) = decide (0 ≤ n / d) := by
  have h1 := Int.emod_nonneg n (show d ≠ 0 by omega)
  have h2 := Int.emod_lt_of_pos n hd
  have e := Int.mul_ediv_add_emod n d
  by_cases h : 0 ≤ n / d
  · have : 0 ≤ d * (n / d) := Int.mul_nonneg (by omega) h
    rw [decide_eq_true h, decide_eq_true (by omega)]
  · have h3 : d * (n / d) ≤ d * (-1) := Int.mul_le_mul_of_nonneg_left (by omega) (by omega)
    rw [decide_eq_false h, decide_eq_false (by omega)]
theorem rqUp_eq {n d : Int} {m : Str} (hm : m ∈ modesL) (hd : 0 < d) (hr : ¬ n % d = 0) : rqUp n d m = upM m (n / d) (n % d) d := by
  unfold rqUp
  rw [sign_of hd hr]
  clear hr
  generalize n / d = q
  generalize n % d = r
  have hq : decide (0 ≤ q) = !decide (q < 0) := by rw [Bool.eq_iff_iff]; simp
  rcases mode_cases hm with h | h | h | h | h | h | h | h | h <;> subst h <;> simp +decide [goesUp, tieUp, upM, nearL]
  · rw [hq]; simp
  · rw [Bool.eq_iff_iff]; simp; omega
  · omega
  · exact hq
theorem rq_eq {n d : Int} {m : Str} (hm : m ∈ modesL) (hd : 0 < d) : rq n d m = if n % d = 0 then n / d else if upM m (n / d) (n % d) d then n / d + 1 else n / d := by
  unfold rq
  by_cases hr : n % d = 0
  · rw [if_pos hr, if_pos hr]
  · rw [if_neg hr, if_neg hr, rqUp_eq hm hd hr]
theorem rq_bounds {n d : Int} {m : Str} : n / d ≤ rq n d m ∧ rq n d m ≤ n / d + (if n % d = 0 then 0 else 1) := by
  unfold rq
  split
  · omega
  · split <;> omega
theorem neg_divmod {n d : Int} (hd : 0 < d) : (n % d = 0 ∧ (-n) / d = -(n / d) ∧ (-n) % d = 0) ∨ (¬ n % d = 0 ∧ (-n) / d = -(n / d) - 1 ∧ (-n) % d = d - n % d) := by
  have h1 := Int.emod_nonneg n (show d ≠ 0 by omega)
  have h2 := Int.emod_lt_of_pos n hd
  have e := Int.mul_ediv_add_emod n d
  by_cases hr : n % d = 0
  · have e2 : -n = 0 + d * (-(n / d)) := by rw [Int.mul_neg]; omega
    refine .inl ⟨hr, ?_, ?_⟩
    · rw [e2, Int.add_mul_ediv_left _ _ (by omega)]; simp
    · rw [e2, Int.add_mul_emod_self_left]; simp
  · have e2 : -n = (d - n % d) + d * (-(n / d) - 1) := by rw [Int.mul_sub, Int.mul_neg]; omega
    refine .inr ⟨hr, ?_, ?_⟩
    · rw [e2, Int.add_mul_ediv_left _ _ (by omega), Int.ediv_eq_zero_of_lt (by omega) (by omega)]; omega
    · rw [e2, Int.add_mul_emod_self_left]; exact Int.emod_eq_of_lt (by omega) (by omega)
theorem rq_mirror {n d : Int} {m : Str} (hm : m ∈ modesL) (hd : 0 < d) : rq (0 - n) d (mirrorS m) = 0 - rq n d m := by
  rw [Int.zero_sub, rq_eq hm hd, rq_eq (mirror_mem hm) hd]
  have h1 := Int.emod_nonneg n (show d ≠ 0 by omega)
  have h2 := Int.emod_lt_of_pos n hd
  rcases neg_divmod (n := n) hd with ⟨a, b, c⟩ | ⟨a, b, c⟩
  · rw [if_pos a, if_pos c, b]; omega
  · rw [if_neg a, if_neg (by omega), b, c]
    generalize n / d = q at *
    generalize n % d = r at *
    rcases mode_cases hm with h | h | h | h | h | h | h | h | h <;> subst h <;> simp +decide [mirrorS, mirrorOpt, upM] <;> (repeat' split) <;> (try simp_all) <;> omega
theorem rq_scale {n d k : Int} {m : Str} (hm : m ∈ modesL) (hd : 0 < d) (hk : 0 < k) : rq (n * k) (d * k) m = rq n d m := by
  have hdk : 0 < d * k := Int.mul_pos hd hk
  rw [rq_eq hm hd, rq_eq hm hdk]
  have e1 : (n * k) / (d * k) = n / d := Int.mul_ediv_mul_of_pos_left n d hk
  have e2 : (n * k) % (d * k) = n % d * k := by rw [Int.mul_comm n k, Int.mul_comm d k, Int.mul_emod_mul_of_pos _ _ hk, Int.mul_comm]
  rw [e1, e2]
  have z : n % d * k = 0 ↔ n % d = 0 := by
    constructor
    · intro h
      rcases Int.mul_eq_zero.mp h with h | h
      · exact h
      · omega
    · intro h; rw [h]; omega
  have l1 : (2 * (n % d * k) = d * k) ↔ (2 * (n % d) = d) := by
    rw [← Int.mul_assoc]
    exact ⟨fun h => Int.eq_of_mul_eq_mul_right (by omega) h, fun h => by rw [h]⟩
  have l2 : (d * k < 2 * (n % d * k)) ↔ (d < 2 * (n % d)) := by
    rw [← Int.mul_assoc]
    exact ⟨fun h => Int.lt_of_mul_lt_mul_right h (by omega), fun h => Int.mul_lt_mul_of_pos_right h hk⟩
  have l3 : (d * k ≤ 2 * (n % d * k)) ↔ (d ≤ 2 * (n % d)) := by
    rw [← Int.mul_assoc]
    exact ⟨fun h => Int.le_of_mul_le_mul_right h hk, fun h => Int.mul_le_mul_of_nonneg_right h (by omega)⟩
  have eu : upM m (n / d) (n % d * k) (d * k) = upM m (n / d) (n % d) d := by
    unfold upM
    simp only [l1, l2, l3]
  rw [eu]
  by_cases h : n % d = 0
  · rw [if_pos h, if_pos (z.mpr h)]
  · rw [if_neg h, if_neg fun q => h (z.mp q)]
theorem rq_mono {n n' d : Int} {m : Str} (hm : m ∈ modesL) (hd : 0 < d) (h : n ≤ n') : rq n d m ≤ rq n' d m := by
  have b1 := rq_bounds (n := n) (d := d) (m := m)
  have b2 := rq_bounds (n := n') (d := d) (m := m)
  have hq : n / d ≤ n' / d := Int.ediv_le_ediv hd h
  by_cases e : n / d = n' / d
  · rw [rq_eq hm hd, rq_eq hm hd, ← e]
    have e1 := Int.mul_ediv_add_emod n d
    have e2 := Int.mul_ediv_add_emod n' d
    rw [← e] at e2
    have hr : n % d ≤ n' % d := by omega
    have r0 := Int.emod_nonneg n (show d ≠ 0 by omega)
    generalize n / d = q at *
    generalize n % d = r at *
    generalize n' % d = r' at *
    rcases mode_cases hm with h | h | h | h | h | h | h | h | h <;> subst h <;> simp +decide [upM] <;> (repeat' split) <;> (try simp_all) <;> omega
  · split at b1 <;> omega
theorem rq_shift {n d f : Int} {m : Str} (hm : m ∈ steadyL) (hd : 0 < d) : rq (n + 2 * f * d) d m = rq n d m + 2 * f := by
  have hm' : m ∈ modesL := by
    simp only [steadyL, List.mem_cons, List.not_mem_nil, or_false] at hm
    rcases hm with h | h | h | h | h <;> subst h <;> decide +kernel
  rw [rq_eq hm' hd, rq_eq hm' hd]
  have e1 : (n + 2 * f * d) / d = n / d + 2 * f := Int.add_mul_ediv_right _ _ (by omega)
  have e2 : (n + 2 * f * d) % d = n % d := Int.add_mul_emod_self_right _ _ _
  rw [e1, e2]
  generalize n / d = q
  generalize n % d = r
  simp only [steadyL, List.mem_cons, List.not_mem_nil, or_false] at hm
  rcases hm with h | h | h | h | h <;> subst h <;> simp +decide [upM] <;> (repeat' split) <;> (try simp_all) <;> omega
end LX

set_option Elab.async false
set_option linter.all false
set_option maxRecDepth 100000
set_option maxHeartbeats 4000000
namespace LX
open PySem PySem.Spec PyProof.Rows L2 LP

def top (i : Nat) : Stmt := PySem.Challenge.pw_lostpart_k09_whole_mirrored_rounding.main.body.getD i (.Pass ⟨0, 0, 0, 0⟩)
abbrev s_law_source : Stmt := top 13
def a_law_source (K : PySem.W.Frag) : Addr := He.ga K "_law_source"
abbrev s_law_draw : Stmt := top 14
def a_law_draw (K : PySem.W.Frag) : Addr := He.ga K "_law_draw"
abbrev s_goes_up : Stmt := top 9
def a_goes_up (K : PySem.W.Frag) : Addr := He.ga K "goes_up"
abbrev s_tie_goes_up : Stmt := top 10
def a_tie_goes_up (K : PySem.W.Frag) : Addr := He.ga K "tie_goes_up"
abbrev s_round_quotient : Stmt := top 11
def a_round_quotient (K : PySem.W.Frag) : Addr := He.ga K "round_quotient"
abbrev s_check_mode : Stmt := top 7
def a_check_mode (K : PySem.W.Frag) : Addr := He.ga K "check_mode"
abbrev s_law_modes : Stmt := top 15
def a_law_modes (K : PySem.W.Frag) : Addr := He.ga K "_law_modes"
abbrev s_law_power : Stmt := top 16
def a_law_power (K : PySem.W.Frag) : Addr := He.ga K "_law_power"
abbrev s_law_big : Stmt := top 19
def a_law_big (K : PySem.W.Frag) : Addr := He.ga K "_law_big"
abbrev s_mirror : Stmt := top 8
def a_mirror (K : PySem.W.Frag) : Addr := He.ga K "mirror"
abbrev s_law_equal : Stmt := top 18
def a_law_equal (K : PySem.W.Frag) : Addr := He.ga K "_law_equal"
abbrev s_law_mirror : Stmt := top 17
def a_law_mirror (K : PySem.W.Frag) : Addr := He.ga K "_law_mirror"
abbrev s_law_divisor : Stmt := top 20
def a_law_divisor (K : PySem.W.Frag) : Addr := He.ga K "_law_divisor"
abbrev s_law_numerator : Stmt := top 21
def a_law_numerator (K : PySem.W.Frag) : Addr := He.ga K "_law_numerator"
abbrev s_law_integer : Stmt := top 22
def a_law_integer (K : PySem.W.Frag) : Addr := He.ga K "_law_integer"
abbrev s_law_steady : Stmt := top 23
def a_law_steady (K : PySem.W.Frag) : Addr := He.ga K "_law_steady"
abbrev s_law_related : Stmt := top 24
def a_law_related (K : PySem.W.Frag) : Addr := He.ga K "_law_related"
abbrev s_law : Stmt := top 25
def a_law (K : PySem.W.Frag) : Addr := He.ga K "law"
structure Txt (K : PySem.W.Frag) (mg : Str → Option Value) (w : World) : Prop where
  f_law_source : FunD K "_law_source" "_law_source" (defArgs s_law_source) (defBody s_law_source) (defScope s_law_source) [] [] (a_law_source K) (fdOf K (a_law_source K))
  g_law_source : mg "_law_source" = some (.ref (a_law_source K))
  f_law_draw : FunD K "_law_draw" "_law_draw" (defArgs s_law_draw) (defBody s_law_draw) (defScope s_law_draw) [] [] (a_law_draw K) (fdOf K (a_law_draw K))
  g_law_draw : mg "_law_draw" = some (.ref (a_law_draw K))
  f_goes_up : FunD K "goes_up" "goes_up" (defArgs s_goes_up) (defBody s_goes_up) (defScope s_goes_up) [] [] (a_goes_up K) (fdOf K (a_goes_up K))
  g_goes_up : mg "goes_up" = some (.ref (a_goes_up K))
  f_tie_goes_up : FunD K "tie_goes_up" "tie_goes_up" (defArgs s_tie_goes_up) (defBody s_tie_goes_up) (defScope s_tie_goes_up) [] [] (a_tie_goes_up K) (fdOf K (a_tie_goes_up K))
  g_tie_goes_up : mg "tie_goes_up" = some (.ref (a_tie_goes_up K))
  f_round_quotient : FunD K "round_quotient" "round_quotient" (defArgs s_round_quotient) (defBody s_round_quotient) (defScope s_round_quotient) [] [] (a_round_quotient K) (fdOf K (a_round_quotient K))
  g_round_quotient : mg "round_quotient" = some (.ref (a_round_quotient K))
  f_check_mode : FunD K "check_mode" "check_mode" (defArgs s_check_mode) (defBody s_check_mode) (defScope s_check_mode) [] [] (a_check_mode K) (fdOf K (a_check_mode K))
  g_check_mode : mg "check_mode" = some (.ref (a_check_mode K))
  f_law_modes : FunD K "_law_modes" "_law_modes" (defArgs s_law_modes) (defBody s_law_modes) (defScope s_law_modes) [] [] (a_law_modes K) (fdOf K (a_law_modes K))
  g_law_modes : mg "_law_modes" = some (.ref (a_law_modes K))
  f_law_power : FunD K "_law_power" "_law_power" (defArgs s_law_power) (defBody s_law_power) (defScope s_law_power) [] [] (a_law_power K) (fdOf K (a_law_power K))
  g_law_power : mg "_law_power" = some (.ref (a_law_power K))
  f_law_big : FunD K "_law_big" "_law_big" (defArgs s_law_big) (defBody s_law_big) (defScope s_law_big) [] [] (a_law_big K) (fdOf K (a_law_big K))
  g_law_big : mg "_law_big" = some (.ref (a_law_big K))
  f_mirror : FunD K "mirror" "mirror" (defArgs s_mirror) (defBody s_mirror) (defScope s_mirror) [] [] (a_mirror K) (fdOf K (a_mirror K))
  g_mirror : mg "mirror" = some (.ref (a_mirror K))
  f_law_equal : FunD K "_law_equal" "_law_equal" (defArgs s_law_equal) (defBody s_law_equal) (defScope s_law_equal) [] [] (a_law_equal K) (fdOf K (a_law_equal K))
  g_law_equal : mg "_law_equal" = some (.ref (a_law_equal K))
  f_law_mirror : FunD K "_law_mirror" "_law_mirror" (defArgs s_law_mirror) (defBody s_law_mirror) (defScope s_law_mirror) [] [] (a_law_mirror K) (fdOf K (a_law_mirror K))
  g_law_mirror : mg "_law_mirror" = some (.ref (a_law_mirror K))
  f_law_divisor : FunD K "_law_divisor" "_law_divisor" (defArgs s_law_divisor) (defBody s_law_divisor) (defScope s_law_divisor) [] [] (a_law_divisor K) (fdOf K (a_law_divisor K))
  g_law_divisor : mg "_law_divisor" = some (.ref (a_law_divisor K))
  f_law_numerator : FunD K "_law_numerator" "_law_numerator" (defArgs s_law_numerator) (defBody s_law_numerator) (defScope s_law_numerator) [] [] (a_law_numerator K) (fdOf K (a_law_numerator K))
  g_law_numerator : mg "_law_numerator" = some (.ref (a_law_numerator K))
  f_law_integer : FunD K "_law_integer" "_law_integer" (defArgs s_law_integer) (defBody s_law_integer) (defScope s_law_integer) [] [] (a_law_integer K) (fdOf K (a_law_integer K))
  g_law_integer : mg "_law_integer" = some (.ref (a_law_integer K))
  f_law_steady : FunD K "_law_steady" "_law_steady" (defArgs s_law_steady) (defBody s_law_steady) (defScope s_law_steady) [] [] (a_law_steady K) (fdOf K (a_law_steady K))
  g_law_steady : mg "_law_steady" = some (.ref (a_law_steady K))
  f_law_related : FunD K "_law_related" "_law_related" (defArgs s_law_related) (defBody s_law_related) (defScope s_law_related) [] [] (a_law_related K) (fdOf K (a_law_related K))
  g_law_related : mg "_law_related" = some (.ref (a_law_related K))
  f_law : FunD K "law" "law" (defArgs s_law) (defBody s_law) (defScope s_law) [] [] (a_law K) (fdOf K (a_law K))
  g_law : mg "law" = some (.ref (a_law K))
  n_abs : mg "abs" = none
  n_bool : mg "bool" = none
  n_divmod : mg "divmod" = none
  n_int : mg "int" = none
  n_isinstance : mg "isinstance" = none
  n_len : mg "len" = none
  n_range : mg "range" = none
  n_str : mg "str" = none
  g_MODES : mg "MODES" = some (.ref (He.ga K "MODES"))
  t_MODES : ∀ H, SqT K H (He.ga K "MODES") (modesL.map V.str)
  g_NEAREST : mg "NEAREST" = some (.ref (He.ga K "NEAREST"))
  t_NEAREST : ∀ H, SqT K H (He.ga K "NEAREST") (nearL.map V.str)
  g_MIRRORS : mg "MIRRORS" = some (.ref (He.ga K "MIRRORS"))
  d_MIRRORS : KDic K w (He.ga K "MIRRORS")
  v_MIRRORS : ∀ m, m ∈ modesL → KHas K (He.ga K "MIRRORS") m ((mirrorOpt m).map V.str)
def sp_goes_up (K : PySem.W.Frag) : Sp := fun vs H Q E => ∃ (mode : Str) (positive : Bool), vs = [.str mode, .bl positive] ∧ (∀ (r : Bool), r = goesUp mode positive → Q (.bl r) H)
section
variable {P : Program} {w : World} {K : PySem.W.Frag} {mg : Str → Option Value} {base : Heap}
theorem sc_goes_up : FnScope ["mode", "positive"] ["mode", "positive"] (defScope s_goes_up) := ⟨rfl, rfl, rfl, by decide +kernel, rfl, by decide +kernel, by decide +kernel⟩
theorem b_goes_up (T : Txt K mg w) : Binds K (fdOf K (a_goes_up K)) ["mode", "positive"] [] := T.f_goes_up.bindsN fun _ _ _ _ _ _ us hl => match us, hl with | [_, _], _ => rfl
theorem ok_goes_up (T : Txt K mg w) : FnOk P w K mg base CX0 1 (a_goes_up K) (fdOf K (a_goes_up K)) ["mode", "positive"] (sp_goes_up K) := by
  refine T.f_goes_up.ok sc_goes_up (fun vs H Q E h => ?_) (fun cdv A outer s H vs Q E hr h => ?_)
  · obtain ⟨_, _, rfl, _⟩ := h
    rfl
  · obtain ⟨mode, positive, rfl, k⟩ := h
    refine ⟨_, PSs.nox (pss_cons (ps_if (pt_cmpR op_eq (pv 0) (pe_str) (nomark _)) (pss_one (ps_ret (pe_not (pv 1)))) (pss_nil)) (pss_cons (ps_if (pt_cmpR op_eq (pv 0) (pe_str) (nomark _)) (pss_one (ps_ret (pv 1))) (pss_nil)) (pss_one (ps_ret (pe_cmpR op_eq (pv 0) (pe_str) (nomark _)))))), ?_⟩
    refine ⟨_, rfl, rfl, _, rfl, ?_⟩
    refine iEqS (fun h1 => ?_) (fun h1 => ?_)
    · refine ⟨_, rfl, _, rfl, ?_⟩
      exact k (!positive) (by simp +decide [goesUp, *])
    · refine ⟨_, rfl, rfl, _, rfl, ?_⟩
      refine iEqS (fun h2 => ?_) (fun h2 => ?_)
      · refine ⟨_, rfl, ?_⟩
        exact k positive (by simp +decide [goesUp, *])
      · refine ⟨_, rfl, rfl, ?_⟩
        exact k (decide ((V.str mode) = (V.str ("upward" : Str)))) (by simp +decide [goesUp, *])
end
def sp_tie_goes_up (K : PySem.W.Frag) : Sp := fun vs H Q E => ∃ (mode : Str) (low : Int) (positive : Bool), vs = [.str mode, .int low, .bl positive] ∧ (∀ (r : Bool), r = tieUp mode low positive → Q (.bl r) H)
section
variable {P : Program} {w : World} {K : PySem.W.Frag} {mg : Str → Option Value} {base : Heap}
theorem sc_tie_goes_up : FnScope ["mode", "low", "positive"] ["mode", "low", "positive"] (defScope s_tie_goes_up) := ⟨rfl, rfl, rfl, by decide +kernel, rfl, by decide +kernel, by decide +kernel⟩
theorem b_tie_goes_up (T : Txt K mg w) : Binds K (fdOf K (a_tie_goes_up K)) ["mode", "low", "positive"] [] := T.f_tie_goes_up.bindsN fun _ _ _ _ _ _ us hl => match us, hl with | [_, _, _], _ => rfl
theorem ok_tie_goes_up (T : Txt K mg w) : FnOk P w K mg base CX0 1 (a_tie_goes_up K) (fdOf K (a_tie_goes_up K)) ["mode", "low", "positive"] (sp_tie_goes_up K) := by
  refine T.f_tie_goes_up.ok sc_tie_goes_up (fun vs H Q E h => ?_) (fun cdv A outer s H vs Q E hr h => ?_)
  · obtain ⟨_, _, _, rfl, _⟩ := h
    rfl
  · obtain ⟨mode, low, positive, rfl, k⟩ := h
    refine ⟨_, PSs.nox (pss_cons (ps_if (pt_cmpR op_eq (pv 0) (pe_str) (nomark _)) (pss_one (ps_ret (pe_cmpR op_eq (pe_op op_mod (pe_callTy call_int1 (by rfl) T.n_int (by decide +kernel) (pa_cons (pv 1) (pa_nil))) (pe_int)) (pe_int) (nomark _)))) (pss_nil)) (pss_cons (ps_if (pt_cmpR op_eq (pv 0) (pe_str) (nomark _)) (pss_one (ps_ret (pv 2))) (pss_nil)) (pss_cons (ps_if (pt_cmpR op_eq (pv 0) (pe_str) (nomark _)) (pss_one (ps_ret (pe_not (pv 2)))) (pss_nil)) (pss_one (ps_ret (pe_cmpR op_eq (pv 0) (pe_str) (nomark _))))))), ?_⟩
    refine ⟨_, rfl, rfl, _, rfl, ?_⟩
    refine iEqS (fun h1 => ?_) (fun h1 => ?_)
    · refine ⟨_, rfl, .inl ⟨_, rfl, ?_⟩⟩
      refine ⟨_, _, rfl, rfl, (by show (0 : Int) < 2; omega), rfl, ?_⟩
      exact k (decide ((V.int (low % 2)) = (V.int 1))) (by simp +decide [tieUp, *])
    · refine ⟨_, rfl, rfl, _, rfl, ?_⟩
      refine iEqS (fun h2 => ?_) (fun h2 => ?_)
      · refine ⟨_, rfl, ?_⟩
        exact k positive (by simp +decide [tieUp, *])
      · refine ⟨_, rfl, rfl, _, rfl, ?_⟩
        refine iEqS (fun h3 => ?_) (fun h3 => ?_)
        · refine ⟨_, rfl, _, rfl, ?_⟩
          exact k (!positive) (by simp +decide [tieUp, *])
        · refine ⟨_, rfl, rfl, ?_⟩
          exact k (decide ((V.str mode) = (V.str ("nearest-up" : Str)))) (by simp +decide [tieUp, *])
end
def sp_check_mode (K : PySem.W.Frag) : Sp := fun vs H Q E => ∃ (mode : Str), vs = [.str mode] ∧ mode ∈ modesL ∧ Q (.non) H
section
variable {P : Program} {w : World} {K : PySem.W.Frag} {mg : Str → Option Value} {base : Heap}
theorem sc_check_mode : FnScope ["mode"] ["mode"] (defScope s_check_mode) := ⟨rfl, rfl, rfl, by decide +kernel, rfl, by decide +kernel, by decide +kernel⟩
theorem b_check_mode (T : Txt K mg w) : Binds K (fdOf K (a_check_mode K)) ["mode"] [] := T.f_check_mode.bindsN fun _ _ _ _ _ _ us hl => match us, hl with | [_], _ => rfl
theorem ok_check_mode (T : Txt K mg w) : FnOk P w K mg base CX0 1 (a_check_mode K) (fdOf K (a_check_mode K)) ["mode"] (sp_check_mode K) := by
  refine T.f_check_mode.ok sc_check_mode (fun vs H Q E h => ?_) (fun cdv A outer s H vs Q E hr h => ?_)
  · obtain ⟨_, rfl, _, _⟩ := h
    rfl
  · obtain ⟨mode, rfl, e1, k⟩ := h
    refine ⟨_, PSs.nox (pss_one (ps_if (pt_cmpR op_notIn_seq (pv 0) (pe_glob (v := .ref (He.ga K "MODES")) (by rfl) T.g_MODES rfl) (by rfl)) (pss_one (ps_never)) (pss_nil))), ?_⟩
    refine ⟨_, rfl, _, _, rfl, .inr (T.t_MODES _), rfl, rfl, _, rfl, ?_⟩
    refine iNInS (l := modesL) (fun h1 => (by exact absurd e1 h1)) (fun h1 => ?_)
    exact k
end
def sp_round_quotient (K : PySem.W.Frag) : Sp := fun vs H Q E => ∃ (I : Hp) (O : List (Addr × HO)) (numerator : Int) (divisor : Int) (mode : Str), vs = [.int numerator, .int divisor, .str mode] ∧ Wd I (O) H ∧ 0 < divisor ∧ Sz 8000 divisor ∧ mode ∈ modesL ∧ (∀ (r : Int) (I' : Hp) (H' : Hp), Same I I' → Wd I' (O) H' → r = rq numerator divisor mode → Q (.int r) H')
section
variable {P : Program} {w : World} {K : PySem.W.Frag} {mg : Str → Option Value} {base : Heap}
theorem sc_round_quotient : FnScope ["numerator", "divisor", "mode", "positive", "low", "rest", "up"] ["numerator", "divisor", "mode"] (defScope s_round_quotient) := ⟨rfl, rfl, rfl, by decide +kernel, rfl, by decide +kernel, by decide +kernel⟩
theorem b_round_quotient (T : Txt K mg w) : Binds K (fdOf K (a_round_quotient K)) ["numerator", "divisor", "mode"] [] := T.f_round_quotient.bindsN fun _ _ _ _ _ _ us hl => match us, hl with | [_, _, _], _ => rfl
theorem ok_round_quotient (T : Txt K mg w) : FnOk P w K mg base CX0 2 (a_round_quotient K) (fdOf K (a_round_quotient K)) ["numerator", "divisor", "mode"] (sp_round_quotient K) := by
  refine T.f_round_quotient.ok sc_round_quotient (fun vs H Q E h => ?_) (fun cdv A outer s H vs Q E hr h => ?_)
  · obtain ⟨_, _, _, _, _, rfl, _, _, _, _, _⟩ := h
    rfl
  · obtain ⟨I, O, numerator, divisor, mode, rfl, w, e1, e2, e3, k⟩ := h
    refine ⟨_, PSs.nox (pss_cons (ps_expr (pe_call (ok_check_mode T) (hr.mono (by decide)) (by rfl) T.g_check_mode T.f_check_mode.kp (b_check_mode T) .nil pass0 (pa_cons (pv 2) (pa_nil)))) (pss_cons (ps_asg (pe_callB call_divmodW (by rfl) T.n_divmod (by decide +kernel) (pa_cons (pv 0) (pa_cons (pv 1) (pa_nil)))) (pg_tup rfl (pgs_cons (pg_name (i := 4) sc_round_quotient.nd rfl (Or.inl rfl)) (pgs_cons (pg_name (i := 5) sc_round_quotient.nd rfl (Or.inl rfl)) (pgs_nil))))) (pss_cons (ps_if (pt_cmpR op_eq (pv 5) (pe_int) (nomark _)) (pss_one (ps_ret (pv 4))) (pss_nil)) (pss_cons (ps_set (i := 3) sc_round_quotient.nd rfl (Or.inl rfl) (pe_cmpR op_gt (pv 0) (pe_int) (nomark _))) (pss_cons (ps_if (pt_cmpR op_notIn_seq (pv 2) (pe_glob (v := .ref (He.ga K "NEAREST")) (by rfl) T.g_NEAREST rfl) (by rfl)) (pss_one (ps_set (i := 6) sc_round_quotient.nd rfl (Or.inl rfl) (pe_call (ok_goes_up T) (hr.mono (by decide)) (by rfl) T.g_goes_up T.f_goes_up.kp (b_goes_up T) .nil pass0 (pa_cons (pv 2) (pa_cons (pv 3) (pa_nil)))))) (pss_one (ps_if (pt_cmpR op_eq (pe_op op_mul (pe_int) (pv 5)) (pv 1) (nomark _)) (pss_one (ps_set (i := 6) sc_round_quotient.nd rfl (Or.inl rfl) (pe_call (ok_tie_goes_up T) (hr.mono (by decide)) (by rfl) T.g_tie_goes_up T.f_tie_goes_up.kp (b_tie_goes_up T) .nil pass0 (pa_cons (pv 2) (pa_cons (pv 4) (pa_cons (pv 3) (pa_nil))))))) (pss_one (ps_set (i := 6) sc_round_quotient.nd rfl (Or.inl rfl) (pe_cmpR op_gt (pe_op op_mul (pe_int) (pv 5)) (pv 1) (nomark _))))))) (pss_cons (ps_if (pt_val (pv 6)) (pss_one (ps_ret (pe_op op_add (pv 4) (pe_int)))) (pss_nil)) (pss_one (ps_ret (pv 4))))))))), ?_⟩
    refine ⟨_, rfl, mode, rfl, (by assumption), ?_⟩
    refine ⟨_, rfl, _, rfl, _, _, rfl, (Sz.cdivP (by assumption) (by assumption)), fun p2 hp3 => ?_⟩
    have s4 := w.newS (o := .tup [(V.int (numerator / divisor)), (V.int (numerator % divisor))]) hp3
    have w5 := w.new (o := .tup [(V.int (numerator / divisor)), (V.int (numerator % divisor))]) hp3
    refine ⟨_, _, rfl, (SqT.of (w5.get upd_same)), rfl, _, _, rfl, _, _, rfl, rfl, _, rfl, rfl, _, rfl, ?_⟩
    refine iEqI (fun h6 => ?_) (fun h6 => ?_)
    · refine ⟨_, rfl, ?_⟩
      exact k (numerator / divisor) _ _ (s4) w5 (by subst_vars; simp +decide [rq, rqUp, *])
    · refine ⟨_, rfl, _, _, rfl, rfl, _, rfl, _, _, rfl, .inr (T.t_NEAREST _), rfl, rfl, _, rfl, ?_⟩
      refine iNInS (l := nearL) (fun h7 => ?_) (fun h7 => ?_)
      · refine ⟨_, rfl, _, rfl, mode, (decide (0 < numerator)), rfl, fun r8 q9 => ?_⟩
        subst q9
        refine ⟨_, rfl, _, rfl, ?_⟩
        refine iB (fun h10 => ?_) (fun h10 => ?_)
        · refine ⟨_, rfl, _, _, rfl, rfl, ?_⟩
          exact k ((numerator / divisor) + 1) _ _ (s4) w5 (by subst_vars; simp +decide [rq, rqUp, *])
        · refine ⟨_, rfl, ?_⟩
          exact k (numerator / divisor) _ _ (s4) w5 (by subst_vars; simp +decide [rq, rqUp, *])
      · refine ⟨_, rfl, _, _, rfl, rfl, .inl ⟨by decide, by decide⟩, _, rfl, rfl, _, rfl, ?_⟩
        refine iEqI (fun h11 => ?_) (fun h11 => ?_)
        · refine ⟨_, rfl, _, rfl, _, rfl, mode, (numerator / divisor), (decide (0 < numerator)), rfl, fun r12 q13 => ?_⟩
          subst q13
          refine ⟨_, rfl, _, rfl, ?_⟩
          refine iB (fun h14 => ?_) (fun h14 => ?_)
          · refine ⟨_, rfl, _, _, rfl, rfl, ?_⟩
            exact k ((numerator / divisor) + 1) _ _ (s4) w5 (by subst_vars; simp +decide [rq, rqUp, *])
          · refine ⟨_, rfl, ?_⟩
            exact k (numerator / divisor) _ _ (s4) w5 (by subst_vars; simp +decide [rq, rqUp, *])
        · refine ⟨_, rfl, _, _, rfl, rfl, .inl ⟨by decide, by decide⟩, _, rfl, _, _, rfl, rfl, _, rfl, _, rfl, ?_⟩
          refine iD (fun h15 => ?_) (fun h15 => ?_)
          · refine ⟨_, rfl, _, _, rfl, rfl, ?_⟩
            exact k ((numerator / divisor) + 1) _ _ (s4) w5 (by subst_vars; simp +decide [rq, rqUp, *])
          · refine ⟨_, rfl, ?_⟩
            exact k (numerator / divisor) _ _ (s4) w5 (by subst_vars; simp +decide [rq, rqUp, *])
end
def sp_mirror (K : PySem.W.Frag) : Sp := fun vs H Q E => ∃ (mode : Str), vs = [.str mode] ∧ mode ∈ modesL ∧ (∀ (r : Str), r = mirrorS mode → Q (.str r) H)
section
variable {P : Program} {w : World} {K : PySem.W.Frag} {mg : Str → Option Value} {base : Heap}
theorem sc_mirror : FnScope ["mode"] ["mode"] (defScope s_mirror) := ⟨rfl, rfl, rfl, by decide +kernel, rfl, by decide +kernel, by decide +kernel⟩
theorem b_mirror (T : Txt K mg w) : Binds K (fdOf K (a_mirror K)) ["mode"] [] := T.f_mirror.bindsN fun _ _ _ _ _ _ us hl => match us, hl with | [_], _ => rfl
theorem ok_mirror (T : Txt K mg w) : FnOk P w K mg base CX0 2 (a_mirror K) (fdOf K (a_mirror K)) ["mode"] (sp_mirror K) := by
  refine T.f_mirror.ok sc_mirror (fun vs H Q E h => ?_) (fun cdv A outer s H vs Q E hr h => ?_)
  · obtain ⟨_, rfl, _, _⟩ := h
    rfl
  · obtain ⟨mode, rfl, e1, k⟩ := h
    refine ⟨_, PSs.nox (pss_cons (ps_expr (pe_call (ok_check_mode T) (hr.mono (by decide)) (by rfl) T.g_check_mode T.f_check_mode.kp (b_check_mode T) .nil pass0 (pa_cons (pv 0) (pa_nil)))) (pss_one (ps_ret (pe_kget2 (pe_glob (v := .ref (He.ga K "MIRRORS")) (by rfl) T.g_MIRRORS rfl) (pv 0) (pv 0) ⟨rfl, rfl, rfl, rfl⟩)))), ?_⟩
    refine ⟨_, rfl, mode, rfl, (by first | assumption | rfl), ?_⟩
    refine ⟨_, rfl, T.d_MIRRORS, _, rfl, _, rfl, _, _, _, rfl, T.v_MIRRORS _ (by first | assumption | exact mirror_mem (by assumption)), getD_str, ?_⟩
    exact k (mirrorS mode) (by first | assumption | rfl)
end
def sp_law_source (K : PySem.W.Frag) : Sp := fun vs H Q E => ∃ (I : Hp) (O : List (Addr × HO)) (script : Addr) (script_l : List Int), vs = [.ref script] ∧ Wd I (O) H ∧ SqL K I script (script_l.map V.int) ∧ script_l.length ≤ 63 ∧ (∀ (r : Addr) (r_s : List V) (I' : Hp) (H' : Hp), Same I I' → Wd I' ((r, .lst r_s) :: O) H' → SrcOk I' r_s → Q (.ref r) H')
section
variable {P : Program} {w : World} {K : PySem.W.Frag} {mg : Str → Option Value} {base : Heap}
theorem sc_law_source : FnScope ["script", "cell"] ["script"] (defScope s_law_source) := ⟨rfl, rfl, rfl, by decide +kernel, rfl, by decide +kernel, by decide +kernel⟩
theorem b_law_source (T : Txt K mg w) : Binds K (fdOf K (a_law_source K)) ["script"] [] := T.f_law_source.bindsN fun _ _ _ _ _ _ us hl => match us, hl with | [_], _ => rfl
theorem ok_law_source (T : Txt K mg w) : FnOk P w K mg base CX0 1 (a_law_source K) (fdOf K (a_law_source K)) ["script"] (sp_law_source K) := by
  refine T.f_law_source.ok sc_law_source (fun vs H Q E h => ?_) (fun cdv A outer s H vs Q E hr h => ?_)
  · obtain ⟨_, _, _, _, rfl, _, _, _, _⟩ := h
    rfl
  · obtain ⟨I, O, script, script_l, rfl, w, f_script, f_script1, k⟩ := h
    refine ⟨_, PSs.nox (pss_one (ps_ret (pe_lst (pa_cons (pe_int) (pa_cons (pe_int) (pa_cons (pe_int) (pa_cons (pe_int) (pa_cons (pe_lc (own := [("cell", 1)]) (g := gName 1) (tt := tYes) (by rfl) sc_law_source.nd (pi_list (pv 0)) (blkOk_by (own := [("cell", 1)]) (N := ["script", "cell"]) (sc := defScope s_law_source) (by decide +kernel)) (fun _ _ _ _ _ => pg_name (i := 1) sc_law_source.nd rfl (Or.inl rfl)) (fun _ _ _ _ _ => pts_nil) (fun _ _ _ _ _ => pe_callTy call_int1 (by rfl) T.n_int (by decide +kernel) (pa_cons (pv 1) (pa_nil)))) (pa_nil))))))))), ?_⟩
    refine ⟨_, rfl, _, rfl, ⟨_, (w.seq f_script)⟩, fun p1 hp2 => ?_⟩
    have w3 := w.newO (o := .lst []) hp2
    refine lc_list (K := K) (a := script) (xs := (script_l.map V.int)) (fun i4 H' => Wd I ((p1, .lst ((script_l.take i4).map V.int)) :: O) H') (w3) ?_ ?_ ?_
    · rintro _ H6 _ w5
      exact (w5.seq f_script)
    · rintro i8 x9 H7 hi10 w5
      obtain ⟨m, hm, rfl⟩ := get_map hi10
      refine ⟨rfl, _, rfl, .inl ⟨_, rfl, ?_⟩⟩
      refine ⟨_, w5.own, (by refine small1000 ?_; simp; omega), ?_⟩
      have ea : ((script_l.take (i8 + 1)).map V.int) = ((script_l.take i8).map V.int) ++ [(V.int m)] := by exact take_map hm
      have w11 := w5.set (u := .lst (((script_l.take i8).map V.int) ++ [(V.int m)]))
      rw [← ea] at w11 ⊢
      exact w11
    rintro H12 w5
    have eb : ((script_l.take ((script_l.map V.int)).length).map V.int) = script_l.map V.int := by simp
    rw [eb] at w5
    have s14 := w5.freezeS
    have w15 := w5.freeze
    refine ⟨(by show 5 ≤ sizeLine; decide), fun p16 hp17 => ?_⟩
    have w18 := w15.newO (o := .lst [(V.int 0), (V.int 0), (V.int 0), (V.int 0), (V.ref p1)]) hp17
    exact k p16 _ _ _ (s14) w18 ⟨⟨_, _, _, _, _, _, rfl, by omega, upd_same, ‹_›⟩⟩
end
def sp_law_draw (K : PySem.W.Frag) : Sp := fun vs H Q E => ∃ (I : Hp) (O : List (Addr × HO)) (source : Addr) (source_s : List V) (many : Int), vs = [.ref source, .int many] ∧ Wd I ((source, .lst source_s) :: O) H ∧ SrcOk I source_s ∧ 0 < many ∧ many < 2 ^ 200 ∧ (∀ (r : Int) (source_s' : List V) (H' : Hp), Wd I ((source, .lst source_s') :: O) H' → SrcOk I source_s' → 0 ≤ r → r < many → Q (.int r) H')
section
variable {P : Program} {w : World} {K : PySem.W.Frag} {mg : Str → Option Value} {base : Heap}
theorem sc_law_draw : FnScope ["source", "many", "mixed", "cell", "size", "value"] ["source", "many"] (defScope s_law_draw) := ⟨rfl, rfl, rfl, by decide +kernel, rfl, by decide +kernel, by decide +kernel⟩
theorem b_law_draw (T : Txt K mg w) : Binds K (fdOf K (a_law_draw K)) ["source", "many"] [] := T.f_law_draw.bindsN fun _ _ _ _ _ _ us hl => match us, hl with | [_, _], _ => rfl
theorem ok_law_draw (T : Txt K mg w) : FnOk P w K mg base CX0 1 (a_law_draw K) (fdOf K (a_law_draw K)) ["source", "many"] (sp_law_draw K) := by
  refine T.f_law_draw.ok sc_law_draw (fun vs H Q E h => ?_) (fun cdv A outer s H vs Q E hr h => ?_)
  · obtain ⟨_, _, _, _, _, rfl, _, _, _, _, _⟩ := h
    rfl
  · obtain ⟨I, O, source, source_s, many, rfl, w, f_source, e1, e2, k⟩ := h
    obtain ⟨i0, i1, i2, i3, c, ns, rfl, z0, hc, hn⟩ := f_source.ex
    refine ⟨_, PSs.nox (pss_cons (ps_if (PW.pt (pw_and (pt_cmpR op_eq (pe_ix ix_list (pv 0) (pe_int) (fun _ _ => rfl)) (pe_int) (nomark _)) (pw_and1 (pt_cmpR op_eq (pe_ix ix_list (pv 0) (pe_int) (fun _ _ => rfl)) (pe_int) (nomark _))))) (pss_cons (ps_if (pt_cmpR op_ge (pe_ix ix_list (pv 0) (pe_int) (fun _ _ => rfl)) (pe_callB call_len_seq (by rfl) T.n_len (by decide +kernel) (pa_cons (pe_ix ix_list (pv 0) (pe_int) (fun _ _ => rfl)) (pa_nil))) (nomark _)) (pss_one (ps_ret (pe_int))) (pss_nil)) (pss_cons (ps_set (i := 3) sc_law_draw.nd rfl (Or.inl rfl) (pe_ix ix_list (pe_ix ix_list (pv 0) (pe_int) (fun _ _ => rfl)) (pe_ix ix_list (pv 0) (pe_int) (fun _ _ => rfl)) (fun _ _ => rfl))) (pss_cons (ps_asg (pe_op op_add (pe_ix ix_list (pv 0) (pe_int) (fun _ _ => rfl)) (pe_int)) (pg_sub (pv 0) (pe_int) set_list)) (pss_cons (ps_set (i := 4) sc_law_draw.nd rfl (Or.inl rfl) (pe_op op_mul (pe_int) (pv 3))) (Evl.pss_cut (ps_if (pt_cmpR op_lt (pv 3) (pe_int) (nomark _)) (pss_one (ps_set (i := 4) sc_law_draw.nd rfl (Or.inl rfl) (pe_op op_sub (pe_op op_sub (pe_int) (pe_op op_mul (pe_int) (pv 3))) (pe_int)))) (pss_nil)) (pss_one (ps_if (pt_cmpR op_ge (pe_callB call_abs (by rfl) T.n_abs (by decide +kernel) (pa_cons (pv 3) (pa_nil))) (pe_op op_pow (pe_int) (pe_int)) (nomark _)) (pss_one (ps_asg (pv 4) (pg_sub (pv 0) (pe_int) set_list))) (pss_cons (ps_asg (pv 4) (pg_sub (pv 0) (pe_int) set_list)) (pss_one (ps_asg (pe_int) (pg_sub (pv 0) (pe_int) set_list))))))))))) (pss_nil)) (pss_cons (ps_if (pt_cmpR op_gt (pe_ix ix_list (pv 0) (pe_int) (fun _ _ => rfl)) (pe_int) (nomark _)) (pss_cons (ps_set (i := 5) sc_law_draw.nd rfl (Or.inl rfl) (pe_op op_mod (pe_callTy call_int1 (by rfl) T.n_int (by decide +kernel) (pa_cons (pe_ix ix_list (pv 0) (pe_int) (fun _ _ => rfl)) (pa_nil))) (pv 1))) (pss_cons (ps_asg (pe_op op_fdivW (pe_ix ix_list (pv 0) (pe_int) (fun _ _ => rfl)) (pv 1)) (pg_sub (pv 0) (pe_int) set_list)) (pss_one (ps_ret (pv 5))))) (pss_nil)) (pss_cons (ps_asg (pe_op op_sub (pe_ix ix_list (pv 0) (pe_int) (fun _ _ => rfl)) (pe_int)) (pg_sub (pv 0) (pe_int) set_list)) (pss_cons (ps_set (i := 2) sc_law_draw.nd rfl (Or.inl rfl) (pe_op op_mod (pe_callTy call_int1 (by rfl) T.n_int (by decide +kernel) (pa_cons (pe_op op_add (pe_op op_add (pe_op op_mul (pe_ix ix_list (pv 0) (pe_int) (fun _ _ => rfl)) (pe_int)) (pe_op op_mul (pe_ix ix_list (pv 0) (pe_int) (fun _ _ => rfl)) (pe_int))) (pe_int)) (pa_nil))) (pe_int))) (pss_one (ps_ret (pe_op op_mod (pe_op op_mod (pe_callTy call_int1 (by rfl) T.n_int (by decide +kernel) (pa_cons (pe_op op_add (pe_op op_mul (pv 2) (pe_int)) (pe_op op_mul (pe_ix ix_list (pv 0) (pe_int) (fun _ _ => rfl)) (pe_int))) (pa_nil))) (pe_int)) (pv 1)))))))), ?_⟩
    refine ⟨_, rfl, _, _, _, _, rfl, rfl, (SqL.of w.own), rfl, rfl, _, rfl, ?_⟩
    refine iEqI (fun h1 => ?_) (fun h1 => ?_)
    · refine ⟨_, rfl, _, _, _, _, rfl, rfl, (SqL.of w.own), rfl, rfl, _, rfl, ?_⟩
      refine iEqI (fun h2 => ?_) (fun h2 => ?_)
      · refine ⟨_, rfl, _, _, _, _, rfl, rfl, (SqL.of w.own), rfl, _, rfl, _, _, _, _, rfl, rfl, (SqL.of w.own), rfl, _, _, rfl, .inl (SqL.of (w.get hc)), _, _, rfl, rfl, _, rfl, ?_⟩
        refine iD (fun h3 => ?_) (fun h3 => ?_)
        · exact k 0 _ _ w ⟨⟨_, _, _, _, _, _, rfl, by omega, hc, hn⟩⟩ (by first | omega | exact Int.emod_nonneg _ (by omega) | exact Int.emod_lt_of_pos _ (by omega) | exact Int.ediv_nonneg (by omega) (by omega)) (by first | omega | exact Int.emod_nonneg _ (by omega) | exact Int.emod_lt_of_pos _ (by omega) | exact Int.ediv_nonneg (by omega) (by omega))
        · obtain ⟨cell, _, hcell0, hcell⟩ := at_map (f := V.int) (l := ns) (i := i0) (by omega) (by simp at *; omega)
          refine ⟨_, rfl, _, _, _, _, rfl, rfl, (SqL.of w.own), rfl, _, rfl, _, _, _, _, rfl, rfl, (SqL.of w.own), rfl, _, _, _, _, rfl, rfl, (SqL.of (w.get hc)), hcell, _, rfl, _, _, _, _, rfl, rfl, (SqL.of w.own), rfl, _, _, rfl, rfl, _, rfl, _, _, _, _, rfl, rfl, w.own, rfl, ?_⟩
          have w4 := w.set (u := .lst [(V.int (i0 + 1)), (V.int i1), (V.int i2), (V.int i3), (V.ref c)])
          refine ⟨_, rfl, _, _, rfl, rfl, .inl ⟨by decide, by decide⟩, ?_⟩
          refine ⟨fun σ' H' => ∃ size5 : Int, ((cell < 0 ∧ size5 = ((0 - (2 * cell)) - 1)) ∨ (¬ (cell < 0) ∧ size5 = (2 * cell))) ∧ σ' = [some (V.ref source), some (V.int many), none, some (V.int cell), some (V.int size5), none] ∧ (upd H source (.lst [(V.int (i0 + 1)), (V.int i1), (V.int i2), (V.int i3), (V.ref c)])) = H', ?_, ?_⟩
          · refine ⟨_, rfl, _, _, rfl, rfl, _, rfl, ?_⟩
            refine iD (fun h7 => ?_) (fun h7 => ?_)
            · refine ⟨_, rfl, _, _, rfl, rfl, .inl ⟨by decide, by decide⟩, _, _, rfl, rfl, _, _, rfl, rfl, ?_⟩
              exact ⟨_, .inl ⟨h7, rfl⟩, rfl, rfl⟩
            · exact ⟨_, .inr ⟨h7, rfl⟩, rfl, rfl⟩
          · rintro σ' H' ⟨size5, j6, rfl, rfl⟩
            refine ⟨_, rfl, _, rfl, _, _, rfl, rfl, ⟨by decide, by decide, by decide⟩, _, _, rfl, rfl, _, rfl, ?_⟩
            refine iD (fun h8 => ?_) (fun h8 => ?_)
            · refine ⟨_, rfl, _, rfl, _, _, _, _, rfl, rfl, w4.own, rfl, ?_⟩
              have w9 := w4.set (u := .lst [(V.int (i0 + 1)), (V.int size5), (V.int i2), (V.int i3), (V.ref c)])
              refine ⟨_, rfl, _, _, _, _, rfl, rfl, (SqL.of w9.own), rfl, _, _, rfl, rfl, _, rfl, ?_⟩
              refine iD (fun h10 => ?_) (fun h10 => ?_)
              · refine ⟨_, rfl, _, _, _, _, rfl, rfl, (SqL.of w9.own), rfl, .inl ⟨_, rfl, ?_⟩⟩
                refine ⟨_, rfl, _, _, rfl, rfl, (by show (0 : Int) < many; omega), _, rfl, _, _, _, _, rfl, rfl, (SqL.of w9.own), rfl, _, rfl, _, _, rfl, rfl, (⟨by omega, draw_many (by omega) (by omega)⟩), _, rfl, _, _, _, _, rfl, rfl, w9.own, rfl, ?_⟩
                have w11 := w9.set (u := .lst [(V.int (i0 + 1)), (V.int (size5 / many)), (V.int i2), (V.int i3), (V.ref c)])
                refine ⟨_, rfl, ?_⟩
                exact k (size5 % many) _ _ w11 ⟨⟨_, _, _, _, _, _, rfl, by omega, hc, hn⟩⟩ (by first | omega | exact Int.emod_nonneg _ (by omega) | exact Int.emod_lt_of_pos _ (by omega) | exact Int.ediv_nonneg (by omega) (by omega)) (by first | omega | exact Int.emod_nonneg _ (by omega) | exact Int.emod_lt_of_pos _ (by omega) | exact Int.ediv_nonneg (by omega) (by omega))
              · refine ⟨_, rfl, _, _, _, _, rfl, rfl, (SqL.of w9.own), rfl, _, _, rfl, rfl, _, rfl, _, _, _, _, rfl, rfl, w9.own, rfl, ?_⟩
                have w12 := w9.set (u := .lst [(V.int (i0 + 1)), (V.int size5), (V.int i2), (V.int (i3 - 1)), (V.ref c)])
                refine ⟨_, rfl, _, _, _, _, rfl, rfl, (SqL.of w12.own), rfl, _, _, rfl, rfl, .inr ⟨by decide, by decide⟩, _, rfl, _, _, _, _, rfl, rfl, (SqL.of w12.own), rfl, _, _, rfl, rfl, .inr ⟨by decide, by decide⟩, _, _, rfl, rfl, _, _, rfl, rfl, .inl ⟨_, rfl, ?_⟩⟩
                refine ⟨_, _, rfl, rfl, (by show (0 : Int) < 2147483647; omega), _, rfl, _, _, rfl, rfl, .inr ⟨by decide, by decide⟩, _, rfl, _, _, _, _, rfl, rfl, (SqL.of w12.own), rfl, _, _, rfl, rfl, .inr ⟨by decide, by decide⟩, _, _, rfl, rfl, .inl ⟨_, rfl, ?_⟩⟩
                refine ⟨_, _, rfl, rfl, (by show (0 : Int) < 998244353; omega), _, rfl, _, _, rfl, rfl, (by show (0 : Int) < many; omega), ?_⟩
                exact k ((((((((i2 * 48271) + ((i3 - 1) * 69621)) + 12345) % 2147483647) * 16807) + (i2 * 9301)) % 998244353) % many) _ _ w12 ⟨⟨_, _, _, _, _, _, rfl, by omega, hc, hn⟩⟩ (by first | omega | exact Int.emod_nonneg _ (by omega) | exact Int.emod_lt_of_pos _ (by omega) | exact Int.ediv_nonneg (by omega) (by omega)) (by first | omega | exact Int.emod_nonneg _ (by omega) | exact Int.emod_lt_of_pos _ (by omega) | exact Int.ediv_nonneg (by omega) (by omega))
            · refine ⟨_, rfl, _, rfl, _, _, _, _, rfl, rfl, w4.own, rfl, ?_⟩
              have w13 := w4.set (u := .lst [(V.int (i0 + 1)), (V.int i1), (V.int size5), (V.int i3), (V.ref c)])
              refine ⟨_, rfl, _, _, _, _, rfl, rfl, w13.own, rfl, ?_⟩
              have w14 := w13.set (u := .lst [(V.int (i0 + 1)), (V.int i1), (V.int size5), (V.int 3), (V.ref c)])
              refine ⟨_, rfl, _, _, _, _, rfl, rfl, (SqL.of w14.own), rfl, _, _, rfl, rfl, _, rfl, ?_⟩
              refine iD (fun h15 => ?_) (fun h15 => ?_)
              · refine ⟨_, rfl, _, _, _, _, rfl, rfl, (SqL.of w14.own), rfl, .inl ⟨_, rfl, ?_⟩⟩
                refine ⟨_, rfl, _, _, rfl, rfl, (by show (0 : Int) < many; omega), _, rfl, _, _, _, _, rfl, rfl, (SqL.of w14.own), rfl, _, rfl, _, _, rfl, rfl, (⟨by omega, draw_many (by omega) (by omega)⟩), _, rfl, _, _, _, _, rfl, rfl, w14.own, rfl, ?_⟩
                have w16 := w14.set (u := .lst [(V.int (i0 + 1)), (V.int (i1 / many)), (V.int size5), (V.int 3), (V.ref c)])
                refine ⟨_, rfl, ?_⟩
                exact k (i1 % many) _ _ w16 ⟨⟨_, _, _, _, _, _, rfl, by omega, hc, hn⟩⟩ (by first | omega | exact Int.emod_nonneg _ (by omega) | exact Int.emod_lt_of_pos _ (by omega) | exact Int.ediv_nonneg (by omega) (by omega)) (by first | omega | exact Int.emod_nonneg _ (by omega) | exact Int.emod_lt_of_pos _ (by omega) | exact Int.ediv_nonneg (by omega) (by omega))
              · refine ⟨_, rfl, _, _, _, _, rfl, rfl, (SqL.of w14.own), rfl, _, _, rfl, rfl, _, rfl, _, _, _, _, rfl, rfl, w14.own, rfl, ?_⟩
                have w17 := w14.set (u := .lst [(V.int (i0 + 1)), (V.int i1), (V.int size5), (V.int (3 - 1)), (V.ref c)])
                refine ⟨_, rfl, _, _, _, _, rfl, rfl, (SqL.of w17.own), rfl, _, _, rfl, rfl, .inr ⟨by decide, by decide⟩, _, rfl, _, _, _, _, rfl, rfl, (SqL.of w17.own), rfl, _, _, rfl, rfl, .inr ⟨by decide, by decide⟩, _, _, rfl, rfl, _, _, rfl, rfl, .inl ⟨_, rfl, ?_⟩⟩
                refine ⟨_, _, rfl, rfl, (by show (0 : Int) < 2147483647; omega), _, rfl, _, _, rfl, rfl, .inr ⟨by decide, by decide⟩, _, rfl, _, _, _, _, rfl, rfl, (SqL.of w17.own), rfl, _, _, rfl, rfl, .inr ⟨by decide, by decide⟩, _, _, rfl, rfl, .inl ⟨_, rfl, ?_⟩⟩
                refine ⟨_, _, rfl, rfl, (by show (0 : Int) < 998244353; omega), _, rfl, _, _, rfl, rfl, (by show (0 : Int) < many; omega), ?_⟩
                exact k ((((((((size5 * 48271) + ((3 - 1) * 69621)) + 12345) % 2147483647) * 16807) + (size5 * 9301)) % 998244353) % many) _ _ w17 ⟨⟨_, _, _, _, _, _, rfl, by omega, hc, hn⟩⟩ (by first | omega | exact Int.emod_nonneg _ (by omega) | exact Int.emod_lt_of_pos _ (by omega) | exact Int.ediv_nonneg (by omega) (by omega)) (by first | omega | exact Int.emod_nonneg _ (by omega) | exact Int.emod_lt_of_pos _ (by omega) | exact Int.ediv_nonneg (by omega) (by omega))
      · refine ⟨_, rfl, _, _, _, _, rfl, rfl, (SqL.of w.own), rfl, _, _, rfl, rfl, _, rfl, ?_⟩
        refine iD (fun h18 => ?_) (fun h18 => ?_)
        · refine ⟨_, rfl, _, _, _, _, rfl, rfl, (SqL.of w.own), rfl, .inl ⟨_, rfl, ?_⟩⟩
          refine ⟨_, rfl, _, _, rfl, rfl, (by show (0 : Int) < many; omega), _, rfl, _, _, _, _, rfl, rfl, (SqL.of w.own), rfl, _, rfl, _, _, rfl, rfl, (⟨by omega, draw_many (by omega) (by omega)⟩), _, rfl, _, _, _, _, rfl, rfl, w.own, rfl, ?_⟩
          have w19 := w.set (u := .lst [(V.int i0), (V.int (i1 / many)), (V.int i2), (V.int i3), (V.ref c)])
          refine ⟨_, rfl, ?_⟩
          exact k (i1 % many) _ _ w19 ⟨⟨_, _, _, _, _, _, rfl, by omega, hc, hn⟩⟩ (by first | omega | exact Int.emod_nonneg _ (by omega) | exact Int.emod_lt_of_pos _ (by omega) | exact Int.ediv_nonneg (by omega) (by omega)) (by first | omega | exact Int.emod_nonneg _ (by omega) | exact Int.emod_lt_of_pos _ (by omega) | exact Int.ediv_nonneg (by omega) (by omega))
        · refine ⟨_, rfl, _, _, _, _, rfl, rfl, (SqL.of w.own), rfl, _, _, rfl, rfl, _, rfl, _, _, _, _, rfl, rfl, w.own, rfl, ?_⟩
          have w20 := w.set (u := .lst [(V.int i0), (V.int i1), (V.int i2), (V.int (i3 - 1)), (V.ref c)])
          refine ⟨_, rfl, _, _, _, _, rfl, rfl, (SqL.of w20.own), rfl, _, _, rfl, rfl, .inr ⟨by decide, by decide⟩, _, rfl, _, _, _, _, rfl, rfl, (SqL.of w20.own), rfl, _, _, rfl, rfl, .inr ⟨by decide, by decide⟩, _, _, rfl, rfl, _, _, rfl, rfl, .inl ⟨_, rfl, ?_⟩⟩
          refine ⟨_, _, rfl, rfl, (by show (0 : Int) < 2147483647; omega), _, rfl, _, _, rfl, rfl, .inr ⟨by decide, by decide⟩, _, rfl, _, _, _, _, rfl, rfl, (SqL.of w20.own), rfl, _, _, rfl, rfl, .inr ⟨by decide, by decide⟩, _, _, rfl, rfl, .inl ⟨_, rfl, ?_⟩⟩
          refine ⟨_, _, rfl, rfl, (by show (0 : Int) < 998244353; omega), _, rfl, _, _, rfl, rfl, (by show (0 : Int) < many; omega), ?_⟩
          exact k ((((((((i2 * 48271) + ((i3 - 1) * 69621)) + 12345) % 2147483647) * 16807) + (i2 * 9301)) % 998244353) % many) _ _ w20 ⟨⟨_, _, _, _, _, _, rfl, by omega, hc, hn⟩⟩ (by first | omega | exact Int.emod_nonneg _ (by omega) | exact Int.emod_lt_of_pos _ (by omega) | exact Int.ediv_nonneg (by omega) (by omega)) (by first | omega | exact Int.emod_nonneg _ (by omega) | exact Int.emod_lt_of_pos _ (by omega) | exact Int.ediv_nonneg (by omega) (by omega))
    · refine ⟨_, rfl, _, _, _, _, rfl, rfl, (SqL.of w.own), rfl, _, _, rfl, rfl, _, rfl, ?_⟩
      refine iD (fun h21 => ?_) (fun h21 => ?_)
      · refine ⟨_, rfl, _, _, _, _, rfl, rfl, (SqL.of w.own), rfl, .inl ⟨_, rfl, ?_⟩⟩
        refine ⟨_, rfl, _, _, rfl, rfl, (by show (0 : Int) < many; omega), _, rfl, _, _, _, _, rfl, rfl, (SqL.of w.own), rfl, _, rfl, _, _, rfl, rfl, (⟨by omega, draw_many (by omega) (by omega)⟩), _, rfl, _, _, _, _, rfl, rfl, w.own, rfl, ?_⟩
        have w22 := w.set (u := .lst [(V.int i0), (V.int (i1 / many)), (V.int i2), (V.int i3), (V.ref c)])
        refine ⟨_, rfl, ?_⟩
        exact k (i1 % many) _ _ w22 ⟨⟨_, _, _, _, _, _, rfl, by omega, hc, hn⟩⟩ (by first | omega | exact Int.emod_nonneg _ (by omega) | exact Int.emod_lt_of_pos _ (by omega) | exact Int.ediv_nonneg (by omega) (by omega)) (by first | omega | exact Int.emod_nonneg _ (by omega) | exact Int.emod_lt_of_pos _ (by omega) | exact Int.ediv_nonneg (by omega) (by omega))
      · refine ⟨_, rfl, _, _, _, _, rfl, rfl, (SqL.of w.own), rfl, _, _, rfl, rfl, _, rfl, _, _, _, _, rfl, rfl, w.own, rfl, ?_⟩
        have w23 := w.set (u := .lst [(V.int i0), (V.int i1), (V.int i2), (V.int (i3 - 1)), (V.ref c)])
        refine ⟨_, rfl, _, _, _, _, rfl, rfl, (SqL.of w23.own), rfl, _, _, rfl, rfl, .inr ⟨by decide, by decide⟩, _, rfl, _, _, _, _, rfl, rfl, (SqL.of w23.own), rfl, _, _, rfl, rfl, .inr ⟨by decide, by decide⟩, _, _, rfl, rfl, _, _, rfl, rfl, .inl ⟨_, rfl, ?_⟩⟩
        refine ⟨_, _, rfl, rfl, (by show (0 : Int) < 2147483647; omega), _, rfl, _, _, rfl, rfl, .inr ⟨by decide, by decide⟩, _, rfl, _, _, _, _, rfl, rfl, (SqL.of w23.own), rfl, _, _, rfl, rfl, .inr ⟨by decide, by decide⟩, _, _, rfl, rfl, .inl ⟨_, rfl, ?_⟩⟩
        refine ⟨_, _, rfl, rfl, (by show (0 : Int) < 998244353; omega), _, rfl, _, _, rfl, rfl, (by show (0 : Int) < many; omega), ?_⟩
        exact k ((((((((i2 * 48271) + ((i3 - 1) * 69621)) + 12345) % 2147483647) * 16807) + (i2 * 9301)) % 998244353) % many) _ _ w23 ⟨⟨_, _, _, _, _, _, rfl, by omega, hc, hn⟩⟩ (by first | omega | exact Int.emod_nonneg _ (by omega) | exact Int.emod_lt_of_pos _ (by omega) | exact Int.ediv_nonneg (by omega) (by omega)) (by first | omega | exact Int.emod_nonneg _ (by omega) | exact Int.emod_lt_of_pos _ (by omega) | exact Int.ediv_nonneg (by omega) (by omega))
end
def sp_law_modes (K : PySem.W.Frag) : Sp := fun vs H Q E => ∃ (I : Hp) (O : List (Addr × HO)), vs = [] ∧ Wd I (O) H ∧ (∀ (r : Addr) (I' : Hp) (H' : Hp), Same I I' → Wd I' (O) H' → I' r = some (.lst (modesL.map V.str)) → Q (.ref r) H')
section
variable {P : Program} {w : World} {K : PySem.W.Frag} {mg : Str → Option Value} {base : Heap}
theorem sc_law_modes : FnScope ["near"] [] (defScope s_law_modes) := ⟨rfl, rfl, rfl, by decide +kernel, rfl, by decide +kernel, by decide +kernel⟩
theorem b_law_modes (T : Txt K mg w) : Binds K (fdOf K (a_law_modes K)) [] [] := T.f_law_modes.bindsN fun _ _ _ _ _ _ us hl => match us, hl with | [], _ => rfl
theorem ok_law_modes (T : Txt K mg w) : FnOk P w K mg base CX0 1 (a_law_modes K) (fdOf K (a_law_modes K)) [] (sp_law_modes K) := by
  refine T.f_law_modes.ok sc_law_modes (fun vs H Q E h => ?_) (fun cdv A outer s H vs Q E hr h => ?_)
  · obtain ⟨_, _, rfl, _, _⟩ := h
    rfl
  · obtain ⟨I, O, rfl, w, k⟩ := h
    refine ⟨_, PSs.nox (pss_cons (ps_set (i := 0) sc_law_modes.nd rfl (Or.inl rfl) (pe_lst (pa_cons (pe_str) (pa_cons (pe_str) (pa_cons (pe_str) (pa_cons (pe_str) (pa_cons (pe_str) (pa_nil)))))))) (pss_one (ps_ret (pe_op op_cat (pv 0) (pe_lst (pa_cons (pe_str) (pa_cons (pe_str) (pa_cons (pe_str) (pa_cons (pe_str) (pa_nil)))))))))), ?_⟩
    refine ⟨(by show 5 ≤ sizeLine; decide), fun p1 hp2 => ?_⟩
    have s3 := w.newS (o := .lst [(V.str ("nearest-even" : Str)), (V.str ("nearest-out" : Str)), (V.str ("nearest-in" : Str)), (V.str ("nearest-up" : Str)), (V.str ("nearest-down" : Str))]) hp2
    have w4 := w.new (o := .lst [(V.str ("nearest-even" : Str)), (V.str ("nearest-out" : Str)), (V.str ("nearest-in" : Str)), (V.str ("nearest-up" : Str)), (V.str ("nearest-down" : Str))]) hp2
    refine ⟨_, rfl, (by show 4 ≤ sizeLine; decide), fun p5 hp6 => ?_⟩
    have s7 := w4.newS (o := .lst [(V.str ("inward" : Str)), (V.str ("outward" : Str)), (V.str ("upward" : Str)), (V.str ("downward" : Str))]) hp6
    have w8 := w4.new (o := .lst [(V.str ("inward" : Str)), (V.str ("outward" : Str)), (V.str ("upward" : Str)), (V.str ("downward" : Str))]) hp6
    refine ⟨_, _, _, _, rfl, rfl, (w8.get (s7 _ _ upd_same)), (w8.get upd_same), (by show _ ≤ sizeLine; decide), fun p9 hp10 => ?_⟩
    have s11 := w8.newS (o := .lst ([(V.str ("nearest-even" : Str)), (V.str ("nearest-out" : Str)), (V.str ("nearest-in" : Str)), (V.str ("nearest-up" : Str)), (V.str ("nearest-down" : Str))] ++ [(V.str ("inward" : Str)), (V.str ("outward" : Str)), (V.str ("upward" : Str)), (V.str ("downward" : Str))])) hp10
    have w12 := w8.new (o := .lst ([(V.str ("nearest-even" : Str)), (V.str ("nearest-out" : Str)), (V.str ("nearest-in" : Str)), (V.str ("nearest-up" : Str)), (V.str ("nearest-down" : Str))] ++ [(V.str ("inward" : Str)), (V.str ("outward" : Str)), (V.str ("upward" : Str)), (V.str ("downward" : Str))])) hp10
    exact k p9 _ _ ((Same.trans (Same.trans s3 s7) s11)) w12 upd_same
end
def sp_law_power (K : PySem.W.Frag) : Sp := fun vs H Q E => ∃ (base : Int) (count : Int), vs = [.int base, .int count] ∧ 2 ≤ base ∧ base ≤ 36 ∧ 0 ≤ count ∧ count ≤ 1000 ∧ (∀ (r : Int), r = base ^ count.toNat → 0 < r → Sz (6 * count.toNat + 1) r → Q (.int r) H)
section
variable {P : Program} {w : World} {K : PySem.W.Frag} {mg : Str → Option Value} {base : Heap}
theorem sc_law_power : FnScope ["base", "count", "result", "k"] ["base", "count"] (defScope s_law_power) := ⟨rfl, rfl, rfl, by decide +kernel, rfl, by decide +kernel, by decide +kernel⟩
theorem b_law_power (T : Txt K mg w) : Binds K (fdOf K (a_law_power K)) ["base", "count"] [] := T.f_law_power.bindsN fun _ _ _ _ _ _ us hl => match us, hl with | [_, _], _ => rfl
theorem ok_law_power (T : Txt K mg w) : FnOk P w K mg base CX0 1 (a_law_power K) (fdOf K (a_law_power K)) ["base", "count"] (sp_law_power K) := by
  refine T.f_law_power.ok sc_law_power (fun vs H Q E h => ?_) (fun cdv A outer s H vs Q E hr h => ?_)
  · obtain ⟨_, _, rfl, _, _, _, _, _⟩ := h
    rfl
  · obtain ⟨base, count, rfl, e1, e2, e3, e4, k⟩ := h
    refine ⟨_, PSs.nox (pss_cons (ps_set (i := 2) sc_law_power.nd rfl (Or.inl rfl) (pe_int)) (pss_cons (ps_for PassesOwn.never rfl (pi_range1 (by rfl) T.n_range (pa_cons (pv 1) (pa_nil))) (pg_name (i := 3) sc_law_power.nd rfl (Or.inl rfl)) (pss_one (ps_set (i := 2) sc_law_power.nd rfl (Or.inl rfl) (pe_op op_mulW (pv 2) (pv 0))))) (pss_one (ps_ret (pv 2))))), ?_⟩
    refine ⟨_, rfl, _, rfl, (by first | omega | (subst_vars; first | rfl | simp [Int.pow_succ] | omega)), (by first | omega | (subst_vars; first | rfl | simp [Int.pow_succ] | omega)), for_range (lo := 0) (n := (count).toNat) (fun i3 σ' H' => ∃ (result1 : Int) (o2 : Option V), σ' = [some (V.int base), some (V.int count), some (V.int result1), o2] ∧ H = H' ∧ result1 = base ^ i3) ⟨1, _, rfl, rfl, (by first | omega | (subst_vars; first | rfl | simp [Int.pow_succ] | omega))⟩ ?_ ?_⟩
    · rintro i7 _ H5 hi6 ⟨result1, o2, rfl, rfl, hp⟩
      refine ⟨_, rfl, _, rfl, _, _, rfl, rfl, (lp_mul_pow (by omega) (by omega) (by omega) hp), ?_⟩
      exact ⟨(result1 * base), _, rfl, rfl, (by first | omega | (subst_vars; first | rfl | simp [Int.pow_succ] | omega))⟩
    · rintro _ H8 ⟨result1, o2, rfl, rfl, hp⟩
      refine ⟨_, rfl, ?_⟩
      exact k result1 (by first | (subst_vars; rfl) | exact lp_pow_pos (by omega) hp | exact lp_pow_sz (by omega) (by omega) hp) (by first | (subst_vars; rfl) | exact lp_pow_pos (by omega) hp | exact lp_pow_sz (by omega) (by omega) hp) (by first | (subst_vars; rfl) | exact lp_pow_pos (by omega) hp | exact lp_pow_sz (by omega) (by omega) hp)
end
def sp_law_big (K : PySem.W.Frag) : Sp := fun vs H Q E => ∃ (I : Hp) (O : List (Addr × HO)) (source : Addr) (source_s : List V), vs = [.ref source] ∧ Wd I ((source, .lst source_s) :: O) H ∧ SrcOk I source_s ∧ (∀ (r : Int) (source_s' : List V) (H' : Hp), Wd I ((source, .lst source_s') :: O) H' → SrcOk I source_s' → 0 ≤ r → r < 10 ^ 30 → Q (.int r) H')
section
variable {P : Program} {w : World} {K : PySem.W.Frag} {mg : Str → Option Value} {base : Heap}
theorem sc_law_big : FnScope ["source", "value", "k"] ["source"] (defScope s_law_big) := ⟨rfl, rfl, rfl, by decide +kernel, rfl, by decide +kernel, by decide +kernel⟩
theorem b_law_big (T : Txt K mg w) : Binds K (fdOf K (a_law_big K)) ["source"] [] := T.f_law_big.bindsN fun _ _ _ _ _ _ us hl => match us, hl with | [_], _ => rfl
theorem ok_law_big (T : Txt K mg w) : FnOk P w K mg base CX0 2 (a_law_big K) (fdOf K (a_law_big K)) ["source"] (sp_law_big K) := by
  refine T.f_law_big.ok sc_law_big (fun vs H Q E h => ?_) (fun cdv A outer s H vs Q E hr h => ?_)
  · obtain ⟨_, _, _, _, rfl, _, _, _⟩ := h
    rfl
  · obtain ⟨I, O, source, source_s, rfl, w, f_source, k⟩ := h
    refine ⟨_, PSs.nox (pss_cons (ps_set (i := 1) sc_law_big.nd rfl (Or.inl rfl) (pe_int)) (pss_cons (ps_for PassesOwn.never rfl (pi_range1 (by rfl) T.n_range (pa_cons (pe_call (ok_law_draw T) (hr.mono (by decide)) (by rfl) T.g_law_draw T.f_law_draw.kp (b_law_draw T) .nil pass0 (pa_cons (pv 0) (pa_cons (pe_int) (pa_nil)))) (pa_nil))) (pg_name (i := 2) sc_law_big.nd rfl (Or.inl rfl)) (pss_one (ps_set (i := 1) sc_law_big.nd rfl (Or.inl rfl) (pe_op op_add (pe_op op_mul (pv 1) (pe_int)) (pe_call (ok_law_draw T) (hr.mono (by decide)) (by rfl) T.g_law_draw T.f_law_draw.kp (b_law_draw T) .nil pass0 (pa_cons (pv 0) (pa_cons (pe_int) (pa_nil)))))))) (pss_one (ps_ret (pv 1))))), ?_⟩
    refine ⟨_, rfl, I, (O), source, (source_s), 31, rfl, w, f_source, (by omega), (by omega), fun r1 xs2 H3 w4 f5 q6 q7 => ?_⟩
    refine ⟨_, rfl, (by first | omega | simp | exact bigstep (by assumption) (by omega) (by omega)), (by first | omega | simp | exact bigstep (by assumption) (by omega) (by omega)), for_range (lo := 0) (n := (r1).toNat) (fun i12 σ' H' => ∃ (value8 : Int) (o9 : Option V) (xs10 : List V), σ' = [some (V.ref source), some (V.int value8), o9] ∧ Wd I ((source, .lst xs10) :: O) H' ∧ SrcOk I xs10 ∧ 0 ≤ value8 ∧ value8 < 10 ^ i12) ⟨0, _, _, rfl, w4, f5, (by first | omega | simp | exact bigstep (by assumption) (by omega) (by omega)), (by first | omega | simp | exact bigstep (by assumption) (by omega) (by omega))⟩ ?_ ?_⟩
    · rintro i18 _ H16 hi17 ⟨value8, o9, xs10, rfl, w13, f11, q14, q15⟩
      refine ⟨_, rfl, _, _, rfl, rfl, .inr ⟨by decide, by decide⟩, _, rfl, I, (O), source, (xs10), 10, rfl, w13, f11, (by omega), (by omega), fun r19 xs20 H21 w22 f23 q24 q25 => ?_⟩
      refine ⟨_, _, rfl, rfl, ?_⟩
      exact ⟨((value8 * 10) + r19), _, _, rfl, w22, f23, (by first | omega | simp | exact bigstep (by assumption) (by omega) (by omega)), (by first | omega | simp | exact bigstep (by assumption) (by omega) (by omega))⟩
    · rintro _ H26 ⟨value8, o9, xs10, rfl, w13, f11, q14, q15⟩
      refine ⟨_, rfl, ?_⟩
      exact k value8 _ _ w13 f11 (by first | assumption | exact big_end (by assumption) (by omega)) (by first | assumption | exact big_end (by assumption) (by omega))
end
def sp_law_equal_int (K : PySem.W.Frag) : Sp := fun vs H Q E => ∃ (actual : Int) (expected : Int), vs = [.int actual, .int expected] ∧ (∀ (r : Bool), r = decide (actual = expected) → Q (.bl r) H)
section
variable {P : Program} {w : World} {K : PySem.W.Frag} {mg : Str → Option Value} {base : Heap}
theorem sc_law_equal_int : FnScope ["actual", "expected", "k"] ["actual", "expected"] (defScope s_law_equal) := ⟨rfl, rfl, rfl, by decide +kernel, rfl, by decide +kernel, by decide +kernel⟩
theorem b_law_equal_int (T : Txt K mg w) : Binds K (fdOf K (a_law_equal K)) ["actual", "expected"] [] := T.f_law_equal.bindsN fun _ _ _ _ _ _ us hl => match us, hl with | [_, _], _ => rfl
theorem ok_law_equal_int (T : Txt K mg w) : FnOk P w K mg base CX0 1 (a_law_equal K) (fdOf K (a_law_equal K)) ["actual", "expected"] (sp_law_equal_int K) := by
  refine T.f_law_equal.ok sc_law_equal_int (fun vs H Q E h => ?_) (fun cdv A outer s H vs Q E hr h => ?_)
  · obtain ⟨_, _, rfl, _⟩ := h
    rfl
  · obtain ⟨actual, expected, rfl, k⟩ := h
    refine ⟨_, PSs.nox (pss_cons (ps_if (pt_cmpR op_isN (pv 1) (pe_non) (nomark _)) (pss_one (ps_never)) (pss_nil)) (pss_cons (ps_if (pt_val (pe_callB call_isi (by rfl) T.n_isinstance (by decide +kernel) (pa_cons (pv 1) (pa_cons (pe_bltn (v := .ty "bool") (by rfl) T.n_bool (by decide +kernel) rfl) (pa_nil))))) (pss_one (ps_never)) (pss_nil)) (pss_cons (ps_if (pt_val (pe_callB call_isi (by rfl) T.n_isinstance (by decide +kernel) (pa_cons (pv 1) (pa_cons (pe_bltn (v := .ty "int") (by rfl) T.n_int (by decide +kernel) rfl) (pa_nil))))) (pss_one (ps_ret (pe_and (pe_callB call_isi (by rfl) T.n_isinstance (by decide +kernel) (pa_cons (pv 0) (pa_cons (pe_bltn (v := .ty "int") (by rfl) T.n_int (by decide +kernel) rfl) (pa_nil)))) (pe_and (pe_not (pe_callB call_isi (by rfl) T.n_isinstance (by decide +kernel) (pa_cons (pv 0) (pa_cons (pe_bltn (v := .ty "bool") (by rfl) T.n_bool (by decide +kernel) rfl) (pa_nil))))) (pe_one (pe_cmpR op_eq (pv 0) (pv 1) (nomark _))))))) (pss_nil)) (pss_cons (ps_never) (pss_cons (ps_never) (pss_cons (ps_never) (pss_cons (ps_never) (pss_cons (ps_never) (pss_cons (ps_never) (pss_one (ps_never))))))))))), ?_⟩
    refine ⟨_, rfl, rfl, _, rfl, ?_⟩
    refine iFd (by intro z; cases z) ?_
    refine ⟨_, rfl, _, _, .type "int", .type "bool", false, rfl, .ty _, .base (TyOf.int _), kit_ty (by decide +kernel), _, rfl, ?_⟩
    refine ⟨_, rfl, _, _, .type "int", .type "int", true, rfl, .ty _, .base (TyOf.int _), kit_ty (by decide +kernel), _, rfl, ?_⟩
    refine ⟨_, rfl, _, _, .type "int", .type "int", true, rfl, .ty _, .base (TyOf.int _), kit_ty (by decide +kernel), _, rfl, ?_⟩
    refine ⟨_, rfl, _, _, .type "int", .type "bool", false, rfl, .ty _, .base (TyOf.int _), kit_ty (by decide +kernel), _, rfl, _, rfl, ?_⟩
    refine ⟨_, rfl, _, rfl, rfl, ?_⟩
    exact k (decide ((V.int actual) = (V.int expected))) (by first | rfl | simp_all)
end
def sp_law_equal_str (K : PySem.W.Frag) : Sp := fun vs H Q E => ∃ (actual : Str) (expected : Str), vs = [.str actual, .str expected] ∧ (∀ (r : Bool), r = decide (actual = expected) → Q (.bl r) H)
section
variable {P : Program} {w : World} {K : PySem.W.Frag} {mg : Str → Option Value} {base : Heap}
theorem sc_law_equal_str : FnScope ["actual", "expected", "k"] ["actual", "expected"] (defScope s_law_equal) := ⟨rfl, rfl, rfl, by decide +kernel, rfl, by decide +kernel, by decide +kernel⟩
theorem b_law_equal_str (T : Txt K mg w) : Binds K (fdOf K (a_law_equal K)) ["actual", "expected"] [] := T.f_law_equal.bindsN fun _ _ _ _ _ _ us hl => match us, hl with | [_, _], _ => rfl
theorem ok_law_equal_str (T : Txt K mg w) : FnOk P w K mg base CX0 1 (a_law_equal K) (fdOf K (a_law_equal K)) ["actual", "expected"] (sp_law_equal_str K) := by
  refine T.f_law_equal.ok sc_law_equal_str (fun vs H Q E h => ?_) (fun cdv A outer s H vs Q E hr h => ?_)
  · obtain ⟨_, _, rfl, _⟩ := h
    rfl
  · obtain ⟨actual, expected, rfl, k⟩ := h
    refine ⟨_, PSs.nox (pss_cons (ps_if (pt_cmpR op_isN (pv 1) (pe_non) (nomark _)) (pss_one (ps_never)) (pss_nil)) (pss_cons (ps_if (pt_val (pe_callB call_isi (by rfl) T.n_isinstance (by decide +kernel) (pa_cons (pv 1) (pa_cons (pe_bltn (v := .ty "bool") (by rfl) T.n_bool (by decide +kernel) rfl) (pa_nil))))) (pss_one (ps_never)) (pss_nil)) (pss_cons (ps_if (pt_val (pe_callB call_isi (by rfl) T.n_isinstance (by decide +kernel) (pa_cons (pv 1) (pa_cons (pe_bltn (v := .ty "int") (by rfl) T.n_int (by decide +kernel) rfl) (pa_nil))))) (pss_one (ps_never)) (pss_nil)) (pss_cons (ps_if (pt_val (pe_callB call_isi (by rfl) T.n_isinstance (by decide +kernel) (pa_cons (pv 1) (pa_cons (pe_bltn (v := .ty "str") (by rfl) T.n_str (by decide +kernel) rfl) (pa_nil))))) (pss_one (ps_ret (pe_and (pe_callB call_isi (by rfl) T.n_isinstance (by decide +kernel) (pa_cons (pv 0) (pa_cons (pe_bltn (v := .ty "str") (by rfl) T.n_str (by decide +kernel) rfl) (pa_nil)))) (pe_one (pe_cmpR op_eq (pv 0) (pv 1) (nomark _)))))) (pss_nil)) (pss_cons (ps_never) (pss_cons (ps_never) (pss_cons (ps_never) (pss_cons (ps_never) (pss_cons (ps_never) (pss_one (ps_never))))))))))), ?_⟩
    refine ⟨_, rfl, rfl, _, rfl, ?_⟩
    refine iFd (by intro z; cases z) ?_
    refine ⟨_, rfl, _, _, .type "str", .type "bool", false, rfl, .ty _, .base (TyOf.str _), kit_ty (by decide +kernel), _, rfl, ?_⟩
    refine ⟨_, rfl, _, _, .type "str", .type "int", false, rfl, .ty _, .base (TyOf.str _), kit_ty (by decide +kernel), _, rfl, ?_⟩
    refine ⟨_, rfl, _, _, .type "str", .type "str", true, rfl, .ty _, .base (TyOf.str _), kit_ty (by decide +kernel), _, rfl, ?_⟩
    refine ⟨_, rfl, _, _, .type "str", .type "str", true, rfl, .ty _, .base (TyOf.str _), kit_ty (by decide +kernel), _, rfl, ?_⟩
    refine ⟨_, rfl, _, rfl, rfl, ?_⟩
    exact k (decide ((V.str actual) = (V.str expected))) (by first | rfl | simp_all)
end
def sp_law_mirror (K : PySem.W.Frag) : Sp := fun vs H Q E => ∃ (I : Hp) (O : List (Addr × HO)) (mode : Str), vs = [.str mode] ∧ Wd I (O) H ∧ mode ∈ modesL ∧ (∀ (r : Str) (I' : Hp) (H' : Hp), Same I I' → Wd I' (O) H' → r = mirrorS mode → Q (.str r) H')
section
variable {P : Program} {w : World} {K : PySem.W.Frag} {mg : Str → Option Value} {base : Heap}
theorem sc_law_mirror : FnScope ["mode", "names"] ["mode"] (defScope s_law_mirror) := ⟨rfl, rfl, rfl, by decide +kernel, rfl, by decide +kernel, by decide +kernel⟩
theorem b_law_mirror (T : Txt K mg w) : Binds K (fdOf K (a_law_mirror K)) ["mode"] [] := T.f_law_mirror.bindsN fun _ _ _ _ _ _ us hl => match us, hl with | [_], _ => rfl
theorem ok_law_mirror (T : Txt K mg w) : FnOk P w K mg base CX0 2 (a_law_mirror K) (fdOf K (a_law_mirror K)) ["mode"] (sp_law_mirror K) := by
  refine T.f_law_mirror.ok sc_law_mirror (fun vs H Q E h => ?_) (fun cdv A outer s H vs Q E hr h => ?_)
  · obtain ⟨_, _, _, rfl, _, _, _⟩ := h
    rfl
  · obtain ⟨I, O, mode, rfl, w, e1, k⟩ := h
    refine ⟨_, PSs.nox (pss_cons (ps_set (i := 1) sc_law_mirror.nd rfl (Or.inl rfl) (pe_call0 (ok_law_modes T) (hr.mono (by decide)) (by rfl) T.g_law_modes T.f_law_modes.kp (b_law_modes T) .nil pass0)) (pss_one (ps_ret (pe_ix ix_list (pv 1) (pe_ix ix_list (pe_lst (pa_cons (pe_int) (pa_cons (pe_int) (pa_cons (pe_int) (pa_cons (pe_int) (pa_cons (pe_int) (pa_cons (pe_int) (pa_cons (pe_int) (pa_cons (pe_int) (pa_cons (pe_int) (pa_nil))))))))))) (pe_bm PySem.F.plainAttrs_list PySem.F.slot_list_index PySem.F.type_list_index mt_index (pv 1) (pa_cons (pv 0) (pa_nil))) (fun _ _ => rfl)) (fun _ _ => rfl))))), ?_⟩
    refine ⟨I, (O), rfl, w, fun r1 I2 H4 s3 w5 f6 => ?_⟩
    refine ⟨_, rfl, (by show 9 ≤ sizeLine; decide), fun p7 hp8 => ?_⟩
    have s9 := w5.newS (o := .lst [(V.int 0), (V.int 1), (V.int 2), (V.int 4), (V.int 3), (V.int 5), (V.int 6), (V.int 8), (V.int 7)]) hp8
    have w10 := w5.new (o := .lst [(V.int 0), (V.int 1), (V.int 2), (V.int 4), (V.int 3), (V.int 5), (V.int 6), (V.int 8), (V.int 7)]) hp8
    obtain ⟨j11, a12, b13, c14, d15⟩ := mode_index (by first | assumption | exact mirror_mem (by assumption))
    obtain ⟨p16, _, hp17, he18⟩ := at_map (f := V.int) (l := permL) (i := ((j11 : Nat) : Int)) (by omega) (by show ((j11 : Nat) : Int) < 9; omega)
    obtain ⟨q19, q20, q21⟩ := d15 p16 hp17
    obtain ⟨m22, _, hm23, he24⟩ := at_map (f := V.str) (l := modesL) (i := p16) q19 (by show p16 < 9; exact q20)
    refine ⟨_, rfl, .inl ⟨rfl, _, (SqL.of (w10.get (s9 _ _ f6)))⟩, _, rfl, _, _, _, j11, _, rfl, rfl, (SqL.of (w10.get (s9 _ _ f6))), rfl, (by rfl), b13, by simp [eqV], c14, _, _, _, _, rfl, rfl, (SqL.of (w10.get upd_same)), he18, _, _, _, _, rfl, rfl, (SqL.of (w10.get (s9 _ _ f6))), he24, ?_⟩
    exact k _ _ _ ((Same.trans s3 s9)) w10 (q21 m22 hm23)
end
def sp_law_divisor (K : PySem.W.Frag) : Sp := fun vs H Q E => ∃ (I : Hp) (O : List (Addr × HO)) (source : Addr) (source_s : List V), vs = [.ref source] ∧ Wd I ((source, .lst source_s) :: O) H ∧ SrcOk I source_s ∧ (∀ (r : Int) (source_s' : List V) (H' : Hp), Wd I ((source, .lst source_s') :: O) H' → SrcOk I source_s' → 0 < r → Sz 160 r → Q (.int r) H')
section
variable {P : Program} {w : World} {K : PySem.W.Frag} {mg : Str → Option Value} {base : Heap}
theorem sc_law_divisor : FnScope ["source", "kind", "value"] ["source"] (defScope s_law_divisor) := ⟨rfl, rfl, rfl, by decide +kernel, rfl, by decide +kernel, by decide +kernel⟩
theorem b_law_divisor (T : Txt K mg w) : Binds K (fdOf K (a_law_divisor K)) ["source"] [] := T.f_law_divisor.bindsN fun _ _ _ _ _ _ us hl => match us, hl with | [_], _ => rfl
theorem ok_law_divisor (T : Txt K mg w) : FnOk P w K mg base CX0 3 (a_law_divisor K) (fdOf K (a_law_divisor K)) ["source"] (sp_law_divisor K) := by
  refine T.f_law_divisor.ok sc_law_divisor (fun vs H Q E h => ?_) (fun cdv A outer s H vs Q E hr h => ?_)
  · obtain ⟨_, _, _, _, rfl, _, _, _⟩ := h
    rfl
  · obtain ⟨I, O, source, source_s, rfl, w, f_source, k⟩ := h
    refine ⟨_, PSs.nox (pss_cons (ps_set (i := 1) sc_law_divisor.nd rfl (Or.inl rfl) (pe_call (ok_law_draw T) (hr.mono (by decide)) (by rfl) T.g_law_draw T.f_law_draw.kp (b_law_draw T) .nil pass0 (pa_cons (pv 0) (pa_cons (pe_int) (pa_nil))))) (pss_cons (ps_set (i := 2) sc_law_divisor.nd rfl (Or.inl rfl) (pe_op op_add (pe_int) (pe_call (ok_law_draw T) (hr.mono (by decide)) (by rfl) T.g_law_draw T.f_law_draw.kp (b_law_draw T) .nil pass0 (pa_cons (pv 0) (pa_cons (pe_int) (pa_nil)))))) (Evl.pss_cut (ps_if (pt_cmpR op_eq (pv 1) (pe_int) (nomark _)) (pss_one (ps_set (i := 2) sc_law_divisor.nd rfl (Or.inl rfl) (pe_op op_add (pv 2) (pe_call (ok_law_big T) (hr.mono (by decide)) (by rfl) T.g_law_big T.f_law_big.kp (b_law_big T) .nil pass0 (pa_cons (pv 0) (pa_nil)))))) (pss_nil)) (Evl.pss_cut (ps_if (pt_cmpR op_eq (pv 1) (pe_int) (nomark _)) (pss_one (ps_set (i := 2) sc_law_divisor.nd rfl (Or.inl rfl) (pe_call (ok_law_power T) (hr.mono (by decide)) (by rfl) T.g_law_power T.f_law_power.kp (b_law_power T) .nil pass0 (pa_cons (pe_op op_add (pe_int) (pe_call (ok_law_draw T) (hr.mono (by decide)) (by rfl) T.g_law_draw T.f_law_draw.kp (b_law_draw T) .nil pass0 (pa_cons (pv 0) (pa_cons (pe_int) (pa_nil))))) (pa_cons (pe_call (ok_law_draw T) (hr.mono (by decide)) (by rfl) T.g_law_draw T.f_law_draw.kp (b_law_draw T) .nil pass0 (pa_cons (pv 0) (pa_cons (pe_int) (pa_nil)))) (pa_nil)))))) (pss_nil)) (pss_cons (ps_if (pt_cmpR op_eq (pe_call (ok_law_draw T) (hr.mono (by decide)) (by rfl) T.g_law_draw T.f_law_draw.kp (b_law_draw T) .nil pass0 (pa_cons (pv 0) (pa_cons (pe_int) (pa_nil)))) (pe_int) (nomark _)) (pss_one (ps_set (i := 2) sc_law_divisor.nd rfl (Or.inl rfl) (pe_op op_mul (pe_int) (pv 2)))) (pss_nil)) (pss_one (ps_ret (pv 2)))))))), ?_⟩
    refine ⟨_, rfl, I, (O), source, (source_s), 4, rfl, w, f_source, (by first | omega | assumption | exact Sz.of (by omega) (by omega) | exact Sz.mono (by assumption) (by omega)), (by first | omega | assumption | exact Sz.of (by omega) (by omega) | exact Sz.mono (by assumption) (by omega)), fun r1 xs2 H3 w4 f5 q6 q7 => ?_⟩
    refine ⟨_, rfl, I, (O), source, (xs2), 12, rfl, w4, f5, (by first | omega | assumption | exact Sz.of (by omega) (by omega) | exact Sz.mono (by assumption) (by omega)), (by first | omega | assumption | exact Sz.of (by omega) (by omega) | exact Sz.mono (by assumption) (by omega)), fun r8 xs9 H10 w11 f12 q13 q14 => ?_⟩
    refine ⟨_, _, rfl, rfl, ?_⟩
    refine ⟨fun σ' H' => ∃ (value15 : Int) (xs16 : List V), σ' = [some (V.ref source), some (V.int r1), some (V.int value15)] ∧ Wd I ((source, .lst xs16) :: O) H' ∧ SrcOk I xs16 ∧ 0 < value15 ∧ Sz 150 value15, ?_, ?_⟩
    · refine ⟨_, rfl, rfl, _, rfl, ?_⟩
      refine iEqI (fun h21 => ?_) (fun h21 => ?_)
      · refine ⟨_, rfl, _, rfl, I, (O), source, (xs9), rfl, w11, f12, fun r22 xs23 H24 w25 f26 q27 q28 => ?_⟩
        refine ⟨_, _, rfl, rfl, ?_⟩
        exact ⟨((1 + r8) + r22), _, rfl, w25, f26, (by first | omega | assumption | exact Sz.of (by omega) (by omega) | exact Sz.mono (by assumption) (by omega)), (by first | omega | assumption | exact Sz.of (by omega) (by omega) | exact Sz.mono (by assumption) (by omega))⟩
      · exact ⟨(1 + r8), _, rfl, w11, f12, (by first | omega | assumption | exact Sz.of (by omega) (by omega) | exact Sz.mono (by assumption) (by omega)), (by first | omega | assumption | exact Sz.of (by omega) (by omega) | exact Sz.mono (by assumption) (by omega))⟩
    · rintro σ' H29 ⟨value15, xs16, rfl, w20, f17, q18, q19⟩
      refine ⟨fun σ' H' => ∃ (value30 : Int) (xs31 : List V), σ' = [some (V.ref source), some (V.int r1), some (V.int value30)] ∧ Wd I ((source, .lst xs31) :: O) H' ∧ SrcOk I xs31 ∧ 0 < value30 ∧ Sz 150 value30, ?_, ?_⟩
      · refine ⟨_, rfl, rfl, _, rfl, ?_⟩
        refine iEqI (fun h35 => ?_) (fun h35 => ?_)
        · refine ⟨_, rfl, I, (O), source, (xs16), 35, rfl, w20, f17, (by first | omega | assumption | exact Sz.of (by omega) (by omega) | exact Sz.mono (by assumption) (by omega)), (by first | omega | assumption | exact Sz.of (by omega) (by omega) | exact Sz.mono (by assumption) (by omega)), fun r36 xs37 H38 w39 f40 q41 q42 => ?_⟩
          refine ⟨_, _, rfl, rfl, _, rfl, I, (O), source, (xs37), 25, rfl, w39, f40, (by first | omega | assumption | exact Sz.of (by omega) (by omega) | exact Sz.mono (by assumption) (by omega)), (by first | omega | assumption | exact Sz.of (by omega) (by omega) | exact Sz.mono (by assumption) (by omega)), fun r43 xs44 H45 w46 f47 q48 q49 => ?_⟩
          refine ⟨(2 + r36), r43, rfl, (by first | omega | assumption | exact Sz.of (by omega) (by omega) | exact Sz.mono (by assumption) (by omega)), (by first | omega | assumption | exact Sz.of (by omega) (by omega) | exact Sz.mono (by assumption) (by omega)), (by first | omega | assumption | exact Sz.of (by omega) (by omega) | exact Sz.mono (by assumption) (by omega)), (by first | omega | assumption | exact Sz.of (by omega) (by omega) | exact Sz.mono (by assumption) (by omega)), fun r50 q51 q52 q53 => ?_⟩
          subst q51
          exact ⟨((2 + r36) ^ r43.toNat), _, rfl, w46, f47, (by first | omega | assumption | exact Sz.of (by omega) (by omega) | exact Sz.mono (by assumption) (by omega)), (by first | omega | assumption | exact Sz.of (by omega) (by omega) | exact Sz.mono (by assumption) (by omega))⟩
        · exact ⟨value15, _, rfl, w20, f17, (by first | omega | assumption | exact Sz.of (by omega) (by omega) | exact Sz.mono (by assumption) (by omega)), (by first | omega | assumption | exact Sz.of (by omega) (by omega) | exact Sz.mono (by assumption) (by omega))⟩
      · rintro σ' H54 ⟨value30, xs31, rfl, w34, f32, q33, hz⟩
        refine ⟨_, rfl, I, (O), source, (xs31), 2, rfl, w34, f32, (by first | omega | assumption | exact Sz.of (by omega) (by omega) | exact Sz.mono (by assumption) (by omega)), (by first | omega | assumption | exact Sz.of (by omega) (by omega) | exact Sz.mono (by assumption) (by omega)), fun r55 xs56 H57 w58 f59 q60 q61 => ?_⟩
        refine ⟨rfl, _, rfl, ?_⟩
        refine iEqI (fun h62 => ?_) (fun h62 => ?_)
        · refine ⟨_, rfl, _, _, rfl, rfl, .inl ⟨by decide, by decide⟩, _, rfl, ?_⟩
          exact k (2 * value30) _ _ w58 f59 (by first | omega | exact Sz.mono hz (by omega) | exact Sz.mono (Sz.mul (n := 2) (by decide) hz) (by omega)) (by first | omega | exact Sz.mono hz (by omega) | exact Sz.mono (Sz.mul (n := 2) (by decide) hz) (by omega))
        · refine ⟨_, rfl, ?_⟩
          exact k value30 _ _ w58 f59 (by first | omega | exact Sz.mono hz (by omega) | exact Sz.mono (Sz.mul (n := 2) (by decide) hz) (by omega)) (by first | omega | exact Sz.mono hz (by omega) | exact Sz.mono (Sz.mul (n := 2) (by decide) hz) (by omega))
end
def sp_law_numerator (K : PySem.W.Frag) : Sp := fun vs H Q E => ∃ (I : Hp) (O : List (Addr × HO)) (source : Addr) (source_s : List V) (divisor : Int), vs = [.ref source, .int divisor] ∧ Wd I ((source, .lst source_s) :: O) H ∧ SrcOk I source_s ∧ 0 < divisor ∧ Sz 160 divisor ∧ (∀ (r : Int) (source_s' : List V) (H' : Hp), Wd I ((source, .lst source_s') :: O) H' → SrcOk I source_s' → Sz 400 r → Q (.int r) H')
section
variable {P : Program} {w : World} {K : PySem.W.Frag} {mg : Str → Option Value} {base : Heap}
theorem sc_law_numerator : FnScope ["source", "divisor", "kind", "part", "whole"] ["source", "divisor"] (defScope s_law_numerator) := ⟨rfl, rfl, rfl, by decide +kernel, rfl, by decide +kernel, by decide +kernel⟩
theorem b_law_numerator (T : Txt K mg w) : Binds K (fdOf K (a_law_numerator K)) ["source", "divisor"] [] := T.f_law_numerator.bindsN fun _ _ _ _ _ _ us hl => match us, hl with | [_, _], _ => rfl
theorem ok_law_numerator (T : Txt K mg w) : FnOk P w K mg base CX0 3 (a_law_numerator K) (fdOf K (a_law_numerator K)) ["source", "divisor"] (sp_law_numerator K) := by
  refine T.f_law_numerator.ok sc_law_numerator (fun vs H Q E h => ?_) (fun cdv A outer s H vs Q E hr h => ?_)
  · obtain ⟨_, _, _, _, _, rfl, _, _, _, _, _⟩ := h
    rfl
  · obtain ⟨I, O, source, source_s, divisor, rfl, w, f_source, e1, e2, k⟩ := h
    refine ⟨_, PSs.nox (pss_cons (ps_set (i := 2) sc_law_numerator.nd rfl (Or.inl rfl) (pe_call (ok_law_draw T) (hr.mono (by decide)) (by rfl) T.g_law_draw T.f_law_draw.kp (b_law_draw T) .nil pass0 (pa_cons (pv 0) (pa_cons (pe_int) (pa_nil))))) (pss_cons (ps_set (i := 3) sc_law_numerator.nd rfl (Or.inl rfl) (pe_op op_fdiv (pv 1) (pe_int))) (Evl.pss_cut (ps_if (pt_cmpR op_eq (pv 2) (pe_int) (nomark _)) (pss_one (ps_set (i := 3) sc_law_numerator.nd rfl (Or.inl rfl) (pe_op op_add (pv 3) (pe_int)))) (pss_nil)) (Evl.pss_cut (ps_if (pt_cmpR op_eq (pv 2) (pe_int) (nomark _)) (pss_one (ps_set (i := 3) sc_law_numerator.nd rfl (Or.inl rfl) (pe_op op_sub (pv 3) (pe_int)))) (pss_nil)) (Evl.pss_cut (ps_if (pt_cmpR op_eq (pv 2) (pe_int) (nomark _)) (pss_one (ps_set (i := 3) sc_law_numerator.nd rfl (Or.inl rfl) (pe_int))) (pss_nil)) (Evl.pss_cut (ps_if (pt_cmpR op_eq (pv 2) (pe_int) (nomark _)) (pss_one (ps_set (i := 3) sc_law_numerator.nd rfl (Or.inl rfl) (pe_int))) (pss_nil)) (Evl.pss_cut (ps_if (pt_cmpR op_eq (pv 2) (pe_int) (nomark _)) (pss_one (ps_set (i := 3) sc_law_numerator.nd rfl (Or.inl rfl) (pe_op op_sub (pv 1) (pe_int)))) (pss_nil)) (Evl.pss_cut (ps_if (pt_cmpR op_eq (pv 2) (pe_int) (nomark _)) (pss_one (ps_set (i := 3) sc_law_numerator.nd rfl (Or.inl rfl) (pe_op op_mod (pe_callTy call_int1 (by rfl) T.n_int (by decide +kernel) (pa_cons (pe_call (ok_law_big T) (hr.mono (by decide)) (by rfl) T.g_law_big T.f_law_big.kp (b_law_big T) .nil pass0 (pa_cons (pv 0) (pa_nil))) (pa_nil))) (pv 1)))) (pss_nil)) (pss_cons (ps_set (i := 4) sc_law_numerator.nd rfl (Or.inl rfl) (pe_call (ok_law_draw T) (hr.mono (by decide)) (by rfl) T.g_law_draw T.f_law_draw.kp (b_law_draw T) .nil pass0 (pa_cons (pv 0) (pa_cons (pe_int) (pa_nil))))) (Evl.pss_cut (ps_if (pt_cmpR op_eq (pe_call (ok_law_draw T) (hr.mono (by decide)) (by rfl) T.g_law_draw T.f_law_draw.kp (b_law_draw T) .nil pass0 (pa_cons (pv 0) (pa_cons (pe_int) (pa_nil)))) (pe_int) (nomark _)) (pss_one (ps_set (i := 4) sc_law_numerator.nd rfl (Or.inl rfl) (pe_op op_add (pv 4) (pe_call (ok_law_big T) (hr.mono (by decide)) (by rfl) T.g_law_big T.f_law_big.kp (b_law_big T) .nil pass0 (pa_cons (pv 0) (pa_nil)))))) (pss_nil)) (pss_one (ps_ret (pe_op op_mulW (pe_op op_add (pe_op op_mulW (pv 4) (pv 1)) (pv 3)) (pe_op op_sub (pe_int) (pe_op op_mul (pe_int) (pe_call (ok_law_draw T) (hr.mono (by decide)) (by rfl) T.g_law_draw T.f_law_draw.kp (b_law_draw T) .nil pass0 (pa_cons (pv 0) (pa_cons (pe_int) (pa_nil))))))))))))))))))), ?_⟩
    refine ⟨_, rfl, I, (O), source, (source_s), 7, rfl, w, f_source, (by first | omega | assumption | exact Sz.of (by omega) (by omega) | exact Sz.mono (by assumption) (by omega)), (by first | omega | assumption | exact Sz.of (by omega) (by omega) | exact Sz.mono (by assumption) (by omega)), fun r1 xs2 H3 w4 f5 q6 q7 => ?_⟩
    refine ⟨_, rfl, _, _, rfl, rfl, ⟨by decide, by decide⟩, ?_⟩
    refine ⟨fun σ' H' => ∃ part8 : Int, ((r1 = 1 ∧ part8 = ((divisor / 2) + 1)) ∨ (¬ (r1 = 1) ∧ part8 = (divisor / 2))) ∧ σ' = [some (V.ref source), some (V.int divisor), some (V.int r1), some (V.int part8), none] ∧ H3 = H', ?_, ?_⟩
    · refine ⟨_, rfl, rfl, _, rfl, ?_⟩
      refine iEqI (fun h10 => ?_) (fun h10 => ?_)
      · refine ⟨_, rfl, _, _, rfl, rfl, ?_⟩
        exact ⟨_, .inl ⟨h10, rfl⟩, rfl, rfl⟩
      · exact ⟨_, .inr ⟨h10, rfl⟩, rfl, rfl⟩
    · rintro σ' H' ⟨part8, j9, rfl, rfl⟩
      refine ⟨fun σ' H' => ∃ part11 : Int, ((r1 = 2 ∧ part11 = (part8 - 1)) ∨ (¬ (r1 = 2) ∧ part11 = part8)) ∧ σ' = [some (V.ref source), some (V.int divisor), some (V.int r1), some (V.int part11), none] ∧ H3 = H', ?_, ?_⟩
      · refine ⟨_, rfl, rfl, _, rfl, ?_⟩
        refine iEqI (fun h13 => ?_) (fun h13 => ?_)
        · refine ⟨_, rfl, _, _, rfl, rfl, ?_⟩
          exact ⟨_, .inl ⟨h13, rfl⟩, rfl, rfl⟩
        · exact ⟨_, .inr ⟨h13, rfl⟩, rfl, rfl⟩
      · rintro σ' H' ⟨part11, j12, rfl, rfl⟩
        refine ⟨fun σ' H' => ∃ part14 : Int, ((r1 = 3 ∧ part14 = 0) ∨ (¬ (r1 = 3) ∧ part14 = part11)) ∧ σ' = [some (V.ref source), some (V.int divisor), some (V.int r1), some (V.int part14), none] ∧ H3 = H', ?_, ?_⟩
        · refine ⟨_, rfl, rfl, _, rfl, ?_⟩
          refine iEqI (fun h16 => ?_) (fun h16 => ?_)
          · exact ⟨_, .inl ⟨h16, rfl⟩, rfl, rfl⟩
          · exact ⟨_, .inr ⟨h16, rfl⟩, rfl, rfl⟩
        · rintro σ' H' ⟨part14, j15, rfl, rfl⟩
          refine ⟨fun σ' H' => ∃ part17 : Int, ((r1 = 4 ∧ part17 = 1) ∨ (¬ (r1 = 4) ∧ part17 = part14)) ∧ σ' = [some (V.ref source), some (V.int divisor), some (V.int r1), some (V.int part17), none] ∧ H3 = H', ?_, ?_⟩
          · refine ⟨_, rfl, rfl, _, rfl, ?_⟩
            refine iEqI (fun h19 => ?_) (fun h19 => ?_)
            · exact ⟨_, .inl ⟨h19, rfl⟩, rfl, rfl⟩
            · exact ⟨_, .inr ⟨h19, rfl⟩, rfl, rfl⟩
          · rintro σ' H' ⟨part17, j18, rfl, rfl⟩
            refine ⟨fun σ' H' => ∃ part20 : Int, ((r1 = 5 ∧ part20 = (divisor - 1)) ∨ (¬ (r1 = 5) ∧ part20 = part17)) ∧ σ' = [some (V.ref source), some (V.int divisor), some (V.int r1), some (V.int part20), none] ∧ H3 = H', ?_, ?_⟩
            · refine ⟨_, rfl, rfl, _, rfl, ?_⟩
              refine iEqI (fun h22 => ?_) (fun h22 => ?_)
              · refine ⟨_, rfl, _, _, rfl, rfl, ?_⟩
                exact ⟨_, .inl ⟨h22, rfl⟩, rfl, rfl⟩
              · exact ⟨_, .inr ⟨h22, rfl⟩, rfl, rfl⟩
            · rintro σ' H' ⟨part20, j21, rfl, rfl⟩
              refine ⟨fun σ' H' => ∃ (part23 : Int) (xs24 : List V), σ' = [some (V.ref source), some (V.int divisor), some (V.int r1), some (V.int part23), none] ∧ Wd I ((source, .lst xs24) :: O) H' ∧ SrcOk I xs24 ∧ -1 ≤ part23 ∧ part23 ≤ divisor, ?_, ?_⟩
              · refine ⟨_, rfl, rfl, _, rfl, ?_⟩
                refine iEqI (fun h27 => ?_) (fun h27 => ?_)
                · refine ⟨_, rfl, I, (O), source, (xs2), rfl, w4, f5, fun r28 xs29 H30 w31 f32 q33 q34 => ?_⟩
                  refine .inl ⟨_, rfl, ?_⟩
                  refine ⟨_, rfl, _, _, rfl, rfl, (by show (0 : Int) < divisor; omega), ?_⟩
                  exact ⟨(r28 % divisor), _, rfl, w31, f32, (by first | omega | exact Int.le_trans (by decide) (Int.emod_nonneg _ (by omega)) | exact Int.le_of_lt (Int.emod_lt_of_pos _ (by omega))), (by first | omega | exact Int.le_trans (by decide) (Int.emod_nonneg _ (by omega)) | exact Int.le_of_lt (Int.emod_lt_of_pos _ (by omega)))⟩
                · exact ⟨part20, _, rfl, w4, f5, (by first | omega | exact Int.le_trans (by decide) (Int.emod_nonneg _ (by omega)) | exact Int.le_of_lt (Int.emod_lt_of_pos _ (by omega))), (by first | omega | exact Int.le_trans (by decide) (Int.emod_nonneg _ (by omega)) | exact Int.le_of_lt (Int.emod_lt_of_pos _ (by omega)))⟩
              · rintro σ' H35 ⟨part23, xs24, rfl, w26, f25, hp0, hp1⟩
                refine ⟨_, rfl, I, (O), source, (xs24), 6, rfl, w26, f25, (by first | omega | assumption | exact Sz.of (by omega) (by omega) | exact Sz.mono (by assumption) (by omega)), (by first | omega | assumption | exact Sz.of (by omega) (by omega) | exact Sz.mono (by assumption) (by omega)), fun r36 xs37 H38 w39 f40 q41 q42 => ?_⟩
                refine ⟨fun σ' H' => ∃ (whole43 : Int) (xs44 : List V), σ' = [some (V.ref source), some (V.int divisor), some (V.int r1), some (V.int part23), some (V.int whole43)] ∧ Wd I ((source, .lst xs44) :: O) H' ∧ SrcOk I xs44 ∧ 0 ≤ whole43 ∧ Sz 110 whole43, ?_, ?_⟩
                · refine ⟨_, rfl, I, (O), source, (xs37), 3, rfl, w39, f40, (by first | omega | assumption | exact Sz.of (by omega) (by omega) | exact Sz.mono (by assumption) (by omega)), (by first | omega | assumption | exact Sz.of (by omega) (by omega) | exact Sz.mono (by assumption) (by omega)), fun r47 xs48 H49 w50 f51 q52 q53 => ?_⟩
                  refine ⟨rfl, _, rfl, ?_⟩
                  refine iEqI (fun h54 => ?_) (fun h54 => ?_)
                  · refine ⟨_, rfl, _, rfl, I, (O), source, (xs48), rfl, w50, f51, fun r55 xs56 H57 w58 f59 q60 q61 => ?_⟩
                    refine ⟨_, _, rfl, rfl, ?_⟩
                    exact ⟨(r36 + r55), _, rfl, w58, f59, (by first | omega | assumption | exact Sz.of (by omega) (by omega) | exact Sz.mono (by assumption) (by omega)), (by first | omega | assumption | exact Sz.of (by omega) (by omega) | exact Sz.mono (by assumption) (by omega))⟩
                  · exact ⟨r36, _, rfl, w50, f51, (by first | omega | assumption | exact Sz.of (by omega) (by omega) | exact Sz.mono (by assumption) (by omega)), (by first | omega | assumption | exact Sz.of (by omega) (by omega) | exact Sz.mono (by assumption) (by omega))⟩
                · rintro σ' H62 ⟨whole43, xs44, rfl, w46, f45, hw0, hw⟩
                  refine ⟨_, rfl, _, rfl, _, _, rfl, rfl, (Sz.cmul hw e2), _, rfl, _, _, rfl, rfl, _, rfl, I, (O), source, (xs44), 2, rfl, w46, f45, (by first | omega | assumption | exact Sz.of (by omega) (by omega) | exact Sz.mono (by assumption) (by omega)), (by first | omega | assumption | exact Sz.of (by omega) (by omega) | exact Sz.mono (by assumption) (by omega)), fun r63 xs64 H65 w66 f67 q68 q69 => ?_⟩
                  refine ⟨_, _, rfl, rfl, .inl ⟨by decide, by decide⟩, _, _, rfl, rfl, _, _, rfl, rfl, (Sz.cmul (num_sz hw e2 hp0 hp1 (by omega)) (Sz.of (n := 2) (by omega) (by omega))), ?_⟩
                  exact k (((whole43 * divisor) + part23) * (1 - (2 * r63))) _ _ w66 f67 (by exact Sz.mono (Sz.mul (num_sz hw e2 hp0 hp1 (by omega)) (Sz.of (n := 2) (by omega) (by omega))) (by decide))
end
def sp_law_integer (K : PySem.W.Frag) : Sp := fun vs H Q E => ∃ (value : Int), vs = [.int value] ∧ (∀ (r : Bool), r = true → Q (.bl r) H)
section
variable {P : Program} {w : World} {K : PySem.W.Frag} {mg : Str → Option Value} {base : Heap}
theorem sc_law_integer : FnScope ["value"] ["value"] (defScope s_law_integer) := ⟨rfl, rfl, rfl, by decide +kernel, rfl, by decide +kernel, by decide +kernel⟩
theorem b_law_integer (T : Txt K mg w) : Binds K (fdOf K (a_law_integer K)) ["value"] [] := T.f_law_integer.bindsN fun _ _ _ _ _ _ us hl => match us, hl with | [_], _ => rfl
theorem ok_law_integer (T : Txt K mg w) : FnOk P w K mg base CX0 1 (a_law_integer K) (fdOf K (a_law_integer K)) ["value"] (sp_law_integer K) := by
  refine T.f_law_integer.ok sc_law_integer (fun vs H Q E h => ?_) (fun cdv A outer s H vs Q E hr h => ?_)
  · obtain ⟨_, rfl, _⟩ := h
    rfl
  · obtain ⟨value, rfl, k⟩ := h
    refine ⟨_, PSs.nox (pss_one (ps_ret (pe_and (pe_callB call_isi (by rfl) T.n_isinstance (by decide +kernel) (pa_cons (pv 0) (pa_cons (pe_bltn (v := .ty "int") (by rfl) T.n_int (by decide +kernel) rfl) (pa_nil)))) (pe_one (pe_not (pe_callB call_isi (by rfl) T.n_isinstance (by decide +kernel) (pa_cons (pv 0) (pa_cons (pe_bltn (v := .ty "bool") (by rfl) T.n_bool (by decide +kernel) rfl) (pa_nil))))))))), ?_⟩
    refine ⟨_, rfl, _, _, .type "int", .type "int", true, rfl, .ty _, .base (TyOf.int _), kit_ty (by decide +kernel), _, rfl, ?_⟩
    refine ⟨_, rfl, _, _, .type "int", .type "bool", false, rfl, .ty _, .base (TyOf.int _), kit_ty (by decide +kernel), _, rfl, ?_⟩
    exact k (!false) (by rfl)
end
def sp_law_steady (K : PySem.W.Frag) : Sp := fun vs H Q E => ∃ (I : Hp) (O : List (Addr × HO)) (mode : Str), vs = [.str mode] ∧ Wd I (O) H ∧ (∀ (r : Bool) (I' : Hp) (H' : Hp), Same I I' → Wd I' (O) H' → r = decide (mode ∈ steadyL) → Q (.bl r) H')
section
variable {P : Program} {w : World} {K : PySem.W.Frag} {mg : Str → Option Value} {base : Heap}
theorem sc_law_steady : FnScope ["mode"] ["mode"] (defScope s_law_steady) := ⟨rfl, rfl, rfl, by decide +kernel, rfl, by decide +kernel, by decide +kernel⟩
theorem b_law_steady (T : Txt K mg w) : Binds K (fdOf K (a_law_steady K)) ["mode"] [] := T.f_law_steady.bindsN fun _ _ _ _ _ _ us hl => match us, hl with | [_], _ => rfl
theorem ok_law_steady (T : Txt K mg w) : FnOk P w K mg base CX0 1 (a_law_steady K) (fdOf K (a_law_steady K)) ["mode"] (sp_law_steady K) := by
  refine T.f_law_steady.ok sc_law_steady (fun vs H Q E h => ?_) (fun cdv A outer s H vs Q E hr h => ?_)
  · obtain ⟨_, _, _, rfl, _, _⟩ := h
    rfl
  · obtain ⟨I, O, mode, rfl, w, k⟩ := h
    refine ⟨_, PSs.nox (pss_one (ps_ret (pe_cmpR op_in_seq (pv 0) (pe_lst (pa_cons (pe_str) (pa_cons (pe_str) (pa_cons (pe_str) (pa_cons (pe_str) (pa_cons (pe_str) (pa_nil))))))) (by rfl)))), ?_⟩
    refine ⟨_, rfl, (by show 5 ≤ sizeLine; decide), fun p1 hp2 => ?_⟩
    have s3 := w.newS (o := .lst [(V.str ("nearest-even" : Str)), (V.str ("nearest-up" : Str)), (V.str ("nearest-down" : Str)), (V.str ("upward" : Str)), (V.str ("downward" : Str))]) hp2
    have w4 := w.new (o := .lst [(V.str ("nearest-even" : Str)), (V.str ("nearest-up" : Str)), (V.str ("nearest-down" : Str)), (V.str ("upward" : Str)), (V.str ("downward" : Str))]) hp2
    refine ⟨_, _, rfl, .inl (SqL.of (w4.get upd_same)), rfl, rfl, ?_⟩
    exact k (inV (V.str mode) [(V.str ("nearest-even" : Str)), (V.str ("nearest-up" : Str)), (V.str ("nearest-down" : Str)), (V.str ("upward" : Str)), (V.str ("downward" : Str))]) _ _ (s3) w4 (by exact inV_str mode steadyL)
end
def sp_law_related (K : PySem.W.Frag) : Sp := fun vs H Q E => ∃ (I : Hp) (O : List (Addr × HO)) (numerator : Int) (divisor : Int) (mode : Str) (factor : Int) (step : Int), vs = [.int numerator, .int divisor, .str mode, .int factor, .int step] ∧ Wd I (O) H ∧ 0 < divisor ∧ Sz 170 divisor ∧ Sz 420 numerator ∧ mode ∈ modesL ∧ 2 ≤ factor ∧ factor ≤ 1001 ∧ 0 ≤ step ∧ (∀ (r : Bool) (I' : Hp) (H' : Hp), Same I I' → Wd I' (O) H' → r = true → Q (.bl r) H')
section
variable {P : Program} {w : World} {K : PySem.W.Frag} {mg : Str → Option Value} {base : Heap}
theorem sc_law_related : FnScope ["numerator", "divisor", "mode", "factor", "step", "result", "back", "low", "later", "far"] ["numerator", "divisor", "mode", "factor", "step"] (defScope s_law_related) := ⟨rfl, rfl, rfl, by decide +kernel, rfl, by decide +kernel, by decide +kernel⟩
theorem b_law_related (T : Txt K mg w) : Binds K (fdOf K (a_law_related K)) ["numerator", "divisor", "mode", "factor", "step"] [] := T.f_law_related.bindsN fun _ _ _ _ _ _ us hl => match us, hl with | [_, _, _, _, _], _ => rfl
theorem ok_law_related (T : Txt K mg w) : FnOk P w K mg base CX0 3 (a_law_related K) (fdOf K (a_law_related K)) ["numerator", "divisor", "mode", "factor", "step"] (sp_law_related K) := by
  refine T.f_law_related.ok sc_law_related (fun vs H Q E h => ?_) (fun cdv A outer s H vs Q E hr h => ?_)
  · obtain ⟨_, _, _, _, _, _, _, rfl, _, _, _, _, _, _, _, _, _⟩ := h
    rfl
  · obtain ⟨I, O, numerator, divisor, mode, factor, step, rfl, w, e1, e2, e3, e4, e5, e6, e7, k⟩ := h
    refine ⟨_, PSs.nox (pss_cons (ps_set (i := 5) sc_law_related.nd rfl (Or.inl rfl) (pe_call (ok_round_quotient T) (hr.mono (by decide)) (by rfl) T.g_round_quotient T.f_round_quotient.kp (b_round_quotient T) .nil pass0 (pa_cons (pv 0) (pa_cons (pv 1) (pa_cons (pv 2) (pa_nil)))))) (pss_cons (ps_set (i := 6) sc_law_related.nd rfl (Or.inl rfl) (pe_call (ok_mirror T) (hr.mono (by decide)) (by rfl) T.g_mirror T.f_mirror.kp (b_mirror T) .nil pass0 (pa_cons (pv 2) (pa_nil)))) (pss_cons (ps_if (PW.pt (pw_or (pt_not (pt_val (pe_call (ok_law_integer T) (hr.mono (by decide)) (by rfl) T.g_law_integer T.f_law_integer.kp (b_law_integer T) .nil pass0 (pa_cons (pv 5) (pa_nil))))) (pw_or1 (pt_not (pt_val (pe_call (ok_law_equal_str T) (hr.mono (by decide)) (by rfl) T.g_law_equal T.f_law_equal.kp (b_law_equal_str T) .nil pass0 (pa_cons (pv 6) (pa_cons (pe_call (ok_law_mirror T) (hr.mono (by decide)) (by rfl) T.g_law_mirror T.f_law_mirror.kp (b_law_mirror T) .nil pass0 (pa_cons (pv 2) (pa_nil))) (pa_nil))))))))) (pss_one (ps_never)) (pss_nil)) (pss_cons (ps_set (i := 7) sc_law_related.nd rfl (Or.inl rfl) (pe_op op_fdivW (pv 0) (pv 1))) (pss_cons (ps_if (PW.pt (pw_or (pt_cmpR op_lt (pv 5) (pv 7) (nomark _)) (pw_or1 (pt_cmpR op_gt (pv 5) (pe_op op_add (pv 7) (pe_callTy call_int1 (by rfl) T.n_int (by decide +kernel) (pa_cons (pe_cmpR op_gt (pe_op op_mod (pe_callTy call_int1 (by rfl) T.n_int (by decide +kernel) (pa_cons (pv 0) (pa_nil))) (pv 1)) (pe_int) (nomark _)) (pa_nil)))) (nomark _))))) (pss_one (ps_never)) (pss_nil)) (pss_cons (ps_if (pt_not (pt_val (pe_call (ok_law_equal_int T) (hr.mono (by decide)) (by rfl) T.g_law_equal T.f_law_equal.kp (b_law_equal_int T) .nil pass0 (pa_cons (pe_call (ok_round_quotient T) (hr.mono (by decide)) (by rfl) T.g_round_quotient T.f_round_quotient.kp (b_round_quotient T) .nil pass0 (pa_cons (pe_op op_sub (pe_int) (pv 0)) (pa_cons (pv 1) (pa_cons (pv 6) (pa_nil))))) (pa_cons (pe_op op_sub (pe_int) (pv 5)) (pa_nil)))))) (pss_one (ps_never)) (pss_nil)) (pss_cons (ps_if (pt_not (pt_val (pe_call (ok_law_equal_int T) (hr.mono (by decide)) (by rfl) T.g_law_equal T.f_law_equal.kp (b_law_equal_int T) .nil pass0 (pa_cons (pe_call (ok_round_quotient T) (hr.mono (by decide)) (by rfl) T.g_round_quotient T.f_round_quotient.kp (b_round_quotient T) .nil pass0 (pa_cons (pe_op op_mulW (pv 0) (pv 3)) (pa_cons (pe_op op_mulW (pv 1) (pv 3)) (pa_cons (pv 2) (pa_nil))))) (pa_cons (pv 5) (pa_nil)))))) (pss_one (ps_never)) (pss_nil)) (pss_cons (ps_set (i := 8) sc_law_related.nd rfl (Or.inl rfl) (pe_call (ok_round_quotient T) (hr.mono (by decide)) (by rfl) T.g_round_quotient T.f_round_quotient.kp (b_round_quotient T) .nil pass0 (pa_cons (pe_op op_add (pv 0) (pv 4)) (pa_cons (pv 1) (pa_cons (pv 2) (pa_nil)))))) (pss_cons (ps_if (PW.pt (pw_or (pt_not (pt_val (pe_call (ok_law_integer T) (hr.mono (by decide)) (by rfl) T.g_law_integer T.f_law_integer.kp (b_law_integer T) .nil pass0 (pa_cons (pv 8) (pa_nil))))) (pw_or1 (pt_cmpR op_lt (pv 8) (pv 5) (nomark _))))) (pss_one (ps_never)) (pss_nil)) (pss_cons (ps_set (i := 9) sc_law_related.nd rfl (Or.inl rfl) (pe_call (ok_round_quotient T) (hr.mono (by decide)) (by rfl) T.g_round_quotient T.f_round_quotient.kp (b_round_quotient T) .nil pass0 (pa_cons (pe_op op_add (pv 0) (pe_op op_mulW (pe_op op_mul (pe_int) (pv 3)) (pv 1))) (pa_cons (pv 1) (pa_cons (pv 2) (pa_nil)))))) (pss_one (ps_ret (pe_or (pe_not (pe_call (ok_law_steady T) (hr.mono (by decide)) (by rfl) T.g_law_steady T.f_law_steady.kp (b_law_steady T) .nil pass0 (pa_cons (pv 2) (pa_nil)))) (pe_one (pe_call (ok_law_equal_int T) (hr.mono (by decide)) (by rfl) T.g_law_equal T.f_law_equal.kp (b_law_equal_int T) .nil pass0 (pa_cons (pv 9) (pa_cons (pe_op op_add (pv 5) (pe_op op_mul (pe_int) (pv 3))) (pa_nil)))))))))))))))))), ?_⟩
    refine ⟨_, rfl, _, rfl, _, rfl, I, (O), numerator, divisor, mode, rfl, w, (by first | assumption | omega | exact mirror_mem (by assumption) | exact Sz.mono (by assumption) (by decide)), (by first | assumption | omega | exact mirror_mem (by assumption) | exact Sz.mono (by assumption) (by decide)), (by first | assumption | omega | exact mirror_mem (by assumption) | exact Sz.mono (by assumption) (by decide)), fun r1 I2 H4 s3 w5 q6 => ?_⟩
    subst q6
    refine ⟨_, rfl, mode, rfl, (by first | assumption | omega | exact mirror_mem (by assumption) | exact Sz.mono (by assumption) (by decide)), fun r7 q8 => ?_⟩
    subst q8
    refine ⟨_, rfl, (rq numerator divisor mode), rfl, fun r9 q10 => ?_⟩
    subst q10
    refine ⟨_, rfl, ?_⟩
    refine ⟨_, rfl, _, rfl, I2, (O), mode, rfl, w5, (by first | assumption | omega | exact mirror_mem (by assumption) | exact Sz.mono (by assumption) (by decide)), fun r12 I13 H15 s14 w16 q17 => ?_⟩
    subst q17
    refine ⟨(mirrorS mode), (mirrorS mode), rfl, fun r18 q19 => ?_⟩
    subst q19
    refine ⟨_, rfl, ?_⟩
    refine iND (fun h20 => (by exact absurd rfl h20)) (fun h20 => ?_)
    refine ⟨_, rfl, _, rfl, _, _, rfl, rfl, (Sz.cdiv e1 e2), _, rfl, _, rfl, _, _, rfl, rfl, _, rfl, ?_⟩
    refine iD (fun h21 => (by exfalso; have hb := rq_bounds (n := numerator) (d := divisor) (m := mode); have h0 := Int.emod_nonneg numerator (show divisor ≠ 0 by omega); omega)) (fun h21 => ?_)
    refine ⟨_, rfl, _, rfl, _, rfl, .inl ⟨_, rfl, ?_⟩⟩
    refine ⟨_, rfl, _, _, rfl, rfl, (by show (0 : Int) < divisor; omega), _, _, rfl, rfl, .inr ⟨_, rfl, ?_⟩⟩
    refine ⟨_, _, rfl, rfl, _, _, rfl, rfl, _, rfl, ?_⟩
    refine iD (fun h22 => (by exfalso; have hb := rq_bounds (n := numerator) (d := divisor) (m := mode); have h0 := Int.emod_nonneg numerator (show divisor ≠ 0 by omega); simp only [decide_eq_true_eq] at *; split at hb <;> split at h22 <;> omega)) (fun h22 => ?_)
    refine ⟨_, rfl, _, _, rfl, rfl, _, rfl, _, rfl, I13, (O), (0 - numerator), divisor, (mirrorS mode), rfl, w16, (by first | assumption | omega | exact mirror_mem (by assumption) | exact Sz.mono (by assumption) (by decide)), (by first | assumption | omega | exact mirror_mem (by assumption) | exact Sz.mono (by assumption) (by decide)), (by first | assumption | omega | exact mirror_mem (by assumption) | exact Sz.mono (by assumption) (by decide)), fun r23 I24 H26 s25 w27 q28 => ?_⟩
    subst q28
    refine ⟨_, rfl, _, _, rfl, rfl, (rq (0 - numerator) divisor (mirrorS mode)), (0 - (rq numerator divisor mode)), rfl, fun r29 q30 => ?_⟩
    subst q30
    refine ⟨_, rfl, ?_⟩
    refine iND (fun h31 => (by exact absurd (rq_mirror e4 e1) h31)) (fun h31 => ?_)
    refine ⟨_, rfl, _, rfl, _, _, rfl, rfl, (Sz.cmul e3 (Sz.of (n := 10) (by omega) (by omega))), _, rfl, _, rfl, _, _, rfl, rfl, (Sz.cmul e2 (Sz.of (n := 10) (by omega) (by omega))), _, rfl, I24, (O), (numerator * factor), (divisor * factor), mode, rfl, w27, (by first | assumption | exact Int.mul_pos e1 (by omega) | exact Sz.mono (Sz.mul e2 (Sz.of (n := 10) (by omega) (by omega))) (by decide)), (by first | assumption | exact Int.mul_pos e1 (by omega) | exact Sz.mono (Sz.mul e2 (Sz.of (n := 10) (by omega) (by omega))) (by decide)), (by first | assumption | exact Int.mul_pos e1 (by omega) | exact Sz.mono (Sz.mul e2 (Sz.of (n := 10) (by omega) (by omega))) (by decide)), fun r32 I33 H35 s34 w36 q37 => ?_⟩
    subst q37
    refine ⟨_, rfl, (rq (numerator * factor) (divisor * factor) mode), (rq numerator divisor mode), rfl, fun r38 q39 => ?_⟩
    subst q39
    refine ⟨_, rfl, ?_⟩
    refine iND (fun h40 => (by exact absurd (rq_scale e4 e1 (by omega)) h40)) (fun h40 => ?_)
    refine ⟨_, rfl, _, rfl, _, _, rfl, rfl, _, rfl, _, rfl, I33, (O), (numerator + step), divisor, mode, rfl, w36, (by first | assumption | omega | exact mirror_mem (by assumption) | exact Sz.mono (by assumption) (by decide)), (by first | assumption | omega | exact mirror_mem (by assumption) | exact Sz.mono (by assumption) (by decide)), (by first | assumption | omega | exact mirror_mem (by assumption) | exact Sz.mono (by assumption) (by decide)), fun r41 I42 H44 s43 w45 q46 => ?_⟩
    subst q46
    refine ⟨_, rfl, (rq (numerator + step) divisor mode), rfl, fun r47 q48 => ?_⟩
    subst q48
    refine ⟨_, rfl, ?_⟩
    refine ⟨_, rfl, _, rfl, _, _, rfl, rfl, _, rfl, ?_⟩
    refine iD (fun h50 => (by exact absurd (rq_mono (n := numerator) (n' := numerator + step) e4 e1 (by omega)) (by omega))) (fun h50 => ?_)
    refine ⟨_, rfl, _, rfl, _, _, rfl, rfl, .inl ⟨by decide, by decide⟩, _, rfl, _, _, rfl, rfl, (Sz.cmul (Sz.of (n := 12) (by omega) (by omega)) e2), _, _, rfl, rfl, _, rfl, _, rfl, I42, (O), (numerator + ((2 * factor) * divisor)), divisor, mode, rfl, w45, (by first | assumption | omega | exact mirror_mem (by assumption) | exact Sz.mono (by assumption) (by decide)), (by first | assumption | omega | exact mirror_mem (by assumption) | exact Sz.mono (by assumption) (by decide)), (by first | assumption | omega | exact mirror_mem (by assumption) | exact Sz.mono (by assumption) (by decide)), fun r51 I52 H54 s53 w55 q56 => ?_⟩
    subst q56
    refine ⟨_, rfl, I52, (O), mode, rfl, w55, fun r57 I58 H60 s59 w61 q62 => ?_⟩
    subst q62
    refine ⟨_, rfl, _, rfl, ?_⟩
    refine iND (fun h64 => ?_) (fun h64 => ?_)
    · exact k true _ _ ((Same.trans (Same.trans (Same.trans (Same.trans (Same.trans (Same.trans s3 s14) s25) s34) s43) s53) s59)) w61 (by first | rfl | exact decide_eq_true (rq_shift (by assumption) (by assumption)))
    · refine ⟨_, rfl, _, rfl, _, rfl, _, _, rfl, rfl, .inl ⟨by decide, by decide⟩, _, _, rfl, rfl, (rq (numerator + ((2 * factor) * divisor)) divisor mode), ((rq numerator divisor mode) + (2 * factor)), rfl, fun r65 q66 => ?_⟩
      subst q66
      exact k (decide ((rq (numerator + ((2 * factor) * divisor)) divisor mode) = ((rq numerator divisor mode) + (2 * factor)))) _ _ ((Same.trans (Same.trans (Same.trans (Same.trans (Same.trans (Same.trans s3 s14) s25) s34) s43) s53) s59)) w61 (by first | rfl | exact decide_eq_true (rq_shift (by assumption) (by assumption)))
end
def sp_law (K : PySem.W.Frag) : Sp := fun vs H Q E => ∃ (I : Hp) (O : List (Addr × HO)) (script : Addr) (script_l : List Int), vs = [.ref script] ∧ Wd I (O) H ∧ SqL K I script (script_l.map V.int) ∧ script_l.length ≤ 63 ∧ (∀ (r : Bool) (I' : Hp) (H' : Hp), Same I I' → Wd I' (O) H' → r = true → Q (.bl r) H')
section
variable {P : Program} {w : World} {K : PySem.W.Frag} {mg : Str → Option Value} {base : Heap}
theorem sc_law : FnScope ["script", "source", "k", "divisor", "numerator", "factor", "step", "tie", "mode"] ["script"] (defScope s_law) := ⟨rfl, rfl, rfl, by decide +kernel, rfl, by decide +kernel, by decide +kernel⟩
theorem b_law (T : Txt K mg w) : Binds K (fdOf K (a_law K)) ["script"] [] := T.f_law.bindsN fun _ _ _ _ _ _ us hl => match us, hl with | [_], _ => rfl
theorem ok_law (T : Txt K mg w) : FnOk P w K mg base CX0 4 (a_law K) (fdOf K (a_law K)) ["script"] (sp_law K) := by
  refine T.f_law.ok sc_law (fun vs H Q E h => ?_) (fun cdv A outer s H vs Q E hr h => ?_)
  · obtain ⟨_, _, _, _, rfl, _, _, _, _⟩ := h
    rfl
  · obtain ⟨I, O, script, script_l, rfl, w, f_script, f_script1, k⟩ := h
    refine ⟨_, PSs.nox (pss_cons (ps_set (i := 1) sc_law.nd rfl (Or.inl rfl) (pe_call (ok_law_source T) (hr.mono (by decide)) (by rfl) T.g_law_source T.f_law_source.kp (b_law_source T) .nil pass0 (pa_cons (pv 0) (pa_nil)))) (pss_cons (ps_for PassesOwn.never rfl (pi_range1 (by rfl) T.n_range (pa_cons (pe_op op_add (pe_int) (pe_call (ok_law_draw T) (hr.mono (by decide)) (by rfl) T.g_law_draw T.f_law_draw.kp (b_law_draw T) .nil pass0 (pa_cons (pv 1) (pa_cons (pe_int) (pa_nil))))) (pa_nil))) (pg_name (i := 2) sc_law.nd rfl (Or.inl rfl)) (pss_cons (ps_set (i := 3) sc_law.nd rfl (Or.inl rfl) (pe_call (ok_law_divisor T) (hr.mono (by decide)) (by rfl) T.g_law_divisor T.f_law_divisor.kp (b_law_divisor T) .nil pass0 (pa_cons (pv 1) (pa_nil)))) (pss_cons (ps_set (i := 4) sc_law.nd rfl (Or.inl rfl) (pe_call (ok_law_numerator T) (hr.mono (by decide)) (by rfl) T.g_law_numerator T.f_law_numerator.kp (b_law_numerator T) .nil pass0 (pa_cons (pv 1) (pa_cons (pv 3) (pa_nil))))) (pss_cons (ps_set (i := 5) sc_law.nd rfl (Or.inl rfl) (pe_op op_add (pe_int) (pe_call (ok_law_draw T) (hr.mono (by decide)) (by rfl) T.g_law_draw T.f_law_draw.kp (b_law_draw T) .nil pass0 (pa_cons (pv 1) (pa_cons (pe_int) (pa_nil)))))) (pss_cons (ps_set (i := 6) sc_law.nd rfl (Or.inl rfl) (pe_call (ok_law_draw T) (hr.mono (by decide)) (by rfl) T.g_law_draw T.f_law_draw.kp (b_law_draw T) .nil pass0 (pa_cons (pv 1) (pa_cons (pe_op op_add (pv 3) (pe_int)) (pa_nil))))) (pss_cons (ps_set (i := 7) sc_law.nd rfl (Or.inl rfl) (pe_op op_mulW (pe_op op_mulW (pe_op op_add (pe_op op_mul (pe_int) (pe_call (ok_law_draw T) (hr.mono (by decide)) (by rfl) T.g_law_draw T.f_law_draw.kp (b_law_draw T) .nil pass0 (pa_cons (pv 1) (pa_cons (pe_int) (pa_nil))))) (pe_int)) (pv 3)) (pe_op op_sub (pe_int) (pe_op op_mul (pe_int) (pe_call (ok_law_draw T) (hr.mono (by decide)) (by rfl) T.g_law_draw T.f_law_draw.kp (b_law_draw T) .nil pass0 (pa_cons (pv 1) (pa_cons (pe_int) (pa_nil)))))))) (pss_one (ps_for PassesOwn.never rfl (pi_list (pe_call0 (ok_law_modes T) (hr.mono (by decide)) (by rfl) T.g_law_modes T.f_law_modes.kp (b_law_modes T) .nil pass0)) (pg_name (i := 8) sc_law.nd rfl (Or.inl rfl)) (pss_cons (ps_if (pt_not (pt_val (pe_call (ok_law_related T) (hr.mono (by decide)) (by rfl) T.g_law_related T.f_law_related.kp (b_law_related T) .nil pass0 (pa_cons (pv 4) (pa_cons (pv 3) (pa_cons (pv 8) (pa_cons (pv 5) (pa_cons (pv 6) (pa_nil))))))))) (pss_one (ps_never)) (pss_nil)) (pss_one (ps_if (pt_not (pt_val (pe_call (ok_law_related T) (hr.mono (by decide)) (by rfl) T.g_law_related T.f_law_related.kp (b_law_related T) .nil pass0 (pa_cons (pv 7) (pa_cons (pe_op op_mul (pe_int) (pv 3)) (pa_cons (pv 8) (pa_cons (pv 5) (pa_cons (pv 6) (pa_nil))))))))) (pss_one (ps_never)) (pss_nil)))))))))))) (pss_one (ps_ret (pe_bl))))), ?_⟩
    refine ⟨_, rfl, I, (O), script, _, rfl, w, f_script, ‹_›, fun r1 r1_s I2 H4 s3 w5 f6 => ?_⟩
    refine ⟨_, rfl, I2, (O), r1, (r1_s), 2, rfl, w5, f6, (by first | rfl | assumption | omega), (by first | rfl | assumption | omega), fun r7 xs8 H9 w10 f11 q12 q13 => ?_⟩
    refine ⟨_, _, rfl, rfl, _, rfl, (by omega), (by omega), for_range (lo := 0) (n := ((1 + r7)).toNat) (fun i25 σ' H' => ∃ (o14 : Option V) (o15 : Option V) (o16 : Option V) (o17 : Option V) (o18 : Option V) (o19 : Option V) (o20 : Option V) (I21 : Hp) (xs23 : List V), σ' = [some (V.ref script), some (V.ref r1), o14, o15, o16, o17, o18, o19, o20] ∧ Same I2 I21 ∧ Wd I21 ((r1, .lst xs23) :: O) H' ∧ SrcOk I21 xs23) ⟨_, _, _, _, _, _, _, _, _, rfl, (Same.refl _), w10, f11⟩ ?_ ?_⟩
    · rintro i29 _ H27 hi28 ⟨o14, o15, o16, o17, o18, o19, o20, I21, xs23, rfl, s22, w26, f24⟩
      refine ⟨_, rfl, I21, (O), r1, (xs23), rfl, w26, f24, fun r30 xs31 H32 w33 f34 q35 q36 => ?_⟩
      refine ⟨_, rfl, _, rfl, I21, (O), r1, (xs31), r30, rfl, w33, f34, (by first | rfl | assumption | omega), (by first | rfl | assumption | omega), fun r37 xs38 H39 w40 f41 q42 => ?_⟩
      refine ⟨_, rfl, I21, (O), r1, (xs38), 1000, rfl, w40, f41, (by first | rfl | assumption | omega), (by first | rfl | assumption | omega), fun r43 xs44 H45 w46 f47 q48 q49 => ?_⟩
      refine ⟨_, _, rfl, rfl, _, rfl, _, rfl, _, _, rfl, rfl, I21, (O), r1, (xs44), (r30 + 3), rfl, w46, f47, (by first | omega | (have := Sz.lo ‹Sz 160 _›; omega)), (by first | omega | (have := Sz.lo ‹Sz 160 _›; omega)), fun r50 xs51 H52 w53 f54 q55 q56 => ?_⟩
      refine ⟨_, rfl, I21, (O), r1, (xs51), 50, rfl, w53, f54, (by first | rfl | assumption | omega), (by first | rfl | assumption | omega), fun r57 xs58 H59 w60 f61 q62 q63 => ?_⟩
      refine ⟨_, _, rfl, rfl, .inl ⟨by decide, by decide⟩, _, _, rfl, rfl, _, rfl, _, _, rfl, rfl, (Sz.cmul (Sz.of (n := 8) (by omega) (by omega)) ‹Sz 160 _›), _, rfl, I21, (O), r1, (xs58), 2, rfl, w60, f61, (by first | rfl | assumption | omega), (by first | rfl | assumption | omega), fun r64 xs65 H66 w67 f68 q69 q70 => ?_⟩
      refine ⟨_, _, rfl, rfl, .inl ⟨by decide, by decide⟩, _, _, rfl, rfl, _, _, rfl, rfl, (Sz.cmul (Sz.mul (Sz.of (n := 8) (by omega) (by omega)) ‹Sz 160 _›) (Sz.of (n := 2) (by omega) (by omega))), I21, ((r1, .lst xs65) :: O), rfl, w67, fun r71 I72 H74 s73 w75 f76 => ?_⟩
      refine ⟨_, rfl, ⟨_, (SqL.of (w75.get f76))⟩, for_list (K := K) (a := r71) (xs := (modesL.map V.str)) (fun i80 σ' H' => ∃ (o77 : Option V) (I78 : Hp), σ' = [some (V.ref script), some (V.ref r1), some (V.int (0 + (i29 : Int))), some (V.int r30), some (V.int r37), some (V.int (2 + r43)), some (V.int r50), some (V.int ((((2 * r57) + 1) * r30) * (1 - (2 * r64)))), o77] ∧ Same I72 I78 ∧ Wd I78 ((r1, .lst xs65) :: O) H') ⟨_, _, rfl, (Same.refl _), w75⟩ (?_) ?_ ?_⟩
      · rintro _ _ H82 _ ⟨o77, I78, rfl, s79, w81⟩
        exact (SqL.of (w81.get (s79 _ _ f76)))
      · rintro i85 x86 _ H83 hi84 ⟨o77, I78, rfl, s79, w81⟩
        obtain ⟨m87, hm88, rfl⟩ := get_map hi84
        have hm88m := List.mem_of_getElem? hm88
        refine ⟨_, rfl, _, rfl, _, rfl, _, rfl, _, rfl, I78, ((r1, .lst xs65) :: O), r37, r30, m87, (2 + r43), r50, rfl, w81, (by first | assumption | omega | exact Sz.mono ‹Sz 160 _› (by decide) | exact Sz.mono ‹Sz 400 _› (by decide)), (by first | assumption | omega | exact Sz.mono ‹Sz 160 _› (by decide) | exact Sz.mono ‹Sz 400 _› (by decide)), (by first | assumption | omega | exact Sz.mono ‹Sz 160 _› (by decide) | exact Sz.mono ‹Sz 400 _› (by decide)), (by first | assumption | omega | exact Sz.mono ‹Sz 160 _› (by decide) | exact Sz.mono ‹Sz 400 _› (by decide)), (by first | assumption | omega | exact Sz.mono ‹Sz 160 _› (by decide) | exact Sz.mono ‹Sz 400 _› (by decide)), (by first | assumption | omega | exact Sz.mono ‹Sz 160 _› (by decide) | exact Sz.mono ‹Sz 400 _› (by decide)), (by first | assumption | omega | exact Sz.mono ‹Sz 160 _› (by decide) | exact Sz.mono ‹Sz 400 _› (by decide)), fun r89 I90 H92 s91 w93 q94 => ?_⟩
        subst q94
        refine ⟨_, rfl, ?_⟩
        refine ⟨_, rfl, _, rfl, _, _, rfl, rfl, .inl ⟨by decide, by decide⟩, _, rfl, _, rfl, _, rfl, I90, ((r1, .lst xs65) :: O), ((((2 * r57) + 1) * r30) * (1 - (2 * r64))), (2 * r30), m87, (2 + r43), r50, rfl, w93, (by first | assumption | omega | exact Sz.mono (Sz.mul (n := 2) (by decide) ‹Sz 160 _›) (by decide) | exact Sz.mono (Sz.mul (Sz.mul (Sz.of (n := 8) (by omega) (by omega)) ‹Sz 160 _›) (Sz.of (n := 2) (by omega) (by omega))) (by decide)), (by first | assumption | omega | exact Sz.mono (Sz.mul (n := 2) (by decide) ‹Sz 160 _›) (by decide) | exact Sz.mono (Sz.mul (Sz.mul (Sz.of (n := 8) (by omega) (by omega)) ‹Sz 160 _›) (Sz.of (n := 2) (by omega) (by omega))) (by decide)), (by first | assumption | omega | exact Sz.mono (Sz.mul (n := 2) (by decide) ‹Sz 160 _›) (by decide) | exact Sz.mono (Sz.mul (Sz.mul (Sz.of (n := 8) (by omega) (by omega)) ‹Sz 160 _›) (Sz.of (n := 2) (by omega) (by omega))) (by decide)), (by first | assumption | omega | exact Sz.mono (Sz.mul (n := 2) (by decide) ‹Sz 160 _›) (by decide) | exact Sz.mono (Sz.mul (Sz.mul (Sz.of (n := 8) (by omega) (by omega)) ‹Sz 160 _›) (Sz.of (n := 2) (by omega) (by omega))) (by decide)), (by first | assumption | omega | exact Sz.mono (Sz.mul (n := 2) (by decide) ‹Sz 160 _›) (by decide) | exact Sz.mono (Sz.mul (Sz.mul (Sz.of (n := 8) (by omega) (by omega)) ‹Sz 160 _›) (Sz.of (n := 2) (by omega) (by omega))) (by decide)), (by first | assumption | omega | exact Sz.mono (Sz.mul (n := 2) (by decide) ‹Sz 160 _›) (by decide) | exact Sz.mono (Sz.mul (Sz.mul (Sz.of (n := 8) (by omega) (by omega)) ‹Sz 160 _›) (Sz.of (n := 2) (by omega) (by omega))) (by decide)), (by first | assumption | omega | exact Sz.mono (Sz.mul (n := 2) (by decide) ‹Sz 160 _›) (by decide) | exact Sz.mono (Sz.mul (Sz.mul (Sz.of (n := 8) (by omega) (by omega)) ‹Sz 160 _›) (Sz.of (n := 2) (by omega) (by omega))) (by decide)), fun r96 I97 H99 s98 w100 q101 => ?_⟩
        subst q101
        refine ⟨_, rfl, ?_⟩
        exact ⟨_, _, rfl, (Same.trans (Same.trans s79 s91) s98), w100⟩
      · rintro _ H103 ⟨o77, I78, rfl, s79, w81⟩
        exact ⟨_, _, _, _, _, _, _, _, _, rfl, (Same.trans (Same.trans s22 s73) s79), w81, (SrcOk.mono (Same.trans s73 s79) f68)⟩
    · rintro _ H104 ⟨o14, o15, o16, o17, o18, o19, o20, I21, xs23, rfl, s22, w26, f24⟩
      exact k true _ _ ((Same.trans s3 s22)) w26.rest (by first | rfl | assumption | omega)
end
def fa0 : List Bf := [gB "_law_source", gB "_law_draw", gB "goes_up", gB "tie_goes_up", gB "round_quotient", gB "check_mode", gB "_law_modes", gB "_law_power", gB "_law_big", gB "mirror", gB "_law_equal", gB "_law_mirror", gB "_law_divisor", gB "_law_numerator", gB "_law_integer", gB "_law_steady", gB "_law_related", gB "law", fB "abs", fB "bool", fB "divmod", fB "int", fB "isinstance", fB "len", fB "range"]
def fa1 : List Bf := [fB "str", gB "MODES", tB "MODES" [(.str "nearest-even"), (.str "nearest-out"), (.str "nearest-in"), (.str "nearest-up"), (.str "nearest-down"), (.str "inward"), (.str "outward"), (.str "upward"), (.str "downward")], gB "NEAREST", tB "NEAREST" [(.str "nearest-even"), (.str "nearest-out"), (.str "nearest-in"), (.str "nearest-up"), (.str "nearest-down")], gB "MIRRORS", fun _ => true, hB "MIRRORS" (modesL.map fun m => (m, mirrorOpt m))]
def fa : List Bf := fa0 ++ fa1
def d_law_source : He5.DefA := ⟨a_law_source, "_law_source", "_law_source", defArgs s_law_source, defBody s_law_source, defScope s_law_source, [], []⟩
def d_law_draw : He5.DefA := ⟨a_law_draw, "_law_draw", "_law_draw", defArgs s_law_draw, defBody s_law_draw, defScope s_law_draw, [], []⟩
def d_goes_up : He5.DefA := ⟨a_goes_up, "goes_up", "goes_up", defArgs s_goes_up, defBody s_goes_up, defScope s_goes_up, [], []⟩
def d_tie_goes_up : He5.DefA := ⟨a_tie_goes_up, "tie_goes_up", "tie_goes_up", defArgs s_tie_goes_up, defBody s_tie_goes_up, defScope s_tie_goes_up, [], []⟩
def d_round_quotient : He5.DefA := ⟨a_round_quotient, "round_quotient", "round_quotient", defArgs s_round_quotient, defBody s_round_quotient, defScope s_round_quotient, [], []⟩
def d_check_mode : He5.DefA := ⟨a_check_mode, "check_mode", "check_mode", defArgs s_check_mode, defBody s_check_mode, defScope s_check_mode, [], []⟩
def d_law_modes : He5.DefA := ⟨a_law_modes, "_law_modes", "_law_modes", defArgs s_law_modes, defBody s_law_modes, defScope s_law_modes, [], []⟩
def d_law_power : He5.DefA := ⟨a_law_power, "_law_power", "_law_power", defArgs s_law_power, defBody s_law_power, defScope s_law_power, [], []⟩
def d_law_big : He5.DefA := ⟨a_law_big, "_law_big", "_law_big", defArgs s_law_big, defBody s_law_big, defScope s_law_big, [], []⟩
def d_mirror : He5.DefA := ⟨a_mirror, "mirror", "mirror", defArgs s_mirror, defBody s_mirror, defScope s_mirror, [], []⟩
def d_law_equal : He5.DefA := ⟨a_law_equal, "_law_equal", "_law_equal", defArgs s_law_equal, defBody s_law_equal, defScope s_law_equal, [], []⟩
def d_law_mirror : He5.DefA := ⟨a_law_mirror, "_law_mirror", "_law_mirror", defArgs s_law_mirror, defBody s_law_mirror, defScope s_law_mirror, [], []⟩
def d_law_divisor : He5.DefA := ⟨a_law_divisor, "_law_divisor", "_law_divisor", defArgs s_law_divisor, defBody s_law_divisor, defScope s_law_divisor, [], []⟩
def d_law_numerator : He5.DefA := ⟨a_law_numerator, "_law_numerator", "_law_numerator", defArgs s_law_numerator, defBody s_law_numerator, defScope s_law_numerator, [], []⟩
def d_law_integer : He5.DefA := ⟨a_law_integer, "_law_integer", "_law_integer", defArgs s_law_integer, defBody s_law_integer, defScope s_law_integer, [], []⟩
def d_law_steady : He5.DefA := ⟨a_law_steady, "_law_steady", "_law_steady", defArgs s_law_steady, defBody s_law_steady, defScope s_law_steady, [], []⟩
def d_law_related : He5.DefA := ⟨a_law_related, "_law_related", "_law_related", defArgs s_law_related, defBody s_law_related, defScope s_law_related, [], []⟩
def d_law : He5.DefA := ⟨a_law, "law", "law", defArgs s_law, defBody s_law, defScope s_law, [], []⟩
def fn0 : List He5.DefA := [d_law_source, d_law_draw, d_goes_up, d_tie_goes_up, d_round_quotient, d_check_mode, d_law_modes, d_law_power, d_law_big, d_mirror, d_law_equal, d_law_mirror, d_law_divisor, d_law_numerator, d_law_integer, d_law_steady, d_law_related, d_law]
def fn : List He5.DefA := fn0
def loose0 : List Str := ["LostError", "BadMode", "MODES", "NEAREST", "MIRRORS", "check_mode", "mirror", "goes_up", "tie_goes_up", "round_quotient", "_law_source", "_law_draw", "_law_modes", "_law_power", "_law_mirror", "_law_equal", "_law_big", "_law_divisor", "_law_numerator", "_law_integer", "_law_steady", "_law_related"]
def loose : List Str := loose0
def ts0 : List (Tb × List Str) := [(fun K => He.ga K "MIRRORS", ["nearest-up", "nearest-down", "upward", "downward"])]
def ts : List (Tb × List Str) := ts0
abbrev R : PySem.W.OpenRow := PySem.W.OpenLaw.row PySem.Challenge.rw_lostpart_k09_whole_mirrored_rounding
abbrev hk : PySem.W.Hook := hookB 5 fa fn ts
def ob (s : PySem.W.SharedT) : AlB := obsBG 5 fa fn ts (HandSHeadRun.getT s)
theorem ob_eq (s : PySem.W.SharedT) : ob s = hk.obs s.abs := obsBG_eq (HandSHeadRun.getT_eq s)
theorem run_false (w : World) : HandSHeadRun.RunEq R (PySem.W.view R.prog [25]) hk ob 20000 loose (w.withFollow "special-get-raises" false) := by
  intro os
  kernel_rfl
theorem run_true (w : World) : HandSHeadRun.RunEq R (PySem.W.view R.prog [25]) hk ob 20000 loose (w.withFollow "special-get-raises" true) := by
  intro os
  kernel_rfl
theorem run (w : World) : HandSHeadRun.RunEq R (PySem.W.view R.prog [25]) hk ob 20000 loose w := PySem.W.byRow2 "special-get-raises" (P := fun w => HandSHeadRun.RunEq R (PySem.W.view R.prog [25]) hk ob 20000 loose w) run_false run_true w
theorem txt_of {K : PySem.W.Frag} {h : Heap} {mg : Str → Option Value} {w : World} (X : K.In h) (G : h.Ns mainGlobals mg) (c : SaysB fa fn ts w K) : Txt K mg w where
  f_law_source := c.def_ 0 rfl
  f_law_draw := c.def_ 1 rfl
  f_goes_up := c.def_ 2 rfl
  f_tie_goes_up := c.def_ 3 rfl
  f_round_quotient := c.def_ 4 rfl
  f_check_mode := c.def_ 5 rfl
  f_law_modes := c.def_ 6 rfl
  f_law_power := c.def_ 7 rfl
  f_law_big := c.def_ 8 rfl
  f_mirror := c.def_ 9 rfl
  f_law_equal := c.def_ 10 rfl
  f_law_mirror := c.def_ 11 rfl
  f_law_divisor := c.def_ 12 rfl
  f_law_numerator := c.def_ 13 rfl
  f_law_integer := c.def_ 14 rfl
  f_law_steady := c.def_ 15 rfl
  f_law_related := c.def_ 16 rfl
  f_law := c.def_ 17 rfl
  g_law_source := PySem.W.mg_of X G (He.eqO_ok (c.fact 0 rfl))
  g_law_draw := PySem.W.mg_of X G (He.eqO_ok (c.fact 1 rfl))
  g_goes_up := PySem.W.mg_of X G (He.eqO_ok (c.fact 2 rfl))
  g_tie_goes_up := PySem.W.mg_of X G (He.eqO_ok (c.fact 3 rfl))
  g_round_quotient := PySem.W.mg_of X G (He.eqO_ok (c.fact 4 rfl))
  g_check_mode := PySem.W.mg_of X G (He.eqO_ok (c.fact 5 rfl))
  g_law_modes := PySem.W.mg_of X G (He.eqO_ok (c.fact 6 rfl))
  g_law_power := PySem.W.mg_of X G (He.eqO_ok (c.fact 7 rfl))
  g_law_big := PySem.W.mg_of X G (He.eqO_ok (c.fact 8 rfl))
  g_mirror := PySem.W.mg_of X G (He.eqO_ok (c.fact 9 rfl))
  g_law_equal := PySem.W.mg_of X G (He.eqO_ok (c.fact 10 rfl))
  g_law_mirror := PySem.W.mg_of X G (He.eqO_ok (c.fact 11 rfl))
  g_law_divisor := PySem.W.mg_of X G (He.eqO_ok (c.fact 12 rfl))
  g_law_numerator := PySem.W.mg_of X G (He.eqO_ok (c.fact 13 rfl))
  g_law_integer := PySem.W.mg_of X G (He.eqO_ok (c.fact 14 rfl))
  g_law_steady := PySem.W.mg_of X G (He.eqO_ok (c.fact 15 rfl))
  g_law_related := PySem.W.mg_of X G (He.eqO_ok (c.fact 16 rfl))
  g_law := PySem.W.mg_of X G (He.eqO_ok (c.fact 17 rfl))
  n_abs := PySem.W.mg_none_of X G (He.eqO_ok (c.fact 18 rfl))
  n_bool := PySem.W.mg_none_of X G (He.eqO_ok (c.fact 19 rfl))
  n_divmod := PySem.W.mg_none_of X G (He.eqO_ok (c.fact 20 rfl))
  n_int := PySem.W.mg_none_of X G (He.eqO_ok (c.fact 21 rfl))
  n_isinstance := PySem.W.mg_none_of X G (He.eqO_ok (c.fact 22 rfl))
  n_len := PySem.W.mg_none_of X G (He.eqO_ok (c.fact 23 rfl))
  n_range := PySem.W.mg_none_of X G (He.eqO_ok (c.fact 24 rfl))
  n_str := PySem.W.mg_none_of X G (He.eqO_ok (c.fact 25 rfl))
  g_MODES := PySem.W.mg_of X G (He.eqO_ok (c.fact 26 rfl))
  t_MODES := fun H => He.tupB_ok (vs := [(.str "nearest-even"), (.str "nearest-out"), (.str "nearest-in"), (.str "nearest-up"), (.str "nearest-down"), (.str "inward"), (.str "outward"), (.str "upward"), (.str "downward")]) (c.fact 27 rfl) H
  g_NEAREST := PySem.W.mg_of X G (He.eqO_ok (c.fact 28 rfl))
  t_NEAREST := fun H => He.tupB_ok (vs := [(.str "nearest-even"), (.str "nearest-out"), (.str "nearest-in"), (.str "nearest-up"), (.str "nearest-down")]) (c.fact 29 rfl) H
  g_MIRRORS := PySem.W.mg_of X G (He.eqO_ok (c.fact 30 rfl))
  d_MIRRORS := c.tab 0 rfl
  v_MIRRORS := fun m hm => hB_ok (c.fact 32 rfl) (List.mem_map.mpr ⟨m, hm, rfl⟩)
theorem law_ok {P : Program} {w : World} {K : PySem.W.Frag} {mg : Str → Option Value} {base : Heap} (KB : K.In base) (GB : base.Ns mainGlobals mg) (T : Txt K mg w) : FnOk P w K mg base CX0 4 (a_law K) (fdOf K (a_law K)) ["script"] (sp_law K) := ok_law T
theorem law_start (K : PySem.W.Frag) (H : Hp) (a : Addr) (ns : List Int) (hl : ns.length ≤ 63) (hS : SqL K H a (ns.map V.int)) : sp_law K [.ref a] H (fun v _ => v = .bl true) fun _ _ _ => False :=
  ⟨H, [], a, ns, rfl, Wd.start H, hS, hl, fun _ _ _ _ _ e => by rw [e]⟩
end LX
open PySem PySem.W PySem.Calls PyProof.Rows
set_option maxRecDepth 100000 in
set_option maxHeartbeats 0 in
theorem PySem.Challenge.cw_lostpart_k09_whole_mirrored_rounding_holds : PySem.Challenge.rw_lostpart_k09_whole_mirrored_rounding.Holds := by
  w_on; o_law
  refine HandSHeadRun.head_any (r := OpenLaw.row PySem.Challenge.rw_lostpart_k09_whole_mirrored_rounding) (q := view (OpenLaw.row PySem.Challenge.rw_lostpart_k09_whole_mirrored_rounding).prog [25]) (H := LX.hk) (ob := LX.ob) (M := 20000) (loose := LX.loose) (d := HandSHeadRun.topDef (OpenLaw.row PySem.Challenge.rw_lostpart_k09_whole_mirrored_rounding).prog 25) (kwd := []) LX.ob_eq
    (by kernel_rfl) (fun s => by kernel_rfl) LX.run (by kernel_rfl) (by kernel_rfl) (by kernel_rfl) (by rfl) (by first | assumption | decide +kernel) (by decide +kernel) ⟨rfl, rfl, rfl, rfl, rfl, by decide +kernel⟩ ?hw ?hc
  case hw => w_witness2
  case hc =>
    refine L2.walk_ofE (l := PySem.Challenge.rw_lostpart_k09_whole_mirrored_rounding) (n := 63) (k := 4) (x := "script") (CX := L2.CX0) rfl (by decide) (by kernel_rfl) ⟨rfl, by decide, by decide⟩ ?F (fun _ _ _ _ z => z)
    intro w mg fa h Y G hmg0
    obtain ⟨K, KX, c⟩ := Y
    have hmg : mg ("law" : PySem.Str) = some (.ref fa) := by
      have e : (HandSHeadRun.topDef (OpenLaw.row PySem.Challenge.rw_lostpart_k09_whole_mirrored_rounding).prog 25).name = ("law" : PySem.Str) := by kernel_rfl
      rw [← e]
      exact hmg0
    have T := LX.txt_of KX G c
    have e := hmg.symm.trans T.g_law
    cases e
    refine ⟨K, _, LX.sp_law K, KX, fun s v => L2.FunD.bindsA (ps := ["script"]) T.f_law (fun _ _ _ _ _ _ us hl => match us, hl with | [_], _ => rfl) s [v] rfl, ?_, ?_⟩
    · exact fun H a ns hl _ hS => LX.law_start K H a ns hl hS
    · exact fun base KB GB => LX.law_ok KB GB T

namespace LX
end LX
