import PyProof.Rows.All
import Wide.All
import OpenK.AllK
import Wide.FinOn
import HandS.ForMost
import HandS.Exc
import HandS.TryOnly
import HandS.ExcOwn
import HandS.WordsExc
import HandS.Defaults
import HandS.Wide
import HandS.WideBits
import HandS.IsInst
import HandS.Evl
import HandS.Head0
import HandS.Head1
import HandS.Head2
import HandS.HeadEnd
import HandS.HeadHook1
import HandS.HeadHook2
import HandS.HeadHook3
import HandS.HeadNt
import KE.KSuper
import KE.KExcSuper
import HandS.Base
import HandS.Call
import HandS.ExcInit
import HandS.Nested
import HandS.NestedK
import KE.KExcIs
import HandS.ExcCtx
import HandS.ExcIs
import HandS.ExcField
import HandS.ExcInitHot
import HandS.HotCalls
import HandS.RaiseFrom
import HandS.Codes
import HandS.Text
import HandS.Replace
import HandS.ReplaceDef
import HandS.ReplaceLit
import KE.KOpsOwn
import HandS.SlotsOwn
import PyProof.TwoTypes
import HandS.List
import HandS.Small
import HandS.RevRange
import HandS.Conv
import PySem.Challenge.RW_lostpart_k02_whole_exact_ring
set_option Elab.async false
set_option linter.all false
set_option maxRecDepth 100000
set_option maxHeartbeats 4000000
namespace LP
open PySem PySem.Spec PyProof.Rows L2

/-! ### what is known of the heap: a frozen part and what is owned -/
structure Wd (I : Hp) (O : List (Addr × HO)) (H : Hp) : Prop where
  fz : ∀ a o, I a = some o → H a = some o
  ow : ∀ p ∈ O, H p.1 = some p.2 ∧ I p.1 = none
  nd : (O.map (·.1)).Nodup
theorem memFst {q : Addr × HO} {O : List (Addr × HO)} (h : q ∈ O) : q.1 ∈ O.map (·.1) := List.mem_map.mpr ⟨q, h, rfl⟩
section
variable {I I' H : Hp} {O : List (Addr × HO)} {a b p x dx C : Addr} {o o' u u' : HO} {e f : Addr × HO}
theorem Wd.get (w : Wd I O H) (h : I a = some o) : H a = some o := w.fz a o h
theorem Wd.start (H : Hp) : Wd H [] H := ⟨fun _ _ h => h, fun _ h => (List.not_mem_nil h).elim, List.nodup_nil⟩
theorem Wd.none (w : Wd I O H) (h : H p = .none) : I p = .none := by
  cases q : I p with
  | none => rfl
  | some o => rw [w.fz p o q] at h; cases h
theorem sameUpd (h : I p = .none) : Same I (upd I p o) := fun b u e => by
  rw [upd_ne (ne_of_none e h)]
  exact e
theorem Wd.notIn (w : Wd I O H) (h : H p = .none) : ∀ q ∈ O, q.1 ≠ p := fun q hq z => by
  have y := (w.ow q hq).1
  rw [z, h] at y
  cases y
theorem Wd.new (w : Wd I O H) (h : H p = .none) : Wd (upd I p o) O (upd H p o) := by
  refine ⟨fun b u e => ?_, fun q hq => ?_, w.nd⟩
  · by_cases hb : b = p
    · rw [hb, upd_same] at e
      rw [hb, upd_same]
      exact e
    · rw [upd_ne hb] at e
      rw [upd_ne hb]
      exact w.fz b u e
  · have hn := w.notIn h q hq
    rw [upd_ne hn, upd_ne hn]
    exact w.ow q hq
theorem Wd.newS (w : Wd I O H) (h : H p = .none) : Same I (upd I p o) := sameUpd (w.none h)
theorem Wd.newO (w : Wd I O H) (h : H p = .none) : Wd I ((p, o) :: O) (upd H p o) := by
  refine ⟨fun b u e => ?_, fun q hq => ?_, ?_⟩
  · rw [upd_ne fun z => by rw [z, w.none h] at e; cases e]
    exact w.fz b u e
  · rcases List.mem_cons.mp hq with rfl | hq
    · exact ⟨upd_same, w.none h⟩
    · rw [upd_ne (w.notIn h q hq)]
      exact w.ow q hq
  · refine List.nodup_cons.mpr ⟨fun hm => ?_, w.nd⟩
    obtain ⟨q, hq, z⟩ := List.mem_map.mp hm
    exact w.notIn h q hq z
/-- what is not tracked yet, beside -/
theorem Wd.beside (w : Wd I O H) (h : H p = .none) : Wd I O (upd H p o) := by
  refine ⟨fun b u e => ?_, fun q hq => ?_, w.nd⟩
  · rw [upd_ne fun z => by rw [z, w.none h] at e; cases e]
    exact w.fz b u e
  · rw [upd_ne (w.notIn h q hq)]
    exact w.ow q hq
theorem Wd.make (w : Wd I O H) (hx : H x = .none) (hd : H dx = .none) (ne : dx ≠ x) : Wd I ((x, .ins C dx []) :: O) (upd (upd H dx (.own x)) x (.ins C dx [])) :=
  Wd.newO (w.beside hd) (by rw [upd_ne (Ne.symm ne)]; exact hx)
theorem Wd.own (w : Wd I ((a, o) :: O) H) : H a = some o := (w.ow _ (List.mem_cons_self ..)).1
theorem Wd.ownN (w : Wd I ((a, o) :: O) H) : I a = .none := (w.ow _ (List.mem_cons_self ..)).2
theorem Wd.own1 (w : Wd I (e :: (a, o) :: O) H) : H a = some o := (w.ow _ (List.mem_cons_of_mem _ (List.mem_cons_self ..))).1
theorem Wd.own2 (w : Wd I (e :: f :: (a, o) :: O) H) : H a = some o := (w.ow _ (List.mem_cons_of_mem _ (List.mem_cons_of_mem _ (List.mem_cons_self ..)))).1
theorem Wd.set (w : Wd I ((a, o) :: O) H) : Wd I ((a, u) :: O) (upd H a u) := by
  have nd := List.nodup_cons.mp w.nd
  refine ⟨fun b v e => ?_, fun q hq => ?_, w.nd⟩
  · rw [upd_ne fun z => by rw [z, w.ownN] at e; cases e]
    exact w.fz b v e
  · rcases List.mem_cons.mp hq with rfl | hq
    · exact ⟨upd_same, w.ownN⟩
    · have hn : q.1 ≠ a := fun z => nd.1 (by have y := memFst hq; rw [z] at y; exact y)
      rw [upd_ne hn]
      exact w.ow q (List.mem_cons_of_mem _ hq)
theorem Wd.swap (w : Wd I (e :: f :: O) H) : Wd I (f :: e :: O) H := by
  refine ⟨w.fz, fun q hq => w.ow q ?_, ?_⟩
  · rcases List.mem_cons.mp hq with rfl | hq
    · exact List.mem_cons_of_mem _ (List.mem_cons_self ..)
    · rcases List.mem_cons.mp hq with rfl | hq
      · exact List.mem_cons_self ..
      · exact List.mem_cons_of_mem _ (List.mem_cons_of_mem _ hq)
  · have n1 := List.nodup_cons.mp w.nd
    have n2 := List.nodup_cons.mp n1.2
    refine List.nodup_cons.mpr ⟨fun hm => ?_, List.nodup_cons.mpr ⟨fun hm => n1.1 (List.mem_cons_of_mem _ hm), n2.2⟩⟩
    rcases List.mem_cons.mp hm with z | hm
    · exact n1.1 (List.mem_cons.mpr (.inl z.symm))
    · exact n2.1 hm
theorem Wd.rest (w : Wd I (e :: O) H) : Wd I O H := ⟨w.fz, fun q hq => w.ow q (List.mem_cons_of_mem _ hq), (List.nodup_cons.mp w.nd).2⟩
theorem Wd.set1 (w : Wd I (e :: (a, o) :: O) H) : Wd I (e :: (a, u) :: O) (upd H a u) := w.swap.set.swap
/-- it will not change any more -/
theorem Wd.freeze (w : Wd I ((a, o) :: O) H) : Wd (upd I a o) O H := by
  refine ⟨fun b v e => ?_, fun q hq => ?_, w.rest.nd⟩
  · by_cases hb : b = a
    · rw [hb, upd_same] at e
      cases e
      rw [hb]
      exact w.own
    · rw [upd_ne hb] at e
      exact w.fz b v e
  · have hn : q.1 ≠ a := fun z => (List.nodup_cons.mp w.nd).1 (by have y := memFst hq; rw [z] at y; exact y)
    rw [upd_ne hn]
    exact w.rest.ow q hq
theorem Wd.freezeS (w : Wd I ((a, o) :: O) H) : Same I (upd I a o) := sameUpd w.ownN
theorem Wd.seq {K : PySem.W.Frag} {xs : List V} (w : Wd I O H) (h : SqL K I a xs) : SqL K H a xs := Same.seq w.fz h
end

/-! ### tests -/
section
variable {A B : Prop}
theorem iEqI {a b : Int} (h1 : a = b → A) (h2 : ¬ a = b → B) : if decide (V.int a = V.int b) = true then A else B :=
  ite2 (fun h => h1 (V.int.inj (of_decide_eq_true h))) fun h => h2 fun z => h (decide_eq_true (congrArg V.int z))
theorem iNeI {a b : Int} (h1 : ¬ a = b → A) (h2 : a = b → B) : if (!decide (V.int a = V.int b)) = true then A else B := by
  by_cases h : a = b
  · rw [decide_eq_true (congrArg V.int h)]
    exact iteF (h2 h)
  · rw [decide_eq_false fun z => h (V.int.inj z)]
    exact iteT (h1 h)
theorem iEqS {a b : Str} (h1 : a = b → A) (h2 : ¬ a = b → B) : if decide (V.str a = V.str b) = true then A else B :=
  ite2 (fun h => h1 (V.str.inj (of_decide_eq_true h))) fun h => h2 fun z => h (decide_eq_true (congrArg V.str z))
theorem iNeS {a b : Str} (h1 : ¬ a = b → A) (h2 : a = b → B) : if (!decide (V.str a = V.str b)) = true then A else B := by
  by_cases h : a = b
  · rw [decide_eq_true (congrArg V.str h)]
    exact iteF (h2 h)
  · rw [decide_eq_false fun z => h (V.str.inj z)]
    exact iteT (h1 h)
theorem iEqB {a b : Bool} (h1 : a = b → A) (h2 : ¬ a = b → B) : if decide (V.bl a = V.bl b) = true then A else B :=
  ite2 (fun h => h1 (V.bl.inj (of_decide_eq_true h))) fun h => h2 fun z => h (decide_eq_true (congrArg V.bl z))
theorem iNeB {a b : Bool} (h1 : ¬ a = b → A) (h2 : a = b → B) : if (!decide (V.bl a = V.bl b)) = true then A else B := by
  by_cases h : a = b
  · rw [decide_eq_true (congrArg V.bl h)]
    exact iteF (h2 h)
  · rw [decide_eq_false fun z => h (V.bl.inj z)]
    exact iteT (h1 h)
theorem iD {p : Prop} [Decidable p] (h1 : p → A) (h2 : ¬ p → B) : if decide p = true then A else B :=
  ite2 (fun h => h1 (of_decide_eq_true h)) fun h => h2 fun z => h (decide_eq_true z)
theorem iND {p : Prop} [Decidable p] (h1 : ¬ p → A) (h2 : p → B) : if (!decide p) = true then A else B := by
  by_cases h : p
  · rw [decide_eq_true h]
    exact iteF (h2 h)
  · rw [decide_eq_false h]
    exact iteT (h1 h)
theorem iB {b : Bool} (h1 : b = true → A) (h2 : b = false → B) : if b = true then A else B := by
  cases b
  · exact iteF (h2 rfl)
  · exact iteT (h1 rfl)
theorem iNB {b : Bool} (h1 : b = false → A) (h2 : b = true → B) : if (!b) = true then A else B := by
  cases b
  · exact iteT (h1 rfl)
  · exact iteF (h2 rfl)
theorem iTd {p : Prop} [Decidable p] (h : p) (q : A) : if decide p = true then A else B := by rw [decide_eq_true h]; exact iteT q
theorem iFd {p : Prop} [Decidable p] (h : ¬ p) (q : B) : if decide p = true then A else B := by rw [decide_eq_false h]; exact iteF q
theorem iNTd {p : Prop} [Decidable p] (h : ¬ p) (q : A) : if (!decide p) = true then A else B := by rw [decide_eq_false h]; exact iteT q
theorem iNFd {p : Prop} [Decidable p] (h : p) (q : B) : if (!decide p) = true then A else B := by rw [decide_eq_true h]; exact iteF q
end

theorem inV_str (m : Str) (l : List Str) : inV (V.str m) (l.map V.str) = decide (m ∈ l) := by
  induction l with
  | nil => rfl
  | cons a r ih =>
    show (eqV (V.str a) (V.str m) || inV (V.str m) (r.map V.str)) = _
    rw [ih]
    show ((a == m) || decide (m ∈ r)) = _
    by_cases h : m = a
    · rw [h]; simp
    · have h' : (a == m) = false := by simpa using fun z => h z.symm
      rw [h']
      simp [h]
section
variable {A B : Prop} {m : Str} {l : List Str}
theorem iInS (h1 : m ∈ l → A) (h2 : ¬ m ∈ l → B) : if inV (V.str m) (l.map V.str) = true then A else B := by rw [inV_str]; exact iD h1 h2
theorem iNInS (h1 : ¬ m ∈ l → A) (h2 : m ∈ l → B) : if (!inV (V.str m) (l.map V.str)) = true then A else B := by rw [inV_str]; exact iND h1 h2
end
theorem get_map {α : Type} {f : α → V} {l : List α} {i : Nat} {x : V} (h : (l.map f)[i]? = some x) : ∃ m, l[i]? = some m ∧ x = f m := by
  rw [List.getElem?_map] at h
  cases e : l[i]? with
  | none => rw [e] at h; cases h
  | some m => rw [e] at h; exact ⟨m, rfl, (Option.some.inj h).symm⟩
theorem at_map {α : Type} {f : α → V} {l : List α} {i : Int} (h0 : 0 ≤ i) (h1 : i < (l.length : Int)) : ∃ m, m ∈ l ∧ l[i.toNat]? = some m ∧ atI (l.map f) i = some (f m) := by
  obtain ⟨j, rfl⟩ : ∃ j : Nat, i = (j : Int) := ⟨i.toNat, by omega⟩
  have hj : j < l.length := by omega
  refine ⟨l[j], List.getElem_mem hj, by simp [hj], ?_⟩
  refine at_of (j := j) rfl ?_
  rw [List.getElem?_map, List.getElem?_eq_getElem hj]
  rfl

theorem take_map {α : Type} {f : α → V} {l : List α} {i : Nat} {m : α} (h : l[i]? = some m) : (l.take (i + 1)).map f = (l.take i).map f ++ [f m] := by
  rw [List.take_add_one, h]
  simp

/-! ### the drawn numbers -/
structure SrcOk (I : Hp) (xs : List V) : Prop where
  ex : ∃ (i0 i1 i2 i3 : Int) (c : Addr) (ns : List Int), xs = [.int i0, .int i1, .int i2, .int i3, .ref c] ∧ 0 ≤ i0 ∧ I c = some (.lst (ns.map V.int)) ∧ ns.length ≤ 63
theorem SrcOk.mono {I I' : Hp} {xs : List V} (s : Same I I') (h : SrcOk I xs) : SrcOk I' xs := by
  obtain ⟨i0, i1, i2, i3, c, ns, e, h0, hc, hn⟩ := h.ex
  exact ⟨i0, i1, i2, i3, c, ns, e, h0, s _ _ hc, hn⟩

theorem draw_many {m : Int} (h0 : 0 < m) (h : m < 2 ^ 200) : m.natAbs.log2 < 9000 := by
  have h1 : m.natAbs < 2 ^ 200 := by
    have e : ((2 ^ 200 : Nat) : Int) = 2 ^ 200 := by norm_cast
    omega
  exact Nat.lt_of_lt_of_le (PySem.Flt.log2_lt_of (by decide) h1) (by decide)

theorem bigstep {v d : Int} {i : Nat} (h : v < 10 ^ i) (h0 : 0 ≤ d) (h1 : d < 10) : v * 10 + d < 10 ^ (i + 1) := by
  rw [Int.pow_succ]
  omega
theorem big_end {v : Int} {i n : Nat} (h : v < 10 ^ i) (hn : i ≤ n) : v < 10 ^ n := by
  have h1 : (10 : Int) ^ i ≤ 10 ^ n := by
    have := Nat.pow_le_pow_right (n := 10) (by decide) hn
    exact_mod_cast this
  omega
/-- sizes by bits -/
def Sz (n : Nat) (x : Int) : Prop := x.natAbs < 2 ^ n
instance decSz (n : Nat) (x : Int) : Decidable (Sz n x) := inferInstanceAs (Decidable (_ < _))
theorem Sz.mono {n m : Nat} {x : Int} (h : Sz n x) (hm : n ≤ m) : Sz m x := Nat.lt_of_lt_of_le h (Nat.pow_le_pow_right (by decide) hm)
theorem Sz.mul {n m : Nat} {x y : Int} (h : Sz n x) (k : Sz m y) : Sz (n + m) (x * y) := wide_lt h k
theorem Sz.add {n m : Nat} {x y : Int} (h : Sz n x) (k : Sz m y) : Sz (n + m + 1) (x + y) := by
  have h1 := Sz.mono h (Nat.le_add_right n m)
  have k1 := Sz.mono k (Nat.le_add_left m n)
  unfold Sz at *
  rw [Nat.pow_succ]
  omega
theorem Sz.addm {n : Nat} {x y : Int} (h : Sz n x) (k : Sz n y) : Sz (n + 1) (x + y) := by
  unfold Sz at *
  rw [Nat.pow_succ]
  omega
theorem Sz.neg {n : Nat} {x : Int} (h : Sz n x) : Sz n (-x) := by unfold Sz at *; omega
theorem Sz.subm {n : Nat} {x y : Int} (h : Sz n x) (k : Sz n y) : Sz (n + 1) (x - y) := by
  unfold Sz at *
  rw [Nat.pow_succ]
  omega
theorem Sz.cmul {n m : Nat} {x y : Int} (h : Sz n x) (k : Sz m y) (h0 : 0 < n := by decide) (k0 : 0 < m := by decide) (l : n + m ≤ 1000000 := by decide) : CMulW x y := wide_mul h k h0 k0 l
theorem Sz.cdiv {n : Nat} {x y : Int} (h0 : 0 < y) (k : Sz n y) (n0 : 0 < n := by decide) (l : n ≤ 9000 := by decide) : CDivW x y := wide_div h0 k n0 l
theorem Sz.cdivP {n : Nat} {x y : Int} (h0 : 0 < y) (k : Sz n y) (n0 : 0 < n := by decide) (l : n ≤ 9000 := by decide) : CDivP x y := ⟨h0, PyProof.noPylong_of_log2 (wide_div (i := x) h0 k n0 l).2⟩
theorem Sz.of {n : Nat} {x : Int} (h : -((2 ^ n : Nat) : Int) < x) (k : x < ((2 ^ n : Nat) : Int)) : Sz n x := by unfold Sz; omega
theorem Sz.lo {n : Nat} {x : Int} (h : Sz n x) : -((2 ^ n : Nat) : Int) < x ∧ x < ((2 ^ n : Nat) : Int) := by unfold Sz at h; omega
theorem Sz.pow {b : Int} (h0 : 0 ≤ b) (h1 : b ≤ 64) (i : Nat) : Sz (6 * i + 1) (b ^ i) := by
  unfold Sz
  rw [Int.natAbs_pow]
  have h2 : b.natAbs ≤ 2 ^ 6 := by omega
  calc b.natAbs ^ i ≤ (2 ^ 6) ^ i := Nat.pow_le_pow_left h2 i
    _ = 2 ^ (6 * i) := (Nat.pow_mul 2 6 i).symm
    _ < 2 ^ (6 * i + 1) := Nat.pow_lt_pow_right (by decide) (Nat.lt_succ_self _)
theorem lp_mul_pow {b r : Int} {i : Nat} (h0 : 0 ≤ b) (h1 : b ≤ 64) (hi : i ≤ 20000) (hr : r = b ^ i) : CMulW r b := by
  have h := Sz.pow h0 h1 i
  rw [← hr] at h
  have k := Sz.pow h0 h1 1
  rw [Int.pow_succ, Int.pow_zero, Int.one_mul] at k
  exact wide_mul h k (by omega) (by omega) (by omega)

theorem lp_pow_pos {b r : Int} {i : Nat} (h : 0 < b) (e : r = b ^ i) : 0 < r := by rw [e]; exact Int.pow_pos h
theorem lp_pow_sz {b r : Int} {i : Nat} (h0 : 0 ≤ b) (h1 : b ≤ 64) (e : r = b ^ i) : Sz (6 * i + 1) r := by rw [e]; exact Sz.pow h0 h1 i
theorem num_sz {w d p : Int} (hw : Sz 110 w) (hd : Sz 160 d) (h0 : -1 ≤ p) (h1 : p ≤ d) (h2 : 0 < d) : Sz 271 (w * d + p) := by
  have k := Sz.mul hw hd
  refine Sz.addm (n := 270) k (Sz.mono (n := 161) ?_ (by decide))
  have := hd.lo
  exact Sz.of (by omega) (by omega)

/-! ### the hook of the head: any Bool of the written part, any def at an address, tables with text keys -/
abbrev Bf := PySem.W.Frag → Bool
abbrev Tb := PySem.W.Frag → Addr
abbrev AlB := He.AlD × List (Option (List (Option (Str × Int))))
/-- a def with a closure (a method that says super()), as the text has it -/
def fnC (K : PySem.W.Frag) (a : Addr) : He5.FnW := match K.lookup a with
  | some ⟨_, _, .func fd, _⟩ => some (fd.name, fd.qualname, fd.params, fd.body, fd.scope, fd.globals, [], fd.builtins)
  | _ => none
def obsB (fa : List Bf) (fn fx : List He5.DefA) (ts : List (Tb × List Str)) (K : PySem.W.Frag) : AlB := (((fa.all fun f => f K) && fn.all fun d => d.ok K, (fn.map fun d => He5.fnA K (d.at_ K)) ++ fx.map fun d => fnC K (d.at_ K)), ts.map fun t => He.dicW K (t.1 K))
def valB (fn fx : List He5.DefA) (ts : List (Tb × List Str)) (w : World) : AlB := ((true, fn.map He5.DefA.val ++ fx.map He5.DefA.val), ts.map fun t => some (He.keysIn w.params t.2))
def SaysB (fa : List Bf) (fn fx : List He5.DefA) (ts : List (Tb × List Str)) (w : World) (K : PySem.W.Frag) : Prop := obsB fa fn fx ts K = valB fn fx ts w
def obsBG (n : Nat) (fa : List Bf) (fn fx : List He5.DefA) (ts : List (Tb × List Str)) (g : Addr → Option Obj) : AlB := obsB fa fn fx ts (He.frG g (He5.asA g n))
def hookB (n : Nat) (fa : List Bf) (fn fx : List He5.DefA) (ts : List (Tb × List Str)) : PySem.W.Hook where
  α := AlB
  obs := fun s => obsBG n fa fn fx ts s.heap.get?
  val := fun w => valB fn fx ts w
  says := fun w h => ∃ K : PySem.W.Frag, K.In h ∧ SaysB fa fn fx ts w K
  of := fun _ _ e => ⟨_, He.frG_in, e⟩
  keeps := fun _ _ _ ⟨K, hK, c⟩ k => ⟨K, PySem.W.Frag.In.keeps hK k, c⟩
theorem obsBG_eq {n : Nat} {fa : List Bf} {fn fx : List He5.DefA} {ts : List (Tb × List Str)} {g : Addr → Option Obj} {s : Shared} (h : ∀ a, g a = s.heap.get? a) : obsBG n fa fn fx ts g = (hookB n fa fn fx ts).obs s := by
  have e : g = s.heap.get? := funext h
  rw [e] <;> rfl
def fdOf (K : PySem.W.Frag) (a : Addr) : FuncData := match K.lookup a with
  | some ⟨_, _, .func fd, _⟩ => fd
  | _ => default
section
variable {fa : List Bf} {fn fx : List He5.DefA} {ts : List (Tb × List Str)} {w : World} {K : PySem.W.Frag}
theorem SaysB.one (c : SaysB fa fn fx ts w K) : ((fa.all fun f => f K) && fn.all fun d => d.ok K) = true := congrArg (fun z : AlB => z.1.1) c
theorem SaysB.fact (c : SaysB fa fn fx ts w K) (i : Nat) {f : Bf} (h : fa[i]? = some f) : f K = true :=
  List.all_eq_true.mp (He.ba c.one).1 f (List.mem_of_getElem? h)
theorem SaysB.two (c : SaysB fa fn fx ts w K) : (fn.map fun d => He5.fnA K (d.at_ K)) = fn.map He5.DefA.val ∧ (fx.map fun d => fnC K (d.at_ K)) = fx.map He5.DefA.val := by
  have e : (fn.map fun d => He5.fnA K (d.at_ K)) ++ (fx.map fun d => fnC K (d.at_ K)) = fn.map He5.DefA.val ++ fx.map He5.DefA.val := congrArg (fun z : AlB => z.1.2) c
  exact List.append_inj e (by rw [List.length_map, List.length_map])
theorem SaysB.def_ (c : SaysB fa fn fx ts w K) (i : Nat) {d : He5.DefA} (h : fn[i]? = some d) : FunD K d.name d.qual d.params d.body d.scope (d.dvs K) (d.kws K) (d.at_ K) (fdOf K (d.at_ K)) := by
  have c2 := (He.ba c.one).2
  have e := c.two.1
  have e2 : (fn.map fun d => He5.fnA K (d.at_ K))[i]? = (fn.map He5.DefA.val)[i]? := by rw [e]
  rw [List.getElem?_map, List.getElem?_map, h] at e2
  obtain ⟨fd, F⟩ := He5.DefA.funD (Option.some.inj e2) (List.all_eq_true.mp c2 d (List.mem_of_getElem? h))
  have ef : fdOf K (d.at_ K) = fd := by
    obtain ⟨oc, od, dV, kV, doc, pm, an, cdv, ct, osl, _, l, _⟩ := F.ex
    unfold fdOf
    rw [l]
  rw [ef]
  exact F
theorem SaysB.clo (c : SaysB fa fn fx ts w K) (i : Nat) {d : He5.DefA} (h : fx[i]? = some d) : fnC K (d.at_ K) = d.val := by
  have e := c.two.2
  have e2 : (fx.map fun d => fnC K (d.at_ K))[i]? = (fx.map He5.DefA.val)[i]? := by rw [e]
  rw [List.getElem?_map, List.getElem?_map, h] at e2
  exact Option.some.inj e2
theorem SaysB.tab (c : SaysB fa fn fx ts w K) (i : Nat) {t : Tb × List Str} (h : ts[i]? = some t) : ∃ es n, KDict K w (t.1 K) es n := by
  have e : ts.map (fun t => He.dicW K (t.1 K)) = ts.map fun t => some (He.keysIn w.params t.2) := congrArg (fun z : AlB => z.2) c
  have e2 : (ts.map fun t => He.dicW K (t.1 K))[i]? = (ts.map fun t => some (He.keysIn w.params t.2))[i]? := by rw [e]
  rw [List.getElem?_map, List.getElem?_map, h] at e2
  exact He.dicW_ok (Option.some.inj e2)
end
/-- a module's name -/
def gB (x : Str) : Bf := fun K => He.eqO (PySem.W.nsIn K mainGlobals x) (some (some (.ref (He.ga K x))))
def fB (x : Str) : Bf := fun K => He.eqO (PySem.W.nsIn K mainGlobals x) (some none)
def tB (x : Str) (vs : List He.Dv) : Bf := fun K => He.tupB K x vs
/-- what a dict of the module holds at some texts: texts, or nothing -/
def hB (x : Str) (l : List (Str × Option Str)) : Bf := fun K => l.all fun p => match PySem.W.nsIn K (He.ga K x) p.1, p.2 with
  | some none, none => true
  | some (some (.str z _)), some y => decide (z = y)
  | _, _ => false
end LP

set_option Elab.async false
set_option linter.all false
set_option maxRecDepth 100000
set_option maxHeartbeats 4000000
namespace LP
open PySem PySem.Spec PyProof.Rows L2
/-! ### d.get(k, x) of a dict of the module whose keys are texts -/
def KDic (K : PySem.W.Frag) (w : World) (a : Addr) : Prop := ∃ es n, KDict K w a es n
/-- what such a dict holds at a text -/
def KHas (K : PySem.W.Frag) (a : Addr) (k : Str) (o : Option V) : Prop := ∃ r, PySem.W.nsIn K a k = some r ∧ RelO o r
theorem hB_ok {K : PySem.W.Frag} {x : Str} {l : List (Str × Option Str)} (h : hB x l K = true) {k : Str} {o : Option Str} (hk : (k, o) ∈ l) : KHas K (He.ga K x) k (o.map V.str) := by
  have q := List.all_eq_true.mp h _ hk
  dsimp only at q
  split at q
  · rename_i e1
    exact ⟨_, e1, trivial⟩
  · rename_i e1
    exact ⟨_, e1, _, by rw [of_decide_eq_true q]⟩
  · cases q
def tKGet2 (K : PySem.W.Frag) (w : World) (td ty tx : TE) : TE := fun σ H Q => td σ H fun x H1 => ∃ a, x = .ref a ∧ KDic K w a ∧ ty σ H1 fun y H2 => tx σ H2 fun z H3 =>
  ∃ (k : Str) (o : Option V) (z' : V), y = .str k ∧ KHas K a k o ∧ o.getD z = z' ∧ Q z' H3
section
variable {X : Cx} {o e f : Expr} {td ty tx : TE} {apos cpos : Pos}
theorem pe_kget2 (ho : PE X o td) (he : PE X e ty) (hf : PE X f tx) (m : M2 X o "get" apos e f cpos) : PE X (.Call (.Attribute o "get" apos) [e, f] [] cpos) (tKGet2 X.K X.w td ty tx) := by
  refine ⟨fun pins s σ H Q I h => ?_⟩
  refine wpAny_Call_method m.base m.few m.line PySem.F.plainAttrs_dict PySem.F.slot_dict_get PySem.F.type_dict_get (thn (ho.run pins s σ H _ I h) fun u s1 ⟨x, H1, I1, rx, a, ex, ⟨es, n, hd⟩, q1⟩ => ?_)
  subst ex
  obtain rfl : u = Value.ref a := rx
  have hm1 := PySem.W.mapOf_K (prog := X.prog) (w := X.w) I1.kIn hd.at_ hd.lit
  refine ⟨hm1.typeIs, hm1.noDict, ?_⟩
  rw [m.trees]
  refine Calls.callWith_builtin rfl (Calls.evalArgs_plain (Calls.spliced_cons (thn (he.run pins s1 σ H1 _ I1 q1) fun iv s2 ⟨y, H2, I2, ry, q2⟩ =>
    Calls.spliced_cons (thn (hf.run pins s2 σ H2 _ I2 q2) fun fv s3 ⟨z, H3, I3, rz, k, ov, z', ey, ⟨r, hr, rel⟩, ez, q3⟩ => Calls.spliced_nil ?_))))
  subst ey
  subst ez
  obtain ⟨t, rfl⟩ := ry
  have hm := PySem.W.mapOf_K (prog := X.prog) (w := X.w) I3.kIn hd.at_ hd.lit
  have e1 := PySem.W.find_K hd.at_ hr
  refine call_meetsIn PySem.F.slot_dict_get hm.typeIs PySem.F.entry_dict_get (PySem.F.args_dict_get_3 _ _ _) (meets_dict_get_default (strKind X.prog X.w) a (strKind_is X.prog X.w k t) hd.low fv) ⟨_, hm, ?_⟩
  rw [e1]
  refine ⟨ov.getD z, H3, I3.tok _, ?_, q3⟩
  cases ov with
  | none => cases r with
    | none => exact rz
    | some _ => exact rel.elim
  | some v => cases r with
    | none => exact rel.elim
    | some _ => exact rel
end
end LP

set_option Elab.async false
set_option linter.all false
set_option maxRecDepth 100000
set_option maxHeartbeats 4000000
namespace LX
open PySem L2 LP
/-! ### the modes, rounding of a quotient -/
def modesL : List Str := ["nearest-even", "nearest-out", "nearest-in", "nearest-up", "nearest-down", "inward", "outward", "upward", "downward"]
def nearL : List Str := ["nearest-even", "nearest-out", "nearest-in", "nearest-up", "nearest-down"]
def goesUp (mode : Str) (pos : Bool) : Bool := if mode = "inward" then !pos else if mode = "outward" then pos else decide (mode = "upward")
def tieUp (mode : Str) (low : Int) (pos : Bool) : Bool :=
  if mode = "nearest-even" then decide (low % 2 = 1) else if mode = "nearest-out" then pos else if mode = "nearest-in" then !pos else decide (mode = "nearest-up")
def rqUp (n d : Int) (mode : Str) : Bool :=
  if ¬ mode ∈ nearL then goesUp mode (decide (0 < n)) else if 2 * (n % d) = d then tieUp mode (n / d) (decide (0 < n)) else decide (d < 2 * (n % d))
def rq (n d : Int) (mode : Str) : Int := if n % d = 0 then n / d else if rqUp n d mode then n / d + 1 else n / d
def mirrorOpt (mode : Str) : Option Str :=
  if mode = "nearest-up" then some "nearest-down" else if mode = "nearest-down" then some "nearest-up" else if mode = "upward" then some "downward" else if mode = "downward" then some "upward" else none
def mirrorS (mode : Str) : Str := (mirrorOpt mode).getD mode
def steadyL : List Str := ["nearest-even", "nearest-up", "nearest-down", "upward", "downward"]
theorem mode_cases {m : Str} (h : m ∈ modesL) : m = "nearest-even" ∨ m = "nearest-out" ∨ m = "nearest-in" ∨ m = "nearest-up" ∨ m = "nearest-down" ∨ m = "inward" ∨ m = "outward" ∨ m = "upward" ∨ m = "downward" := by
  simpa [modesL] using h
theorem mirror_mem {m : Str} (h : m ∈ modesL) : mirrorS m ∈ modesL := by
  rcases mode_cases h with h | h | h | h | h | h | h | h | h <;> subst h <;> decide +kernel
theorem getD_str {o : Option Str} {m : Str} : (o.map V.str).getD (V.str m) = V.str (o.getD m) := by cases o <;> rfl
/-- where a mode stands in their order, and its mirror -/
def permL : List Int := [0, 1, 2, 4, 3, 5, 6, 8, 7]
theorem mode_index {m : Str} (h : m ∈ modesL) : ∃ j : Nat, j < 9 ∧ (modesL.map V.str)[j]? = some (V.str m) ∧ (∀ (k : Nat) (z : V), k < j → (modesL.map V.str)[k]? = some z → eqV z (V.str m) = false) ∧
    ∀ p, permL[j]? = some p → 0 ≤ p ∧ p < 9 ∧ ∀ s, modesL[p.toNat]? = some s → s = mirrorS m := by
  have key : ∀ j : Fin 9, ∀ m : Str, modesL[j.val]? = some m → (∀ k : Fin 9, k.val < j.val → (match modesL[k.val]? with | some z => !(z == m) | none => true) = true) →
      (match permL[j.val]? with | some p => decide (0 ≤ p ∧ p < 9) && (match modesL[p.toNat]? with | some s => decide (s = mirrorS m) | none => true) | none => true) = true → ∃ j : Nat, j < 9 ∧ (modesL.map V.str)[j]? = some (V.str m) ∧ (∀ (k : Nat) (z : V), k < j → (modesL.map V.str)[k]? = some z → eqV z (V.str m) = false) ∧
    ∀ p, permL[j]? = some p → 0 ≤ p ∧ p < 9 ∧ ∀ s, modesL[p.toNat]? = some s → s = mirrorS m := by
    intro j m h1 h2 h3
    refine ⟨j.val, j.isLt, by rw [List.getElem?_map, h1]; rfl, fun k z hk hz => ?_, fun p hp => ?_⟩
    · obtain ⟨z', e, rfl⟩ := get_map hz
      have q := h2 ⟨k, Nat.lt_trans hk j.isLt⟩ hk
      rw [show modesL[(⟨k, Nat.lt_trans hk j.isLt⟩ : Fin 9).val]? = some z' from e] at q
      show (z' == m) = false
      simpa using q
    · rw [hp] at h3
      obtain ⟨q1, q2⟩ := Bool.and_eq_true_iff.mp h3
      have q1 := of_decide_eq_true q1
      refine ⟨q1.1, q1.2, fun s hs => ?_⟩
      rw [hs] at q2
      exact of_decide_eq_true q2
  rcases mode_cases h with h | h | h | h | h | h | h | h | h <;> subst h
  · exact key 0 _ rfl (by decide +kernel) (by decide +kernel)
  · exact key 1 _ rfl (by decide +kernel) (by decide +kernel)
  · exact key 2 _ rfl (by decide +kernel) (by decide +kernel)
  · exact key 3 _ rfl (by decide +kernel) (by decide +kernel)
  · exact key 4 _ rfl (by decide +kernel) (by decide +kernel)
  · exact key 5 _ rfl (by decide +kernel) (by decide +kernel)
  · exact key 6 _ rfl (by decide +kernel) (by decide +kernel)
  · exact key 7 _ rfl (by decide +kernel) (by decide +kernel)
  · exact key 8 _ rfl (by decide +kernel) (by decide +kernel)
/-! #### the nine modes, one by one: with the quotient q and the rest r -/
/-- up or not, by quotient, rest, divisor -/
def upM (mode : Str) (q r d : Int) : Bool :=
  if mode = "nearest-even" then (if 2 * r = d then decide (q % 2 = 1) else decide (d < 2 * r))
  else if mode = "nearest-out" then (if 2 * r = d then decide (0 ≤ q) else decide (d < 2 * r))
  else if mode = "nearest-in" then (if 2 * r = d then decide (q < 0) else decide (d < 2 * r))
  else if mode = "nearest-up" then decide (d ≤ 2 * r)
  else if mode = "nearest-down" then decide (d < 2 * r)
  else if mode = "inward" then decide (q < 0)
  else if mode = "outward" then decide (0 ≤ q)
  else decide (mode = "upward")
theorem sign_of {n d : Int} (hd : 0 < d) (hr : ¬ n % d = 0) : decide (0 < n) = decide (0 ≤ n / d) := by
  have h1 := Int.emod_nonneg n (show d ≠ 0 by omega)
  have h2 := Int.emod_lt_of_pos n hd
  have e := Int.mul_ediv_add_emod n d
  by_cases h : 0 ≤ n / d
  · have : 0 ≤ d * (n / d) := Int.mul_nonneg (by omega) h
    rw [decide_eq_true h, decide_eq_true (by omega)]
  · have h3 : d * (n / d) ≤ d * (-1) := Int.mul_le_mul_of_nonneg_left (by omega) (by omega)
    rw [decide_eq_false h, decide_eq_false (by omega)]
theorem rqUp_eq {n d : Int} {m : Str} (hm : m ∈ modesL) (hd : 0 < d) (hr : ¬ n % d = 0) : rqUp n d m = upM m (n / d) (n % d) d := by
  unfold rqUp
  rw [sign_of hd hr]
  clear hr
  generalize n / d = q
  generalize n % d = r
  have hq : decide (0 ≤ q) = !decide (q < 0) := by rw [Bool.eq_iff_iff]; simp
  rcases mode_cases hm with h | h | h | h | h | h | h | h | h <;> subst h <;> simp +decide [goesUp, tieUp, upM, nearL]
  · rw [hq]; simp
  · rw [Bool.eq_iff_iff]; simp; omega
  · omega
  · exact hq
theorem rq_eq {n d : Int} {m : Str} (hm : m ∈ modesL) (hd : 0 < d) : rq n d m = if n % d = 0 then n / d else if upM m (n / d) (n % d) d then n / d + 1 else n / d := by
  unfold rq
  by_cases hr : n % d = 0
  · rw [if_pos hr, if_pos hr]
  · rw [if_neg hr, if_neg hr, rqUp_eq hm hd hr]
theorem rq_bounds {n d : Int} {m : Str} : n / d ≤ rq n d m ∧ rq n d m ≤ n / d + (if n % d = 0 then 0 else 1) := by
  unfold rq
  split
  · omega
  · split <;> omega
theorem neg_divmod {n d : Int} (hd : 0 < d) : (n % d = 0 ∧ (-n) / d = -(n / d) ∧ (-n) % d = 0) ∨ (¬ n % d = 0 ∧ (-n) / d = -(n / d) - 1 ∧ (-n) % d = d - n % d) := by
  have h1 := Int.emod_nonneg n (show d ≠ 0 by omega)
  have h2 := Int.emod_lt_of_pos n hd
  have e := Int.mul_ediv_add_emod n d
  by_cases hr : n % d = 0
  · have e2 : -n = 0 + d * (-(n / d)) := by rw [Int.mul_neg]; omega
    refine .inl ⟨hr, ?_, ?_⟩
    · rw [e2, Int.add_mul_ediv_left _ _ (by omega)]; simp
    · rw [e2, Int.add_mul_emod_self_left]; simp
  · have e2 : -n = (d - n % d) + d * (-(n / d) - 1) := by rw [Int.mul_sub, Int.mul_neg]; omega
    refine .inr ⟨hr, ?_, ?_⟩
    · rw [e2, Int.add_mul_ediv_left _ _ (by omega), Int.ediv_eq_zero_of_lt (by omega) (by omega)]; omega
    · rw [e2, Int.add_mul_emod_self_left]; exact Int.emod_eq_of_lt (by omega) (by omega)
theorem rq_mirror {n d : Int} {m : Str} (hm : m ∈ modesL) (hd : 0 < d) : rq (0 - n) d (mirrorS m) = 0 - rq n d m := by
  rw [Int.zero_sub, rq_eq hm hd, rq_eq (mirror_mem hm) hd]
  have h1 := Int.emod_nonneg n (show d ≠ 0 by omega)
  have h2 := Int.emod_lt_of_pos n hd
  rcases neg_divmod (n := n) hd with ⟨a, b, c⟩ | ⟨a, b, c⟩
  · rw [if_pos a, if_pos c, b]; omega
  · rw [if_neg a, if_neg (by omega), b, c]
    generalize n / d = q at *
    generalize n % d = r at *
    rcases mode_cases hm with h | h | h | h | h | h | h | h | h <;> subst h <;> simp +decide [mirrorS, mirrorOpt, upM] <;> (repeat' split) <;> (try simp_all) <;> omega
theorem rq_scale {n d k : Int} {m : Str} (hm : m ∈ modesL) (hd : 0 < d) (hk : 0 < k) : rq (n * k) (d * k) m = rq n d m := by
  have hdk : 0 < d * k := Int.mul_pos hd hk
  rw [rq_eq hm hd, rq_eq hm hdk]
  have e1 : (n * k) / (d * k) = n / d := Int.mul_ediv_mul_of_pos_left n d hk
  have e2 : (n * k) % (d * k) = n % d * k := by rw [Int.mul_comm n k, Int.mul_comm d k, Int.mul_emod_mul_of_pos _ _ hk, Int.mul_comm]
  rw [e1, e2]
  have z : n % d * k = 0 ↔ n % d = 0 := by
    constructor
    · intro h
      rcases Int.mul_eq_zero.mp h with h | h
      · exact h
      · omega
    · intro h; rw [h]; omega
  have l1 : (2 * (n % d * k) = d * k) ↔ (2 * (n % d) = d) := by
    rw [← Int.mul_assoc]
    exact ⟨fun h => Int.eq_of_mul_eq_mul_right (by omega) h, fun h => by rw [h]⟩
  have l2 : (d * k < 2 * (n % d * k)) ↔ (d < 2 * (n % d)) := by
    rw [← Int.mul_assoc]
    exact ⟨fun h => Int.lt_of_mul_lt_mul_right h (by omega), fun h => Int.mul_lt_mul_of_pos_right h hk⟩
  have l3 : (d * k ≤ 2 * (n % d * k)) ↔ (d ≤ 2 * (n % d)) := by
    rw [← Int.mul_assoc]
    exact ⟨fun h => Int.le_of_mul_le_mul_right h hk, fun h => Int.mul_le_mul_of_nonneg_right h (by omega)⟩
  have eu : upM m (n / d) (n % d * k) (d * k) = upM m (n / d) (n % d) d := by
    unfold upM
    simp only [l1, l2, l3]
  rw [eu]
  by_cases h : n % d = 0
  · rw [if_pos h, if_pos (z.mpr h)]
  · rw [if_neg h, if_neg fun q => h (z.mp q)]
theorem rq_mono {n n' d : Int} {m : Str} (hm : m ∈ modesL) (hd : 0 < d) (h : n ≤ n') : rq n d m ≤ rq n' d m := by
  have b1 := rq_bounds (n := n) (d := d) (m := m)
  have b2 := rq_bounds (n := n') (d := d) (m := m)
  have hq : n / d ≤ n' / d := Int.ediv_le_ediv hd h
  by_cases e : n / d = n' / d
  · rw [rq_eq hm hd, rq_eq hm hd, ← e]
    have e1 := Int.mul_ediv_add_emod n d
    have e2 := Int.mul_ediv_add_emod n' d
    rw [← e] at e2
    have hr : n % d ≤ n' % d := by omega
    have r0 := Int.emod_nonneg n (show d ≠ 0 by omega)
    generalize n / d = q at *
    generalize n % d = r at *
    generalize n' % d = r' at *
    rcases mode_cases hm with h | h | h | h | h | h | h | h | h <;> subst h <;> simp +decide [upM] <;> (repeat' split) <;> (try simp_all) <;> omega
  · split at b1 <;> omega
theorem rq_shift {n d f : Int} {m : Str} (hm : m ∈ steadyL) (hd : 0 < d) : rq (n + 2 * f * d) d m = rq n d m + 2 * f := by
  have hm' : m ∈ modesL := by
    simp only [steadyL, List.mem_cons, List.not_mem_nil, or_false] at hm
    rcases hm with h | h | h | h | h <;> subst h <;> decide +kernel
  rw [rq_eq hm' hd, rq_eq hm' hd]
  have e1 : (n + 2 * f * d) / d = n / d + 2 * f := Int.add_mul_ediv_right _ _ (by omega)
  have e2 : (n + 2 * f * d) % d = n % d := Int.add_mul_emod_self_right _ _ _
  rw [e1, e2]
  generalize n / d = q
  generalize n % d = r
  simp only [steadyL, List.mem_cons, List.not_mem_nil, or_false] at hm
  rcases hm with h | h | h | h | h <;> subst h <;> simp +decide [upM] <;> (repeat' split) <;> (try simp_all) <;> omega
end LX

set_option Elab.async false
set_option linter.all false
set_option maxRecDepth 100000
set_option maxHeartbeats 4000000
/-! An own exception over ValueError whose __init__ says super().__init__(a text) and then keeps its parameters. -/
namespace LP
open PySem PySem.Spec PyProof.Rows L2 LamX NdefX
structure ExI (P : Program) (K : PySem.W.Frag) (C f cc cda : Addr) (name qual : Str) (params : Arguments) (body : List Stmt) (scope : Scope) : Prop where
  T : OexC K C
  lk : ∃ (oc : Value) (od : Option Addr) (doc pm ctv : Value) (osl : Array (Option Value)), K.lookup f = some ⟨oc, od, .func ((⟨name, qual, params, body, scope, [("__class__", cc)], cda⟩ : NF).fd doc pm ctv), osl⟩
  cell : ∃ (oc : Value) (od : Option Addr) (osl : Array (Option Value)), K.lookup cc = some ⟨oc, od, .cell (some (.ref C)), osl⟩
  code : PySem.W.codeIn K (.ref cda) qual = true
  file : ∃ (oc : Value) (od : Option Addr) (vs : Array Value) (osl : Array (Option Value)) (file : Str) (tf : Tok), K.lookup cda = some ⟨oc, od, .fields vs, osl⟩ ∧ vs[2]? = some (.str file tf) ∧ ((P.main.file : Str) == file) = true
  top : (P.main.scope.names.lookup ("super" : Str)).isSome = false
  self : PySem.W.mroIn K C (.ref C) = some true
  sup : PySem.W.nsIn K mainGlobals "super" = some none
  st : PySem.W.nsIn K cStatics "thirdparty.any" = some none
  ini : PySem.W.ks_superIn K C C "__init__" = some (some (.builtin "ValueError.__init__"))
  ve : PySem.W.subIn K (.ref C) (.type "ValueError") = some true

section
variable {X : Cx} {pins : List (Addr × Obj)} {σ : L2.St} {H : Hp} {s : Shared} {a C u : Addr} {A : Around} {E : Value → Shared → Prop}
/-- the bound ValueError.__init__ called -/
theorem bound_init {us : List Value} {Q : Value → Shared → Prop} (T : OexC X.K C) (I : Inv X pins σ H s) (e : H a = some (exo a C none)) (hu : s.heap.get? u = some (PySem.W.kxs_mw "ValueError.__init__" a)) (hl : us.length ≤ sizeLine) (h : ∀ s', Inv X pins σ H s' → Q .none s') :
    wpAny (model X.prog X.w) A (call (.ref u) us) Q E s := by
  obtain ⟨nm, q, N, bs, bm, sn, sub, ab, col, dd, k0, k1, k2, k3, k5, hC, hbm⟩ := T.cls
  obtain ⟨t1, ho⟩ := exo_at I.hok e
  have hC' := I.kIn _ _ hC
  obtain ⟨hp, g, d, t, os⟩ := s
  refine wpAny_call (codeAny_of_tree ?_)
  show wpAny _ A.in1 (callAny (.ref u) ⟨us, []⟩) _ _ _
  simp only [callAny]
  refine wpAny_bind (wpAny_load hu ?_)
  simp only [PySem.W.kxs_mw, show (Value.type "method-wrapper" == Value.type "method" || Value.type "method-wrapper" == Value.type "builtin_function_or_method" || Value.type "method-wrapper" == Value.type "method-wrapper") = true by decide, if_true]
  refine PySem.W.KFB.if_so (by decide) ?_
  refine wpAny_bind (PySem.W.check_bound_init PySem.F.excBase_ValueError.toExcCallFacts hC' ho rfl ?_)
  refine wpAny_bind (wpAny_pure (wpAny_pure ?_))
  refine ⟨PySem.plainId_quiet PySem.F.excBase_ValueError.init.plain _, codeAny_builtin PySem.F.excBase_ValueError.initEntry ?_⟩
  refine PySem.W.exc_init_tree (cls := .ref C) (t0 := t1) (dv := none) (c2 := .none) (c3 := .none) (b4 := .bool false) ho hl (fun h' k hx _ => ?_)
  have J := I.write (t' := t) (x := a) (e := a) (o := exo a C none) (by rw [e]; exact True.intro) (.inl rfl) k ⟨_, hx⟩ (exo_ok hx)
  have eu : upd H a (exo a C none) = H := by
    funext b
    by_cases hb : b = a
    · rw [hb, upd_same, e]
    · rw [upd_ne hb]
  rw [eu] at J
  exact h _ J
end

theorem self_look {ps : List Str} {us : List Value} {x : Str} {u : Value} (nd : ps.Nodup) (h1 : ps[0]? = some x) (h2 : us[0]? = some u) : (ps.zip us).reverse.lookup x = some u := zip_look nd h1 h2

theorem exi_of {CX : CXT} {P : Program} {w : World} {K : PySem.W.Frag} {mg : Str → Option Value} {base : Heap} {N ps : List Str} {k : Nat} {sp : Sp} {C f cc cda : Addr} {name qual : Str} {params : Arguments} {body rest : List Stmt} {scope : Scope}
    {ar : Arg} {msg : Str} {p0 p1 p2 p3 p4 p5 : Pos} {j : Nat} (X : ExI P K C f cc cda name qual params body scope) (S : NScope N ps ["__class__"] scope)
    (hb0 : body = .Expr (.Call (.Attribute (.Call (.Name "super" p0) [] [] p1) "__init__" p2) [.Constant (.str msg) j p3] [] p4) p5 :: rest)
    {pl : Sem Bool} (he : ∀ env : Env, eval (.Call (.Attribute (.Call (.Name "super" p0) [] [] p1) "__init__" p2) [.Constant (.str msg) j p3] [] p4) env = (do
      let ov ← attributeBase (.Call (.Name "super" p0) [] [] p1) "__init__" env (eval (.Call (.Name "super" p0) [] [] p1) env)
      standAt p2.atName
      let (f, first) ← holding [ov] (getMethod ov "__init__" pl)
      callWith p4 f first (backTo p4 (starEach [.Constant (.str msg) j p3] env)) []))
    (hsw : ∀ env : Env, swapsWith (.Call (.Attribute (.Call (.Name "super" p0) [] [] p1) "__init__" p2) [.Constant (.str msg) j p3] [] p4) none p5.line env = pure false)
    (hp : (params.posonlyargs ++ params.args).head? = some ar) (hps : ps[0]? = some ar.arg) (hks : scope.names.lookup ("super" : Str) = some .globalImplicit)
    (len : ∀ vs H Q E, sp vs H Q E → vs.length = ps.length) (hself : ∀ vs H Q E, sp vs H Q E → ∃ a ws, vs = .ref a :: ws ∧ H a = some (exo a C none))
    (hbody : ∀ (A : Around) (outer : List Env) (s : Shared) (H : Hp) (vs : List V) (Q : VK) (E : XK), sp vs H Q E →
      ∃ t, PSs (ncx CX P w K mg base N ⟨name, qual, params, body, scope, [("__class__", cc)], cda⟩ f A outer s H E) rest t ∧ t { nx := fun _ H' => Q .non H', rt := Q } (startF N vs [some (.ref C)]) H) :
    FnOk P w K mg base CX (k + 1) f (fdOf K f) ps sp := by
  refine ⟨len, fun A outer s H args us vs Q E hr e0 hb r hsp => ?_⟩
  obtain ⟨oc, od, doc, pm, ctv, osl, lk⟩ := X.lk
  have efd : fdOf K f = (⟨name, qual, params, body, scope, [("__class__", cc)], cda⟩ : NF).fd doc pm ctv := by unfold fdOf; rw [lk]
  rw [efd] at hb
  have KX : K.In s.heap := e0.mod.kin.keeps fun b o e => (e0.bs b o e).1
  have hl := len _ _ _ _ hsp
  have lim : s.heap.NoLimit := e0.mod.nolimit.keeps fun b o e => (e0.bs b o e).1
  obtain ⟨a, ws, evs, ea⟩ := hself _ _ _ _ hsp
  obtain ⟨coc, cod, cosl, hcell⟩ := X.cell
  have cbase : base.get? cc = some ⟨coc, cod, .cell (some (.ref C)), cosl⟩ := e0.mod.kin _ _ hcell
  have CA : CellsAt [(("__class__" : Str), cc)] ["__class__"] [some (V.ref C)] s.heap H := by
    refine ⟨rfl, fun y c e => ?_, fun x y c e1 e2 => ?_, fun i y e => ?_⟩
    · have : c = cc := by
        simp only [List.lookup] at e
        split at e
        · exact (Option.some.inj e).symm
        · cases e
      subst this
      exact ⟨(e0.bs _ _ cbase).2, _, _, (e0.bs _ _ cbase).1, rfl⟩
    · simp only [List.lookup] at e1 e2
      split at e1
      · rename_i h1
        split at e2
        · rename_i h2
          exact (beq_iff_eq.mp h1).trans (beq_iff_eq.mp h2).symm
        · cases e2
      · cases e1
    · cases i with
      | zero =>
        simp only [List.getElem?_cons_zero, Option.some.injEq] at e
        subst e
        refine ⟨cc, rfl, fun v e => ?_⟩
        simp only [List.getElem?_cons_zero, Option.some.injEq] at e
        subst e
        exact ⟨.ref C, rfl, _, (e0.bs _ _ cbase).1, rfl⟩
      | succ i => simp at e
  refine codeAny_call_function hr.depth (KX _ _ lk) rfl S.co S.gen rfl (PySem.W.codeRec_of KX X.code) (hb _ _ _ _ ?_)
  refine wpAny_newFunctionEnv S.nocell (fun ⟨n, _⟩ hy => S.par n (List.of_mem_zip hy).1) (fun h₁ hns hsb => ⟨lim.fresh _ hsb, ?_⟩) S.kind
  refine PySem.ks_codeAny_funcAt ?_
  have kp : ∀ b o, s.heap.get? b = some o → h₁.get? b = some o := fun b o e => hsb.extBut b o (Nat.ne_of_lt (Heap.lt_size e)) (Heap.get?_push_of_some _ e)
  obtain ⟨t, ht, hq⟩ := hbody A outer s H vs Q E hsp
  have I : Inv (ncx CX P w K mg base N ⟨name, qual, params, body, scope, [("__class__", cc)], cda⟩ f A outer s H E) [] (startF N vs [some (V.ref C)]) H { s with heap := h₁, toks := s.toks + (ps.zip us).length } := inv_startN S hr.hd e0 hl r CA hns kp
  have us0 : us[0]? = some (.ref a) := by
    subst evs
    cases r with
    | cons ra rw' => exact congrArg some (show _ = Value.ref a from ra)
  have ndP : ps.Nodup := by
    have q := S.nd.sublist (List.take_sublist (ps.length + 1) N)
    have q2 := S.pre
    rw [show ps.length + (["__class__"] : List Str).length = ps.length + 1 from rfl] at q2
    rw [q2] at q
    exact (List.nodup_append.mp q).1
  have hv := self_look ndP hps us0
  obtain ⟨coF, codF, vsF, oslF, file, tf, hcode, hvs, hfile⟩ := X.file
  obtain ⟨nm, qn, NN, bs, bm, sn, sub, ab, col, dd, k0, k1, k2, k3, k5, hC, hbm⟩ := X.T.cls
  have hC1 : K.In h₁ := KX.keeps kp
  obtain ⟨t1, ho⟩ := exo_at I.hok ea
  show PySem.wpAt (model P w) (A.deeper (envF ⟨name, qual, params, body, scope, [("__class__", cc)], cda⟩ f s.heap.objs.size)) (.func body (envF ⟨name, qual, params, body, scope, [("__class__", cc)], cda⟩ f s.heap.objs.size)) (execs body (envF ⟨name, qual, params, body, scope, [("__class__", cc)], cda⟩ f s.heap.objs.size)) _ _ _
  have fin : PySem.wpAt (model P w) (A.deeper (envF ⟨name, qual, params, body, scope, [("__class__", cc)], cda⟩ f s.heap.objs.size)) (.func body (envF ⟨name, qual, params, body, scope, [("__class__", cc)], cda⟩ f s.heap.objs.size)) (execs (.Expr (.Call (.Attribute (.Call (.Name "super" p0) [] [] p1) "__init__" p2) [.Constant (.str msg) j p3] [] p4) p5 :: rest) (envF ⟨name, qual, params, body, scope, [("__class__", cc)], cda⟩ f s.heap.objs.size))
      (SP (ncx CX P w K mg base N ⟨name, qual, params, body, scope, [("__class__", cc)], cda⟩ f A outer s H E) [] { nx := fun _ H' => Q .non H', rt := Q }) (ncx CX P w K mg base N ⟨name, qual, params, body, scope, [("__class__", cc)], cda⟩ f A outer s H E).xe { s with heap := h₁, toks := s.toks + (ps.zip us).length } := by
    refine PySem.ks_wpAt_execs_cons (PySem.ks_wpAt_Expr_any (PySem.ks_wpAt_MethodCall (pl := pl) ?_ (he _)) (by unfold interactive; rw [show (envF ⟨name, qual, params, body, scope, [("__class__", cc)], cda⟩ f s.heap.objs.size).scope.kind = .function from S.kind]; rfl) (hsw _))
    refine PySem.ks_wpAt_super_base (env := envF ⟨name, qual, params, body, scope, [("__class__", cc)], cda⟩ f s.heap.objs.size) hks (S.frk _ (List.mem_singleton.mpr rfl)) (by decide) rfl (hC1 _ _ lk) rfl hp rfl (hC1 _ _ hcode) rfl hvs hfile X.top ?_
    obtain ⟨mb, hbl, hbx⟩ := e0.mod.blt
    have bk := I.bk
    refine PySem.W.ks_loadName_global S.kind hks (PySem.Calls.loadGlobal_builtin (env := envF ⟨name, qual, params, body, scope, [("__class__", cc)], cda⟩ f s.heap.objs.size) (e0.mod.glob.keeps bk) (PySem.W.mg_none_of e0.mod.kin e0.mod.glob X.sup) (hbl.keeps bk) ((hbx "super" (by decide)).trans (show bootBuiltins "super" = some (.type "super") by decide +kernel)) ⟨rfl, ?_⟩)
    refine wpAny_loadName_free S.kind (S.frk _ (List.mem_singleton.mpr rfl)) rfl ⟨_, hC1 _ _ hcell, rfl⟩ ?_
    refine wpAny_loadName_local S.kind (S.par _ (List.mem_of_getElem? hps)) hns hv ?_
    refine PySem.ks_wpAny_isType_cls (hC1 _ _ hC) rfl ⟨rfl, ?_⟩
    refine PySem.ks_wpAny_call_super (hC1 _ _ hC) rfl ho rfl (fun c e => ?_) (PySem.W.looks_mroIn hC1 X.self) (fun h' hso k => ?_)
    · cases e
    have I2 := I.kept (h' := h') (t' := s.toks + (ps.zip us).length) k
    have hC2 : K.In h' := hC1.keeps k
    have hcl : PySem.W.clsIn K C = some { name := nm, bases := bs, mro := .ref C :: bm, ns := NN, qualname := qn, hasDict := true, slotNames := sn, subclasses := sub, abstract := ab, collection := col, hasDel := false } := by unfold PySem.W.clsIn; rw [hC] <;> rfl
    have hm := X.ini
    unfold PySem.W.ks_superIn at hm
    rw [hcl] at hm
    have IA : PySem.W.InstAt h' a ({ cls := .ref C, dict := none, data := .fields #[.ref t1, .none, .none, .none, .bool false, .none] } : Obj) C none := ⟨k _ _ ho, rfl, rfl, trivial⟩
    have hI : PySem.W.Looks (model P w) h' (isInstance (.ref a) (.type "ValueError")) true := IA.type.andThen (PySem.W.looks_subIn hC2 X.ve)
    refine PySem.W.kxs_getMethod PySem.W.kxs_ValueError hso (PySem.W.looks_opaque hC2 X.st) (l₀ := .ref C :: bm) ?_ rfl hC2 hm hI (PySem.W.ks_ne hC2 IA hcl) (by decide) ?_
    · exact fun A Q E s k q => wpAny_bind ((PySem.W.looks_clsIn hC2 hcl) A _ E s k (wpAny_pure q))
    have hu : (h'.push (PySem.W.kxs_mw "ValueError.__init__" a)).get? h'.objs.size = some (PySem.W.kxs_mw "ValueError.__init__" a) := Heap.get?_push_at rfl rfl
    have I3 := I2.kept (h' := h'.push (PySem.W.kxs_mw "ValueError.__init__" a)) (t' := s.toks + (ps.zip us).length + 1) (fun b o e => Heap.get?_push_of_some _ e)
    have I4 := I3.pins_of (pins' := [(h'.objs.size, PySem.W.kxs_mw "ValueError.__init__" a)]) (fun p hp => by
      obtain rfl := List.mem_singleton.mp hp
      refine ⟨hu, I2.hok.fresh (Nat.le_refl _), fun z => ?_, I2.nofs (Nat.le_refl _), fun v z => by cases z⟩
      exact absurd I2.lt (by show ¬ _ < h'.objs.size; rw [← (show h'.objs.size = _ from z)]; exact Nat.lt_irrefl _))
    show wpAny _ _ (callWith p4 (Value.ref h'.objs.size) [] (backTo p4 (starEach [.Constant (.str msg) j p3] (envF ⟨name, qual, params, body, scope, [("__class__", cc)], cda⟩ f s.heap.objs.size))) []) _ _ _
    rw [show starEach [.Constant (.str msg) j p3] (envF ⟨name, qual, params, body, scope, [("__class__", cc)], cda⟩ f s.heap.objs.size) = (false, eval (.Constant (.str msg) j p3) (envF ⟨name, qual, params, body, scope, [("__class__", cc)], cda⟩ f s.heap.objs.size)) :: starEach [] (envF ⟨name, qual, params, body, scope, [("__class__", cc)], cda⟩ f s.heap.objs.size) from rfl]
    refine PySem.W.kxs_callWith (i := "ValueError.__init__") (x := a) (by rfl) ?_
    refine PySem.Calls.evalArgs_plain ?_
    have ha := (pa_cons (X := ncx CX P w K mg base N ⟨name, qual, params, body, scope, [("__class__", cc)], cda⟩ f A outer s H E) (pe_str (x := msg) (j := j) (pos := p3)) pa_nil).run p4 _ _ _ _ (fun vs H1 => H1 = H ∧ vs.length = 1) I4 ⟨rfl, rfl⟩
    refine thn ha fun us1 s1 ⟨vs1, H1, I5, r1, e1, e2⟩ => ?_
    subst e1
    have P1 := I5.pin _ (List.mem_append_right _ (List.mem_singleton.mpr rfl))
    refine ⟨P1.1, ?_⟩
    refine bound_init (X := ncx CX P w K mg base N ⟨name, qual, params, body, scope, [("__class__", cc)], cda⟩ f A outer s H1 E) X.T I5 ea P1.1 (by show us1.length ≤ _; rw [← Paired.length r1, e2]; decide) (fun s2 J => ?_)
    show PySem.wpAt _ _ _ (execs rest _) _ _ _
    exact wpAt_of_wpAny (ht.run [] s2 _ H1 _ (J.pins_of fun p hp => absurd hp (by simp)) hq)
  rw [← hb0] at fin
  refine PySem.wpAt_mono fin (fun fl s' hs => ?_) fun e s' hs => hs
  have fin2 : ∀ {σ' : L2.St} {H' : Hp} {v : V} {u : Value}, Inv (ncx CX P w K mg base N ⟨name, qual, params, body, scope, [("__class__", cc)], cda⟩ f A outer s H E) [] σ' H' s' → L2.RelV v u → Q v H' → CE outer P w H s Q u s' :=
    fun {σ' H' v u} J rv q => ⟨v, H', J.os, J.bare, J.base, J.hok, rv, q⟩
  cases fl with
  | ret u =>
    obtain ⟨v, σ', H', J, rv, q⟩ := hs
    exact fin2 J rv q
  | next =>
    obtain ⟨σ', H', J, q⟩ := hs
    exact fin2 (v := V.non) (u := Value.none) J rfl q
  | brk =>
    obtain ⟨_, _, _, q⟩ := hs
    exact False.elim q
  | cont =>
    obtain ⟨_, _, _, q⟩ := hs
    exact False.elim q
end LP

set_option Elab.async false
set_option linter.all false
set_option maxRecDepth 100000
set_option maxHeartbeats 4000000
/-! Own exceptions: their facts out of the written part, raising them, asking them in an except suite. -/
namespace LP
open PySem PySem.Spec PyProof.Rows L2
/-! ### Bools of the written part -/
def veB (K : PySem.W.Frag) (C : Addr) : Bool := match K.lookup C with
  | some ⟨.type "type", _, .cls cd, sl⟩ => (match cd.mro, sl.toList with
    | .ref C' :: bm, [_, _, _, _, some (.builtin n), _] => C' == C && n == "ValueError.__new__" && !cd.hasDel && cd.hasDict && PySem.HandSPX.refsVE bm
    | _, _ => false)
  | _ => false
theorem veB_ok {K : PySem.W.Frag} {C : Addr} (q : veB K C = true) : ∃ nm qn N bs bm sn sub ab col dd k0 k1 k2 k3 k5, K.lookup C = some (excClassObj nm qn C N bs bm true sn sub ab col dd k0 k1 k2 k3 k5 "ValueError.__new__") ∧ PySem.HandSPX.refsVE bm = true := by
  unfold veB at q
  split at q
  · rename_i dd cd sl ho
    split at q
    · rename_i C' bm k0 k1 k2 k3 n k5 hm hs
      simp only [Bool.and_eq_true, beq_iff_eq, Bool.not_eq_true'] at q
      obtain ⟨⟨⟨⟨rfl, rfl⟩, hdel⟩, hdct⟩, ht⟩ := q
      obtain ⟨nm, bs, mro, ns, qn, hd, sn, sub, ab, col, del⟩ := cd
      dsimp only at hm hdel hdct
      subst hm hdel hdct
      have hsl : sl = #[k0, k1, k2, k3, some (.builtin "ValueError.__new__"), k5] := by
        obtain ⟨l⟩ := sl
        simp only at hs
        rw [hs]
      subst hsl
      exact ⟨nm, qn, ns, bs, bm, sn, sub, ab, col, dd, k0, k1, k2, k3, k5, ho, ht⟩
    · cases q
  · cases q
/-- C is an own class over ValueError, made by ValueError.__new__ -/
def oexB (K : PySem.W.Frag) (C : Addr) : Bool := veB K C && (He.eqO (PySem.W.findIn K (.ref C) "__setattr__") (some (some (.builtin "object.__setattr__"))) && (decide (PySem.W.subIn K (.ref C) (.type "BaseException") = some true) && (decide (PySem.W.typeIn K (.ref C) = some (.type "type")) && PySem.W.keepIn K (.ref C))))
theorem oexB_ok {K : PySem.W.Frag} {C : Addr} (h : oexB K C = true) : OexC K C := by
  obtain ⟨h1, h⟩ := He.ba h
  obtain ⟨h2, h⟩ := He.ba h
  obtain ⟨h3, h⟩ := He.ba h
  obtain ⟨h4, h5⟩ := He.ba h
  exact ⟨veB_ok h1, He.eqO_ok h2, of_decide_eq_true h3, of_decide_eq_true h4, h5⟩
/-- isinstance may be asked, attributes may be read -/
def excB (K : PySem.W.Frag) (C : Addr) : Bool := He.eqO (PySem.W.findIn K (.ref C) "__getattribute__") (some (some (.builtin "BaseException.__getattribute__"))) && (He.eqO (PySem.W.findIn K (.ref C) "__getattr__") (some none) && (decide (PySem.W.subIn K (.ref C) (.type "BaseException") = some true) && (PySem.W.hasDictIn K C &&
  (He.eqO (PySem.W.findIn K (.ref C) "__class__") (some (some (.builtin "object.__class__"))) && (He.eqO (PySem.W.specialIn K (.builtin "object.__class__") "__get__") (some (some (.builtin "getset_descriptor.__get__"))) && (decide (PySem.W.takesIn K (.builtin "object.__class__") = some true) && decide (PySem.W.mroIn K C (.type "object") = some true)))))))
theorem excB_ok {K : PySem.W.Frag} {C : Addr} (h : excB K C = true) : ExcC K C := by
  obtain ⟨h1, h⟩ := He.ba h
  obtain ⟨h2, h⟩ := He.ba h
  obtain ⟨h3, h⟩ := He.ba h
  obtain ⟨h4, h⟩ := He.ba h
  obtain ⟨h5, h⟩ := He.ba h
  obtain ⟨h6, h⟩ := He.ba h
  obtain ⟨h7, h8⟩ := He.ba h
  exact ⟨He.eqO_ok h1, He.eqO_ok h2, of_decide_eq_true h3, h4, He.eqO_ok h5, He.eqO_ok h6, of_decide_eq_true h7, of_decide_eq_true h8⟩
theorem ExcC.xf {K : PySem.W.Frag} {C : Addr} (E : ExcC K C) : XfC K C := ⟨E.hg, E.hk, E.hs, E.hd⟩
/-- the class's own __init__ is the function at f; isinstance(self, C), super() are as they should be -/
def clB (K : PySem.W.Frag) (f : Addr) : Addr := match K.lookup f with
  | some ⟨_, _, .func fd, _⟩ => (match fd.closure with | [(_, c)] => c | _ => 0)
  | _ => 0
def cdB (K : PySem.W.Frag) (f : Addr) : Addr := match K.lookup f with
  | some ⟨_, _, .func fd, _⟩ => (match fd.code with | .ref c => c | _ => 0)
  | _ => 0
def fdB (K : PySem.W.Frag) (f : Addr) : Bool := match K.lookup f with
  | some ⟨_, _, .func fd, _⟩ => decide (fd.closure = [(("__class__" : Str), clB K f)]) && (decide (fd.code = .ref (cdB K f)) && (decide (fd.defaults = .none) && (decide (fd.kwdefaults = .none) && decide (fd.annotations = none))))
  | _ => false
def cellB (K : PySem.W.Frag) (c C : Addr) : Bool := match K.lookup c with
  | some ⟨_, _, .cell (some (.ref D)), _⟩ => decide (D = C)
  | _ => false
def fileB (K : PySem.W.Frag) (c : Addr) (file : Str) : Bool := match K.lookup c with
  | some ⟨_, _, .fields vs, _⟩ => (match (vs[2]? : Option Value) with | some (.str z _) => decide (z = file) | _ => false)
  | _ => false
def exiB (C f : PySem.W.Frag → Addr) (qual file : Str) : Bf := fun K => oexB K (C K) && (fdB K (f K) && (cellB K (clB K (f K)) (C K) && (PySem.W.codeIn K (.ref (cdB K (f K))) qual && (fileB K (cdB K (f K)) file && (decide (PySem.W.mroIn K (C K) (.ref (C K)) = some true) &&
  (He.eqO (PySem.W.nsIn K mainGlobals "super") (some none) && (He.eqO (PySem.W.nsIn K cStatics "thirdparty.any") (some none) && (He.eqO (PySem.W.ks_superIn K (C K) (C K) "__init__") (some (some (.builtin "ValueError.__init__"))) && (decide (PySem.W.subIn K (.ref (C K)) (.type "ValueError") = some true) &&
  (He.eqO (PySem.W.findIn K (.ref (C K)) "__init__") (some (some (.ref (f K)))) && decide (PySem.W.typeIn K (.ref (f K)) = some (.type "function"))))))))))))
structure Exi (P : Program) (K : PySem.W.Frag) (C f : Addr) (name qual : Str) (params : Arguments) (body : List Stmt) (scope : Scope) : Prop where
  I : ExI P K C f (clB K f) (cdB K f) name qual params body scope
  iC : PySem.W.findIn K (.ref C) "__init__" = some (some (.ref f))
  tI : PySem.W.typeIn K (.ref f) = some (.type "function")
theorem exiB_ok {P : Program} {K : PySem.W.Frag} {C f : PySem.W.Frag → Addr} {d : He5.DefA} {file : Str} (h : exiB C f d.qual file K = true) (e : fnC K (f K) = d.val) (hf : P.main.file = file) (ht : (P.main.scope.names.lookup ("super" : Str)).isSome = false) : Exi P K (C K) (f K) d.name d.qual d.params d.body d.scope := by
  obtain ⟨h1, h⟩ := He.ba h
  obtain ⟨h2, h⟩ := He.ba h
  obtain ⟨h3, h⟩ := He.ba h
  obtain ⟨h4, h⟩ := He.ba h
  obtain ⟨h5, h⟩ := He.ba h
  obtain ⟨h6, h⟩ := He.ba h
  obtain ⟨h7, h⟩ := He.ba h
  obtain ⟨h8, h⟩ := He.ba h
  obtain ⟨h9, h⟩ := He.ba h
  obtain ⟨h10, h⟩ := He.ba h
  obtain ⟨h11, h12⟩ := He.ba h
  refine ⟨⟨oexB_ok h1, ?_, ?_, h4, ?_, ht, of_decide_eq_true h6, He.eqO_ok h7, He.eqO_ok h8, He.eqO_ok h9, of_decide_eq_true h10⟩, He.eqO_ok h11, of_decide_eq_true h12⟩
  · unfold fdB at h2
    unfold fnC at e
    split at h2
    · rename_i oc od fd osl hl
      rw [hl] at e
      obtain ⟨q1, h2⟩ := He.ba h2
      obtain ⟨q2, h2⟩ := He.ba h2
      obtain ⟨q3, h2⟩ := He.ba h2
      obtain ⟨q4, q5⟩ := He.ba h2
      have r1 := of_decide_eq_true q1
      clear q1
      have r2 := of_decide_eq_true q2
      clear q2
      have r3 := of_decide_eq_true q3
      clear q3
      have r4 := of_decide_eq_true q4
      clear q4
      have r5 := of_decide_eq_true q5
      clear q5
      generalize clB K (f K) = cc at *
      generalize cdB K (f K) = cd at *
      obtain ⟨n1, n2, n3, n4, n5, n6, n7, n8, n9, n10, n11, n12, n13, n14, n15⟩ := fd
      simp only [He5.DefA.val, Option.some.injEq, Prod.mk.injEq] at e
      obtain ⟨e1, e2, e3, e4, e5, e6, _, e8⟩ := e
      dsimp only at r1 r2 r3 r4 r5
      subst e1 e2 e3 e4 e5 e6 e8 r1 r2 r3 r4 r5
      exact ⟨oc, od, n10, n11, n14, osl, hl⟩
    · cases h2
  · unfold cellB at h3
    split at h3
    · rename_i oc od D osl hl
      have := of_decide_eq_true h3
      subst this
      exact ⟨oc, od, osl, hl⟩
    · cases h3
  · unfold fileB at h5
    split at h5
    · rename_i oc od vs osl hl
      split at h5
      · rename_i z tf hv
        have := of_decide_eq_true h5
        subst this
        exact ⟨oc, od, vs, osl, _, tf, hl, hv, by rw [hf]; exact beq_self_eq_true _⟩
      · cases h5
    · cases h5
end LP

set_option Elab.async false
set_option linter.all false
set_option maxRecDepth 100000
set_option maxHeartbeats 4000000
namespace LP
open PySem PySem.Spec PyProof.Rows L2 LamX NdefX
/-! ### __init__ with one field, with two -/
def spI1 (C : Addr) (f : Str) : Sp := fun vs H Q E => ∃ a y, vs = [.ref a, y] ∧ H a = some (exo a C none) ∧ ∀ d, H d = none → d ≠ a → Q .non (upd (upd H d (exd d [(f, y)])) a (exo a C (some d)))
def spI2 (C : Addr) (f g : Str) : Sp := fun vs H Q E => ∃ a y z, vs = [.ref a, y, z] ∧ H a = some (exo a C none) ∧ ∀ d, H d = none → d ≠ a → Q .non (upd (upd (upd H d (exd d [(f, y)])) a (exo a C (some d))) d (exd d [(g, z), (f, y)]))
section
variable {CX : CXT} {P : Program} {w : World} {K : PySem.W.Frag} {mg : Str → Option Value} {base : Heap} {k : Nat} {C fA : Addr} {name qual s f y g z msg : Str} {params : Arguments} {body : List Stmt} {scope : Scope}
    {ar : Arg} {p0 p1 p2 p3 p4 p5 q1 q2 q3 q4 r1 r2 r3 r4 : Pos} {j : Nat} {pl : Sem Bool}
theorem ini1_of (X : Exi P K C fA name qual params body scope) (S : NScope [s, y, "__class__"] [s, y] ["__class__"] scope)
    (hb0 : body = [.Expr (.Call (.Attribute (.Call (.Name "super" p0) [] [] p1) "__init__" p2) [.Constant (.str msg) j p3] [] p4) p5, .Assign [.Attribute (.Name s q1) f q2] (.Name y q3) q4])
    (he : ∀ env : Env, eval (.Call (.Attribute (.Call (.Name "super" p0) [] [] p1) "__init__" p2) [.Constant (.str msg) j p3] [] p4) env = (do
      let ov ← attributeBase (.Call (.Name "super" p0) [] [] p1) "__init__" env (eval (.Call (.Name "super" p0) [] [] p1) env)
      standAt p2.atName
      let (f, first) ← holding [ov] (getMethod ov "__init__" pl)
      callWith p4 f first (backTo p4 (starEach [.Constant (.str msg) j p3] env)) []))
    (hsw : ∀ env : Env, swapsWith (.Call (.Attribute (.Call (.Name "super" p0) [] [] p1) "__init__" p2) [.Constant (.str msg) j p3] [] p4) none p5.line env = pure false)
    (hp : (params.posonlyargs ++ params.args).head? = some ar) (hps : s = ar.arg) (hks : scope.names.lookup ("super" : Str) = some .globalImplicit)
    (h1 : scope.names.lookup s = some .local) (h2 : scope.names.lookup y = some .local) (d1 : (s == ("__debug__" : Str)) = false) (d2 : (y == ("__debug__" : Str)) = false) (c1 : (s == ("__classdict__" : Str)) = false) (c2 : (y == ("__classdict__" : Str)) = false)
    (hno : PySem.W.findIn K (.ref C) f = some none) : FnOk P w K mg base CX (k + 1) fA (fdOf K fA) [s, y] (spI1 C f) := by
  refine exi_of X.I S hb0 he hsw hp (by rw [hps]; rfl) hks (fun vs H Q E h => ?_) (fun vs H Q E h => ?_) fun A outer st H vs Q E h => ?_
  · obtain ⟨a, y, rfl, _⟩ := h
    rfl
  · obtain ⟨a, y, rfl, ea, _⟩ := h
    exact ⟨a, _, rfl, ea⟩
  · obtain ⟨a, v, rfl, ea, q⟩ := h
    refine ⟨_, pss_one (ps_ost (pe_var (i := 0) rfl (.inl h1) d1 c1) (pe_var (i := 1) rfl (.inl h2) d2 c2)), ?_⟩
    exact ⟨_, rfl, _, rfl, a, C, rfl, X.I.T, hno, .inl ⟨ea, q⟩⟩
theorem ini2_of (X : Exi P K C fA name qual params body scope) (S : NScope [s, y, z, "__class__"] [s, y, z] ["__class__"] scope)
    (hb0 : body = [.Expr (.Call (.Attribute (.Call (.Name "super" p0) [] [] p1) "__init__" p2) [.Constant (.str msg) j p3] [] p4) p5, .Assign [.Attribute (.Name s q1) f q2] (.Name y q3) q4, .Assign [.Attribute (.Name s r1) g r2] (.Name z r3) r4])
    (he : ∀ env : Env, eval (.Call (.Attribute (.Call (.Name "super" p0) [] [] p1) "__init__" p2) [.Constant (.str msg) j p3] [] p4) env = (do
      let ov ← attributeBase (.Call (.Name "super" p0) [] [] p1) "__init__" env (eval (.Call (.Name "super" p0) [] [] p1) env)
      standAt p2.atName
      let (f, first) ← holding [ov] (getMethod ov "__init__" pl)
      callWith p4 f first (backTo p4 (starEach [.Constant (.str msg) j p3] env)) []))
    (hsw : ∀ env : Env, swapsWith (.Call (.Attribute (.Call (.Name "super" p0) [] [] p1) "__init__" p2) [.Constant (.str msg) j p3] [] p4) none p5.line env = pure false)
    (hp : (params.posonlyargs ++ params.args).head? = some ar) (hps : s = ar.arg) (hks : scope.names.lookup ("super" : Str) = some .globalImplicit)
    (h1 : scope.names.lookup s = some .local) (h2 : scope.names.lookup y = some .local) (h3 : scope.names.lookup z = some .local) (d1 : (s == ("__debug__" : Str)) = false) (d2 : (y == ("__debug__" : Str)) = false) (d3 : (z == ("__debug__" : Str)) = false) (c1 : (s == ("__classdict__" : Str)) = false) (c2 : (y == ("__classdict__" : Str)) = false) (c3 : (z == ("__classdict__" : Str)) = false)
    (hno : PySem.W.findIn K (.ref C) f = some none) (hno2 : PySem.W.findIn K (.ref C) g = some none) : FnOk P w K mg base CX (k + 1) fA (fdOf K fA) [s, y, z] (spI2 C f g) := by
  refine exi_of X.I S hb0 he hsw hp (by rw [hps]; rfl) hks (fun vs H Q E h => ?_) (fun vs H Q E h => ?_) fun A outer st H vs Q E h => ?_
  · obtain ⟨a, y, z, rfl, _⟩ := h
    rfl
  · obtain ⟨a, y, z, rfl, ea, _⟩ := h
    exact ⟨a, _, rfl, ea⟩
  · obtain ⟨a, v, v2, rfl, ea, q⟩ := h
    refine ⟨_, pss_cons (ps_ost (pe_var (i := 0) rfl (.inl h1) d1 c1) (pe_var (i := 1) rfl (.inl h2) d2 c2)) (pss_one (ps_ost (pe_var (i := 0) rfl (.inl h1) d1 c1) (pe_var (i := 2) rfl (.inl h3) d3 c3))), ?_⟩
    refine ⟨_, rfl, _, rfl, a, C, rfl, X.I.T, hno, .inl ⟨ea, fun d hd ne => ?_⟩⟩
    exact ⟨_, rfl, _, rfl, a, C, rfl, X.I.T, hno2, .inr ⟨d, [(f, v)], upd_same, by rw [upd_ne ne]; exact upd_same, by show 1 ≤ 900; decide, q d hd ne⟩⟩
end

/-! ### making and raising -/
theorem pmk5_oex {X : Cx} {CX : CXT} {x : Str} {e : Expr} {es : List Expr} {ta : TA} {p pos : Pos} {C fI : Addr} {k : Nat} {fd : FuncData} {ps : List Str} {sp : Sp} (T : OexC X.K C) (iC : PySem.W.findIn X.K (.ref C) "__init__" = some (some (.ref fI))) (tI : PySem.W.typeIn X.K (.ref fI) = some (.type "function"))
    (F1 : FnOk X.prog X.w X.K X.mg X.base CX k fI fd ps sp) (hr : Room (k + 1) X.A) (hb : Binds X.K fd ps []) (hx : Passes CX X (fun _ _ _ => False)) (hg : Gl X x) (hm : X.mg x = some (.ref C)) (ha : PA X (e :: es) ta)
    (hdb : (x == ("__debug__" : Str)) = false := by decide) (he : starEach (e :: es) X.env = (false, eval e X.env) :: starEach es X.env := by rfl) (hpl : (backTo pos (starEach es X.env)).any (·.1) = false := by rfl) :
    L2H.PMk5 X (.Call (.Name x p) (e :: es) [] pos) (tMkO C sp [] ta) := by
  intro pins s σ H Q I h
  obtain ⟨nm, q, N, bs, bm, sn, sub, ab, col, dd, k0, k1, k2, k3, k5, hC, hbm⟩ := T.cls
  refine wpAny_Call_Name_kw (ld_glob I hg hm ?_ hdb)
  refine PySem.W.callWith_K (h₀ := X.base) I.ok.mod.kin T.kC (thn (ha.run pos pins s σ H _ I h) fun us s1 ⟨vs, H1, I1, r1, hz, q1⟩ => ⟨I1.kIn, ?_⟩) he hpl
  show wpAny _ _ (call (.ref C) us) _ _ _
  obtain ⟨hp, g, dr, tk, os⟩ := s1
  have hsz : hp.objs.size ≤ hp.objs.size + 1 := Nat.le_succ _
  have hn : H1 (hp.objs.size + 1) = none := I1.hok.fresh hsz
  have hq := q1 (hp.objs.size + 1) hn
  rw [List.append_nil] at hq
  have kk : ∀ b o, hp.get? b = some o → ((hp.push (PySem.W.kdv_tup us)).push (PySem.HandSPX.excO C hp.objs.size)).get? b = some o := fun b o e => Heap.get?_push_of_some _ (Heap.get?_push_of_some _ e)
  have hget : ((hp.push (PySem.W.kdv_tup us)).push (PySem.HandSPX.excO C hp.objs.size)).get? (hp.objs.size + 1) = some (PySem.HandSPX.excO C hp.objs.size) := by heap_get
  have I2 : Inv X pins σ (upd H1 (hp.objs.size + 1) (exo (hp.objs.size + 1) C none)) ⟨(hp.push (PySem.W.kdv_tup us)).push (PySem.HandSPX.excO C hp.objs.size), g, dr, tk, os⟩ :=
    I1.laid (t' := tk) (a := hp.objs.size + 1) (o := exo (hp.objs.size + 1) C none) (h' := (hp.push (PySem.W.kdv_tup us)).push (PySem.HandSPX.excO C hp.objs.size)) kk hsz (exo_ok hget)
  have r2 : Vals (V.ref (hp.objs.size + 1) :: vs) (Value.ref (hp.objs.size + 1) :: us) := .cons rfl r1
  have hl : (Value.ref (hp.objs.size + 1) :: us ++ []).length = ps.length := by
    have e := r2.length
    rw [F1.len _ _ _ _ hq] at e
    rw [List.append_nil]
    exact e.symm
  have hus : us.length ≤ sizeLine := by
    rw [← Paired.length r1, sizeLine_eq]
    omega
  have b2 := hb _ (Value.ref (hp.objs.size + 1) :: us) I2.kIn hl
  rw [List.append_nil] at b2
  refine wpAny_call (PySem.HandSPX.call_own F.excBase_ValueError (fun Y => PySem.HandSPX.refsVE_contains Y bm hbm) (I1.kIn _ _ hC) (PySem.W.looks_findIn I1.kIn iC) (fun self => PySem.W.bind_fn I1.kIn self tI) hus
    (codeAny_mono (F1.run _ X.stack _ _ ⟨Value.ref (hp.objs.size + 1) :: us, []⟩ (Value.ref (hp.objs.size + 1) :: us) _ _ (fun _ _ _ => False) (hr.make C us []) (I2.env0.make C us []) b2 r2 hq) fun r s' hq' => ?_))
  cases r with
  | error er => exact hx pins σ _ _ er s' I2 hq'
  | ok fl =>
    cases fl with
    | ret u =>
      obtain ⟨v, H2, os2, bare2, un2, hok2, rv, ev, d, fs, ea, ed, hd1, q2⟩ := hq'
      subst ev
      obtain ⟨h2, g2, d2, t2, os'⟩ := s'
      obtain ⟨t0, G, J, kG, ge, hoe, na⟩ := mk_end0 (d2 := d2) (t2 := t2) I1 hsz kk un2 hok2 os2 bare2 ea ed hd1
      refine ⟨rv, ⟨hp.objs.size + 1, _, _, ⟨G, g2, d2, t2, os'⟩, _, .ref C, some d, rfl, J, kG, ge, hoe, ⟨rfl, rfl, fun vs hv => ?_⟩, rfl, rfl, na, rfl, bare2, raises_own T.exC T.tyC, q2⟩, fun a oe vs ea2 hg2 hd2 => ?_⟩
      · cases hv
        rfl
      · cases ea2
        have hg3 : h2.get? (hp.objs.size + 1) = some oe := hg2
        rw [hoe] at hg3
        cases hg3
        cases hd2
        show (4 : Nat) < 6
        decide
    | next => exact False.elim hq'
    | brk => exact False.elim hq'
    | cont => exact False.elim hq'

/-! ### asking in an except suite -/
section
open PySem.W
variable {K : Frag} {D x : Addr}
theorem kitx_excD (E : ExcC K D) : KitX K (.ref x) (.ref D) (fun h => ∃ ox od, InstAt h x ox D od) where
  ty := fun _ _ _ I => by
    obtain ⟨ox, od, I⟩ := I
    exact I.type
  it := fun _ _ X _ => by
    obtain ⟨cdD, hcD, _⟩ := any_some E.hd
    unfold clsIn at hcD
    split at hcD
    · rename_i c' d' cd' sl' ho
      intro A' Q' E' s' k q
      unfold isType loadHead
      exact wpAny_bind (wpAny_loadPart (k _ _ (X _ _ ho)) (wpAny_pure q))
    · cases hcD
  ne := fun h tp dd its n sl X htp => by
    obtain ⟨cdD, hcD, _⟩ := any_some E.hd
    refine Bool.eq_false_iff.mpr fun q => ?_
    have e : D = tp := Value.ref.inj (beq_iff_eq.mp q)
    subst e
    unfold clsIn at hcD
    split at hcD
    · rename_i c' d' cd' sl' ho
      have z := (X _ _ ho).symm.trans htp
      cases z
    · cases hcD
  ca := fun X I k => by
    obtain ⟨ox, od, I⟩ := I
    exact kx_classE X I E.hg E.hk E.hs (findObj_dataE (by obtain ⟨cd, hc, _⟩ := any_some E.hd; rw [hc]; rfl) E.ha E.hn E.ht) E.hm k
end
/-- isinstance(e, c), e the exception that the suite holds (cls its class, d its dict) -/
def rIsD (K : PySem.W.Frag) (cls : Value) (d : Option Addr) (a : Addr) : List V → Hp → VK → Prop := fun xs H Q => ∃ (D : Addr) (c : V) (cv : Value) (b : Bool), cls = .ref D ∧ ExcC K D ∧ xs = [.ref a, c] ∧ (∀ u, RelV c u → u = cv) ∧ PySem.W.kitOne K (.ref D) cv = some b ∧ (∀ dd, d = some dd → ∃ fs, H dd = some (.xd fs)) ∧ Q (.bl b) H
theorem call_isD {X : Cx} {a : Addr} {cls : Value} {d : Option Addr} {oe : Obj} {pn : List (Addr × Obj)} (hz : Zc cls d oe) (hf : ∃ vs, oe.data = .fields vs) : CallR (X.suite a ((a, oe) :: pn)) (.builtin "isinstance") (rIsD X.K cls d a) := by
  intro pins s σ H xs us Q I r h
  obtain ⟨D, c, cv, b, ecl, C, rfl, hcv, e, hdd, q⟩ := h
  subst ecl
  cases r with
  | cons rx rr =>
    cases rr with
    | cons rt rr =>
      cases rr
      cases rx
      have ec := hcv _ rt
      subst ec
      obtain ⟨hget, _⟩ := I.pin (a, oe) (List.mem_append.mpr (.inl List.mem_cons_self))
      obtain ⟨vs, hv⟩ := hf
      have J : ∃ ox od, PySem.W.InstAt s.heap a ox D od := by
        cases d with
        | none =>
          refine ⟨oe, none, hget, hz.1, by unfold PySem.W.notCls; rw [hv] <;> rfl, ?_⟩
          rw [hz.2]
          trivial
        | some dd =>
          obtain ⟨fs, hx0⟩ := hdd dd rfl
          have hx : ObjOk X.prog X.w H s.heap dd (.xd fs) := I.hok dd _ hx0
          obtain ⟨mA, hns, hr⟩ := hx
          obtain ⟨od, ho, hl⟩ := lookIn_ns hns
          exact ⟨oe, some od, hget, hz.1, by unfold PySem.W.notCls; rw [hv] <;> rfl, by rw [hz.2]; exact ho⟩
      exact PySem.W.kia_one (kitx_excD C) I.kIn J e (fun z => nomatch z) fun tk => ⟨.bl b, H, I.kept (t' := tk) fun _ _ z => z, rfl, q⟩
/-- e.n -/
def tXd (K : PySem.W.Frag) (a : Addr) (cls : Value) (d : Option Addr) (n : Str) (te : TE) : TE := fun σ H Q => te σ H fun x H1 => x = .ref a ∧ ∃ (C dd : Addr) (fs : List (Str × V)) (v : V), cls = .ref C ∧ ExcC K C ∧ PySem.W.findIn K (.ref C) n = some none ∧ d = some dd ∧ H1 dd = some (.xd fs) ∧ fs.lookup n = some v ∧ Q v H1
theorem pe_xd {X : Cx} {a : Addr} {oe : Obj} {cls : Value} {d : Option Addr} {pn : List (Addr × Obj)} {e : Expr} {te : TE} {pos : Pos} {n : Str}
    (hz : Zc cls d oe) (hf : ∃ vs, oe.data = .fields vs) (he : PE (X.suite a ((a, oe) :: pn)) e te) (hb : attributeBase e n X.env (eval e X.env) = eval e X.env := by rfl) :
    PE (X.suite a ((a, oe) :: pn)) (.Attribute e n pos) (tXd X.K a cls d n te) := by
  refine ⟨fun pins s σ H Q I h => ?_⟩
  refine attr_of hb (thn (he.run pins s σ H _ I h) fun u s1 hh => ?_)
  obtain ⟨x, H1, I1, rx, ex, C, dd, fs, v, ec, T, hno, ed, ea, l, q⟩ := hh
  subst ex
  obtain rfl : u = Value.ref a := rx
  subst ec
  subst ed
  obtain ⟨ha, _⟩ := I1.pin (a, oe) (List.mem_append_left _ List.mem_cons_self)
  obtain ⟨vs, hd⟩ := hf
  have hx : ObjOk X.prog X.w H1 s1.heap dd (.xd fs) := I1.hok dd _ ea
  obtain ⟨mA, hns, hr⟩ := hx
  obtain ⟨od, ho, hl⟩ := lookIn_ns hns
  obtain ⟨u, hu, ru⟩ := RelO.some_of (v := v) (o := mA n) (by rw [← l]; exact hr n)
  have J : PySem.W.InstAt s1.heap a oe C (some od) := ⟨ha, hz.1, by unfold PySem.W.notCls; rw [hd] <;> rfl, by rw [hz.2]; exact ho⟩
  exact HandSPX.exc_get I1.kIn J T.hg T.hk T.hs (PySem.W.findObj_own T.hd hno rfl (by rw [hl, hu])) (handed_of ru) ⟨v, H1, I1.tok _, ru, q⟩
/-- the suite's handled exception is known -/
theorem hot_suite {X : Cx} {a : Addr} {oe : Obj} {cls : Value} {d : Option Addr} {pn : List (Addr × Obj)} (hz : L2N.Zn cls d oe) (hf : ∃ vs, oe.data = .fields vs) : L2H.HotC (X.suite a ((a, oe) :: pn)) := by
  obtain ⟨vs, hv⟩ := hf
  exact ⟨(a, oe), ⟨rfl, vs, hv, hz.2.2 vs hv⟩, List.mem_cons_self⟩

theorem Exi.binds {P : Program} {K : PySem.W.Frag} {C fA : Addr} {name qual : Str} {params : Arguments} {body : List Stmt} {scope : Scope} {ps : List Str} (X : Exi P K C fA name qual params body scope)
    (h : ∀ (cc cda : Addr) (doc pm ctv : Value) (us : List Value), us.length = ps.length → bindArgs ((⟨name, qual, params, body, scope, [("__class__", cc)], cda⟩ : NF).fd doc pm ctv) ⟨us, []⟩ = pure (ps.zip us)) : Binds K (fdOf K fA) ps [] := by
  obtain ⟨oc, od, doc, pm, ctv, osl, lk⟩ := X.I.lk
  have efd : fdOf K fA = (⟨name, qual, params, body, scope, [("__class__", clB K fA)], cdB K fA⟩ : NF).fd doc pm ctv := by unfold fdOf; rw [lk]
  rw [efd]
  exact .all (h _ _ doc pm ctv)
theorem del_upd {H : Hp} {a d : Addr} {o1 o2 o3 o4 : HO} (ha : H a = none) (hd : d ≠ a) : upd (del (upd (upd (upd H a o1) d o2) a o3) a) d o4 = upd H d o4 := by
  funext b
  by_cases h1 : b = d
  · subst h1; rw [upd_same, upd_same]
  · rw [upd_ne h1, upd_ne h1]
    by_cases h2 : b = a
    · subst h2; rw [del_same, ha]
    · rw [del_ne h2, upd_ne h2, upd_ne h1, upd_ne h2]
theorem del_upd2 {H : Hp} {a d : Addr} {o1 o2 o3 o4 o5 : HO} (ha : H a = none) (hd : d ≠ a) : upd (del (upd (upd (upd (upd H a o1) d o2) a o3) d o5) a) d o4 = upd H d o4 := by
  funext b
  by_cases h1 : b = d
  · subst h1; rw [upd_same, upd_same]
  · rw [upd_ne h1, upd_ne h1]
    by_cases h2 : b = a
    · subst h2; rw [del_same, ha]
    · rw [del_ne h2, upd_ne h1, upd_ne h2, upd_ne h1, upd_ne h2]
theorem mk1 {H1 : Hp} {C : Addr} {f : Str} {y : V} {Q : XK} (h : ∀ d, H1 d = none → Q (.ref C) (some d) (upd H1 d (.xd [(f, y)]))) : ∀ a, H1 a = none → spI1 C f (.ref a :: ([y] ++ [])) (upd H1 a (exo a C none))
    (fun v H2 => v = .non ∧ ∃ (d : Addr) (fs : List (Str × V)), H2 a = some (exo a C (some d)) ∧ H2 d = some (exd d fs) ∧ H1 d = none ∧ Q (.ref C) (some d) (upd (del H2 a) d (.xd fs))) (fun _ _ _ => False) := by
  intro a ha
  refine ⟨a, y, rfl, upd_same, fun d hd ne => ⟨rfl, d, [(f, y)], upd_same, by rw [upd_ne ne]; exact upd_same, by rw [upd_ne ne] at hd; exact hd, ?_⟩⟩
  rw [del_upd ha ne]
  rw [upd_ne ne] at hd
  exact h d hd
theorem mk2 {H1 : Hp} {C : Addr} {f g : Str} {y z : V} {Q : XK} (h : ∀ d, H1 d = none → Q (.ref C) (some d) (upd H1 d (.xd [(g, z), (f, y)]))) : ∀ a, H1 a = none → spI2 C f g (.ref a :: ([y, z] ++ [])) (upd H1 a (exo a C none))
    (fun v H2 => v = .non ∧ ∃ (d : Addr) (fs : List (Str × V)), H2 a = some (exo a C (some d)) ∧ H2 d = some (exd d fs) ∧ H1 d = none ∧ Q (.ref C) (some d) (upd (del H2 a) d (.xd fs))) (fun _ _ _ => False) := by
  intro a ha
  refine ⟨a, y, z, rfl, upd_same, fun d hd ne => ⟨rfl, d, [(g, z), (f, y)], by rw [upd_ne (Ne.symm ne)]; exact upd_same, upd_same, by rw [upd_ne ne] at hd; exact hd, ?_⟩⟩
  rw [del_upd2 ha ne]
  rw [upd_ne ne] at hd
  exact h d hd
theorem takesN0 {X : Cx} : L2N.Takes X (fun _ _ _ _ => False) := fun _ _ x => by
  obtain ⟨_, _, _, _, _, _, _, _, _, _, _, _, _, _, _, _, z⟩ := x
  exact z.elim
theorem passAt0 {X : Cx} {σ : L2.St} : PassesAt CX0 X σ E0 := fun _ _ _ _ _ _ h => h.elim
/-- a def called in an except suite -/
theorem okH {CX : CXT} {P : Program} {w : World} {K : PySem.W.Frag} {mg : Str → Option Value} {base : Heap} {x qual : Str} {params : Arguments} {body : List Stmt} {scope : Scope} {dvs : List V} {kws : List (Str × V)} {f : Addr} {fd : FuncData} {N ps : List Str} {k : Nat} {sp : Sp}
    (F : FunD K x qual params body scope dvs kws f fd) (S : FnScope N ps scope) (len : ∀ vs H Q E, sp vs H Q E → vs.length = ps.length)
    (hbody : ∀ (cdv : Value) (A : Around) (outer : List Env) (s : Shared) (H : Hp) (vs : List V) (Q : VK) (E : XK) (p : Addr × Obj), L2H.HotC (L2H.cxH CX P w K mg base N qual scope f cdv A outer s H E p) → L2H.RoomH k (A.deeper (envOfC qual scope s.heap.objs.size f cdv)) → sp vs H Q E →
      ∃ t, PSs (L2H.cxH CX P w K mg base N qual scope f cdv A outer s H E p) body t ∧ t { nx := fun _ H' => Q .non H', rt := Q } (start N vs) H) : L2H.FnH P w K mg base CX (k + 1) f fd ps sp := by
  obtain ⟨oc, od, dV, kV, doc, pm, an, cdv, ct, osl, rfl, lk, hcd, _, _⟩ := F.ex
  exact L2H.fn_ofH lk hcd S len fun A outer s H vs Q E p hot hr hsp => hbody cdv A outer s H vs Q E p ⟨p, ⟨hot.1, hot.2⟩, List.mem_singleton.mpr rfl⟩ hr hsp
/-! ### own classes -/
def icB (K : PySem.W.Frag) (C : Addr) : Bool := PySem.W.plainGet K C Str.empty && (PySem.W.hasDictIn K C && (PySem.W.plainOver K C && (He.eqO (PySem.W.findIn K (.ref C) "__setattr__") (some (some (.builtin "object.__setattr__"))) &&
  (He.eqO (PySem.W.findIn K (.ref C) "__class__") (some (some (.builtin "object.__class__"))) && (He.eqO (PySem.W.specialIn K (.builtin "object.__class__") "__get__") (some (some (.builtin "getset_descriptor.__get__"))) && (decide (PySem.W.takesIn K (.builtin "object.__class__") = some true) &&
  (decide (PySem.W.mroIn K C (.type "object") = some true) && decide (PySem.W.kitOne K (.ref C) (.ref C) = some true))))))))
theorem icB_ok {K : PySem.W.Frag} {C : Addr} (h : icB K C = true) : C8.InsC K C := by
  obtain ⟨a1, h⟩ := He.ba h
  obtain ⟨a2, h⟩ := He.ba h
  obtain ⟨a3, h⟩ := He.ba h
  obtain ⟨a4, h⟩ := He.ba h
  obtain ⟨h1, h⟩ := He.ba h
  obtain ⟨h2, h⟩ := He.ba h
  obtain ⟨h3, h⟩ := He.ba h
  obtain ⟨h4, h5⟩ := He.ba h
  exact ⟨⟨a1, a2, a3, He.eqO_ok a4⟩, He.eqO_ok h1, He.eqO_ok h2, of_decide_eq_true h3, of_decide_eq_true h4, of_decide_eq_true h5⟩
end LP

set_option Elab.async false
set_option linter.all false
set_option maxRecDepth 100000
set_option maxHeartbeats 4000000
namespace LP
open PySem PySem.Spec PyProof.Rows L2
/-! ### defs that want a token -/
theorem PSsT.nox {X : Cx} {st : List Stmt} {t : TS} (h : PSsT X.nox st t) : PSsT X st t := fun pins s σ H D h0 I hw =>
  wpAny_mono (h pins s σ H D h0 (I.wish _) hw) (fun _ _ q => q.unwish) fun _ _ z => False.elim z
theorem okT {CX : CXT} {P : Program} {w : World} {K : PySem.W.Frag} {mg : Str → Option Value} {base : Heap} {x qual : Str} {params : Arguments} {body : List Stmt} {scope : Scope} {dvs : List V} {kws : List (Str × V)} {f : Addr} {fd : FuncData} {N ps : List Str} {k : Nat} {sp : Sp}
    (F : FunD K x qual params body scope dvs kws f fd) (S : FnScope N ps scope) (hnc : ∀ y ∈ scope.names, y.2 ≠ .cell) (hps : 1 ≤ ps.length) (len : ∀ vs H Q E, sp vs H Q E → vs.length = ps.length)
    (hbody : ∀ (cdv : Value) (A : Around) (outer : List Env) (s : Shared) (H : Hp) (vs : List V) (Q : VK) (E : XK), Room k (A.deeper (envOfC qual scope s.heap.objs.size f cdv)) → sp vs H Q E →
      ∃ t, PSsT (cxOf CX P w K mg base N qual scope f cdv A outer s H E) body t ∧ t { nx := fun _ H' => Q .non H', rt := Q } (start N vs) H) : FnOk P w K mg base CX (k + 1) f fd ps sp := by
  obtain ⟨oc, od, dV, kV, doc, pm, an, cdv, ct, osl, rfl, lk, hcd, _, _⟩ := F.ex
  exact fn_ofT lk hcd S hnc hps len fun A outer s H vs Q E hr hsp => hbody cdv A outer s H vs Q E hr hsp
end LP
namespace LX
open PySem L2 LP
/-! ### texts near the modes -/
theorem mode_all {P : Str → Int → Prop} (h : ∀ m ∈ modesL, ∀ i ∈ List.range 13, i < m.length → P m (i : Int)) {m : Str} (hm : m ∈ modesL) {i : Int} (h0 : 0 ≤ i) (h1 : i < (m.length : Int)) : P m i := by
  obtain ⟨n, rfl⟩ := Int.eq_ofNat_of_zero_le h0
  have hl : ∀ m ∈ modesL, m.length ≤ 12 := by decide +kernel
  have := hl m hm
  exact h m hm n (List.mem_range.mpr (by omega)) (by omega)
theorem mode_len {m : Str} (hm : m ∈ modesL) : 0 < m.length ∧ m.length ≤ 12 := by
  have hl : ∀ m ∈ modesL, 0 < m.length ∧ m.length ≤ 12 := by decide +kernel
  exact hl m hm
theorem mode_len1 {m : Str} (hm : m ∈ modesL) : m.length ≤ sizeLine := Nat.le_trans (mode_len hm).2 (by decide)
theorem mode_many {m : Str} (hm : m ∈ modesL) : 0 < (m.length : Int) := by have := mode_len hm; omega
theorem mode_many2 {m : Str} (hm : m ∈ modesL) : (m.length : Int) < 2 ^ 200 := by have := mode_len hm; omega
theorem cut_le {m : Str} (hm : m ∈ modesL) (lo hi : Option Int) : (cutS m lo hi).length ≤ 12 := Nat.le_trans (cutS_length _ _ _) (mode_len hm).2
theorem upc_le {m : Str} (hm : m ∈ modesL) {i : Int} (h0 : 0 ≤ i) (h1 : i < (m.length : Int)) : (Txt.upper (cutS m (some i) (some (i + 1)))).length ≤ 12 :=
  mode_all (P := fun m i => (Txt.upper (cutS m (some i) (some (i + 1)))).length ≤ 12) (by decide +kernel) hm h0 h1
theorem upr_le {m : Str} (hm : m ∈ modesL) {i : Int} (h0 : 0 ≤ i) (h1 : i < (m.length : Int)) : (Txt.replace (Txt.upper (cutS m (some i) (some (i + 1)))) "-" "_").length ≤ 12 :=
  mode_all (P := fun m i => (Txt.replace (Txt.upper (cutS m (some i) (some (i + 1)))) "-" "_").length ≤ 12) (by decide +kernel) hm h0 h1
theorem app_le {a b : Str} {n k : Nat} (ha : a.length ≤ n) (hb : b.length ≤ k) : (a ++ b).length ≤ n + k := by
  have : (a ++ b).length = a.length + b.length := by show (a.cps ++ b.cps).size = _; rw [Array.size_append]; rfl
  omega
theorem len2 {a b : Str} (ha : a.length ≤ 30) (hb : b.length ≤ 30) : a.length + b.length ≤ sizeLine := Nat.le_trans (Nat.add_le_add ha hb) (by decide)
theorem repl_b {a : Str} (ha : a.length ≤ 30) : a.length + (a.length + 1) * ("_" : Str).length ≤ 16777216 := by
  show a.length + (a.length + 1) * 1 ≤ 16777216
  omega
theorem odd0 {m : Str} (hm : m ∈ modesL) {i : Int} (h0 : 0 ≤ i) (h1 : i < (m.length : Int)) : ¬ cutS m none (some i) ∈ modesL :=
  mode_all (P := fun m i => ¬ cutS m none (some i) ∈ modesL) (by decide +kernel) hm h0 h1
theorem odd1 {m : Str} (hm : m ∈ modesL) {i : Int} (h0 : 0 ≤ i) (h1 : i < (m.length : Int)) : ¬ (cutS m none (some i) ++ cutS m (some (i + 1)) none) ∈ modesL :=
  mode_all (P := fun m i => ¬ (cutS m none (some i) ++ cutS m (some (i + 1)) none) ∈ modesL) (by decide +kernel) hm h0 h1
theorem odd2 {m : Str} (hm : m ∈ modesL) {i : Int} (h0 : 0 ≤ i) (h1 : i < (m.length : Int)) : ¬ (cutS m none (some i) ++ Txt.replace (Txt.upper (cutS m (some i) (some (i + 1)))) "-" "_" ++ cutS m (some (i + 1)) none) ∈ modesL :=
  mode_all (P := fun m i => ¬ (cutS m none (some i) ++ Txt.replace (Txt.upper (cutS m (some i) (some (i + 1)))) "-" "_" ++ cutS m (some (i + 1)) none) ∈ modesL) (by decide +kernel) hm h0 h1
theorem odd3 {m : Str} (hm : m ∈ modesL) : ¬ (m ++ (" " : Str)) ∈ modesL := by
  have hl : ∀ m ∈ modesL, ¬ (m ++ (" " : Str)) ∈ modesL := by decide +kernel
  exact hl m hm
theorem odd4 {m : Str} (hm : m ∈ modesL) : ¬ ((" " : Str) ++ m) ∈ modesL := by
  have hl : ∀ m ∈ modesL, ¬ ((" " : Str) ++ m) ∈ modesL := by decide +kernel
  exact hl m hm
theorem odd5 {m : Str} (hm : m ∈ modesL) {i : Int} (h0 : 0 ≤ i) (h1 : i < (m.length : Int)) : ¬ (cutS m none (some (i + 1)) ++ cutS m (some i) none) ∈ modesL :=
  mode_all (P := fun m i => ¬ (cutS m none (some (i + 1)) ++ cutS m (some i) none) ∈ modesL) (by decide +kernel) hm h0 h1
def wordsL : List Str := ["nearest", "even", "up", "down", "in", "out", "near", "none"]
theorem odd6 {m : Str} (hm : m ∈ wordsL) : ¬ m ∈ modesL := by
  have hl : ∀ m ∈ wordsL, ¬ m ∈ modesL := by decide +kernel
  exact hl m hm
/-! ### what rounding chose -/
def chosenF (n d : Int) (m : Str) (res : Int) : Bool :=
  if d ≤ (if res * d - n < 0 then -(res * d - n) else res * d - n) then false
  else if res * d - n = 0 then true
  else if m = "inward" ∨ m = "outward" then decide (0 < (res * d - n) * n) == decide (m = "outward")
  else if m = "upward" ∨ m = "downward" then decide (0 < res * d - n) == decide (m = "upward")
  else if ¬ 2 * (if res * d - n < 0 then -(res * d - n) else res * d - n) = d then decide (2 * (if res * d - n < 0 then -(res * d - n) else res * d - n) < d)
  else if m = "nearest-even" then decide (res % 2 = 0)
  else if m = "nearest-out" ∨ m = "nearest-in" then decide (0 < (res * d - n) * n) == decide (m = "nearest-out")
  else decide (0 < res * d - n) == decide (m = "nearest-up")
theorem pos_mul {x n q : Int} {d : Int} (hd : 0 < d) (h : (0 < x ∧ 0 ≤ q ∧ 0 < n) ∨ (0 < x ∧ q < 0 ∧ n < 0) ∨ (x < 0 ∧ 0 ≤ q ∧ 0 < n) ∨ (x < 0 ∧ q < 0 ∧ n < 0)) : (0 < x * n) = (0 < x ↔ 0 ≤ q) := by
  rcases h with ⟨h1, h2, h3⟩ | ⟨h1, h2, h3⟩ | ⟨h1, h2, h3⟩ | ⟨h1, h2, h3⟩
  · have := Int.mul_pos h1 h3
    simp [this, h1, h2]
  · have := Int.mul_neg_of_pos_of_neg h1 h3
    have : ¬ 0 < x * n := by omega
    simp [this, h1]; omega
  · have := Int.mul_neg_of_neg_of_pos h1 h3
    have : ¬ 0 < x * n := by omega
    simp [this, h2]; omega
  · have := Int.mul_pos_of_neg_of_neg h1 h3
    simp [this]; omega
theorem rq_chosen {n d : Int} {m : Str} (hm : m ∈ modesL) (hd : 0 < d) : chosenF n d m (rq n d m) = true := by
  rw [rq_eq hm hd]
  have h1 := Int.emod_nonneg n (show d ≠ 0 by omega)
  have h2 := Int.emod_lt_of_pos n hd
  have e := Int.mul_ediv_add_emod n d
  have ec : d * (n / d) = n / d * d := Int.mul_comm _ _
  by_cases hr : n % d = 0
  · rw [if_pos hr]
    have z : n / d * d - n = 0 := by omega
    unfold chosenF
    rw [z]
    simp; omega
  · rw [if_neg hr]
    have hs : (0 ≤ n / d ∧ 0 < n) ∨ (n / d < 0 ∧ n < 0) := by
      by_cases h : 0 ≤ n / d
      · have : 0 ≤ d * (n / d) := Int.mul_nonneg (by omega) h
        exact .inl ⟨h, by omega⟩
      · have h3 : d * (n / d) ≤ d * (-1) := Int.mul_le_mul_of_nonneg_left (by omega) (by omega)
        exact .inr ⟨by omega, by omega⟩
    have off : ∀ u : Bool, (if u then n / d + 1 else n / d) * d - n = if u then d - n % d else -(n % d) := by
      intro u
      cases u
      · show n / d * d - n = _
        simp; omega
      · show (n / d + 1) * d - n = _
        rw [Int.add_mul]
        simp; omega
    unfold chosenF
    simp only [off]
    have pm : ∀ u : Bool, (0 < (if u then d - n % d else -(n % d)) * n) = (0 < (if u then d - n % d else -(n % d)) ↔ 0 ≤ n / d) := by
      intro u
      refine pos_mul hd ?_
      cases u
      · simp; omega
      · simp; omega
    simp only [pm]
    clear off pm ec e hs
    generalize n / d = q at *
    generalize n % d = r at *
    rcases mode_cases hm with h | h | h | h | h | h | h | h | h <;> subst h <;> simp +decide [upM]
    all_goals (repeat' split)
    all_goals (try (first | omega | (simp_all; done)))
theorem sz_zero {k : Nat} : Sz k 0 := Nat.pos_of_ne_zero (by simp)
theorem sz_neg0 {n : Int} {k l : Nat} (h : Sz k n) (hl : k ≤ l) : Sz l (0 - n) := by
  refine Sz.mono (n := k) ?_ hl
  unfold Sz at *
  omega
theorem rq_sz {n d : Int} {m : Str} {k : Nat} (hm : m ∈ modesL) (hd : 0 < d) (h : Sz k n) : Sz (k + 1) (rq n d m) := by
  obtain ⟨b1, b2⟩ := rq_bounds (n := n) (d := d) (m := m)
  unfold Sz at *
  have hp : (2 : Nat) ^ (k + 1) = 2 ^ k + 2 ^ k := by rw [Nat.pow_succ]; omega
  have h1 : n / d ≤ (if 0 ≤ n then n else 0) ∧ (if 0 ≤ n then 0 else n) ≤ n / d := by
    by_cases h0 : 0 ≤ n
    · rw [if_pos h0, if_pos h0]
      exact ⟨Int.ediv_le_self _ h0, Int.ediv_nonneg h0 (by omega)⟩
    · rw [if_neg h0, if_neg h0]
      refine ⟨?_, ?_⟩
      · exact Int.ediv_le_of_le_mul (by omega) (by omega)
      · exact (Int.le_ediv_iff_mul_le hd).mpr (by
          have : n * d ≤ n * 1 := Int.mul_le_mul_of_nonpos_left (by omega) (by omega)
          omega)
  split at b2 <;> split at h1 <;> omega
end LX

set_option Elab.async false
set_option linter.all false
set_option maxRecDepth 100000
set_option maxHeartbeats 4000000
/-! Operators by an own class's methods. -/
namespace LP
open PySem PySem.Spec L2
section
variable {X : Cx} {pins : List (Addr × Obj)} {σ : L2.St} {H : Hp} {s : Shared} {a C dx : Addr} {fs : List (Str × V)}
theorem ins_inst (I : Inv X pins σ H s) (e : H a = some (.ins C dx fs)) : ∃ od, PySem.W.InstAt s.heap a (PySem.W.instObj C dx) C (some od) := by
  obtain ⟨mA, O, r, _, _, _⟩ := ins_get I.hok e
  obtain ⟨od, J, _⟩ := O.look
  exact ⟨od, J⟩
end
section
variable {prog : Program} {w : World} {A : Around} {E : Value → Shared → Prop} {h : Heap} {g : Array GenState} {d : Drawn} {t : Nat} {os : OsState} {y C dx : Addr} {i : Int} {tk : Tok}
theorem add_no {P : Fin → Shared → Prop} (hy : h.get? y = some (PySem.W.instObj C dx)) (hq : P (.done (.ret .notImplemented)) ⟨h, g, d, t, os⟩) : wpAny (model prog w) A (Builtin.«int.__add__» ⟨[.int i tk, .ref y], []⟩) P E ⟨h, g, d, t, os⟩ := by
  wp_walk using wpAny_load hy
  all_goals exact hq
theorem sub_no {P : Fin → Shared → Prop} (hy : h.get? y = some (PySem.W.instObj C dx)) (hq : P (.done (.ret .notImplemented)) ⟨h, g, d, t, os⟩) : wpAny (model prog w) A (Builtin.«int.__sub__» ⟨[.int i tk, .ref y], []⟩) P E ⟨h, g, d, t, os⟩ := by
  wp_walk using wpAny_load hy
  all_goals exact hq
theorem mul_no {P : Fin → Shared → Prop} (hy : h.get? y = some (PySem.W.instObj C dx)) (hq : P (.done (.ret .notImplemented)) ⟨h, g, d, t, os⟩) : wpAny (model prog w) A (Builtin.«int.__mul__» ⟨[.int i tk, .ref y], []⟩) P E ⟨h, g, d, t, os⟩ := by
  wp_walk using wpAny_load hy
  all_goals exact hq
end
section
variable {prog : Program} {w : World} {A : Around} {E : Value → Shared → Prop} {s : Shared} {K : PySem.W.Frag} {y C L f : Addr} {h₀ : Heap} {m : Str → Option Value} {oy : Obj} {od : Option Obj} {nm : String} {i : Int} {tk : Tok}
open PySem.W
/-- int op own, by the own class's reflected method -/
theorem binop_r {op : Operator} {id : String} {fo ro : Option Value} {fC : Addr} {Q : Value → Shared → Prop} (X : K.In s.heap) (I : InstAt s.heap y oy C od) (hc : selfFirst K C = true)
    (hs : findIn K (.ref C) (PySem.dunder op.info.2) = some (some (.ref fC))) (hr : findIn K (.ref C) (dunderR op.info.2) = some (some (.ref f))) (hf : isFn K (.ref f) = true)
    (h1 : findIn K (.type "int") (PySem.dunder op.info.2) = some fo) (h2 : findIn K (.type "int") (dunderR op.info.2) = some ro) (hl : ((fo.isSome && !isSeqSlot fo) || (ro.isSome && !isSeqSlot ro)) = true) (hsub : subIn K (.ref C) (.type "int") = some false)
    (slot : Slot "int" (PySem.dunder op.info.2) id) (hno : ∀ (Q : Value → Shared → Prop), Q .notImplemented s → wpAny (model prog w) A (call (.builtin id) [.int i tk, .ref y]) Q E s)
    (h : wpAny (model prog w) A (call (.ref f) [.ref y, .int i tk]) (CmpBack Q) E s) : wpAny (model prog w) A (binaryOp op (.int i tk) (.ref y)) Q E s := by
  obtain ⟨cd, rest, hcd, hm⟩ := ksp_first hc
  rcases hi : op.info with ⟨sym, nm'⟩
  rw [hi] at hs hr h1 h2 slot
  dsimp only at hs hr h1 h2 slot
  have one := ksp_try X I hr hf h
  have no : wpAny (model prog w) A (tryMethod (.int i tk) (PySem.dunder nm') (.ref y)) (fun r s' => r = none ∧ s' = s) E s := wpAny_tryMethod_declines (typeIs_int s i tk) slot (hno _ ⟨rfl, rfl, rfl⟩)
  obtain ⟨hh, g, d, tt, os⟩ := s
  have L1 : Looks (model prog w) hh (typeOf (.int i tk)) (.type "int") := Looks.of_pure rfl
  have L2 : Looks (model prog w) hh (typeOf (.ref y)) (.ref C) := I.type
  have L3 : Looks (model prog w) hh (fillsNumberSlot (.type "int") nm') true := by
    have q := ksp_fillsT (M := model prog w) X h1 h2
    rw [hl] at q
    exact q
  have L4 : Looks (model prog w) hh (fillsNumberSlot (.ref C) nm') true := fills_K X hcd hm hs
  have L5 : Looks (model prog w) hh (isSubtype (.ref C) (.type "int")) false := looks_subIn X hsub
  have L6 : Looks (model prog w) hh (numberSlotInPython (.type "int") nm') false := Looks.of_pure rfl
  have hne : (Value.type "int" == Value.ref C) = false := Bool.eq_false_iff.mpr fun q => by cases beq_iff_eq.mp q
  simp only [binaryOp, hi]
  refine wpAny_holding (wpAny_bind ?_)
  unfold binaryOp1
  refine wpAny_bind (L1.at (wpAny_bind (L2.at (wpAny_bind (L3.at ?_)))))
  simp only [hne, Bool.false_eq_true, if_false]
  ksp_lk
  refine wpAny_mono no (fun r s' hr' => ?_) fun _ _ e => e
  obtain ⟨rfl, rfl⟩ := hr'
  ksp_lk
  refine wpAny_mono one (fun r s' hr' => ?_) fun _ _ e => e
  obtain ⟨v, rfl, hq⟩ := hr'
  ksp_lk
  exact hq
end
section
variable {X : Cx} {CX : CXT} {k : Nat} {f C : Addr} {fd : FuncData} {ps : List Str} {sp : Sp} {E : XK} {op : Operator}
/-- x op y, both of the class at C -/
def rIns2 (C : Addr) (sp : Sp) (E : XK) : R2 := fun x y H Q => ∃ a dx fs b dy gs, x = .ref a ∧ y = .ref b ∧ H a = some (.ins C dx fs) ∧ H b = some (.ins C dy gs) ∧ sp [x, y] H Q E
theorem op_ins2 (hc : PySem.W.selfFirst X.K C = true) (hs : PySem.W.findIn X.K (.ref C) (PySem.dunder op.info.2) = some (some (.ref f))) (hf : PySem.W.isFn X.K (.ref f) = true)
    (F : FnOk X.prog X.w X.K X.mg X.base CX k f fd ps sp) (hr : Room k X.A) (hb : Binds X.K fd ps []) (hx : Passes CX X E) : OpR X (binaryOp op) (rIns2 C sp E) := by
  intro pins s σ H x y v u Q I rx ry h
  obtain ⟨a, dx, fs, b, dy, gs, rfl, rfl, ha, hb', q⟩ := h
  cases (show v = Value.ref a from rx)
  cases (show u = Value.ref b from ry)
  obtain ⟨od, J⟩ := ins_inst I ha
  obtain ⟨od', J'⟩ := ins_inst I hb'
  obtain ⟨m, hF⟩ := I.fr
  refine PySem.W.binop_K hF I.ok.mod.kin J J'.type hc hs hf ?_
  refine wpAny_mono (run_fn (us := [.ref a, .ref b]) (vs := [.ref a, .ref b]) F hr hb .nil hx I (.cons rfl (.cons rfl .nil)) q) (fun w s' z => ?_) fun _ _ x => x
  obtain ⟨z', H', I', rz, qz⟩ := z
  exact SlX.cmpback rz ⟨z', H', I', rz, qz⟩
/-- x op i, x of the class at C, i an int -/
def rInsI (C : Addr) (sp : Sp) (E : XK) : R2 := fun x y H Q => ∃ a dx fs i, x = .ref a ∧ y = .int i ∧ H a = some (.ins C dx fs) ∧ sp [x, y] H Q E
theorem op_insI {fo ro rc : Option Value} (hc : PySem.W.selfFirst X.K C = true) (hs : PySem.W.findIn X.K (.ref C) (PySem.dunder op.info.2) = some (some (.ref f))) (hf : PySem.W.isFn X.K (.ref f) = true)
    (hr' : PySem.W.findIn X.K (.ref C) (dunderR op.info.2) = some rc) (hp : rc = none ∨ ∃ g : Addr, rc = some (.ref g)) (h1 : PySem.W.findIn X.K (.type "int") (PySem.dunder op.info.2) = some fo) (h2 : PySem.W.findIn X.K (.type "int") (dunderR op.info.2) = some ro) (hsub : PySem.W.subIn X.K (.type "int") (.ref C) = some false)
    (F : FnOk X.prog X.w X.K X.mg X.base CX k f fd ps sp) (hr : Room k X.A) (hb : Binds X.K fd ps []) (hx : Passes CX X E) : OpR X (binaryOp op) (rInsI C sp E) := by
  intro pins s σ H x y v u Q I rx ry h
  obtain ⟨a, dx, fs, i, rfl, rfl, ha, q⟩ := h
  cases (show v = Value.ref a from rx)
  obtain ⟨t, e⟩ := (show ∃ t, u = Value.int i t from ry)
  cases e
  obtain ⟨od, J⟩ := ins_inst I ha
  obtain ⟨m, hF⟩ := I.fr
  refine PySem.W.ksp_binT hF I.ok.mod.kin J rfl hc hs hf hr' hp h1 h2 hsub ?_
  refine wpAny_mono (run_fn (us := [.ref a, .int i t]) (vs := [.ref a, .int i]) F hr hb .nil hx I (.cons rfl (.cons ⟨t, rfl⟩ .nil)) q) (fun w s' z => ?_) fun _ _ x => x
  obtain ⟨z', H', I', rz, qz⟩ := z
  exact SlX.cmpback rz ⟨z', H', I', rz, qz⟩
/-- i op y, y of the class at C, i an int -/
def rIIns (C : Addr) (sp : Sp) (E : XK) : R2 := fun x y H Q => ∃ b dy gs i, x = .int i ∧ y = .ref b ∧ H b = some (.ins C dy gs) ∧ sp [y, x] H Q E
theorem op_rIns {fo ro : Option Value} {fC : Addr} {id : String} (hc : PySem.W.selfFirst X.K C = true) (hs : PySem.W.findIn X.K (.ref C) (PySem.dunder op.info.2) = some (some (.ref fC))) (hr' : PySem.W.findIn X.K (.ref C) (dunderR op.info.2) = some (some (.ref f))) (hf : PySem.W.isFn X.K (.ref f) = true)
    (h1 : PySem.W.findIn X.K (.type "int") (PySem.dunder op.info.2) = some fo) (h2 : PySem.W.findIn X.K (.type "int") (dunderR op.info.2) = some ro) (hl : ((fo.isSome && !isSeqSlot fo) || (ro.isSome && !isSeqSlot ro)) = true) (hsub : PySem.W.subIn X.K (.ref C) (.type "int") = some false)
    (slot : Slot "int" (PySem.dunder op.info.2) id) (hno : ∀ (A : Around) (E : Value → Shared → Prop) (s : Shared) (i : Int) (tk : Tok) (y dy : Addr) (Q : Value → Shared → Prop), s.heap.get? y = some (PySem.W.instObj C dy) → Q .notImplemented s → wpAny (model X.prog X.w) A (call (.builtin id) [.int i tk, .ref y]) Q E s)
    (F : FnOk X.prog X.w X.K X.mg X.base CX k f fd ps sp) (hr : Room k X.A) (hb : Binds X.K fd ps []) (hx : Passes CX X E) : OpR X (binaryOp op) (rIIns C sp E) := by
  intro pins s σ H x y v u Q I rx ry h
  obtain ⟨b, dy, gs, i, rfl, rfl, hb', q⟩ := h
  cases (show u = Value.ref b from ry)
  obtain ⟨t, e⟩ := (show ∃ t, v = Value.int i t from rx)
  cases e
  obtain ⟨od, J⟩ := ins_inst I hb'
  refine binop_r I.kIn J hc hs hr' hf h1 h2 hl hsub slot (fun Q q => hno _ _ _ _ _ _ _ _ J.at_ q) ?_
  refine wpAny_mono (run_fn (us := [.ref b, .int i t]) (vs := [.ref b, .int i]) F hr hb .nil hx I (.cons rfl (.cons ⟨t, rfl⟩ .nil)) q) (fun w s' z => ?_) fun _ _ x => x
  obtain ⟨z', H', I', rz, qz⟩ := z
  exact SlX.cmpback rz ⟨z', H', I', rz, qz⟩
end
section
variable {prog : Program} {w : World} {A : Around} {E : Value → Shared → Prop} {s : Shared} {i : Int} {tk : Tok} {y C dy : Addr} {Q : Value → Shared → Prop}
theorem no_add (hy : s.heap.get? y = some (PySem.W.instObj C dy)) (q : Q .notImplemented s) : wpAny (model prog w) A (call (.builtin "int.__add__") [.int i tk, .ref y]) Q E s := by
  obtain ⟨hh, g, d, t, os⟩ := s
  exact wpAny_call_entry F.slot_int_add (typeIs_int _ _ _) F.entry_int_add (add_no hy ⟨_, rfl, q⟩) (F.args_int_add_2 _ _)
theorem no_sub (hy : s.heap.get? y = some (PySem.W.instObj C dy)) (q : Q .notImplemented s) : wpAny (model prog w) A (call (.builtin "int.__sub__") [.int i tk, .ref y]) Q E s := by
  obtain ⟨hh, g, d, t, os⟩ := s
  exact wpAny_call_entry F.slot_int_sub (typeIs_int _ _ _) F.entry_int_sub (sub_no hy ⟨_, rfl, q⟩) (F.args_int_sub_2 _ _)
theorem no_mul (hy : s.heap.get? y = some (PySem.W.instObj C dy)) (q : Q .notImplemented s) : wpAny (model prog w) A (call (.builtin "int.__mul__") [.int i tk, .ref y]) Q E s := by
  obtain ⟨hh, g, d, t, os⟩ := s
  exact wpAny_call_entry F.slot_int_mul (typeIs_int _ _ _) F.entry_int_mul (mul_no hy ⟨_, rfl, q⟩) (F.args_int_mul_2 _ _)
end
section
variable {X : Cx} {CX : CXT} {k : Nat} {f C : Addr} {fd : FuncData} {ps : List Str} {sp : Sp} {E : XK}
/-- x op y (a comparison), both of the class at C -/
theorem op_cmpIns {op : CmpOp} (hop : ∀ a b, compareOp op a b = richCompare op a b) (hs : PySem.W.findIn X.K (.ref C) (cmpInfo op).2.1 = some (some (.ref f))) (hf : PySem.W.isFn X.K (.ref f) = true) (hn : PySem.W.notFirst X.K C (.ref C) = true)
    (F : FnOk X.prog X.w X.K X.mg X.base CX k f fd ps sp) (hr : Room k X.A) (hb : Binds X.K fd ps []) (hx : Passes CX X E) : OpR X (compareOp op) (rIns2 C sp E) := by
  intro pins s σ H x y v u Q I rx ry h
  obtain ⟨a, dx, fs, b, dy, gs, rfl, rfl, ha, hb', q⟩ := h
  cases (show v = Value.ref a from rx)
  cases (show u = Value.ref b from ry)
  obtain ⟨od, J⟩ := ins_inst I ha
  obtain ⟨od', J'⟩ := ins_inst I hb'
  obtain ⟨m, hF⟩ := I.fr
  rw [hop]
  refine PySem.W.cmp_K (op := op) (tb := .ref C) hr.units0 hF I.ok.mod.kin J J'.type hn hs hf ?_
  refine wpAny_mono (run_fn (us := [.ref a, .ref b]) (vs := [.ref a, .ref b]) F hr hb .nil hx I (.cons rfl (.cons rfl .nil)) q) (fun w s' z => ?_) fun _ _ x => x
  obtain ⟨z', H', I', rz, qz⟩ := z
  exact SlX.cmpback rz ⟨z', H', I', rz, qz⟩
end
section
variable {X : Cx} {CX : CXT} {k : Nat} {f C : Addr} {fd : FuncData} {ps : List Str} {sp : Sp} {E : XK}
theorem un_ins (hs : PySem.W.findIn X.K (.ref C) "__neg__" = some (some (.ref f))) (hf : PySem.W.isFn X.K (.ref f) = true) (F : FnOk X.prog X.w X.K X.mg X.base CX k f fd ps sp) (hr : Room k X.A) (hb : Binds X.K fd ps []) (hx : Passes CX X E) :
    UnR X (unaryOp .USub) (fun x H Q => ∃ a dx fs, x = .ref a ∧ H a = some (.ins C dx fs) ∧ sp [x] H Q E) := by
  intro pins s σ H x v Q I rx h
  obtain ⟨a, dx, fs, rfl, ha, q⟩ := h
  cases (show v = Value.ref a from rx)
  obtain ⟨od, J⟩ := ins_inst I ha
  obtain ⟨m, hF⟩ := I.fr
  exact PySem.W.ksp_neg hF I.ok.mod.kin J hs hf (run_fn (us := [.ref a]) (vs := [.ref a]) F hr hb .nil hx I (.cons rfl .nil) q)
end
section
variable {X : Cx} {CX : CXT} {k : Nat} {f C : Addr} {fd : FuncData} {ps : List Str} {sp : Sp} {E : XK}
/-- abs(x), x of the class at C -/
theorem call_absIns (hs : PySem.W.findIn X.K (.ref C) "__abs__" = some (some (.ref f))) (hf : PySem.W.isFn X.K (.ref f) = true) (F : FnOk X.prog X.w X.K X.mg X.base CX k f fd ps sp) (hr : Room (k + 1) X.A) (hb : Binds X.K fd ps []) (hx : Passes CX X E) :
    CallR X (.builtin "abs") (fun xs H Q => ∃ a dx fs, xs = [.ref a] ∧ H a = some (.ins C dx fs) ∧ sp [.ref a] H Q E) := by
  intro pins s σ H xs us Q I r h
  obtain ⟨a, dx, fs, rfl, ha, q⟩ := h
  obtain ⟨u, rfl, ru⟩ := r.one
  cases (show u = Value.ref a from ru)
  obtain ⟨od, J⟩ := ins_inst I ha
  refine PySem.Calls.call_function_entry PyProof.Rows.kind_abs PyProof.Rows.plain_abs PyProof.Rows.entry_abs (PyProof.Rows.args_abs _) ?_
  unfold Builtin.«abs»
  refine wpAny_bind (m := oneArg "abs" _) (wpAny_pure ?_)
  refine wpAny_bind (m := callSpecial? (.ref a) (Str.ofString "__abs__")) (PySem.W.special_fn I.kIn J hs (beq_iff_eq.mp hf) ?_)
  have hl : ([Value.ref a] ++ []).length = ps.length := by
    have e := F.len _ _ _ _ q
    rw [← e] <;> rfl
  refine wpAny_call (codeAny_mono (F.run X.A.in1 X.stack s H ⟨[.ref a], []⟩ [.ref a] [.ref a] Q E hr.in1 I.env0.in1 (hb s [.ref a] I.kIn hl) (.cons rfl .nil) q) fun r s' hq => ?_)
  cases r with
  | error e => exact hx pins σ H s e s' I hq
  | ok fl =>
    cases fl with
    | ret u =>
      have z := I.after hq
      first
        | exact wpAny_pure ⟨_, rfl, z⟩
        | exact wpAny_pure z
        | exact z
    | next => exact False.elim hq
    | brk => exact False.elim hq
    | cont => exact False.elim hq
end
section
open PyProof.Rows (Fr)
variable {prog : Program} {w : World} {A : Around} {E : Value → Shared → Prop} {s : Shared} {K : PySem.W.Frag} {x C f L : Addr} {ox : Obj} {od : Option Obj} {h₀ : Heap} {m : Str → Option Value}
theorem bool_own {Q : Value → Shared → Prop} (F : Fr h₀ L s.heap m) (X₀ : K.In h₀) (I : PySem.W.InstAt s.heap x ox C od) (hs : PySem.W.findIn K (.ref C) "__bool__" = some (some (.ref f))) (hf : PySem.W.isFn K (.ref f) = true)
    (h : wpAny (model prog w) A.in1.in1 (call (.ref f) [.ref x]) (fun r s₁ => ∃ b, r = Value.bool b ∧ Q r s₁) E s) : wpAny (model prog w) A (call (.type "bool") [.ref x]) Q E s := by
  refine callType_codes (T := "bool") (Bi := Builtin.«object.__init__») (Q₁ := fun r s₁ => ∃ b, r = Value.bool b ∧ Q r s₁) PySem.F.called_bool (PySem.F.typeCall_bool_1 _) PySem.F.entry_object_init ?_ ?_
  · refine codeAny_of_tree ?_
    show wpAny _ A.in1.in1 (do checkBuiltinCall "bool.__new__" ⟨[.type "bool", .ref x], []⟩; again (.builtin "bool.__new__" ⟨[.type "bool", .ref x], []⟩)) _ _ s
    refine wpAny_bind (wpAny_of_eq (PySem.F.newCall_bool_1 _) (wpAny_pure ⟨plainId_quiet (by decide +kernel) _, codeAny_builtin PySem.F.entry_bool_new ?_⟩))
    rw [Around.under_plainId (by decide +kernel) _]
    have tr : wpAny (model prog w) A.in1.in1 (truthy (.ref x)) (fun b s₁ => Q (.bool b) s₁) E s := PySem.W.truthy_K F X₀ I hs hf (wpAny_mono h (fun r s₁ hr => by
      obtain ⟨b, rfl, q⟩ := hr
      exact q) fun _ _ z => z)
    have f1 := PySem.F.conv_sub_bool
    obtain ⟨hp, g, d, tk, os⟩ := s
    repeat (any_goals (first | assumption | (with_reducible refine wpAny_mono tr (fun b s₁ q => ?_) fun _ _ z => z) | wp_step))
    all_goals exact ⟨_, rfl, q⟩
  · rintro obj s₁ ⟨b, rfl, hq⟩
    exact ⟨rfl, PySem.F.args_object_init_2 _ _, object_init_meets PySem.F.called_bool.init.lookup PySem.F.called_bool.made (by decide) prog w A.in1 _ s₁ ⟨rfl, rfl, hq⟩⟩
end
section
variable {X : Cx} {CX : CXT} {k : Nat} {f C : Addr} {fd : FuncData} {ps : List Str} {sp : Sp} {E : XK}
/-- bool(x), x of the class at C -/
theorem call_boolIns (hs : PySem.W.findIn X.K (.ref C) "__bool__" = some (some (.ref f))) (hf : PySem.W.isFn X.K (.ref f) = true) (F : FnOk X.prog X.w X.K X.mg X.base CX k f fd ps sp) (hr : Room (k + 2) X.A) (hb : Binds X.K fd ps []) (hx : Passes CX X E) :
    CallR X (.type "bool") (fun xs H Q => ∃ a dx fs, xs = [.ref a] ∧ H a = some (.ins C dx fs) ∧ sp [.ref a] H (fun z H' => ∃ b, z = .bl b ∧ Q (.bl b) H') E) := by
  intro pins s σ H xs us Q I r h
  obtain ⟨a, dx, fs, rfl, ha, q⟩ := h
  obtain ⟨u, rfl, ru⟩ := r.one
  cases (show u = Value.ref a from ru)
  obtain ⟨od, J⟩ := ins_inst I ha
  obtain ⟨m, hF⟩ := I.fr
  have hr2 : Room k X.A.in1.in1 := (show Room (k + 1) X.A.in1 from Room.in1 hr).in1
  have hl : ([Value.ref a] ++ []).length = ps.length := by
    have e := F.len _ _ _ _ q
    rw [← e] <;> rfl
  refine bool_own hF I.ok.mod.kin J hs hf (wpAny_call (codeAny_mono (F.run X.A.in1.in1 X.stack s H ⟨[.ref a], []⟩ [.ref a] [.ref a] _ E hr2 I.env0.in1.in1 (hb s [.ref a] I.kIn hl) (.cons rfl .nil) q) fun r s' hq => ?_))
  cases r with
  | error e => exact hx pins σ H s e s' I hq
  | ok fl =>
    cases fl with
    | ret u =>
      obtain ⟨z, H', I', rz, b, ez, qz⟩ := I.after hq
      subst ez
      cases (show u = Value.bool b from rz)
      exact ⟨b, rfl, .bl b, H', I', rfl, qz⟩
    | next => exact False.elim hq
    | brk => exact False.elim hq
    | cont => exact False.elim hq
end
end LP

set_option Elab.async false
set_option linter.all false
set_option maxRecDepth 100000
set_option maxHeartbeats 4000000
namespace LP
open PySem PySem.Spec L2
/-- two pairs of ints, != -/
theorem op_nePair {X : Cx} (hu : X.A.units + 64 < cLine) : OpR X (compareOp .NotEq) (fun x y H Q => ∃ a b i1 i2 j1 j2, x = .ref a ∧ y = .ref b ∧ SqT X.K H a [.int i1, .int i2] ∧ SqT X.K H b [.int j1, .int j2] ∧ Q (.bl (!(decide (i1 = j1) && decide (i2 = j2)))) H) := by
  intro pins s σ H x y v u Q I rx ry h
  obtain ⟨a, b, i1, i2, j1, j2, rfl, rfl, h1, h2, q⟩ := h
  refine op_neD hu pins s σ H _ _ _ _ Q I rx ry ⟨.tuple [.int i1, .int i2], .tuple [.int j1, .int j2], .tup h1 (.cons (.int _) (.cons (.int _) .nil)), .tup h2 (.cons (.int _) (.cons (.int _) .nil)), by rfl, by rfl, ?_⟩
  have e : PyData.eqv (.tuple [.int i1, .int i2]) (.tuple [.int j1, .int j2]) = (decide (i1 = j1) && decide (i2 = j2)) := by
    simp [PyData.eqv, PyData.eqvAll]
    rfl
  rw [e]
  exact q
theorem pt_never {X : Cx} {e : Expr} : PT X e (fun _ _ _ => False) := ⟨fun _ _ _ _ _ _ h => h.elim⟩
end LP
namespace LP
open PySem PySem.Spec L2
theorem paired_get {α β : Type} {F : α → β → Prop} : ∀ {xs : List α} {ys : List β} {i : Nat}, PySem.Paired F xs ys → i < ys.length → ∃ x y, xs[i]? = some x ∧ ys[i]? = some y ∧ F x y
  | _, _, i, .nil, h => absurd h (by simp)
  | _, _, 0, .cons f _, _ => ⟨_, _, rfl, rfl, f⟩
  | _, _, i + 1, .cons _ r, h => by
    obtain ⟨x, y, h1, h2, h3⟩ := paired_get (i := i) r (by simpa using h)
    exact ⟨x, y, by simpa using h1, by simpa using h2, h3⟩
end LP
namespace LP
open PySem PySem.Spec L2
theorem nu_of {k : Nat} {A : Around} (hr : Room k A) : A.units + 64 < cLine := by have := hr.un; omega
end LP

set_option Elab.async false
set_option linter.all false
set_option maxRecDepth 100000
set_option maxHeartbeats 4000000
namespace LX
open PySem L2 LP
/-! ### powers by squaring -/
theorem pw_le {e f n : Nat} {c : Int} (hn : f + e * c.toNat = n) (hc : 0 < c) : e ≤ n ∧ f ≤ n := by
  have : e * 1 ≤ e * c.toNat := Nat.mul_le_mul_left _ (by omega)
  omega
theorem pw_cmul {b r s : Int} {e f n : Nat} {c : Int} (h0 : 0 ≤ b) (h1 : b ≤ 64) (hr : r = b ^ f) (hs : s = b ^ e) (hn : f + e * c.toNat = n) (hc : 0 < c) (l : n ≤ 9000) : CMulW r s ∧ CMulW s s := by
  obtain ⟨l1, l2⟩ := pw_le hn hc
  have k1 := Sz.pow h0 h1 f
  have k2 := Sz.pow h0 h1 e
  rw [← hr] at k1
  rw [← hs] at k2
  exact ⟨Sz.cmul k1 k2 (by omega) (by omega) (by omega), Sz.cmul k2 k2 (by omega) (by omega) (by omega)⟩
theorem pw_step {b r s r' : Int} {e f : Nat} {c : Int} (hr : r = b ^ f) (hs : s = b ^ e) (j : (c % 2 = 1 ∧ r' = r * s) ∨ (¬ c % 2 = 1 ∧ r' = r)) : r' = b ^ (if c % 2 = 1 then f + e else f) := by
  rcases j with ⟨h, rfl⟩ | ⟨h, rfl⟩
  · rw [if_pos h, hr, hs, Int.pow_add]
  · rw [if_neg h]; exact hr
theorem pw_sq {b s : Int} {e : Nat} (hs : s = b ^ e) : s * s = b ^ (2 * e) := by rw [hs, ← Int.pow_add, Nat.two_mul]
theorem pw_cnt {e f n : Nat} {c : Int} (h0 : 0 ≤ c) (hn : f + e * c.toNat = n) : (if c % 2 = 1 then f + e else f) + 2 * e * (c / 2).toNat = n := by
  obtain ⟨m, rfl⟩ := Int.eq_ofNat_of_zero_le h0
  have e1 : ((m : Int)).toNat = m := by omega
  have e2 : ((m : Int) / 2).toNat = m / 2 := by omega
  rw [e1] at hn
  rw [e2, ← hn]
  have hm : m = 2 * (m / 2) + m % 2 := by omega
  have h3 : e * m = 2 * e * (m / 2) + e * (m % 2) := by
    have : e * m = e * (2 * (m / 2) + m % 2) := by rw [← hm]
    rw [this, Nat.mul_add, ← Nat.mul_assoc, Nat.mul_comm e 2]
  by_cases h : ((m : Int)) % 2 = 1
  · have : m % 2 = 1 := by omega
    rw [if_pos h, h3, this, Nat.mul_one]; omega
  · have : m % 2 = 0 := by omega
    rw [if_neg h, h3, this, Nat.mul_zero]; omega
theorem pw_end {b r : Int} {e f n : Nat} {c : Int} (hr : r = b ^ f) (h0 : 0 ≤ c) (hc : ¬ 0 < c) (hn : f + e * c.toNat = n) : r = b ^ ((n : Int)).toNat := by
  have h1 : c.toNat = 0 := by omega
  have : f = n := by rw [h1, Nat.mul_zero] at hn; omega
  rw [hr, this]; rfl
/-! ### the squares up to a size -/
def sqL (b : Int) (n : Nat) : List Int := (List.range n).map fun j => b ^ (2 ^ j)
theorem sqL_len {b : Int} {n : Nat} : (sqL b n).length = n := by simp [sqL]
theorem sqL_snoc {b s : Int} {n : Nat} (hs : s = b ^ (2 ^ n)) : (sqL b n).map V.int ++ [V.int s] = (sqL b (n + 1)).map V.int := by
  unfold sqL
  rw [List.range_succ, List.map_append, List.map_append, hs] <;> rfl
theorem sq_pos {b s : Int} {n : Nat} (hb : 2 ≤ b) (hs : s = b ^ n) : 0 < s := by rw [hs]; exact Int.pow_pos (by omega)
theorem sq_ge2 {b s : Int} {n : Nat} (hb : 2 ≤ b) (hs : s = b ^ (2 ^ n)) : 2 ≤ s := by
  have h1 : 1 ≤ 2 ^ n := Nat.one_le_two_pow
  obtain ⟨m, hm⟩ : ∃ m, 2 ^ n = m + 1 := ⟨2 ^ n - 1, by omega⟩
  rw [hs, hm, Int.pow_succ]
  have : 1 ≤ b ^ m := Int.pow_pos (by omega)
  have h2 : 1 * b ≤ b ^ m * b := Int.mul_le_mul_of_nonneg_right this (by omega)
  omega
theorem sq_sz {s z : Int} {k : Nat} (h0 : 0 < s) (h : s ≤ z) (hz : Sz k z) : Sz k s := by unfold Sz at *; omega
theorem sq_next {b s : Int} {n : Nat} (hs : s = b ^ (2 ^ n)) : s * s = b ^ (2 ^ (n + 1)) := by rw [hs, ← Int.pow_add, Nat.pow_succ, Nat.mul_two]
theorem sq_less {s z : Int} (h2 : 2 ≤ s) (h : s ≤ z) : (z + 1 - s * s).toNat < (z + 1 - s).toNat := by
  have : 2 * s ≤ s * s := Int.mul_le_mul_of_nonneg_right h2 (by omega)
  omega
theorem sq_small {b z : Int} {j k : Nat} (hb : 2 ≤ b) (h : b ^ (2 ^ j) ≤ z) (hz : Sz k z) : 2 ^ j < k := by
  unfold Sz at hz
  have h1 : (2 : Nat) ^ (2 ^ j) ≤ z.natAbs := by
    have h3 : (2 : Int) ^ (2 ^ j) ≤ b ^ (2 ^ j) := by
      obtain ⟨m, rfl⟩ : ∃ m : Nat, b = (m : Int) := ⟨b.toNat, by omega⟩
      have : 2 ^ (2 ^ j) ≤ m ^ (2 ^ j) := Nat.pow_le_pow_left (by omega) _
      exact_mod_cast this
    have h4 : (2 : Int) ^ (2 ^ j) ≤ z := Int.le_trans h3 h
    have h5 : (((2 : Nat) ^ (2 ^ j) : Nat) : Int) ≤ z := by push_cast; exact h4
    omega
  have h2 : 2 ^ (2 ^ j) < 2 ^ k := Nat.lt_of_le_of_lt h1 hz
  exact (Nat.pow_lt_pow_iff_right (by decide)).mp h2
theorem sq_len {b z : Int} {n k : Nat} (hb : 2 ≤ b) (h : ∀ j, j < n → b ^ (2 ^ j) ≤ z) (hz : Sz k z) (hk : k ≤ 8192) : n ≤ 14 := by
  by_cases h0 : n ≤ 14
  · exact h0
  · exact absurd (sq_small hb (h 14 (by omega)) hz) (by omega)
/-! ### the lowest form -/
/-- c' at exponent e' is the lowest form of c at e -/
def Low (b c e c' e' : Int) : Prop := (c = 0 ∧ c' = 0 ∧ e' = 0) ∨ (c ≠ 0 ∧ ¬ b ∣ c' ∧ ∃ n : Nat, c = c' * b ^ n ∧ e' = e + n)
end LX
namespace LX
open PySem L2 LP
theorem sq_all {b z s : Int} {n : Nat} (hl : ∀ j : Nat, j < n → b ^ (2 ^ j) ≤ z) (hs : s = b ^ (2 ^ n)) (h : s ≤ z) : ∀ j : Nat, j < n + 1 → b ^ (2 ^ j) ≤ z := fun j hj => by
  by_cases e : j = n
  · rw [e, ← hs]; exact h
  · exact hl j (by omega)
theorem sq_app_len {b z : Int} {n : Nat} (hb : 2 ≤ b) (hl : ∀ j : Nat, j < n → b ^ (2 ^ j) ≤ z) (hz : Sz 8000 z) : ((sqL b n).map V.int).length < sizeLine := by
  rw [List.length_map, sqL_len]
  exact Nat.lt_of_le_of_lt (sq_len hb hl hz (by decide)) (by decide)
theorem sqL_self {b : Int} {n : Nat} : sqL b n = sqL b (sqL b n).length := by rw [sqL_len]
theorem sqL_all {b z : Int} {n : Nat} (hl : ∀ j : Nat, j < n → b ^ (2 ^ j) ≤ z) : ∀ j : Nat, j < (sqL b n).length → b ^ (2 ^ j) ≤ z := fun j hj => hl j (by rw [sqL_len] at hj; exact hj)
theorem sqL_end {b z s : Int} {n : Nat} (hs : s = b ^ (2 ^ n)) (h : ¬ s ≤ z) : z < b ^ (2 ^ (sqL b n).length) := by rw [sqL_len, ← hs]; omega
theorem sqL_short {b z : Int} {n : Nat} (hb : 2 ≤ b) (hl : ∀ j : Nat, j < n → b ^ (2 ^ j) ≤ z) (hz : Sz 8000 z) : (sqL b n).length ≤ 14 := by rw [sqL_len]; exact sq_len hb hl hz (by decide)
end LX
namespace LX
open PySem L2 LP
/-! ### taking the zeros away -/
theorem wz_start {b c : Int} {l : List Int} (hb : 2 ≤ b) (hc : c ≠ 0) (h : (if c < 0 then -c else c) < b ^ (2 ^ l.length)) : ¬ b ^ (2 ^ l.length) ∣ c := by
  intro hd
  have h1 := Int.le_of_dvd (a := b ^ (2 ^ l.length)) (b := if c < 0 then -c else c) (by split <;> omega) (by split; exact (Int.dvd_neg).mpr hd; exact hd)
  omega
theorem wz_dvd {b r s : Int} {k : Nat} (hs : s = b ^ (2 ^ k)) (h : r % s = 0) (hn : ¬ b ^ (2 ^ (k + 1)) ∣ r) : ¬ b ^ (2 ^ k) ∣ r / s := by
  intro hd
  refine hn ?_
  obtain ⟨q, hq⟩ := hd
  have e := Int.mul_ediv_add_emod r s
  refine ⟨q, ?_⟩
  have e2 : b ^ (2 ^ (k + 1)) = s * s := by rw [hs, ← Int.pow_add, Nat.pow_succ, Nat.mul_two]
  rw [e2, Int.mul_assoc]
  have : r = s * (r / s) := by omega
  rw [hq, ← hs] at this
  exact this
theorem wz_eq {b c r s : Int} {n k : Nat} (hs : s = b ^ (2 ^ k)) (hc : c = r * b ^ n) (h : r % s = 0) : c = r / s * b ^ (n + 2 ^ k) := by
  have e := Int.mul_ediv_add_emod r s
  rw [Int.pow_add, ← hs, hc]
  have : r = r / s * s := by rw [Int.mul_comm]; omega
  calc r * b ^ n = r / s * s * b ^ n := by rw [← this]
    _ = r / s * (b ^ n * s) := by rw [Int.mul_assoc, Int.mul_comm s]
end LX
namespace LX
open PySem L2 LP
theorem sqL_get {b c : Int} {l : List Int} {j : Nat} (hl : l = sqL b l.length) (h : l[j]? = some c) : j < l.length ∧ c = b ^ (2 ^ j) := by
  have hj : j < l.length := (List.getElem?_eq_some_iff.mp h).1
  refine ⟨hj, ?_⟩
  rw [hl] at h
  unfold sqL at h
  rw [List.getElem?_map, List.getElem?_range hj] at h
  exact (Option.some.inj h).symm
theorem wz_cnt {cnt x : Int} {j : Nat} (h0 : 0 ≤ cnt) (hx : x.toNat = j) : (cnt + 2 ^ x.toNat).toNat = cnt.toNat + 2 ^ j := by
  rw [hx]
  have : ((2 : Int) ^ j) = ((2 ^ j : Nat) : Int) := by push_cast; rfl
  rw [this]
  generalize 2 ^ j = y
  omega
theorem wz_mul {b c r s cnt x : Int} {j : Nat} (hs : s = b ^ (2 ^ j)) (hc : c = r * b ^ cnt.toNat) (h : r % s = 0) (h0 : 0 ≤ cnt) (hx : x.toNat = j) : c = r / s * b ^ (cnt + 2 ^ x.toNat).toNat := by
  rw [wz_cnt h0 hx]
  exact wz_eq hs hc h
theorem wz_no {b r s : Int} {L i : Nat} (hs : s = b ^ (2 ^ (L - 1 - i))) (h : r % s = 0) (hi : i < L) (hn : ¬ b ^ (2 ^ (L - i)) ∣ r) : ¬ b ^ (2 ^ (L - (i + 1))) ∣ r / s := by
  have e : L - i = (L - 1 - i) + 1 := by omega
  have e2 : L - (i + 1) = L - 1 - i := by omega
  rw [e] at hn
  rw [e2]
  exact wz_dvd hs h hn
theorem wz_no2 {b r s : Int} {L i : Nat} (hs : s = b ^ (2 ^ (L - 1 - i))) (h : ¬ r % s = 0) : ¬ b ^ (2 ^ (L - (i + 1))) ∣ r := by
  have e2 : L - (i + 1) = L - 1 - i := by omega
  rw [e2, ← hs]
  exact fun hd => h (Int.emod_eq_zero_of_dvd hd)
theorem wz_bnd {cnt x : Int} {L i : Nat} (h : cnt + ((2 ^ (L - i) : Nat) : Int) ≤ ((2 ^ L : Nat) : Int)) (hi : i < L) (hx : x.toNat = L - 1 - i) : cnt + 2 ^ x.toNat + ((2 ^ (L - (i + 1)) : Nat) : Int) ≤ ((2 ^ L : Nat) : Int) := by
  rw [hx]
  have e : L - i = (L - 1 - i) + 1 := by omega
  have e2 : L - (i + 1) = L - 1 - i := by omega
  rw [e, Nat.pow_succ] at h
  rw [e2]
  have : ((2 : Int) ^ (L - 1 - i)) = ((2 ^ (L - 1 - i) : Nat) : Int) := by push_cast; rfl
  rw [this]
  generalize 2 ^ (L - 1 - i) = y at *
  generalize 2 ^ L = z at *
  omega
theorem wz_bnd2 {cnt : Int} {L i : Nat} (h : cnt + ((2 ^ (L - i) : Nat) : Int) ≤ ((2 ^ L : Nat) : Int)) (hi : i < L) : cnt + ((2 ^ (L - (i + 1)) : Nat) : Int) ≤ ((2 ^ L : Nat) : Int) := by
  have e : L - i = (L - 1 - i) + 1 := by omega
  have e2 : L - (i + 1) = L - 1 - i := by omega
  rw [e, Nat.pow_succ] at h
  rw [e2]
  omega
theorem wz_pos {b : Int} {n : Nat} (hb : 2 ≤ b) : 0 < b ^ n := Int.pow_pos (by omega)
theorem wz_size {b c : Int} {l : List Int} {j : Nat} (hb : 2 ≤ b) (h : ∀ k : Nat, k < l.length → b ^ (2 ^ k) ≤ (if c < 0 then -c else c)) (hj : j < l.length) (hz : Sz 8000 c) : Sz 8000 (b ^ (2 ^ j)) := by
  have h1 := h j hj
  have h2 : 0 < b ^ (2 ^ j) := wz_pos hb
  unfold Sz at *
  split at h1 <;> omega
theorem wz_last {b c : Int} {cnt : Int} {L : Nat} (hn : ¬ b ^ (2 ^ (L - L)) ∣ c) : ¬ b ∣ c := by
  rw [Nat.sub_self, Nat.pow_zero, Int.pow_one] at hn
  exact hn
theorem abs_sz {c : Int} {k : Nat} (h : Sz k c) : Sz k (if c < 0 then -c else c) := by unfold Sz at *; split <;> omega
theorem wz_most {cnt : Int} {L : Nat} (h : cnt + ((2 ^ (L - L) : Nat) : Int) ≤ ((2 ^ L : Nat) : Int)) (hL : L ≤ 14) : cnt ≤ 16384 := by
  have h1 : 2 ^ L ≤ 2 ^ 14 := Nat.pow_le_pow_right (by decide) hL
  have h2 : ((2 ^ L : Nat) : Int) ≤ 16384 := by exact_mod_cast h1
  have h3 : (0 : Int) ≤ ((2 ^ (L - L) : Nat) : Int) := Int.natCast_nonneg _
  exact Int.le_trans (by omega) (Int.le_trans h h2)
end LX
namespace LX
open PySem L2 LP
theorem low_zero {b c e : Int} (h : c = 0) : Low b c e 0 0 := .inl ⟨h, rfl, rfl⟩
theorem low_some {b c e c' n : Int} (h : ¬ c = 0) (he : c = c' * b ^ n.toNat) (hn : ¬ b ∣ c') (h0 : 0 ≤ n) : Low b c e c' (e + n) := .inr ⟨h, hn, n.toNat, he, by omega⟩
/-- a number of lowest form -/
def Nf (b c e : Int) : Prop := 2 ≤ b ∧ b ≤ 36 ∧ Low b c e c e
theorem nf_zero {b : Int} (h0 : 2 ≤ b) (h1 : b ≤ 36) : Nf b 0 0 := ⟨h0, h1, .inl ⟨rfl, rfl, rfl⟩⟩
theorem low_nf {b c e c' e' : Int} (h0 : 2 ≤ b) (h1 : b ≤ 36) (h : Low b c e c' e') : Nf b c' e' := by
  rcases h with ⟨_, rfl, rfl⟩ | ⟨hc, hn, n, e1, e2⟩
  · exact nf_zero h0 h1
  · refine ⟨h0, h1, .inr ⟨fun z => hc (by rw [e1, z, Int.zero_mul]), hn, 0, by simp, by simp⟩⟩
theorem low_sz {b c e c' e' : Int} {k : Nat} (hb : 2 ≤ b) (h : Low b c e c' e') (hz : Sz k c) : Sz k c' := by
  rcases h with ⟨_, rfl, rfl⟩ | ⟨hc, hn, n, e1, e2⟩
  · unfold Sz; exact Nat.pos_of_ne_zero (by simp)
  · unfold Sz at *
    rw [e1, Int.natAbs_mul] at hz
    have : 1 ≤ (b ^ n).natAbs := by
      have : 0 < b ^ n := Int.pow_pos (by omega)
      omega
    have h2 : c'.natAbs * 1 ≤ c'.natAbs * (b ^ n).natAbs := Nat.mul_le_mul_left _ this
    omega
end LX
namespace LX
open PySem L2 LP
/-! ### two numbers at one exponent -/
def Al (b c1 e1 c2 e2 x y z : Int) : Prop := (c1 = 0 ∧ x = 0 ∧ y = c2 ∧ z = e2) ∨ (c1 ≠ 0 ∧ c2 = 0 ∧ x = c1 ∧ y = 0 ∧ z = e1) ∨
  (c1 ≠ 0 ∧ c2 ≠ 0 ∧ 0 ≤ e1 - e2 ∧ x = c1 * b ^ (e1 - e2).toNat ∧ y = c2 ∧ z = e2) ∨ (c1 ≠ 0 ∧ c2 ≠ 0 ∧ ¬ 0 ≤ e1 - e2 ∧ x = c1 ∧ y = c2 * b ^ (-(e1 - e2)).toNat ∧ z = e1)
/-- what is asked of the sizes -/
def AlS (k : Nat) (b c1 e1 c2 e2 : Int) : Prop := ∀ x y z, Al b c1 e1 c2 e2 x y z → Sz k x ∧ Sz k y
theorem pw_small {b : Int} {d k : Nat} {c : Int} (hb : 2 ≤ b) (hc : c ≠ 0) (hz : Sz k (c * b ^ d)) : d < k ∧ Sz k (b ^ d) ∧ Sz k c := by
  unfold Sz at *
  rw [Int.natAbs_mul] at hz
  have h1 : 2 ^ d ≤ (b ^ d).natAbs := by
    rw [Int.natAbs_pow]; exact Nat.pow_le_pow_left (by omega) d
  have h2 : 1 ≤ 2 ^ d := Nat.one_le_two_pow
  have h3 : 1 * (b ^ d).natAbs ≤ c.natAbs * (b ^ d).natAbs := Nat.mul_le_mul_right _ (by omega)
  have h4 : c.natAbs * 1 ≤ c.natAbs * (b ^ d).natAbs := Nat.mul_le_mul_left _ (by omega)
  refine ⟨(Nat.pow_lt_pow_iff_right (a := 2) (by decide)).mp (by omega), by omega, by omega⟩
theorem al_left {k : Nat} {b c1 e1 c2 e2 : Int} (hb : 2 ≤ b) (h : AlS k b c1 e1 c2 e2) (n1 : ¬ c1 = 0) (n2 : ¬ c2 = 0) (hd : 0 ≤ e1 - e2) : (e1 - e2).toNat < k ∧ Sz k (b ^ (e1 - e2).toNat) ∧ Sz k c1 :=
  pw_small hb n1 (h _ _ _ (.inr (.inr (.inl ⟨n1, n2, hd, rfl, rfl, rfl⟩)))).1
theorem al_right {k : Nat} {b c1 e1 c2 e2 : Int} (hb : 2 ≤ b) (h : AlS k b c1 e1 c2 e2) (n1 : ¬ c1 = 0) (n2 : ¬ c2 = 0) (hd : ¬ 0 ≤ e1 - e2) : (-(e1 - e2)).toNat < k ∧ Sz k (b ^ (-(e1 - e2)).toNat) ∧ Sz k c2 :=
  pw_small hb n2 (h _ _ _ (.inr (.inr (.inr ⟨n1, n2, hd, rfl, rfl, rfl⟩)))).2
end LX
namespace LX
open PySem L2 LP
def Cb (b c1 e1 c2 e2 s c e : Int) : Prop := ∃ x y z, Al b c1 e1 c2 e2 x y z ∧ Low b (x + s * y) z c e
theorem sign_sz {s y : Int} {k : Nat} (hs : s = 1 ∨ s = -1) (h : Sz k y) : Sz k (s * y) := by
  rcases hs with rfl | rfl
  · rw [Int.one_mul]; exact h
  · rw [Int.neg_mul, Int.one_mul]; exact Sz.neg h
theorem sign_mul {s y : Int} {k : Nat} (hs : s = 1 ∨ s = -1) (h : Sz k y) (h0 : 0 < k := by decide) (hk : k ≤ 9000 := by decide) : CMulW s y := Sz.cmul (n := 1) (by rcases hs with rfl | rfl <;> (unfold Sz; decide)) h (by decide) h0 (by omega)
theorem AlS.of {k l : Nat} {b c1 e1 c2 e2 : Int} (h : AlS k b c1 e1 c2 e2) (hl : k ≤ l) : AlS l b c1 e1 c2 e2 := fun x y z q => ⟨Sz.mono (h x y z q).1 hl, Sz.mono (h x y z q).2 hl⟩
theorem cb_sz {k : Nat} {b c1 e1 c2 e2 x y z s : Int} (h : AlS k b c1 e1 c2 e2) (q : Al b c1 e1 c2 e2 x y z) (hs : s = 1 ∨ s = -1) : Sz (k + 1) (x + s * y) := Sz.addm (h x y z q).1 (sign_sz hs (h x y z q).2)
end LX
namespace LX
open PySem L2 LP
/-! ### the law's own lowest form -/
theorem lw_step {b c r : Int} {n k : Nat} (hc : c = r * b ^ n) (h : r % b ^ k = 0) (hb : 2 ≤ b) : c = r / b ^ k * b ^ (n + k) := by
  have e := Int.mul_ediv_add_emod r (b ^ k)
  have : r = r / b ^ k * b ^ k := by rw [Int.mul_comm]; omega
  calc c = r * b ^ n := hc
    _ = r / b ^ k * b ^ k * b ^ n := by rw [← this]
    _ = r / b ^ k * b ^ (n + k) := by rw [Int.mul_assoc, ← Int.pow_add, Nat.add_comm]
theorem lw_ne {r p : Int} (h0 : r ≠ 0) (h : r % p = 0) : r / p ≠ 0 := fun z => by
  have e := Int.mul_ediv_add_emod r p
  rw [z, Int.mul_zero] at e
  omega
theorem lw_less {r p : Int} (h0 : r ≠ 0) (h : r % p = 0) (hp : 2 ≤ p) : (r / p).natAbs < r.natAbs := by
  have e := Int.mul_ediv_add_emod r p
  have e2 : r = p * (r / p) := by omega
  have h1 := lw_ne h0 h
  have h3 : r.natAbs = p.natAbs * (r / p).natAbs := by rw [← Int.natAbs_mul, ← e2]
  have h4 : 2 * (r / p).natAbs ≤ p.natAbs * (r / p).natAbs := Nat.mul_le_mul_right _ (by omega)
  omega
theorem pow_two_le {b : Int} {k : Nat} (hb : 2 ≤ b) (hk : 0 < k) : 2 ≤ b ^ k := by
  obtain ⟨m, rfl⟩ : ∃ m, k = m + 1 := ⟨k - 1, by omega⟩
  rw [Int.pow_succ]
  have : 1 ≤ b ^ m := Int.pow_pos (by omega)
  have h2 : 1 * b ≤ b ^ m * b := Int.mul_le_mul_of_nonneg_right this (by omega)
  omega
theorem lw_end {b c e r : Int} {n : Nat} {cnt : Int} (h0 : c ≠ 0) (hc : c = r * b ^ n) (hn : cnt = e + n) (h : ¬ r % b = 0) : Low b c e r cnt := .inr ⟨h0, fun hd => h (Int.emod_eq_zero_of_dvd hd), n, hc, hn⟩
theorem lw_ne0 {b c r : Int} {n : Nat} (h0 : c ≠ 0) (hc : c = r * b ^ n) : r ≠ 0 := fun z => h0 (by rw [hc, z, Int.zero_mul])
/-! ### the lowest form is one -/
theorem low_unique {b c e c1 e1 c2 e2 : Int} (hb : 2 ≤ b) (h1 : Low b c e c1 e1) (h2 : Low b c e c2 e2) : c1 = c2 ∧ e1 = e2 := by
  rcases h1 with ⟨h, rfl, rfl⟩ | ⟨h, n1, k1, q1, rfl⟩
  · rcases h2 with ⟨_, rfl, rfl⟩ | ⟨h', _⟩
    · exact ⟨rfl, rfl⟩
    · exact absurd h h'
  · rcases h2 with ⟨h', _⟩ | ⟨_, n2, k2, q2, rfl⟩
    · exact absurd h' h
    · have key : ∀ {x y : Int} {i j : Nat}, x * b ^ i = y * b ^ j → ¬ b ∣ x → i ≤ j → i = j ∧ x = y := by
        intro x y i j e nx hij
        obtain ⟨d, rfl⟩ : ∃ d, j = i + d := ⟨j - i, by omega⟩
        rw [Nat.add_comm, Int.pow_add, ← Int.mul_assoc] at e
        have hp : b ^ i ≠ 0 := Int.ne_of_gt (Int.pow_pos (by omega))
        have e2 := Int.eq_of_mul_eq_mul_right hp e
        cases d with
        | zero => exact ⟨by omega, by rw [e2, Int.pow_zero, Int.mul_one]⟩
        | succ d => exact absurd ⟨y * b ^ d, by rw [e2, Int.pow_succ, ← Int.mul_assoc, Int.mul_comm]⟩ nx
      rcases Nat.le_total k1 k2 with hk | hk
      · obtain ⟨a, b⟩ := key (q1.symm.trans q2) n1 hk
        exact ⟨b, by rw [a]⟩
      · obtain ⟨a, b⟩ := key (q2.symm.trans q1) n2 hk
        exact ⟨b.symm, by rw [a]⟩
/-- written with further zeros it has the same lowest form -/
theorem low_shift {b c e c' e' : Int} {k : Nat} (hb : 2 ≤ b) (h : Low b c e c' e') : Low b (c * b ^ k) (e - k) c' e' := by
  have hp : b ^ k ≠ 0 := Int.ne_of_gt (Int.pow_pos (by omega))
  rcases h with ⟨h, rfl, rfl⟩ | ⟨h, n1, k1, q1, rfl⟩
  · exact .inl ⟨by rw [h, Int.zero_mul], rfl, rfl⟩
  · refine .inr ⟨Int.mul_ne_zero h hp, n1, k1 + k, ?_, by omega⟩
    rw [q1, Int.mul_assoc, ← Int.pow_add]
theorem low_unshift {b c e c' e' : Int} {k : Nat} (hb : 2 ≤ b) (h : Low b (c * b ^ k) (e - k) c' e') : Low b c e c' e' := by
  have hp : b ^ k ≠ 0 := Int.ne_of_gt (Int.pow_pos (by omega))
  rcases h with ⟨h, rfl, rfl⟩ | ⟨h, nd, n, q, rfl⟩
  · exact .inl ⟨(Int.mul_eq_zero.mp h).resolve_right hp, rfl, rfl⟩
  · have hc : c ≠ 0 := fun z => h (by rw [z, Int.zero_mul])
    by_cases hn : k ≤ n
    · obtain ⟨d, rfl⟩ : ∃ d, n = d + k := ⟨n - k, by omega⟩
      rw [Int.pow_add, ← Int.mul_assoc] at q
      exact .inr ⟨hc, nd, d, Int.eq_of_mul_eq_mul_right hp q, by omega⟩
    · obtain ⟨d, rfl⟩ : ∃ d, k = (d + 1) + n := ⟨k - n - 1, by omega⟩
      have hp2 : b ^ n ≠ 0 := Int.ne_of_gt (Int.pow_pos (by omega))
      rw [Int.pow_add, ← Int.mul_assoc] at q
      have e2 := Int.eq_of_mul_eq_mul_right hp2 q
      exact absurd ⟨c * b ^ d, by rw [← e2, Int.pow_succ, ← Int.mul_assoc, Int.mul_comm]⟩ nd
end LX
namespace LX
open PySem L2 LP
/-- a number's weight: nothing, or its exponent is at least -X and c b^(e+X) has m bits -/
def Wt (b : Int) (X m : Nat) (c e : Int) : Prop := c = 0 ∨ (-(X : Int) ≤ e ∧ Sz m (c * b ^ (e + X).toNat))
theorem wt_low {b c e c' e' : Int} {X m : Nat} (h : Low b c e c' e') (w : Wt b X m c e) : Wt b X m c' e' := by
  rcases h with ⟨h, rfl, rfl⟩ | ⟨h, nd, n, q, rfl⟩
  · exact .inl rfl
  · rcases w with w | ⟨w1, w2⟩
    · exact absurd w h
    · refine .inr ⟨by omega, ?_⟩
      have : (e + n + X).toNat = n + (e + X).toNat := by omega
      rw [this, Int.pow_add, ← Int.mul_assoc, ← q]
      exact w2
theorem wt_sz {b c e : Int} {X m : Nat} (hb : 2 ≤ b) (w : Wt b X m c e) : Sz m c := by
  rcases w with rfl | ⟨w1, w2⟩
  · exact Nat.pos_of_ne_zero (by simp)
  · by_cases hc : c = 0
    · rw [hc]; exact Nat.pos_of_ne_zero (by simp)
    · exact (pw_small hb hc w2).2.2
theorem sz_abs {m : Nat} {x y : Int} (h : Sz m y) (hx : x.natAbs ≤ y.natAbs) : Sz m x := Nat.lt_of_le_of_lt hx h
theorem pow_abs_le {b : Int} {i j : Nat} (hb : 2 ≤ b) (h : i ≤ j) : (b ^ i).natAbs ≤ (b ^ j).natAbs := by
  rw [Int.natAbs_pow, Int.natAbs_pow]
  exact Nat.pow_le_pow_right (by omega) h
theorem mul_abs_le {c : Int} {x y : Int} (h : x.natAbs ≤ y.natAbs) : (c * x).natAbs ≤ (c * y).natAbs := by
  rw [Int.natAbs_mul, Int.natAbs_mul]
  exact Nat.mul_le_mul_left _ h
theorem wt_als {b c1 e1 c2 e2 : Int} {X m : Nat} (hb : 2 ≤ b) (w1 : Wt b X m c1 e1) (w2 : Wt b X m c2 e2) : AlS m b c1 e1 c2 e2 := by
  intro x y z q
  have s1 := wt_sz hb w1
  have s2 := wt_sz hb w2
  have s0 : Sz m 0 := Nat.pos_of_ne_zero (by simp)
  rcases q with ⟨_, rfl, rfl, _⟩ | ⟨_, _, rfl, rfl, _⟩ | ⟨n1, n2, hd, rfl, rfl, _⟩ | ⟨n1, n2, hd, rfl, rfl, _⟩
  · exact ⟨s0, s2⟩
  · exact ⟨s1, s0⟩
  · rcases w1 with w1 | ⟨a1, a2⟩
    · exact absurd w1 n1
    · rcases w2 with w2 | ⟨b1, b2⟩
      · exact absurd w2 n2
      · exact ⟨sz_abs a2 (mul_abs_le (pow_abs_le hb (by omega))), s2⟩
  · rcases w1 with w1 | ⟨a1, a2⟩
    · exact absurd w1 n1
    · rcases w2 with w2 | ⟨b1, b2⟩
      · exact absurd w2 n2
      · exact ⟨s1, sz_abs b2 (mul_abs_le (pow_abs_le hb (by omega)))⟩
/-- the law's sum: both numbers at the lesser exponent -/
def SumL (b c1 e1 c2 e2 s c e : Int) : Prop := ∃ low, low ≤ e1 ∧ low ≤ e2 ∧ (low = e1 ∨ low = e2) ∧ Low b (c1 * b ^ (e1 - low).toNat + s * (c2 * b ^ (e2 - low).toNat)) low c e
theorem cb_sum {b c1 e1 c2 e2 s c e c' e' : Int} (hb : 2 ≤ b) (h : Cb b c1 e1 c2 e2 s c e) (k : SumL b c1 e1 c2 e2 s c' e') : c = c' ∧ e = e' := by
  obtain ⟨x, y, z, al, l1⟩ := h
  obtain ⟨low, h1, h2, h3, l2⟩ := k
  -- both are the lowest form of one number
  have key : ∃ d : Nat, (c1 * b ^ (e1 - low).toNat + s * (c2 * b ^ (e2 - low).toNat)) = (x + s * y) * b ^ d ∧ low = z - d := by
    rcases al with ⟨rfl, rfl, rfl, rfl⟩ | ⟨_, rfl, rfl, rfl, rfl⟩ | ⟨_, _, hd, rfl, rfl, rfl⟩ | ⟨_, _, hd, rfl, rfl, rfl⟩
    · exact ⟨(z - low).toNat, by rw [Int.zero_mul, Int.zero_add, Int.zero_add, Int.mul_assoc], by omega⟩
    · exact ⟨(z - low).toNat, by rw [Int.zero_mul, Int.mul_zero, Int.add_zero, Int.add_zero], by omega⟩
    · refine ⟨0, ?_, by omega⟩
      have : low = z := by omega
      subst this
      rw [show (low - low).toNat = 0 by omega, Int.pow_zero, Int.mul_one, Int.mul_one]
    · refine ⟨0, ?_, by omega⟩
      have : low = z := by omega
      subst this
      rw [show (low - low).toNat = 0 by omega, Int.pow_zero, Int.mul_one, Int.mul_one, show (-(low - e2)) = e2 - low by omega]
  obtain ⟨d, q, rfl⟩ := key
  rw [q] at l2
  exact low_unique hb l1 (low_unshift hb l2)
end LX
namespace LX
open PySem L2 LP
def baseL : List Int := [10, 16, 2, 3, 36]
theorem baseL_ok {c : Int} {i : Nat} (h : baseL[i]? = some c) : 2 ≤ c ∧ c ≤ 36 := by
  have : ∀ x ∈ baseL, 2 ≤ x ∧ x ≤ 36 := by decide
  exact this c (List.mem_of_getElem? h)
theorem ws_sz {b c e low : Int} {m : Nat} (hb : 2 ≤ b) (w : Wt b 100 m c e) (h0 : -100 ≤ low) (h1 : low ≤ e) : Sz m (c * b ^ (e - low).toNat) := by
  rcases w with rfl | ⟨a1, a2⟩
  · rw [Int.zero_mul]; exact Nat.pos_of_ne_zero (by simp)
  · exact sz_abs a2 (mul_abs_le (pow_abs_le hb (by omega)))
theorem ws_sum {b c1 e1 c2 e2 s low : Int} (hb : 2 ≤ b) (w1 : Wt b 100 7000 c1 e1) (w2 : Wt b 100 7000 c2 e2) (hs : s = 1 ∨ s = -1) (h0 : -100 ≤ low) (h1 : low ≤ e1) (h2 : low ≤ e2) :
    Sz 8000 (c1 * b ^ (e1 - low).toNat + s * (c2 * b ^ (e2 - low).toNat)) :=
  Sz.mono (Sz.addm (n := 7000) (ws_sz hb w1 h0 h1) (sign_sz hs (ws_sz hb w2 h0 h2))) (by decide)
theorem full_lt {r b : Int} {i : Nat} {d : Int} (hr : r < b ^ i) (h0 : 0 ≤ r) (hd0 : 0 ≤ d) (hd : d < b) : r * b + d < b ^ (i + 1) := by
  rw [Int.pow_succ]
  have : (r + 1) * b ≤ b ^ i * b := Int.mul_le_mul_of_nonneg_right (by omega) (by omega)
  rw [Int.add_mul, Int.one_mul] at this
  omega
theorem full_ge {r b : Int} {i : Nat} {d : Int} (hr : b ^ i ≤ r) (hb : 2 ≤ b) (hd0 : 0 ≤ d) : b ^ (i + 1) ≤ r * b + d := by
  rw [Int.pow_succ]
  have : b ^ i * b ≤ r * b := Int.mul_le_mul_of_nonneg_right hr (by omega)
  omega
end LX
namespace LX
open PySem L2 LP
theorem sgn_b {x r N : Int} (h0 : 0 ≤ x) (h1 : x ≤ N) (r0 : 0 ≤ r) (r1 : r < 2) : -N ≤ x * (1 - 2 * r) ∧ x * (1 - 2 * r) ≤ N := by
  rcases (show r = 0 ∨ r = 1 by omega) with rfl | rfl
  · rw [show x * (1 - 2 * 0) = x by simp]; omega
  · rw [show x * (1 - 2 * 1) = -x by omega]; omega
end LX
namespace LX
open PySem L2 LP
theorem lw_step1 {b c r : Int} {n : Nat} (hc : c = r * b ^ n) (h : r % b = 0) (hb : 2 ≤ b) : c = r / b * b ^ (n + 1) := by
  have q := lw_step (k := 1) hc (by rw [Int.pow_one]; exact h) hb
  rw [Int.pow_one] at q
  exact q
end LX
namespace LX
open PySem L2 LP
theorem fl_p {b : Int} {p : Int} (hp : 1 ≤ p) : b ^ (p - 1).toNat * b = b ^ p.toNat := by
  rw [← Int.pow_succ]; congr 1; omega
theorem fl_big {b : Int} {p : Int} (hb : 2 ≤ b) (hp : 3 ≤ p) : 2 ≤ b ^ (p - 1).toNat ∧ b ≤ b ^ (p - 1).toNat ∧ 2 * b ^ (p - 1).toNat ≤ b ^ (p - 1).toNat * b := by
  obtain ⟨m, hm⟩ : ∃ m : Nat, (p - 1).toNat = m + 1 := ⟨(p - 2).toNat, by omega⟩
  have h1 : 1 ≤ b ^ m := Int.pow_pos (by omega)
  have h2 : b ≤ b ^ (m + 1) := by
    rw [Int.pow_succ]
    have : 1 * b ≤ b ^ m * b := Int.mul_le_mul_of_nonneg_right h1 (by omega)
    omega
  rw [hm]
  refine ⟨by omega, h2, ?_⟩
  rw [Int.mul_comm 2]
  exact Int.mul_le_mul_of_nonneg_left hb (by omega)
theorem fl_small {b : Int} {p j : Int} (hb : 2 ≤ b) (hp : 3 ≤ p) (h0 : 0 ≤ j) (hj : j < p - 1) : 0 < b ^ j.toNat ∧ b ^ j.toNat < b ^ (p - 1).toNat := by
  refine ⟨Int.pow_pos (by omega), ?_⟩
  obtain ⟨d, hd⟩ : ∃ d : Nat, (p - 1).toNat = j.toNat + (d + 1) := ⟨(p - 2 - j).toNat, by omega⟩
  rw [hd, Int.pow_add]
  have h1 : 0 < b ^ j.toNat := Int.pow_pos (by omega)
  have h2 : 2 ≤ b ^ (d + 1) := pow_two_le hb (by omega)
  have : b ^ j.toNat * 2 ≤ b ^ j.toNat * b ^ (d + 1) := Int.mul_le_mul_of_nonneg_left h2 (by omega)
  omega
theorem fl_sz {b r : Int} {i : Nat} (h0 : 0 ≤ r) (hb : 2 ≤ b) (hb2 : b ≤ 36) (h : r < b ^ i) (hi : i ≤ 220) : Sz 1321 r := by
  have k := Sz.pow (b := b) (by omega) (by omega) i
  exact sz_abs (Sz.mono k (by omega)) (by omega)
theorem fl_le {b : Int} {i : Nat} (hb : 2 ≤ b) : 0 < b ^ i := Int.pow_pos (by omega)
end LX
namespace LX
open PySem L2 LP
/-- a number as the law draws it: lowest, its exponent small, its weight -/
def Num (b : Int) (lo hi : Int) (m : Nat) (c e : Int) : Prop := Low b c e c e ∧ lo ≤ e ∧ e ≤ hi ∧ Wt b 100 m c e ∧ Sz 1400 c
theorem low_self {b c e c' e' : Int} (h : Low b c e c' e') : Low b c' e' c' e' := by
  rcases h with ⟨_, rfl, rfl⟩ | ⟨hc, hn, n, e1, e2⟩
  · exact .inl ⟨rfl, rfl, rfl⟩
  · exact .inr ⟨fun z => hc (by rw [e1, z, Int.zero_mul]), hn, 0, by simp, by simp⟩
theorem low_exp {b c e c' e' : Int} {p : Nat} (hb : 2 ≤ b) (h : Low b c e c' e') (hc : c.natAbs < (b ^ p).natAbs) : (e ≤ e' ∧ e' ≤ e + p) ∨ (c' = 0 ∧ e' = 0) := by
  rcases h with ⟨_, rfl, rfl⟩ | ⟨h0, hn, n, q, rfl⟩
  · exact .inr ⟨rfl, rfl⟩
  · refine .inl ⟨by omega, ?_⟩
    have : n ≤ p := by
      by_cases hnp : n ≤ p
      · exact hnp
      · have h1 := pow_abs_le (i := p) (j := n) hb (by omega)
        rw [q, Int.natAbs_mul] at hc
        have hc0 : c'.natAbs ≠ 0 := fun z => h0 (by rw [q, Int.natAbs_eq_zero.mp z, Int.zero_mul])
        have : 1 * (b ^ n).natAbs ≤ c'.natAbs * (b ^ n).natAbs := Nat.mul_le_mul_right _ (by omega)
        omega
    omega
theorem wt_of {b c e : Int} {p : Nat} (hb : 2 ≤ b) (hb2 : b ≤ 36) (hc : c.natAbs < (b ^ p).natAbs) (h0 : -100 ≤ e) {q : Nat} (h1 : e + 100 + p ≤ q) : Wt b 100 (6 * q + 1) c e := by
  refine .inr ⟨by omega, ?_⟩
  have k := Sz.pow (b := b) (by omega) (by omega) q
  refine sz_abs k ?_
  rw [Int.natAbs_mul]
  have h2 : c.natAbs * (b ^ (e + ((100 : Nat) : Int)).toNat).natAbs ≤ (b ^ p).natAbs * (b ^ (e + ((100 : Nat) : Int)).toNat).natAbs := Nat.mul_le_mul_right _ (by omega)
  refine Nat.le_trans h2 ?_
  rw [← Int.natAbs_mul, ← Int.pow_add]
  exact pow_abs_le hb (by omega)
theorem num_of {b c e c' e' lo hi : Int} {p q : Nat} (hb : 2 ≤ b) (hb2 : b ≤ 36) (h : Low b c e c' e') (hc : c.natAbs < (b ^ p).natAbs) (hp : p ≤ 200) (h0 : -100 ≤ e) (h1 : e + 100 + p ≤ q) (l0 : lo ≤ 0) (h2 : 0 ≤ hi) (l1 : lo ≤ e) (l2 : e + p ≤ hi) : Num b lo hi (6 * q + 1) c' e' := by
  have hz : Sz 1400 c := sz_abs (Sz.mono (Sz.pow (b := b) (by omega) (by omega) p) (show 6 * p + 1 ≤ 1400 by omega)) (by omega)
  refine ⟨low_self h, ?_, ?_, wt_low h (wt_of hb hb2 hc h0 h1), low_sz hb h hz⟩
  · rcases low_exp hb h hc with ⟨a, _⟩ | ⟨_, a⟩ <;> omega
  · rcases low_exp hb h hc with ⟨_, a⟩ | ⟨_, a⟩ <;> omega
theorem num_zero {b lo hi : Int} {m : Nat} (l0 : lo ≤ 0) (h2 : 0 ≤ hi) : Num b lo hi m 0 0 := ⟨.inl ⟨rfl, rfl, rfl⟩, l0, h2, .inl rfl, Nat.pos_of_ne_zero (by simp)⟩
theorem sgn_abs {x r : Int} {y : Int} (h : x.natAbs < y.natAbs) (r0 : 0 ≤ r) (r1 : r < 2) : ((1 - 2 * r) * x).natAbs < y.natAbs ∧ (x * (1 - 2 * r)).natAbs < y.natAbs := by
  rcases (show r = 0 ∨ r = 1 by omega) with rfl | rfl
  · rw [show (1 - 2 * 0) * x = x by omega, show x * (1 - 2 * 0) = x by omega]; exact ⟨h, h⟩
  · rw [show (1 - 2 * 1) * x = -x by omega, show x * (1 - 2 * 1) = -x by omega, Int.natAbs_neg]; exact ⟨h, h⟩
theorem full_abs {b x : Int} {p : Int} (hb : 2 ≤ b) (h0 : b ^ (p - 1).toNat ≤ x) (h : x < b ^ p.toNat) : x.natAbs < (b ^ p.toNat).natAbs := by
  have : 0 < b ^ (p - 1).toNat := Int.pow_pos (by omega)
  omega
theorem digit_abs {b x : Int} {p : Nat} (hb : 2 ≤ b) (h0 : 0 ≤ x) (h : x < b) (hp : 1 ≤ p) : x.natAbs < (b ^ p).natAbs := by
  have h1 := pow_abs_le (i := 1) (j := p) hb hp
  rw [Int.pow_one] at h1
  omega
end LX
namespace LX
open PySem L2 LP
theorem iCT {c : Bool} {A B : Prop} (h : c = true) (a : A) : if c = true then A else B := by rw [if_pos h]; exact a
theorem iCF {c : Bool} {A B : Prop} (h : c = false) (b : B) : if c = true then A else B := by rw [if_neg (by rw [h]; decide)]; exact b
theorem num_of2 {b c e c' e' lo hi : Int} {p q m : Nat} (hb : 2 ≤ b) (hb2 : b ≤ 36) (h : Low b c e c' e') (hc : c.natAbs < (b ^ p).natAbs) (hp : p ≤ 200) (h0 : -100 ≤ e) (h1 : e + 100 + p ≤ q) (l0 : lo ≤ 0) (h2 : 0 ≤ hi) (l1 : lo ≤ e) (l2 : e + p ≤ hi) (hm : 6 * q + 1 ≤ m) : Num b lo hi m c' e' := by
  obtain ⟨a1, a2, a3, a4, a5⟩ := num_of hb hb2 h hc hp h0 h1 l0 h2 l1 l2
  refine ⟨a1, a2, a3, ?_, a5⟩
  rcases a4 with a4 | ⟨b1, b2⟩
  · exact .inl a4
  · exact .inr ⟨b1, Sz.mono b2 hm⟩
theorem low_abs {b c e c' e' : Int} {y : Int} (hb : 2 ≤ b) (h : Low b c e c' e') (hc : c.natAbs < y.natAbs) : c'.natAbs < y.natAbs := by
  rcases h with ⟨rfl, rfl, _⟩ | ⟨h0, hn, n, q, rfl⟩
  · exact hc
  · have : 1 ≤ (b ^ n).natAbs := by have : 0 < b ^ n := Int.pow_pos (by omega); omega
    have h2 : c'.natAbs * 1 ≤ c'.natAbs * (b ^ n).natAbs := Nat.mul_le_mul_left _ this
    rw [← Int.natAbs_mul, ← q] at h2
    omega
theorem abs_mono {b x : Int} {i j : Nat} (hb : 2 ≤ b) (h : x.natAbs < (b ^ i).natAbs) (hij : i ≤ j) : x.natAbs < (b ^ j).natAbs := Nat.lt_of_lt_of_le h (pow_abs_le hb hij)
theorem one_less {b x : Int} (hb : 2 ≤ b) (h : x.natAbs < (b ^ 40).natAbs) : (1 - x).natAbs < (b ^ 41).natAbs := by
  have h1 : (b ^ 41).natAbs = (b ^ 40).natAbs * b.natAbs := by rw [← Int.natAbs_mul, ← Int.pow_succ]
  have h2 : (b ^ 40).natAbs * 2 ≤ (b ^ 40).natAbs * b.natAbs := Nat.mul_le_mul_left _ (by omega)
  omega
theorem pos_abs {b x : Int} {i : Nat} (h0 : 0 ≤ x) (h : x < b ^ i) : x.natAbs < (b ^ i).natAbs := by omega
theorem int_start {b x : Int} (hb : 2 ≤ b) (h : x < 13) : x < b ^ (4 + 0) := by
  have : (2 : Int) ^ 4 ≤ b ^ 4 := by
    obtain ⟨m, rfl⟩ : ∃ m : Nat, b = (m : Int) := ⟨b.toNat, by omega⟩
    have : 2 ^ 4 ≤ m ^ 4 := Nat.pow_le_pow_left (by omega) _
    exact_mod_cast this
  show x < b ^ 4
  omega
theorem int_step {b x d : Int} {i : Nat} (h : x < b ^ (4 + i)) (h0 : 0 ≤ x) (d0 : 0 ≤ d) (d1 : d < b) : x * b + d < b ^ (4 + (i + 1)) := full_lt h h0 d0 d1
theorem int_mul {b x : Int} {j : Nat} (hb : 2 ≤ b) (h0 : 0 ≤ x) (h : x < b ^ 34) (hj : j ≤ 6) : 0 ≤ x * b ^ j ∧ x * b ^ j < b ^ 40 := by
  have hp : 0 < b ^ j := Int.pow_pos (by omega)
  refine ⟨Int.mul_nonneg h0 (by omega), ?_⟩
  have h1 : x * b ^ j < b ^ 34 * b ^ j := Int.mul_lt_mul_of_pos_right h hp
  rw [← Int.pow_add] at h1
  have h2 := pow_abs_le (i := 34 + j) (j := 40) hb (by omega)
  have h3 : 0 < b ^ (34 + j) := Int.pow_pos (by omega)
  have h4 : 0 < b ^ 40 := Int.pow_pos (by omega)
  omega
theorem pow_mono {b x : Int} {i j : Nat} (hb : 2 ≤ b) (h : x < b ^ i) (hij : i ≤ j) : x < b ^ j := by
  have h2 := pow_abs_le (i := i) (j := j) hb hij
  have h3 : 0 < b ^ i := Int.pow_pos (by omega)
  have h4 : 0 < b ^ j := Int.pow_pos (by omega)
  omega
end LX
namespace LX
open PySem L2 LP
theorem num_mono {b lo hi lo' hi' : Int} {m m' : Nat} {c e : Int} (h : Num b lo hi m c e) (l : lo' ≤ lo) (l2 : hi ≤ hi') (hm : m ≤ m') : Num b lo' hi' m' c e := by
  obtain ⟨a1, a2, a3, a4, a5⟩ := h
  refine ⟨a1, by omega, by omega, ?_, a5⟩
  rcases a4 with a4 | ⟨b1, b2⟩
  · exact .inl a4
  · exact .inr ⟨b1, Sz.mono b2 hm⟩
theorem low_neg {b c e : Int} (h : Low b c e c e) : Low b (0 - c) e (0 - c) e := by
  rcases h with ⟨h1, h2, h3⟩ | ⟨hc, hn, n, e1, e2⟩
  · exact .inl ⟨by omega, by omega, h3⟩
  · exact .inr ⟨by omega, fun hd => hn (by rw [show (0 : Int) - c = -c by omega] at hd; exact (Int.dvd_neg).mp hd), 0, by simp, by simp⟩
theorem num_neg {b lo hi : Int} {m : Nat} {c e : Int} (h : Num b lo hi m c e) : Num b lo hi m (0 - c) e := by
  obtain ⟨a1, a2, a3, a4, a5⟩ := h
  refine ⟨low_neg a1, a2, a3, ?_, by unfold Sz at *; omega⟩
  rcases a4 with a4 | ⟨b1, b2⟩
  · exact .inl (by omega)
  · refine .inr ⟨b1, ?_⟩
    rw [show (0 : Int) - c = -c by omega, Int.neg_mul]
    exact Sz.neg b2
theorem less_sz {x : Int} (h : Sz 1400 x) : Sz 8000 (1 - x) := Sz.mono (Sz.subm (n := 1400) (Sz.mono (n := 2) (by unfold Sz; decide) (by decide)) h) (by decide)
theorem num_less {b c e c' e' : Int} (hb : 2 ≤ b) (hb2 : b ≤ 36) (h : Num b (-20) 61 2761 c e) (hc : c.natAbs < (b ^ 40).natAbs) (k : Low b (1 - c) e c' e') : Num b (-20) 361 2761 c' e' := by
  obtain ⟨a1, a2, a3, a4, a5⟩ := h
  exact num_of2 (p := 41) (q := 460) hb hb2 k (one_less hb hc) (by decide) (by omega) (by omega) (by decide) (by decide) (by omega) (by omega) (by decide)
end LX
namespace LX
open PySem L2 LP
/-- the program's sum as a value: at any exponent below both -/
theorem cb_val {b c1 e1 c2 e2 s c e low : Int} (hb : 2 ≤ b) (h : Cb b c1 e1 c2 e2 s c e) (h1 : low ≤ e1) (h2 : low ≤ e2) : Low b (c1 * b ^ (e1 - low).toNat + s * (c2 * b ^ (e2 - low).toNat)) low c e := by
  obtain ⟨x, y, z, al, l1⟩ := h
  have key : low ≤ z ∧ (c1 * b ^ (e1 - low).toNat + s * (c2 * b ^ (e2 - low).toNat)) = (x + s * y) * b ^ (z - low).toNat := by
    rcases al with ⟨rfl, rfl, rfl, rfl⟩ | ⟨_, rfl, rfl, rfl, rfl⟩ | ⟨_, _, hd, rfl, rfl, rfl⟩ | ⟨_, _, hd, rfl, rfl, rfl⟩
    · exact ⟨h2, by rw [Int.zero_mul, Int.zero_add, Int.zero_add, Int.mul_assoc]⟩
    · exact ⟨h1, by rw [Int.zero_mul, Int.mul_zero, Int.add_zero, Int.add_zero]⟩
    · refine ⟨h2, ?_⟩
      rw [Int.add_mul, Int.mul_assoc, ← Int.pow_add, Int.mul_assoc, show (e1 - z).toNat + (z - low).toNat = (e1 - low).toNat by omega]
    · refine ⟨h1, ?_⟩
      rw [Int.add_mul, Int.mul_assoc s, Int.mul_assoc c2, ← Int.pow_add, show (-(z - e2)).toNat + (z - low).toNat = (e2 - low).toNat by omega]
  rw [key.2]
  have q := low_shift (k := (z - low).toNat) hb l1
  rw [show z - (((z - low).toNat : Nat) : Int) = low by omega] at q
  exact q
theorem low_neg2 {b c e c' e' : Int} (h : Low b c e c' e') : Low b (-c) e (-c') e' := by
  rcases h with ⟨rfl, rfl, rfl⟩ | ⟨hc, hn, n, q, rfl⟩
  · exact .inl ⟨rfl, rfl, rfl⟩
  · exact .inr ⟨by omega, fun hd => hn ((Int.dvd_neg).mp hd), n, by rw [q, Int.neg_mul], rfl⟩
/-- an int and its lowest form have one value -/
theorem low_val {b n c e low : Int} (hb : 2 ≤ b) (h : Low b n 0 c e) (h0 : low ≤ 0) : low ≤ e ∧ n * b ^ (0 - low).toNat = c * b ^ (e - low).toNat := by
  rcases h with ⟨rfl, rfl, rfl⟩ | ⟨hc, hn, k, q, rfl⟩
  · exact ⟨h0, by simp⟩
  · refine ⟨by omega, ?_⟩
    rw [q, Int.mul_assoc, ← Int.pow_add, show k + (0 - low).toNat = (0 + (k : Int) - low).toNat by omega]
/-! what the program's results are beside the law's -/
theorem are_sum {b c1 e1 c2 e2 s s' c e y0 y1 : Int} (hb : 2 ≤ b) (h : Cb b c1 e1 c2 e2 s c e) (k : SumL b c1 e1 c2 e2 s' y0 y1) (hs : s = s') : Low b y0 y1 c e := by
  subst hs
  obtain ⟨rfl, rfl⟩ := cb_sum hb h k
  obtain ⟨low, _, _, _, l⟩ := k
  exact low_self l
theorem are_low {b v e c e' y0 y1 : Int} (hb : 2 ≤ b) (h : Low b v e c e') (k : Low b v e y0 y1) : Low b y0 y1 c e' := by
  obtain ⟨rfl, rfl⟩ := low_unique hb h k
  exact low_self h
theorem are_back {b c1 e1 c2 e2 c e y0 y1 : Int} (hb : 2 ≤ b) (h : Cb b c2 e2 c1 e1 (-1) c e) (k : SumL b c1 e1 c2 e2 (-1) y0 y1) : Low b (0 - y0) y1 c e := by
  obtain ⟨low, h1, h2, _, l⟩ := k
  have q := cb_val hb h h2 h1
  have l2 := low_neg2 l
  rw [show -(c1 * b ^ (e1 - low).toNat + -1 * (c2 * b ^ (e2 - low).toNat)) = c2 * b ^ (e2 - low).toNat + -1 * (c1 * b ^ (e1 - low).toNat) by omega] at l2
  rw [show (0 : Int) - y0 = -y0 by omega]
  exact are_low hb q l2
theorem are_int {b c1 e1 n c2 e2 s s' c e y0 y1 : Int} (hb : 2 ≤ b) (hn : Low b n 0 c2 e2) (h : Cb b c1 e1 c2 e2 s c e) (k : SumL b c1 e1 n 0 s' y0 y1) (hs : s = s') : Low b y0 y1 c e := by
  subst hs
  obtain ⟨low, h1, h2, _, l⟩ := k
  obtain ⟨h3, q⟩ := low_val hb hn h2
  rw [q] at l
  exact are_low hb (cb_val hb h h1 h3) l
theorem are_rint {b c1 e1 n c2 e2 c e y0 y1 : Int} (hb : 2 ≤ b) (hn : Low b n 0 c2 e2) (h : Cb b c2 e2 c1 e1 1 c e) (k : SumL b c1 e1 n 0 1 y0 y1) : Low b y0 y1 c e := by
  obtain ⟨low, h1, h2, _, l⟩ := k
  obtain ⟨h3, q⟩ := low_val hb hn h2
  rw [q] at l
  have g := cb_val hb h h3 h1
  rw [show c2 * b ^ (e2 - low).toNat + 1 * (c1 * b ^ (e1 - low).toNat) = c1 * b ^ (e1 - low).toNat + 1 * (c2 * b ^ (e2 - low).toNat) by omega] at g
  exact are_low hb g l
theorem are_rsub {b c1 e1 n c2 e2 c e y0 y1 : Int} (hb : 2 ≤ b) (hn : Low b n 0 c2 e2) (h : Cb b c2 e2 c1 e1 (-1) c e) (k : SumL b c1 e1 n 0 (-1) y0 y1) : Low b (0 - y0) y1 c e := by
  obtain ⟨low, h1, h2, _, l⟩ := k
  obtain ⟨h3, q⟩ := low_val hb hn h2
  rw [q] at l
  have g := cb_val hb h h3 h1
  have l2 := low_neg2 l
  rw [show -(c1 * b ^ (e1 - low).toNat + -1 * (c2 * b ^ (e2 - low).toNat)) = c2 * b ^ (e2 - low).toNat + -1 * (c1 * b ^ (e1 - low).toNat) by omega] at l2
  rw [show (0 : Int) - y0 = -y0 by omega]
  exact are_low hb g l2
theorem are_mint {b c1 e1 n c2 e2 c e y0 y1 : Int} (hb : 2 ≤ b) (hn : Low b n 0 c2 e2) (h : Low b (c1 * c2) (e1 + e2) c e) (k : Low b (c1 * n) (e1 + 0) y0 y1) : Low b y0 y1 c e := by
  rcases hn with ⟨rfl, rfl, rfl⟩ | ⟨hc, nd, j, q, rfl⟩
  · exact are_low hb h k
  · have g := low_shift (k := j) hb h
    rw [Int.mul_assoc, ← q, show e1 + (0 + (j : Int)) - j = e1 + 0 by omega] at g
    exact are_low hb g k
end LX
namespace LX
open PySem L2 LP
theorem wt_mono {b c e : Int} {X m m' : Nat} (h : Wt b X m c e) (hm : m ≤ m') : Wt b X m' c e := by
  rcases h with h | ⟨h1, h2⟩
  · exact .inl h
  · exact .inr ⟨h1, Sz.mono h2 hm⟩
theorem wt_int {b n : Int} (hb : 2 ≤ b) (hb2 : b ≤ 36) (h : n.natAbs < (b ^ 40).natAbs) : Wt b 100 841 n 0 := wt_of (p := 40) (q := 140) hb hb2 h (by decide) (by decide)
theorem sz_int {b n : Int} (hb : 2 ≤ b) (hb2 : b ≤ 36) (h : n.natAbs < (b ^ 40).natAbs) : Sz 1400 n := sz_abs (Sz.mono (Sz.pow (b := b) (by omega) (by omega) 40) (by decide)) (by omega)
end LX
namespace LX
open PySem L2 LP
theorem pair_eq {a b c d : Int} (h : (!(decide (a = b) && decide (c = d))) = false) : a = b ∧ c = d := by simpa using h
theorem num_als {b lo hi lo' hi' : Int} {m k : Nat} {c1 e1 c2 e2 : Int} (hb : 2 ≤ b) (h1 : Num b lo hi m c1 e1) (h2 : Num b lo' hi' m c2 e2) (hk : m ≤ k) : AlS k b c1 e1 c2 e2 := AlS.of (wt_als hb h1.2.2.2.1 h2.2.2.2.1) hk
theorem wt_off {b c e : Int} {X Y m k : Nat} (hb : 2 ≤ b) (hb2 : b ≤ 36) (h : Wt b X m c e) (hY : X ≤ Y) (hk : m + (6 * (Y - X) + 1) ≤ k) : Wt b Y k c e := by
  rcases h with h | ⟨h1, h2⟩
  · exact .inl h
  · refine .inr ⟨by omega, ?_⟩
    have k1 := Sz.pow (b := b) (by omega) (by omega) (Y - X)
    have := Sz.mul h2 k1
    rw [Int.mul_assoc, ← Int.pow_add, show (e + (X : Int)).toNat + (Y - X) = (e + (Y : Int)).toNat by omega] at this
    exact Sz.mono this hk
theorem wt_nlow {b n c e : Int} (hb : 2 ≤ b) (hb2 : b ≤ 36) (h : n.natAbs < (b ^ 40).natAbs) (k : Low b n 0 c e) : Wt b 100 841 c e := wt_low k (wt_int hb hb2 h)
theorem num_als_int {b lo hi : Int} {m k : Nat} {c1 e1 n : Int} (hb : 2 ≤ b) (hb2 : b ≤ 36) (h1 : Num b lo hi m c1 e1) (h : n.natAbs < (b ^ 40).natAbs) (hm : 841 ≤ m) (hk : m ≤ k) : ∀ c2 e2, Low b n 0 c2 e2 → AlS k b c1 e1 c2 e2 :=
  fun c2 e2 q => AlS.of (wt_als hb h1.2.2.2.1 (wt_mono (wt_nlow hb hb2 h q) hm)) hk
theorem num_als_rint {b lo hi : Int} {m k : Nat} {c1 e1 n : Int} (hb : 2 ≤ b) (hb2 : b ≤ 36) (h1 : Num b lo hi m c1 e1) (h : n.natAbs < (b ^ 40).natAbs) (hm : 841 ≤ m) (hk : m ≤ k) : ∀ c2 e2, Low b n 0 c2 e2 → AlS k b c2 e2 c1 e1 :=
  fun c2 e2 q => AlS.of (wt_als hb (wt_mono (wt_nlow hb hb2 h q) hm) h1.2.2.2.1) hk
/-- the weight of a sum -/
theorem sum_wt {b c1 e1 c2 e2 s c e : Int} {m : Nat} (hb : 2 ≤ b) (w1 : Wt b 100 m c1 e1) (w2 : Wt b 100 m c2 e2) (h : SumL b c1 e1 c2 e2 s c e) (hs : s = 1 ∨ s = -1) (h0 : -100 ≤ e1) (h1 : -100 ≤ e2) : Wt b 100 (m + 1) c e := by
  obtain ⟨low, l1, l2, l3, l⟩ := h
  refine wt_low l (.inr ⟨by omega, ?_⟩)
  rw [Int.add_mul, Int.mul_assoc s, Int.mul_assoc, Int.mul_assoc, ← Int.pow_add, ← Int.pow_add, show (e1 - low).toNat + (low + ((100 : Nat) : Int)).toNat = (e1 + ((100 : Nat) : Int)).toNat by omega, show (e2 - low).toNat + (low + ((100 : Nat) : Int)).toNat = (e2 + ((100 : Nat) : Int)).toNat by omega]
  have z : ∀ {c e : Int}, Wt b 100 m c e → Sz m (c * b ^ (e + ((100 : Nat) : Int)).toNat) := by
    intro c e w
    rcases w with rfl | ⟨_, w⟩
    · rw [Int.zero_mul]; exact Nat.pos_of_ne_zero (by simp)
    · exact w
  exact Sz.addm (z w1) (sign_sz hs (z w2))
theorem sum_exp {b c1 e1 c2 e2 s c e : Int} (h : SumL b c1 e1 c2 e2 s c e) (h0 : -20 ≤ e1) (h1 : -20 ≤ e2) (hw : Wt b 100 2762 c e) (hb : 2 ≤ b) : -20 ≤ e ∧ (e ≤ 2762 ∨ c = 0) := by
  obtain ⟨low, l1, l2, l3, l⟩ := h
  refine ⟨?_, ?_⟩
  · rcases l with ⟨_, _, rfl⟩ | ⟨_, _, n, _, rfl⟩ <;> omega
  · rcases hw with hw | ⟨h2, h3⟩
    · exact .inr hw
    · by_cases hc : c = 0
      · exact .inr hc
      · exact .inl (by have := (pw_small hb hc h3).1; omega)
end LX
namespace LX
open PySem L2 LP
theorem sum_low {b c1 e1 c2 e2 s c e : Int} (h : SumL b c1 e1 c2 e2 s c e) : Low b c e c e := by
  obtain ⟨low, _, _, _, l⟩ := h
  exact low_self l
theorem low_wt_exp {b c e : Int} {m : Nat} (hb : 2 ≤ b) (l : Low b c e c e) (w : Wt b 100 m c e) : e ≤ m := by
  rcases w with rfl | ⟨h2, h3⟩
  · rcases l with ⟨_, _, rfl⟩ | ⟨h, _⟩
    · omega
    · exact absurd rfl h
  · by_cases hc : c = 0
    · rcases l with ⟨_, _, rfl⟩ | ⟨h, _⟩
      · omega
      · exact absurd hc h
    · have := (pw_small hb hc h3).1; omega
theorem sum_num {b c1 e1 c2 e2 s c e lo hi lo' hi' : Int} {m : Nat} (hb : 2 ≤ b) (h1 : Num b (-20) hi m c1 e1) (h2 : Num b (-20) hi' m c2 e2) (h : SumL b c1 e1 c2 e2 s c e) (hs : s = 1 ∨ s = -1) : Low b c e c e ∧ -20 ≤ e ∧ e ≤ m + 1 ∧ Wt b 100 (m + 1) c e := by
  have w := sum_wt hb h1.2.2.2.1 h2.2.2.2.1 h hs (by have := h1.2.1; omega) (by have := h2.2.1; omega)
  have l := sum_low h
  refine ⟨l, ?_, ?_, w⟩
  · obtain ⟨low, l1, l2, l3, ll⟩ := h
    have a1 := h1.2.1
    have a2 := h2.2.1
    rcases ll with ⟨_, _, rfl⟩ | ⟨_, _, n, _, rfl⟩ <;> omega
  · have := low_wt_exp hb l w
    omega
theorem sum_numi {b c1 e1 n s c e hi : Int} {m : Nat} (hb : 2 ≤ b) (hb2 : b ≤ 36) (h1 : Num b (-20) hi m c1 e1) (hm : 841 ≤ m) (hn : n.natAbs < (b ^ 40).natAbs) (h : SumL b c1 e1 n 0 s c e) (hs : s = 1 ∨ s = -1) : Low b c e c e ∧ -20 ≤ e ∧ e ≤ m + 1 ∧ Wt b 100 (m + 1) c e := by
  have w := sum_wt hb h1.2.2.2.1 (wt_mono (wt_int hb hb2 hn) hm) h hs (by have := h1.2.1; omega) (by decide)
  have l := sum_low h
  refine ⟨l, ?_, ?_, w⟩
  · obtain ⟨low, l1, l2, l3, ll⟩ := h
    have a1 := h1.2.1
    rcases ll with ⟨_, _, rfl⟩ | ⟨_, _, n, _, rfl⟩ <;> omega
  · have := low_wt_exp hb l w
    omega
theorem prod_wt {b c1 e1 c2 e2 c e : Int} {m1 m2 : Nat} (hb : 2 ≤ b) (w1 : Wt b 100 m1 c1 e1) (w2 : Wt b 100 m2 c2 e2) (h0 : -20 ≤ e1) (h1 : -20 ≤ e2) (h : Low b (c1 * c2) (e1 + e2) c e) : Wt b 100 (m1 + m2) c e := by
  refine wt_low h ?_
  rcases w1 with rfl | ⟨_, w1⟩
  · exact .inl (Int.zero_mul _)
  · rcases w2 with rfl | ⟨_, w2⟩
    · exact .inl (Int.mul_zero _)
    · refine .inr ⟨by omega, ?_⟩
      have a1 : Sz m1 (c1 * b ^ (e1 + 50).toNat) := sz_abs w1 (mul_abs_le (pow_abs_le hb (by omega)))
      have a2 : Sz m2 (c2 * b ^ (e2 + 50).toNat) := sz_abs w2 (mul_abs_le (pow_abs_le hb (by omega)))
      have := Sz.mul a1 a2
      rw [show c1 * b ^ (e1 + 50).toNat * (c2 * b ^ (e2 + 50).toNat) = c1 * c2 * (b ^ (e1 + 50).toNat * b ^ (e2 + 50).toNat) by
        rw [Int.mul_assoc, Int.mul_assoc, Int.mul_left_comm (b ^ (e1 + 50).toNat)], ← Int.pow_add, show (e1 + 50).toNat + (e2 + 50).toNat = (e1 + e2 + ((100 : Nat) : Int)).toNat by omega] at this
      exact this
theorem prod_exp {b c1 e1 c2 e2 c e : Int} (h0 : -20 ≤ e1) (h1 : -20 ≤ e2) (h : Low b (c1 * c2) (e1 + e2) c e) : -40 ≤ e := by
  rcases h with ⟨_, _, rfl⟩ | ⟨_, _, n, _, rfl⟩ <;> omega
theorem cb_int {b c1 e1 n c2 e2 s c e y0 y1 : Int} (hb : 2 ≤ b) (hn : Low b n 0 c2 e2) (h : Cb b c1 e1 c2 e2 s c e) (k : SumL b c1 e1 n 0 s y0 y1) : c = y0 ∧ e = y1 := by
  obtain ⟨low, h1, h2, _, l⟩ := k
  obtain ⟨h3, q⟩ := low_val hb hn h2
  rw [q] at l
  exact low_unique hb (cb_val hb h h1 h3) l
theorem are_fint {b c1 e1 n c2 e2 s c e y0 y1 : Int} (hb : 2 ≤ b) (hn : Low b n 0 c2 e2) (h : Cb b c2 e2 c1 e1 s c e) (k : SumL b n 0 c1 e1 s y0 y1) : Low b y0 y1 c e := by
  obtain ⟨low, h2, h1, _, l⟩ := k
  obtain ⟨h3, q⟩ := low_val hb hn h2
  rw [q] at l
  exact are_low hb (cb_val hb h h3 h1) l
end LX
namespace LX
open PySem L2 LP
theorem num_sz14 {b lo hi c e : Int} {m : Nat} (h : Num b lo hi m c e) : Sz 1400 c := h.2.2.2.2
theorem num_low {b lo hi c e : Int} {m : Nat} (h : Num b lo hi m c e) : Low b c e c e := h.1
theorem num_nf {b lo hi c e : Int} {m : Nat} (h0 : 2 ≤ b) (h1 : b ≤ 36) (h : Num b lo hi m c e) : Nf b c e := ⟨h0, h1, h.1⟩
end LX
namespace LX
open PySem L2 LP
theorem sum_sz2 {b c1 e1 c2 e2 s c e hi hi' : Int} {m : Nat} (hb : 2 ≤ b) (h : SumL b c1 e1 c2 e2 s c e) (h1 : Num b (-20) hi m c1 e1) (h2 : Num b (-20) hi' m c2 e2) (hs : s = 1 ∨ s = -1) : Sz (m + 1) c := wt_sz hb (sum_num (lo := 0) (lo' := 0) hb h1 h2 h hs).2.2.2
theorem sum_szi {b c1 e1 n s c e hi : Int} {m : Nat} (hb : 2 ≤ b) (hb2 : b ≤ 36) (h : SumL b c1 e1 n 0 s c e) (h1 : Num b (-20) hi m c1 e1) (hm : 841 ≤ m) (hn : n.natAbs < (b ^ 40).natAbs) (hs : s = 1 ∨ s = -1) : Sz (m + 1) c := wt_sz hb (sum_numi hb hb2 h1 hm hn h hs).2.2.2
theorem are_lowc {b c1 c2 e1 e2 c e y0 y1 : Int} (hb : 2 ≤ b) (h : Low b (c2 * c1) (e2 + e1) c e) (k : Low b (c1 * c2) (e1 + e2) y0 y1) : Low b y0 y1 c e := by
  rw [Int.mul_comm, Int.add_comm] at h
  exact are_low hb h k
theorem are_int2 {b c1 e1 n c2 e2 s s' c e y0 y1 : Int} (hb : 2 ≤ b) (h : Cb b c1 e1 c2 e2 s c e) (hn : Low b n 0 c2 e2) (k : SumL b c1 e1 n 0 s' y0 y1) (hs : s = s') : Low b y0 y1 c e := are_int hb hn h k hs
theorem are_rint2 {b c1 e1 n c2 e2 c e y0 y1 : Int} (hb : 2 ≤ b) (h : Cb b c2 e2 c1 e1 1 c e) (hn : Low b n 0 c2 e2) (k : SumL b c1 e1 n 0 1 y0 y1) : Low b y0 y1 c e := are_rint hb hn h k
theorem are_rsub2 {b c1 e1 n c2 e2 c e y0 y1 : Int} (hb : 2 ≤ b) (h : Cb b c2 e2 c1 e1 (-1) c e) (hn : Low b n 0 c2 e2) (k : SumL b c1 e1 n 0 (-1) y0 y1) : Low b (0 - y0) y1 c e := are_rsub hb hn h k
theorem are_mint2 {b c1 e1 n c2 e2 c e y0 y1 : Int} (hb : 2 ≤ b) (h : Low b (c1 * c2) (e1 + e2) c e) (hn : Low b n 0 c2 e2) (k : Low b (c1 * n) (e1 + 0) y0 y1) : Low b y0 y1 c e := are_mint hb hn h k
theorem are_rmint2 {b c1 e1 n c2 e2 c e y0 y1 : Int} (hb : 2 ≤ b) (h : Low b (c2 * c1) (e2 + e1) c e) (hn : Low b n 0 c2 e2) (k : Low b (c1 * n) (e1 + 0) y0 y1) : Low b y0 y1 c e := by
  rw [Int.mul_comm, Int.add_comm] at h
  exact are_mint hb hn h k
end LX
namespace LX
open PySem L2 LP
def Wn (b : Int) (m : Nat) (c e : Int) : Prop := Low b c e c e ∧ -20 ≤ e ∧ e ≤ m ∧ Wt b 100 m c e
theorem wn_sum {b c1 e1 c2 e2 s c e hi hi' : Int} {m : Nat} (hb : 2 ≤ b) (h : SumL b c1 e1 c2 e2 s c e) (h1 : Num b (-20) hi m c1 e1) (h2 : Num b (-20) hi' m c2 e2) (hs : s = 1 ∨ s = -1) : Wn b (m + 1) c e := sum_num (lo := 0) (lo' := 0) hb h1 h2 h hs
theorem wn_int {b c1 e1 n s c e hi : Int} {m : Nat} (hb : 2 ≤ b) (hb2 : b ≤ 36) (h : SumL b c1 e1 n 0 s c e) (h1 : Num b (-20) hi m c1 e1) (hm : 841 ≤ m) (hn : n.natAbs < (b ^ 40).natAbs) (hs : s = 1 ∨ s = -1) : Wn b (m + 1) c e := sum_numi hb hb2 h1 hm hn h hs
theorem cb_int2 {b c1 e1 n c2 e2 s c e y0 y1 : Int} (hb : 2 ≤ b) (h : Cb b c1 e1 c2 e2 s c e) (hn : Low b n 0 c2 e2) (k : SumL b c1 e1 n 0 s y0 y1) : c = y0 ∧ e = y1 := cb_int hb hn h k
theorem wn_als {b c1 e1 c2 e2 : Int} {m k : Nat} (hb : 2 ≤ b) (h1 : Wn b m c1 e1) (h2 : Wn b m c2 e2) (hk : m ≤ k) : AlS k b c1 e1 c2 e2 := AlS.of (wt_als hb h1.2.2.2 h2.2.2.2) hk
theorem wn_sz {b c e : Int} {m k : Nat} (hb : 2 ≤ b) (h : Wn b m c e) (hk : m ≤ k) : Sz k c := Sz.mono (wt_sz hb h.2.2.2) hk
theorem sum_szw {b c1 e1 c2 e2 s c e : Int} {m : Nat} (hb : 2 ≤ b) (h : SumL b c1 e1 c2 e2 s c e) (w1 : Wt b 100 m c1 e1) (w2 : Wt b 100 m c2 e2) (hs : s = 1 ∨ s = -1) (h0 : -100 ≤ e1) (h1 : -100 ≤ e2) : Sz (m + 1) c := wt_sz hb (sum_wt hb w1 w2 h hs h0 h1)
end LX

set_option Elab.async false
set_option linter.all false
set_option maxRecDepth 100000
set_option maxHeartbeats 4000000
namespace LX
open PySem PySem.Spec PyProof.Rows L2 LP
open NdefX (NScope nscope_by)

def top (i : Nat) : Stmt := PySem.Challenge.pw_lostpart_k02_whole_exact_ring.main.body.getD i (.Pass ⟨0, 0, 0, 0⟩)
abbrev s_power : Stmt := top 8
def a_power (K : PySem.W.Frag) : Addr := He.ga K "power"
abbrev s_squares_up_to : Stmt := top 9
def a_squares_up_to (K : PySem.W.Frag) : Addr := He.ga K "squares_up_to"
abbrev s_law_source : Stmt := top 21
def a_law_source (K : PySem.W.Frag) : Addr := He.ga K "_law_source"
abbrev s_law_draw : Stmt := top 22
def a_law_draw (K : PySem.W.Frag) : Addr := He.ga K "_law_draw"
abbrev s_law_power : Stmt := top 25
def a_law_power (K : PySem.W.Frag) : Addr := He.ga K "_law_power"
abbrev s_without_zeros : Stmt := top 11
def a_without_zeros (K : PySem.W.Frag) : Addr := He.ga K "without_zeros"
abbrev s_check_base : Stmt := top 12
def a_check_base (K : PySem.W.Frag) : Addr := He.ga K "check_base"
abbrev s_Exact_init : Stmt := inClass (top 13) 0
def a_Exact_init (K : PySem.W.Frag) : Addr := He.ma K (He.ga K "Exact") "__init__"
abbrev s_taken : Stmt := top 14
def a_taken (K : PySem.W.Frag) : Addr := He.ga K "taken"
abbrev s_aligned : Stmt := top 15
def a_aligned (K : PySem.W.Frag) : Addr := He.ga K "aligned"
abbrev s_combined : Stmt := top 16
def a_combined (K : PySem.W.Frag) : Addr := He.ga K "combined"
abbrev s_multiplied : Stmt := top 17
def a_multiplied (K : PySem.W.Frag) : Addr := He.ga K "multiplied"
abbrev s_compared : Stmt := top 18
def a_compared (K : PySem.W.Frag) : Addr := He.ga K "compared"
abbrev s_Exact_add : Stmt := inClass (top 13) 4
def a_Exact_add (K : PySem.W.Frag) : Addr := He.ma K (He.ga K "Exact") "__add__"
abbrev s_Exact_sub : Stmt := inClass (top 13) 6
def a_Exact_sub (K : PySem.W.Frag) : Addr := He.ma K (He.ga K "Exact") "__sub__"
abbrev s_Exact_mul : Stmt := inClass (top 13) 8
def a_Exact_mul (K : PySem.W.Frag) : Addr := He.ma K (He.ga K "Exact") "__mul__"
abbrev s_Exact_neg : Stmt := inClass (top 13) 10
def a_Exact_neg (K : PySem.W.Frag) : Addr := He.ma K (He.ga K "Exact") "__neg__"
abbrev s_law_base : Stmt := top 23
def a_law_base (K : PySem.W.Frag) : Addr := He.ga K "_law_base"
abbrev s_law_precision : Stmt := top 24
def a_law_precision (K : PySem.W.Frag) : Addr := He.ga K "_law_precision"
abbrev s_law_lowest : Stmt := top 26
def a_law_lowest (K : PySem.W.Frag) : Addr := He.ga K "_law_lowest"
abbrev s_law_sum : Stmt := top 27
def a_law_sum (K : PySem.W.Frag) : Addr := He.ga K "_law_sum"
abbrev s_law_product : Stmt := top 28
def a_law_product (K : PySem.W.Frag) : Addr := He.ga K "_law_product"
abbrev s_law_small : Stmt := top 30
def a_law_small (K : PySem.W.Frag) : Addr := He.ga K "_law_small"
abbrev s_law_gap : Stmt := top 32
def a_law_gap (K : PySem.W.Frag) : Addr := He.ga K "_law_gap"
abbrev s_law_full : Stmt := top 29
def a_law_full (K : PySem.W.Frag) : Addr := He.ga K "_law_full"
abbrev s_law_value : Stmt := top 31
def a_law_value (K : PySem.W.Frag) : Addr := He.ga K "_law_value"
abbrev s_law_two : Stmt := top 33
def a_law_two (K : PySem.W.Frag) : Addr := He.ga K "_law_two"
abbrev s_law_make : Stmt := top 35
def a_law_make (K : PySem.W.Frag) : Addr := He.ga K "_law_make"
abbrev s_law_negative : Stmt := top 40
def a_law_negative (K : PySem.W.Frag) : Addr := He.ga K "_law_negative"
abbrev s_law_integer : Stmt := top 38
def a_law_integer (K : PySem.W.Frag) : Addr := He.ga K "_law_integer"
abbrev s_Exact_radd : Stmt := inClass (top 13) 5
def a_Exact_radd (K : PySem.W.Frag) : Addr := He.ma K (He.ga K "Exact") "__radd__"
abbrev s_Exact_rsub : Stmt := inClass (top 13) 7
def a_Exact_rsub (K : PySem.W.Frag) : Addr := He.ma K (He.ga K "Exact") "__rsub__"
abbrev s_Exact_rmul : Stmt := inClass (top 13) 9
def a_Exact_rmul (K : PySem.W.Frag) : Addr := He.ma K (He.ga K "Exact") "__rmul__"
abbrev s_law_operands : Stmt := top 39
def a_law_operands (K : PySem.W.Frag) : Addr := He.ga K "_law_operands"
abbrev s_law_equal : Stmt := top 34
def a_law_equal (K : PySem.W.Frag) : Addr := He.ga K "_law_equal"
abbrev s_Exact_abs : Stmt := inClass (top 13) 11
def a_Exact_abs (K : PySem.W.Frag) : Addr := He.ma K (He.ga K "Exact") "__abs__"
abbrev s_Exact_bool : Stmt := inClass (top 13) 12
def a_Exact_bool (K : PySem.W.Frag) : Addr := He.ma K (He.ga K "Exact") "__bool__"
abbrev s_law_is : Stmt := top 36
def a_law_is (K : PySem.W.Frag) : Addr := He.ga K "_law_is"
abbrev s_law_are : Stmt := top 37
def a_law_are (K : PySem.W.Frag) : Addr := He.ga K "_law_are"
abbrev s_law_due : Stmt := top 41
def a_law_due (K : PySem.W.Frag) : Addr := He.ga K "_law_due"
abbrev s_law : Stmt := top 42
def a_law (K : PySem.W.Frag) : Addr := He.ga K "law"
def fs_Exact (base_ coefficient_ exponent_ : V) : List (Str × V) := (putF "exponent" exponent_ (putF "coefficient" coefficient_ (putF "base" base_ [])))
theorem lk_Exact_base {base_ coefficient_ exponent_ : V} : (fs_Exact base_ coefficient_ exponent_).lookup ("base" : Str) = some base_ := by simp +decide [fs_Exact, lookup_putF]
theorem lk_Exact_coefficient {base_ coefficient_ exponent_ : V} : (fs_Exact base_ coefficient_ exponent_).lookup ("coefficient" : Str) = some coefficient_ := by simp +decide [fs_Exact, lookup_putF]
theorem lk_Exact_exponent {base_ coefficient_ exponent_ : V} : (fs_Exact base_ coefficient_ exponent_).lookup ("exponent" : Str) = some exponent_ := by simp +decide [fs_Exact, lookup_putF]
def ExAt (K : PySem.W.Frag) (I : Hp) (b : Int) (v u : V) : Prop := ∃ (a d : Addr) (c e : Int) (p : Addr) (y0 y1 : Int), v = .ref a ∧ I a = some (.ins (He.ga K "Exact") d (fs_Exact (.int b) (.int c) (.int e))) ∧ Nf b c e ∧ u = .ref p ∧ I p = some (.tup [.int y0, .int y1]) ∧ Low b y0 y1 c e ∧ Sz 8000 y0
structure Txt (P : Program) (K : PySem.W.Frag) (mg : Str → Option Value) (w : World) : Prop where
  f_power : FunD K "power" "power" (defArgs s_power) (defBody s_power) (defScope s_power) [] [] (a_power K) (fdOf K (a_power K))
  g_power : mg "power" = some (.ref (a_power K))
  f_squares_up_to : FunD K "squares_up_to" "squares_up_to" (defArgs s_squares_up_to) (defBody s_squares_up_to) (defScope s_squares_up_to) [] [] (a_squares_up_to K) (fdOf K (a_squares_up_to K))
  g_squares_up_to : mg "squares_up_to" = some (.ref (a_squares_up_to K))
  f_law_source : FunD K "_law_source" "_law_source" (defArgs s_law_source) (defBody s_law_source) (defScope s_law_source) [] [] (a_law_source K) (fdOf K (a_law_source K))
  g_law_source : mg "_law_source" = some (.ref (a_law_source K))
  f_law_draw : FunD K "_law_draw" "_law_draw" (defArgs s_law_draw) (defBody s_law_draw) (defScope s_law_draw) [] [] (a_law_draw K) (fdOf K (a_law_draw K))
  g_law_draw : mg "_law_draw" = some (.ref (a_law_draw K))
  f_law_power : FunD K "_law_power" "_law_power" (defArgs s_law_power) (defBody s_law_power) (defScope s_law_power) [] [] (a_law_power K) (fdOf K (a_law_power K))
  g_law_power : mg "_law_power" = some (.ref (a_law_power K))
  f_without_zeros : FunD K "without_zeros" "without_zeros" (defArgs s_without_zeros) (defBody s_without_zeros) (defScope s_without_zeros) [] [] (a_without_zeros K) (fdOf K (a_without_zeros K))
  g_without_zeros : mg "without_zeros" = some (.ref (a_without_zeros K))
  f_check_base : FunD K "check_base" "check_base" (defArgs s_check_base) (defBody s_check_base) (defScope s_check_base) [] [] (a_check_base K) (fdOf K (a_check_base K))
  g_check_base : mg "check_base" = some (.ref (a_check_base K))
  f_Exact_init : FunD K "__init__" "Exact.__init__" (defArgs s_Exact_init) (defBody s_Exact_init) (defScope s_Exact_init) [V.int 0] [] (a_Exact_init K) (fdOf K (a_Exact_init K))
  f_taken : FunD K "taken" "taken" (defArgs s_taken) (defBody s_taken) (defScope s_taken) [] [] (a_taken K) (fdOf K (a_taken K))
  g_taken : mg "taken" = some (.ref (a_taken K))
  f_aligned : FunD K "aligned" "aligned" (defArgs s_aligned) (defBody s_aligned) (defScope s_aligned) [] [] (a_aligned K) (fdOf K (a_aligned K))
  g_aligned : mg "aligned" = some (.ref (a_aligned K))
  f_combined : FunD K "combined" "combined" (defArgs s_combined) (defBody s_combined) (defScope s_combined) [] [] (a_combined K) (fdOf K (a_combined K))
  g_combined : mg "combined" = some (.ref (a_combined K))
  f_multiplied : FunD K "multiplied" "multiplied" (defArgs s_multiplied) (defBody s_multiplied) (defScope s_multiplied) [] [] (a_multiplied K) (fdOf K (a_multiplied K))
  g_multiplied : mg "multiplied" = some (.ref (a_multiplied K))
  f_compared : FunD K "compared" "compared" (defArgs s_compared) (defBody s_compared) (defScope s_compared) [] [] (a_compared K) (fdOf K (a_compared K))
  g_compared : mg "compared" = some (.ref (a_compared K))
  f_Exact_add : FunD K "__add__" "Exact.__add__" (defArgs s_Exact_add) (defBody s_Exact_add) (defScope s_Exact_add) [] [] (a_Exact_add K) (fdOf K (a_Exact_add K))
  f_Exact_sub : FunD K "__sub__" "Exact.__sub__" (defArgs s_Exact_sub) (defBody s_Exact_sub) (defScope s_Exact_sub) [] [] (a_Exact_sub K) (fdOf K (a_Exact_sub K))
  f_Exact_mul : FunD K "__mul__" "Exact.__mul__" (defArgs s_Exact_mul) (defBody s_Exact_mul) (defScope s_Exact_mul) [] [] (a_Exact_mul K) (fdOf K (a_Exact_mul K))
  f_Exact_neg : FunD K "__neg__" "Exact.__neg__" (defArgs s_Exact_neg) (defBody s_Exact_neg) (defScope s_Exact_neg) [] [] (a_Exact_neg K) (fdOf K (a_Exact_neg K))
  f_law_base : FunD K "_law_base" "_law_base" (defArgs s_law_base) (defBody s_law_base) (defScope s_law_base) [] [] (a_law_base K) (fdOf K (a_law_base K))
  g_law_base : mg "_law_base" = some (.ref (a_law_base K))
  f_law_precision : FunD K "_law_precision" "_law_precision" (defArgs s_law_precision) (defBody s_law_precision) (defScope s_law_precision) [] [] (a_law_precision K) (fdOf K (a_law_precision K))
  g_law_precision : mg "_law_precision" = some (.ref (a_law_precision K))
  f_law_lowest : FunD K "_law_lowest" "_law_lowest" (defArgs s_law_lowest) (defBody s_law_lowest) (defScope s_law_lowest) [] [] (a_law_lowest K) (fdOf K (a_law_lowest K))
  g_law_lowest : mg "_law_lowest" = some (.ref (a_law_lowest K))
  f_law_sum : FunD K "_law_sum" "_law_sum" (defArgs s_law_sum) (defBody s_law_sum) (defScope s_law_sum) [] [] (a_law_sum K) (fdOf K (a_law_sum K))
  g_law_sum : mg "_law_sum" = some (.ref (a_law_sum K))
  f_law_product : FunD K "_law_product" "_law_product" (defArgs s_law_product) (defBody s_law_product) (defScope s_law_product) [] [] (a_law_product K) (fdOf K (a_law_product K))
  g_law_product : mg "_law_product" = some (.ref (a_law_product K))
  f_law_small : FunD K "_law_small" "_law_small" (defArgs s_law_small) (defBody s_law_small) (defScope s_law_small) [] [] (a_law_small K) (fdOf K (a_law_small K))
  g_law_small : mg "_law_small" = some (.ref (a_law_small K))
  f_law_gap : FunD K "_law_gap" "_law_gap" (defArgs s_law_gap) (defBody s_law_gap) (defScope s_law_gap) [] [] (a_law_gap K) (fdOf K (a_law_gap K))
  g_law_gap : mg "_law_gap" = some (.ref (a_law_gap K))
  f_law_full : FunD K "_law_full" "_law_full" (defArgs s_law_full) (defBody s_law_full) (defScope s_law_full) [] [] (a_law_full K) (fdOf K (a_law_full K))
  g_law_full : mg "_law_full" = some (.ref (a_law_full K))
  f_law_value : FunD K "_law_value" "_law_value" (defArgs s_law_value) (defBody s_law_value) (defScope s_law_value) [] [] (a_law_value K) (fdOf K (a_law_value K))
  g_law_value : mg "_law_value" = some (.ref (a_law_value K))
  f_law_two : FunD K "_law_two" "_law_two" (defArgs s_law_two) (defBody s_law_two) (defScope s_law_two) [] [] (a_law_two K) (fdOf K (a_law_two K))
  g_law_two : mg "_law_two" = some (.ref (a_law_two K))
  f_law_make : FunD K "_law_make" "_law_make" (defArgs s_law_make) (defBody s_law_make) (defScope s_law_make) [] [] (a_law_make K) (fdOf K (a_law_make K))
  g_law_make : mg "_law_make" = some (.ref (a_law_make K))
  f_law_negative : FunD K "_law_negative" "_law_negative" (defArgs s_law_negative) (defBody s_law_negative) (defScope s_law_negative) [] [] (a_law_negative K) (fdOf K (a_law_negative K))
  g_law_negative : mg "_law_negative" = some (.ref (a_law_negative K))
  f_law_integer : FunD K "_law_integer" "_law_integer" (defArgs s_law_integer) (defBody s_law_integer) (defScope s_law_integer) [] [] (a_law_integer K) (fdOf K (a_law_integer K))
  g_law_integer : mg "_law_integer" = some (.ref (a_law_integer K))
  f_Exact_radd : FunD K "__radd__" "Exact.__radd__" (defArgs s_Exact_radd) (defBody s_Exact_radd) (defScope s_Exact_radd) [] [] (a_Exact_radd K) (fdOf K (a_Exact_radd K))
  f_Exact_rsub : FunD K "__rsub__" "Exact.__rsub__" (defArgs s_Exact_rsub) (defBody s_Exact_rsub) (defScope s_Exact_rsub) [] [] (a_Exact_rsub K) (fdOf K (a_Exact_rsub K))
  f_Exact_rmul : FunD K "__rmul__" "Exact.__rmul__" (defArgs s_Exact_rmul) (defBody s_Exact_rmul) (defScope s_Exact_rmul) [] [] (a_Exact_rmul K) (fdOf K (a_Exact_rmul K))
  f_law_operands : FunD K "_law_operands" "_law_operands" (defArgs s_law_operands) (defBody s_law_operands) (defScope s_law_operands) [] [] (a_law_operands K) (fdOf K (a_law_operands K))
  g_law_operands : mg "_law_operands" = some (.ref (a_law_operands K))
  f_law_equal : FunD K "_law_equal" "_law_equal" (defArgs s_law_equal) (defBody s_law_equal) (defScope s_law_equal) [] [] (a_law_equal K) (fdOf K (a_law_equal K))
  g_law_equal : mg "_law_equal" = some (.ref (a_law_equal K))
  f_Exact_abs : FunD K "__abs__" "Exact.__abs__" (defArgs s_Exact_abs) (defBody s_Exact_abs) (defScope s_Exact_abs) [] [] (a_Exact_abs K) (fdOf K (a_Exact_abs K))
  f_Exact_bool : FunD K "__bool__" "Exact.__bool__" (defArgs s_Exact_bool) (defBody s_Exact_bool) (defScope s_Exact_bool) [] [] (a_Exact_bool K) (fdOf K (a_Exact_bool K))
  f_law_is : FunD K "_law_is" "_law_is" (defArgs s_law_is) (defBody s_law_is) (defScope s_law_is) [] [] (a_law_is K) (fdOf K (a_law_is K))
  g_law_is : mg "_law_is" = some (.ref (a_law_is K))
  f_law_are : FunD K "_law_are" "_law_are" (defArgs s_law_are) (defBody s_law_are) (defScope s_law_are) [] [] (a_law_are K) (fdOf K (a_law_are K))
  g_law_are : mg "_law_are" = some (.ref (a_law_are K))
  f_law_due : FunD K "_law_due" "_law_due" (defArgs s_law_due) (defBody s_law_due) (defScope s_law_due) [] [] (a_law_due K) (fdOf K (a_law_due K))
  g_law_due : mg "_law_due" = some (.ref (a_law_due K))
  f_law : FunD K "law" "law" (defArgs s_law) (defBody s_law) (defScope s_law) [] [] (a_law K) (fdOf K (a_law K))
  g_law : mg "law" = some (.ref (a_law K))
  n_abs : mg "abs" = none
  n_bool : mg "bool" = none
  n_int : mg "int" = none
  n_isinstance : mg "isinstance" = none
  n_len : mg "len" = none
  n_list : mg "list" = none
  n_min : mg "min" = none
  n_range : mg "range" = none
  n_reversed : mg "reversed" = none
  n_str : mg "str" = none
  n_tuple : mg "tuple" = none
  l_Exact : Cls K (He.ga K "Exact")
  na_Exact_base : NoAttr K (He.ga K "Exact") "base"
  na_Exact_coefficient : NoAttr K (He.ga K "Exact") "coefficient"
  na_Exact_exponent : NoAttr K (He.ga K "Exact") "exponent"
  g_Exact : mg "Exact" = some (.ref (He.ga K "Exact"))
  mk_Exact : Mk K (He.ga K "Exact") (a_Exact_init K)
  ic_Exact : C8.InsC K (He.ga K "Exact")
  ki_Exact_int : PySem.W.kitOne K (.ref (He.ga K "Exact")) (.type "int") = some false
  ki_Exact_Exact : PySem.W.kitOne K (.ref (He.ga K "Exact")) (.ref (He.ga K "Exact")) = some true
  op_Exact_add : PySem.W.findIn K (.ref (He.ga K "Exact")) (PySem.dunder (Operator.info .Add).2) = some (some (.ref (a_Exact_add K)))
  fn_Exact_add : PySem.W.isFn K (.ref (a_Exact_add K)) = true
  sf_Exact : PySem.W.selfFirst K (He.ga K "Exact") = true
  op_Exact_sub : PySem.W.findIn K (.ref (He.ga K "Exact")) (PySem.dunder (Operator.info .Sub).2) = some (some (.ref (a_Exact_sub K)))
  fn_Exact_sub : PySem.W.isFn K (.ref (a_Exact_sub K)) = true
  op_Exact_mul : PySem.W.findIn K (.ref (He.ga K "Exact")) (PySem.dunder (Operator.info .Mult).2) = some (some (.ref (a_Exact_mul K)))
  fn_Exact_mul : PySem.W.isFn K (.ref (a_Exact_mul K)) = true
  op_Exact_neg : PySem.W.findIn K (.ref (He.ga K "Exact")) "__neg__" = some (some (.ref (a_Exact_neg K)))
  fn_Exact_neg : PySem.W.isFn K (.ref (a_Exact_neg K)) = true
  op_Exact_abs : PySem.W.findIn K (.ref (He.ga K "Exact")) "__abs__" = some (some (.ref (a_Exact_abs K)))
  fn_Exact_abs : PySem.W.isFn K (.ref (a_Exact_abs K)) = true
  fo_int_add : PySem.W.findIn K (.type "int") (PySem.dunder (Operator.info .Add).2) = some (some (.builtin "int.__add__"))
  ro_int_add : PySem.W.findIn K (.type "int") (dunderR (Operator.info .Add).2) = some (some (.builtin "int.__radd__"))
  su_int_Exact : PySem.W.subIn K (.type "int") (.ref (He.ga K "Exact")) = some false
  su_Exact_int : PySem.W.subIn K (.ref (He.ga K "Exact")) (.type "int") = some false
  op_Exact_radd : PySem.W.findIn K (.ref (He.ga K "Exact")) (dunderR (Operator.info .Add).2) = some (some (.ref (a_Exact_radd K)))
  fn_Exact_radd : PySem.W.isFn K (.ref (a_Exact_radd K)) = true
  fo_int_sub : PySem.W.findIn K (.type "int") (PySem.dunder (Operator.info .Sub).2) = some (some (.builtin "int.__sub__"))
  ro_int_sub : PySem.W.findIn K (.type "int") (dunderR (Operator.info .Sub).2) = some (some (.builtin "int.__rsub__"))
  op_Exact_rsub : PySem.W.findIn K (.ref (He.ga K "Exact")) (dunderR (Operator.info .Sub).2) = some (some (.ref (a_Exact_rsub K)))
  fn_Exact_rsub : PySem.W.isFn K (.ref (a_Exact_rsub K)) = true
  fo_int_mul : PySem.W.findIn K (.type "int") (PySem.dunder (Operator.info .Mult).2) = some (some (.builtin "int.__mul__"))
  ro_int_mul : PySem.W.findIn K (.type "int") (dunderR (Operator.info .Mult).2) = some (some (.builtin "int.__rmul__"))
  op_Exact_rmul : PySem.W.findIn K (.ref (He.ga K "Exact")) (dunderR (Operator.info .Mult).2) = some (some (.ref (a_Exact_rmul K)))
  fn_Exact_rmul : PySem.W.isFn K (.ref (a_Exact_rmul K)) = true
  op_Exact_bool : PySem.W.findIn K (.ref (He.ga K "Exact")) "__bool__" = some (some (.ref (a_Exact_bool K)))
  fn_Exact_bool : PySem.W.isFn K (.ref (a_Exact_bool K)) = true
section
variable {P : Program} {w : World} {K : PySem.W.Frag} {mg : Str → Option Value} {base : Heap}

theorem bd_Exact_init_3 (T : Txt P K mg w) : ∃ ds, Vals (([V.int 0] : List V).drop 0) ds ∧ Binds K (fdOf K (a_Exact_init K)) ["self", "base", "coefficient", "exponent"] ds := T.f_Exact_init.binds1 3 0 (by simp) rfl fun _ _ _ _ _ _ _ us its hu hi => match us, its, hu, hi with | [_, _, _], [_], _, _ => ⟨_, rfl, rfl⟩
theorem bd_Exact_init_4 (T : Txt P K mg w) : ∃ ds, Vals (([V.int 0] : List V).drop 1) ds ∧ Binds K (fdOf K (a_Exact_init K)) ["self", "base", "coefficient", "exponent"] ds := T.f_Exact_init.binds1 4 1 (by simp) rfl fun _ _ _ _ _ _ _ us its hu hi => match us, its, hu, hi with | [_, _, _, _], [_], _, _ => ⟨_, rfl, rfl⟩
end
def sp_power (K : PySem.W.Frag) : Sp := fun vs H Q E => ∃ (base : Int) (count : Int), vs = [.int base, .int count] ∧ 0 ≤ base ∧ base ≤ 64 ∧ 0 ≤ count ∧ count ≤ 9000 ∧ (∀ (r : Int), r = base ^ count.toNat → Q (.int r) H)
section
variable {P : Program} {w : World} {K : PySem.W.Frag} {mg : Str → Option Value} {base : Heap}
theorem sc_power : FnScope ["base", "count", "result", "square"] ["base", "count"] (defScope s_power) := ⟨rfl, rfl, rfl, by decide +kernel, rfl, by decide +kernel, by decide +kernel⟩
theorem b_power (T : Txt P K mg w) : Binds K (fdOf K (a_power K)) ["base", "count"] [] := T.f_power.bindsN fun _ _ _ _ _ _ us hl => match us, hl with | [_, _], _ => rfl
theorem ok_power (T : Txt P K mg w) : FnOk P w K mg base CX0 1 (a_power K) (fdOf K (a_power K)) ["base", "count"] (sp_power K) := by
  refine T.f_power.ok sc_power (fun vs H Q E h => ?_) (fun cdv A outer s H vs Q E hr h => ?_)
  · obtain ⟨_, _, rfl, _, _, _, _, _⟩ := h
    rfl
  · obtain ⟨base, count, rfl, e1, e2, e3, e4, k⟩ := h
    obtain ⟨n0, rfl⟩ := Int.eq_ofNat_of_zero_le e3
    refine ⟨_, PSs.nox (pss_cons (ps_set (i := 2) sc_power.nd rfl (Or.inl rfl) (pe_int)) (pss_cons (ps_set (i := 3) sc_power.nd rfl (Or.inl rfl) (pv 0)) (pss_cons (ps_while PassesOwn.never (pt_cmpR op_gt (pv 1) (pe_int) (nomark _)) (Evl.pss_cut (ps_if (pt_cmpR op_eq (pe_op op_mod (pv 1) (pe_int)) (pe_int) (nomark _)) (pss_one (ps_set (i := 2) sc_power.nd rfl (Or.inl rfl) (pe_op op_mulW (pv 2) (pv 3)))) (pss_nil)) (pss_cons (ps_set (i := 3) sc_power.nd rfl (Or.inl rfl) (pe_op op_mulW (pv 3) (pv 3))) (pss_one (ps_set (i := 1) sc_power.nd rfl (Or.inl rfl) (pe_op op_fdiv (pv 1) (pe_int))))))) (pss_one (ps_ret (pv 2)))))), ?_⟩
    refine ⟨_, rfl, (fun m7 σ' H' => ∃ (count1 : Int) (result2 : Int) (square3 : Int) (e4 : Nat) (f5 : Nat), σ' = [some (V.int base), some (V.int count1), some (V.int result2), some (V.int square3)] ∧ m7 = count1.toNat ∧ H = H' ∧ result2 = base ^ f5 ∧ square3 = base ^ e4 ∧ 0 ≤ count1 ∧ f5 + e4 * count1.toNat = n0), ⟨_, ⟨((n0 : Nat) : Int), 1, base, (1), (0), rfl, rfl, rfl, (by exact (Int.pow_zero base).symm), (by exact (Int.pow_one base).symm), (by omega), (by omega)⟩⟩, ?_⟩
    rintro _ _ H8 ⟨count1, result2, square3, e4, f5, rfl, rfl, rfl, hq, hs, hc, hn⟩
    refine ⟨_, rfl, _, _, rfl, rfl, _, rfl, ?_⟩
    refine iD (fun h9 => ?_) (fun h9 => ?_)
    · refine ⟨_, fun _ _ q => q, ?_⟩
      refine ⟨fun σ' H' => ∃ result10 : Int, (((count1 % 2) = 1 ∧ result10 = (result2 * square3)) ∨ (¬ ((count1 % 2) = 1) ∧ result10 = result2)) ∧ σ' = [some (V.int base), some (V.int count1), some (V.int result10), some (V.int square3)] ∧ H = H', ?_, ?_⟩
      · refine ⟨_, rfl, _, _, rfl, rfl, (by show (0 : Int) < 2; omega), rfl, _, rfl, ?_⟩
        refine iEqI (fun h12 => ?_) (fun h12 => ?_)
        · refine ⟨_, rfl, _, rfl, _, _, rfl, rfl, ((pw_cmul e1 e2 hq hs hn (by assumption) (by omega)).1), ?_⟩
          exact ⟨_, .inl ⟨h12, rfl⟩, rfl, rfl⟩
        · exact ⟨_, .inr ⟨h12, rfl⟩, rfl, rfl⟩
      · rintro σ' H' ⟨result10, j11, rfl, rfl⟩
        refine ⟨_, rfl, _, rfl, _, _, rfl, rfl, ((pw_cmul e1 e2 hq hs hn (by assumption) (by omega)).2), _, rfl, _, _, rfl, rfl, ⟨by decide, by decide⟩, ?_⟩
        exact ⟨_, by omega, ⟨(count1 / 2), result10, (square3 * square3), (2 * e4), (if count1 % 2 = 1 then f5 + e4 else f5), rfl, rfl, rfl, (by exact pw_step hq hs (by assumption)), (by exact pw_sq hs), (by omega), (by exact pw_cnt hc hn)⟩⟩
    · refine ⟨_, rfl, ?_⟩
      exact k result2 (by exact pw_end hq hc (by assumption) hn)
end
def sp_squares_up_to (K : PySem.W.Frag) : Sp := fun vs H Q E => ∃ (I : Hp) (O : List (Addr × HO)) (base : Int) (size : Int), vs = [.int base, .int size] ∧ Wd I (O) H ∧ 2 ≤ base ∧ base ≤ 36 ∧ Sz 8000 size ∧ (∀ (r : Addr) (r_l : List Int) (I' : Hp) (H' : Hp), Same I I' → Wd I' (O) H' → I' r = some (.lst (r_l.map V.int)) → r_l = sqL base r_l.length → (∀ j : Nat, j < r_l.length → base ^ (2 ^ j) ≤ size) → size < base ^ (2 ^ r_l.length) → r_l.length ≤ 14 → Q (.ref r) H')
section
variable {P : Program} {w : World} {K : PySem.W.Frag} {mg : Str → Option Value} {base : Heap}
theorem sc_squares_up_to : FnScope ["base", "size", "squares", "square"] ["base", "size"] (defScope s_squares_up_to) := ⟨rfl, rfl, rfl, by decide +kernel, rfl, by decide +kernel, by decide +kernel⟩
theorem b_squares_up_to (T : Txt P K mg w) : Binds K (fdOf K (a_squares_up_to K)) ["base", "size"] [] := T.f_squares_up_to.bindsN fun _ _ _ _ _ _ us hl => match us, hl with | [_, _], _ => rfl
theorem ok_squares_up_to (T : Txt P K mg w) : FnOk P w K mg base CX0 1 (a_squares_up_to K) (fdOf K (a_squares_up_to K)) ["base", "size"] (sp_squares_up_to K) := by
  refine T.f_squares_up_to.ok sc_squares_up_to (fun vs H Q E h => ?_) (fun cdv A outer s H vs Q E hr h => ?_)
  · obtain ⟨_, _, _, _, rfl, _, _, _, _, _⟩ := h
    rfl
  · obtain ⟨I, O, base, size, rfl, w, e1, e2, e3, k⟩ := h
    refine ⟨_, PSs.nox (pss_cons (ps_set (i := 2) sc_squares_up_to.nd rfl (Or.inl rfl) (pe_lst (pa_nil))) (pss_cons (ps_set (i := 3) sc_squares_up_to.nd rfl (Or.inl rfl) (pv 0)) (pss_cons (ps_while PassesOwn.never (pt_cmpR op_le (pv 3) (pv 1) (nomark _)) (pss_cons (ps_expr (pe_bm PySem.F.plainAttrs_list PySem.F.slot_list_append PySem.F.type_list_append mt_append (pv 2) (pa_cons (pv 3) (pa_nil)))) (pss_one (ps_set (i := 3) sc_squares_up_to.nd rfl (Or.inl rfl) (pe_op op_mulW (pv 3) (pv 3)))))) (pss_one (ps_ret (pv 2)))))), ?_⟩
    refine ⟨(by show 0 ≤ sizeLine; decide), fun p1 hp2 => ?_⟩
    have w3 := w.newO (o := .lst []) hp2
    refine ⟨_, rfl, (fun m7 σ' H' => ∃ (square4 : Int) (n5 : Nat), σ' = [some (V.int base), some (V.int size), some (V.ref p1), some (V.int square4)] ∧ m7 = (size + 1 - square4).toNat ∧ Wd I ((p1, .lst ((sqL base n5).map V.int)) :: O) H' ∧ square4 = base ^ (2 ^ n5) ∧ ∀ j : Nat, j < n5 → base ^ (2 ^ j) ≤ size), ⟨_, ⟨base, (0), rfl, rfl, w3, (by exact (Int.pow_one base).symm), (by exact fun j hj => absurd hj (by omega))⟩⟩, ?_⟩
    rintro _ _ H8 ⟨square4, n5, rfl, rfl, w6, hs, hl⟩
    refine ⟨_, rfl, _, rfl, _, _, rfl, rfl, _, rfl, ?_⟩
    refine iD (fun h9 => ?_) (fun h9 => ?_)
    · refine ⟨_, fun _ _ q => q, ?_⟩
      refine ⟨_, rfl, .inl ⟨rfl, _, SqL.of w6.own⟩, _, rfl, _, _, _, rfl, rfl, w6.own, (sq_app_len e1 hl e3), ?_⟩
      have w10 := w6.set (u := .lst (((sqL base n5).map V.int) ++ [(V.int square4)]))
      have ea : (((sqL base n5).map V.int) ++ [(V.int square4)]) = (sqL base (n5 + 1)).map V.int := by exact sqL_snoc hs
      have w11 := w10
      rw [ea] at w11
      rw [ea]
      refine ⟨_, rfl, _, rfl, _, _, rfl, rfl, (Sz.cmul (sq_sz (sq_pos e1 hs) (by assumption) e3) (sq_sz (sq_pos e1 hs) (by assumption) e3)), ?_⟩
      exact ⟨_, by exact sq_less (sq_ge2 e1 hs) (by assumption), ⟨(square4 * square4), (n5 + 1), rfl, rfl, w11, (by exact sq_next hs), (by exact sq_all hl hs (by assumption))⟩⟩
    · refine ⟨_, rfl, ?_⟩
      have s12 := w6.freezeS
      have w13 := w6.freeze
      exact k p1 _ _ _ (s12) w13 upd_same (by first | exact sqL_self | exact sqL_all hl | exact sqL_end hs (by assumption) | exact sqL_short e1 hl e3) (by first | exact sqL_self | exact sqL_all hl | exact sqL_end hs (by assumption) | exact sqL_short e1 hl e3) (by first | exact sqL_self | exact sqL_all hl | exact sqL_end hs (by assumption) | exact sqL_short e1 hl e3) (by first | exact sqL_self | exact sqL_all hl | exact sqL_end hs (by assumption) | exact sqL_short e1 hl e3)
end
def sp_law_source (K : PySem.W.Frag) : Sp := fun vs H Q E => ∃ (I : Hp) (O : List (Addr × HO)) (script : Addr) (script_l : List Int), vs = [.ref script] ∧ Wd I (O) H ∧ SqL K I script (script_l.map V.int) ∧ script_l.length ≤ 63 ∧ (∀ (r : Addr) (r_s : List V) (I' : Hp) (H' : Hp), Same I I' → Wd I' ((r, .lst r_s) :: O) H' → SrcOk I' r_s → Q (.ref r) H')
section
variable {P : Program} {w : World} {K : PySem.W.Frag} {mg : Str → Option Value} {base : Heap}
theorem sc_law_source : FnScope ["script", "cell"] ["script"] (defScope s_law_source) := ⟨rfl, rfl, rfl, by decide +kernel, rfl, by decide +kernel, by decide +kernel⟩
theorem b_law_source (T : Txt P K mg w) : Binds K (fdOf K (a_law_source K)) ["script"] [] := T.f_law_source.bindsN fun _ _ _ _ _ _ us hl => match us, hl with | [_], _ => rfl
theorem ok_law_source (T : Txt P K mg w) : FnOk P w K mg base CX0 1 (a_law_source K) (fdOf K (a_law_source K)) ["script"] (sp_law_source K) := by
  refine T.f_law_source.ok sc_law_source (fun vs H Q E h => ?_) (fun cdv A outer s H vs Q E hr h => ?_)
  · obtain ⟨_, _, _, _, rfl, _, _, _, _⟩ := h
    rfl
  · obtain ⟨I, O, script, script_l, rfl, w, f_script, f_script1, k⟩ := h
    refine ⟨_, PSs.nox (pss_one (ps_ret (pe_lst (pa_cons (pe_int) (pa_cons (pe_int) (pa_cons (pe_int) (pa_cons (pe_int) (pa_cons (pe_lc (own := [("cell", 1)]) (g := gName 1) (tt := tYes) (by rfl) sc_law_source.nd (pi_list (pv 0)) (blkOk_by (own := [("cell", 1)]) (N := ["script", "cell"]) (sc := defScope s_law_source) (by decide +kernel)) (fun _ _ _ _ _ => pg_name (i := 1) sc_law_source.nd rfl (Or.inl rfl)) (fun _ _ _ _ _ => pts_nil) (fun _ _ _ _ _ => pe_callTy call_int1 (by rfl) T.n_int (by decide +kernel) (pa_cons (pv 1) (pa_nil)))) (pa_nil))))))))), ?_⟩
    refine ⟨_, rfl, _, rfl, ⟨_, (w.seq f_script)⟩, fun p1 hp2 => ?_⟩
    have w3 := w.newO (o := .lst []) hp2
    refine lc_list (K := K) (a := script) (xs := (script_l.map V.int)) (fun i4 H' => Wd I ((p1, .lst ((script_l.take i4).map V.int)) :: O) H') (w3) ?_ ?_ ?_
    · rintro _ H6 _ w5
      exact (w5.seq f_script)
    · rintro i8 x9 H7 hi10 w5
      obtain ⟨m, hm, rfl⟩ := get_map hi10
      refine ⟨rfl, _, rfl, .inl ⟨_, rfl, ?_⟩⟩
      refine ⟨_, w5.own, (by refine small1000 ?_; simp; omega), ?_⟩
      have ea : ((script_l.take (i8 + 1)).map V.int) = ((script_l.take i8).map V.int) ++ [(V.int m)] := by exact take_map hm
      have w11 := w5.set (u := .lst (((script_l.take i8).map V.int) ++ [(V.int m)]))
      rw [← ea] at w11 ⊢
      exact w11
    rintro H12 w5
    have eb : ((script_l.take ((script_l.map V.int)).length).map V.int) = script_l.map V.int := by simp
    rw [eb] at w5
    have s14 := w5.freezeS
    have w15 := w5.freeze
    refine ⟨(by show 5 ≤ sizeLine; decide), fun p16 hp17 => ?_⟩
    have w18 := w15.newO (o := .lst [(V.int 0), (V.int 0), (V.int 0), (V.int 0), (V.ref p1)]) hp17
    exact k p16 _ _ _ (s14) w18 ⟨⟨_, _, _, _, _, _, rfl, by omega, upd_same, ‹_›⟩⟩
end
def sp_law_draw (K : PySem.W.Frag) : Sp := fun vs H Q E => ∃ (I : Hp) (O : List (Addr × HO)) (source : Addr) (source_s : List V) (many : Int), vs = [.ref source, .int many] ∧ Wd I ((source, .lst source_s) :: O) H ∧ SrcOk I source_s ∧ 0 < many ∧ many < 2 ^ 200 ∧ (∀ (r : Int) (source_s' : List V) (H' : Hp), Wd I ((source, .lst source_s') :: O) H' → SrcOk I source_s' → 0 ≤ r → r < many → Q (.int r) H')
section
variable {P : Program} {w : World} {K : PySem.W.Frag} {mg : Str → Option Value} {base : Heap}
theorem sc_law_draw : FnScope ["source", "many", "mixed", "cell", "size", "value"] ["source", "many"] (defScope s_law_draw) := ⟨rfl, rfl, rfl, by decide +kernel, rfl, by decide +kernel, by decide +kernel⟩
theorem b_law_draw (T : Txt P K mg w) : Binds K (fdOf K (a_law_draw K)) ["source", "many"] [] := T.f_law_draw.bindsN fun _ _ _ _ _ _ us hl => match us, hl with | [_, _], _ => rfl
theorem ok_law_draw (T : Txt P K mg w) : FnOk P w K mg base CX0 1 (a_law_draw K) (fdOf K (a_law_draw K)) ["source", "many"] (sp_law_draw K) := by
  refine T.f_law_draw.ok sc_law_draw (fun vs H Q E h => ?_) (fun cdv A outer s H vs Q E hr h => ?_)
  · obtain ⟨_, _, _, _, _, rfl, _, _, _, _, _⟩ := h
    rfl
  · obtain ⟨I, O, source, source_s, many, rfl, w, f_source, e1, e2, k⟩ := h
    obtain ⟨i0, i1, i2, i3, c, ns, rfl, z0, hc, hn⟩ := f_source.ex
    refine ⟨_, PSs.nox (pss_cons (ps_if (PW.pt (pw_and (pt_cmpR op_eq (pe_ix ix_list (pv 0) (pe_int) (fun _ _ => rfl)) (pe_int) (nomark _)) (pw_and1 (pt_cmpR op_eq (pe_ix ix_list (pv 0) (pe_int) (fun _ _ => rfl)) (pe_int) (nomark _))))) (pss_cons (ps_if (pt_cmpR op_ge (pe_ix ix_list (pv 0) (pe_int) (fun _ _ => rfl)) (pe_callB call_len_seq (by rfl) T.n_len (by decide +kernel) (pa_cons (pe_ix ix_list (pv 0) (pe_int) (fun _ _ => rfl)) (pa_nil))) (nomark _)) (pss_one (ps_ret (pe_int))) (pss_nil)) (pss_cons (ps_set (i := 3) sc_law_draw.nd rfl (Or.inl rfl) (pe_ix ix_list (pe_ix ix_list (pv 0) (pe_int) (fun _ _ => rfl)) (pe_ix ix_list (pv 0) (pe_int) (fun _ _ => rfl)) (fun _ _ => rfl))) (pss_cons (ps_asg (pe_op op_add (pe_ix ix_list (pv 0) (pe_int) (fun _ _ => rfl)) (pe_int)) (pg_sub (pv 0) (pe_int) set_list)) (pss_cons (ps_set (i := 4) sc_law_draw.nd rfl (Or.inl rfl) (pe_op op_mul (pe_int) (pv 3))) (Evl.pss_cut (ps_if (pt_cmpR op_lt (pv 3) (pe_int) (nomark _)) (pss_one (ps_set (i := 4) sc_law_draw.nd rfl (Or.inl rfl) (pe_op op_sub (pe_op op_sub (pe_int) (pe_op op_mul (pe_int) (pv 3))) (pe_int)))) (pss_nil)) (pss_one (ps_if (pt_cmpR op_ge (pe_callB call_abs (by rfl) T.n_abs (by decide +kernel) (pa_cons (pv 3) (pa_nil))) (pe_op op_pow (pe_int) (pe_int)) (nomark _)) (pss_one (ps_asg (pv 4) (pg_sub (pv 0) (pe_int) set_list))) (pss_cons (ps_asg (pv 4) (pg_sub (pv 0) (pe_int) set_list)) (pss_one (ps_asg (pe_int) (pg_sub (pv 0) (pe_int) set_list))))))))))) (pss_nil)) (pss_cons (ps_if (pt_cmpR op_gt (pe_ix ix_list (pv 0) (pe_int) (fun _ _ => rfl)) (pe_int) (nomark _)) (pss_cons (ps_set (i := 5) sc_law_draw.nd rfl (Or.inl rfl) (pe_op op_mod (pe_callTy call_int1 (by rfl) T.n_int (by decide +kernel) (pa_cons (pe_ix ix_list (pv 0) (pe_int) (fun _ _ => rfl)) (pa_nil))) (pv 1))) (pss_cons (ps_asg (pe_op op_fdivW (pe_ix ix_list (pv 0) (pe_int) (fun _ _ => rfl)) (pv 1)) (pg_sub (pv 0) (pe_int) set_list)) (pss_one (ps_ret (pv 5))))) (pss_nil)) (pss_cons (ps_asg (pe_op op_sub (pe_ix ix_list (pv 0) (pe_int) (fun _ _ => rfl)) (pe_int)) (pg_sub (pv 0) (pe_int) set_list)) (pss_cons (ps_set (i := 2) sc_law_draw.nd rfl (Or.inl rfl) (pe_op op_mod (pe_callTy call_int1 (by rfl) T.n_int (by decide +kernel) (pa_cons (pe_op op_add (pe_op op_add (pe_op op_mul (pe_ix ix_list (pv 0) (pe_int) (fun _ _ => rfl)) (pe_int)) (pe_op op_mul (pe_ix ix_list (pv 0) (pe_int) (fun _ _ => rfl)) (pe_int))) (pe_int)) (pa_nil))) (pe_int))) (pss_one (ps_ret (pe_op op_mod (pe_op op_mod (pe_callTy call_int1 (by rfl) T.n_int (by decide +kernel) (pa_cons (pe_op op_add (pe_op op_mul (pv 2) (pe_int)) (pe_op op_mul (pe_ix ix_list (pv 0) (pe_int) (fun _ _ => rfl)) (pe_int))) (pa_nil))) (pe_int)) (pv 1)))))))), ?_⟩
    refine ⟨_, rfl, _, _, _, _, rfl, rfl, (SqL.of w.own), rfl, rfl, _, rfl, ?_⟩
    refine iEqI (fun h1 => ?_) (fun h1 => ?_)
    · refine ⟨_, rfl, _, _, _, _, rfl, rfl, (SqL.of w.own), rfl, rfl, _, rfl, ?_⟩
      refine iEqI (fun h2 => ?_) (fun h2 => ?_)
      · refine ⟨_, rfl, _, _, _, _, rfl, rfl, (SqL.of w.own), rfl, _, rfl, _, _, _, _, rfl, rfl, (SqL.of w.own), rfl, _, _, rfl, .inl (SqL.of (w.get hc)), _, _, rfl, rfl, _, rfl, ?_⟩
        refine iD (fun h3 => ?_) (fun h3 => ?_)
        · exact k 0 _ _ w ⟨⟨_, _, _, _, _, _, rfl, by omega, hc, hn⟩⟩ (by first | omega | exact Int.emod_nonneg _ (by omega) | exact Int.emod_lt_of_pos _ (by omega) | exact Int.ediv_nonneg (by omega) (by omega)) (by first | omega | exact Int.emod_nonneg _ (by omega) | exact Int.emod_lt_of_pos _ (by omega) | exact Int.ediv_nonneg (by omega) (by omega))
        · obtain ⟨cell, _, hcell0, hcell⟩ := at_map (f := V.int) (l := ns) (i := i0) (by omega) (by simp at *; omega)
          refine ⟨_, rfl, _, _, _, _, rfl, rfl, (SqL.of w.own), rfl, _, rfl, _, _, _, _, rfl, rfl, (SqL.of w.own), rfl, _, _, _, _, rfl, rfl, (SqL.of (w.get hc)), hcell, _, rfl, _, _, _, _, rfl, rfl, (SqL.of w.own), rfl, _, _, rfl, rfl, _, rfl, _, _, _, _, rfl, rfl, w.own, rfl, ?_⟩
          have w4 := w.set (u := .lst [(V.int (i0 + 1)), (V.int i1), (V.int i2), (V.int i3), (V.ref c)])
          refine ⟨_, rfl, _, _, rfl, rfl, .inl ⟨by decide, by decide⟩, ?_⟩
          refine ⟨fun σ' H' => ∃ size5 : Int, ((cell < 0 ∧ size5 = ((0 - (2 * cell)) - 1)) ∨ (¬ (cell < 0) ∧ size5 = (2 * cell))) ∧ σ' = [some (V.ref source), some (V.int many), none, some (V.int cell), some (V.int size5), none] ∧ (upd H source (.lst [(V.int (i0 + 1)), (V.int i1), (V.int i2), (V.int i3), (V.ref c)])) = H', ?_, ?_⟩
          · refine ⟨_, rfl, _, _, rfl, rfl, _, rfl, ?_⟩
            refine iD (fun h7 => ?_) (fun h7 => ?_)
            · refine ⟨_, rfl, _, _, rfl, rfl, .inl ⟨by decide, by decide⟩, _, _, rfl, rfl, _, _, rfl, rfl, ?_⟩
              exact ⟨_, .inl ⟨h7, rfl⟩, rfl, rfl⟩
            · exact ⟨_, .inr ⟨h7, rfl⟩, rfl, rfl⟩
          · rintro σ' H' ⟨size5, j6, rfl, rfl⟩
            refine ⟨_, rfl, _, rfl, _, _, rfl, rfl, ⟨by decide, by decide, by decide⟩, _, _, rfl, rfl, _, rfl, ?_⟩
            refine iD (fun h8 => ?_) (fun h8 => ?_)
            · refine ⟨_, rfl, _, rfl, _, _, _, _, rfl, rfl, w4.own, rfl, ?_⟩
              have w9 := w4.set (u := .lst [(V.int (i0 + 1)), (V.int size5), (V.int i2), (V.int i3), (V.ref c)])
              refine ⟨_, rfl, _, _, _, _, rfl, rfl, (SqL.of w9.own), rfl, _, _, rfl, rfl, _, rfl, ?_⟩
              refine iD (fun h10 => ?_) (fun h10 => ?_)
              · refine ⟨_, rfl, _, _, _, _, rfl, rfl, (SqL.of w9.own), rfl, .inl ⟨_, rfl, ?_⟩⟩
                refine ⟨_, rfl, _, _, rfl, rfl, (by show (0 : Int) < many; omega), _, rfl, _, _, _, _, rfl, rfl, (SqL.of w9.own), rfl, _, rfl, _, _, rfl, rfl, (⟨by omega, draw_many (by omega) (by omega)⟩), _, rfl, _, _, _, _, rfl, rfl, w9.own, rfl, ?_⟩
                have w11 := w9.set (u := .lst [(V.int (i0 + 1)), (V.int (size5 / many)), (V.int i2), (V.int i3), (V.ref c)])
                refine ⟨_, rfl, ?_⟩
                exact k (size5 % many) _ _ w11 ⟨⟨_, _, _, _, _, _, rfl, by omega, hc, hn⟩⟩ (by first | omega | exact Int.emod_nonneg _ (by omega) | exact Int.emod_lt_of_pos _ (by omega) | exact Int.ediv_nonneg (by omega) (by omega)) (by first | omega | exact Int.emod_nonneg _ (by omega) | exact Int.emod_lt_of_pos _ (by omega) | exact Int.ediv_nonneg (by omega) (by omega))
              · refine ⟨_, rfl, _, _, _, _, rfl, rfl, (SqL.of w9.own), rfl, _, _, rfl, rfl, _, rfl, _, _, _, _, rfl, rfl, w9.own, rfl, ?_⟩
                have w12 := w9.set (u := .lst [(V.int (i0 + 1)), (V.int size5), (V.int i2), (V.int (i3 - 1)), (V.ref c)])
                refine ⟨_, rfl, _, _, _, _, rfl, rfl, (SqL.of w12.own), rfl, _, _, rfl, rfl, .inr ⟨by decide, by decide⟩, _, rfl, _, _, _, _, rfl, rfl, (SqL.of w12.own), rfl, _, _, rfl, rfl, .inr ⟨by decide, by decide⟩, _, _, rfl, rfl, _, _, rfl, rfl, .inl ⟨_, rfl, ?_⟩⟩
                refine ⟨_, _, rfl, rfl, (by show (0 : Int) < 2147483647; omega), _, rfl, _, _, rfl, rfl, .inr ⟨by decide, by decide⟩, _, rfl, _, _, _, _, rfl, rfl, (SqL.of w12.own), rfl, _, _, rfl, rfl, .inr ⟨by decide, by decide⟩, _, _, rfl, rfl, .inl ⟨_, rfl, ?_⟩⟩
                refine ⟨_, _, rfl, rfl, (by show (0 : Int) < 998244353; omega), _, rfl, _, _, rfl, rfl, (by show (0 : Int) < many; omega), ?_⟩
                exact k ((((((((i2 * 48271) + ((i3 - 1) * 69621)) + 12345) % 2147483647) * 16807) + (i2 * 9301)) % 998244353) % many) _ _ w12 ⟨⟨_, _, _, _, _, _, rfl, by omega, hc, hn⟩⟩ (by first | omega | exact Int.emod_nonneg _ (by omega) | exact Int.emod_lt_of_pos _ (by omega) | exact Int.ediv_nonneg (by omega) (by omega)) (by first | omega | exact Int.emod_nonneg _ (by omega) | exact Int.emod_lt_of_pos _ (by omega) | exact Int.ediv_nonneg (by omega) (by omega))
            · refine ⟨_, rfl, _, rfl, _, _, _, _, rfl, rfl, w4.own, rfl, ?_⟩
              have w13 := w4.set (u := .lst [(V.int (i0 + 1)), (V.int i1), (V.int size5), (V.int i3), (V.ref c)])
              refine ⟨_, rfl, _, _, _, _, rfl, rfl, w13.own, rfl, ?_⟩
              have w14 := w13.set (u := .lst [(V.int (i0 + 1)), (V.int i1), (V.int size5), (V.int 3), (V.ref c)])
              refine ⟨_, rfl, _, _, _, _, rfl, rfl, (SqL.of w14.own), rfl, _, _, rfl, rfl, _, rfl, ?_⟩
              refine iD (fun h15 => ?_) (fun h15 => ?_)
              · refine ⟨_, rfl, _, _, _, _, rfl, rfl, (SqL.of w14.own), rfl, .inl ⟨_, rfl, ?_⟩⟩
                refine ⟨_, rfl, _, _, rfl, rfl, (by show (0 : Int) < many; omega), _, rfl, _, _, _, _, rfl, rfl, (SqL.of w14.own), rfl, _, rfl, _, _, rfl, rfl, (⟨by omega, draw_many (by omega) (by omega)⟩), _, rfl, _, _, _, _, rfl, rfl, w14.own, rfl, ?_⟩
                have w16 := w14.set (u := .lst [(V.int (i0 + 1)), (V.int (i1 / many)), (V.int size5), (V.int 3), (V.ref c)])
                refine ⟨_, rfl, ?_⟩
                exact k (i1 % many) _ _ w16 ⟨⟨_, _, _, _, _, _, rfl, by omega, hc, hn⟩⟩ (by first | omega | exact Int.emod_nonneg _ (by omega) | exact Int.emod_lt_of_pos _ (by omega) | exact Int.ediv_nonneg (by omega) (by omega)) (by first | omega | exact Int.emod_nonneg _ (by omega) | exact Int.emod_lt_of_pos _ (by omega) | exact Int.ediv_nonneg (by omega) (by omega))
              · refine ⟨_, rfl, _, _, _, _, rfl, rfl, (SqL.of w14.own), rfl, _, _, rfl, rfl, _, rfl, _, _, _, _, rfl, rfl, w14.own, rfl, ?_⟩
                have w17 := w14.set (u := .lst [(V.int (i0 + 1)), (V.int i1), (V.int size5), (V.int (3 - 1)), (V.ref c)])
                refine ⟨_, rfl, _, _, _, _, rfl, rfl, (SqL.of w17.own), rfl, _, _, rfl, rfl, .inr ⟨by decide, by decide⟩, _, rfl, _, _, _, _, rfl, rfl, (SqL.of w17.own), rfl, _, _, rfl, rfl, .inr ⟨by decide, by decide⟩, _, _, rfl, rfl, _, _, rfl, rfl, .inl ⟨_, rfl, ?_⟩⟩
                refine ⟨_, _, rfl, rfl, (by show (0 : Int) < 2147483647; omega), _, rfl, _, _, rfl, rfl, .inr ⟨by decide, by decide⟩, _, rfl, _, _, _, _, rfl, rfl, (SqL.of w17.own), rfl, _, _, rfl, rfl, .inr ⟨by decide, by decide⟩, _, _, rfl, rfl, .inl ⟨_, rfl, ?_⟩⟩
                refine ⟨_, _, rfl, rfl, (by show (0 : Int) < 998244353; omega), _, rfl, _, _, rfl, rfl, (by show (0 : Int) < many; omega), ?_⟩
                exact k ((((((((size5 * 48271) + ((3 - 1) * 69621)) + 12345) % 2147483647) * 16807) + (size5 * 9301)) % 998244353) % many) _ _ w17 ⟨⟨_, _, _, _, _, _, rfl, by omega, hc, hn⟩⟩ (by first | omega | exact Int.emod_nonneg _ (by omega) | exact Int.emod_lt_of_pos _ (by omega) | exact Int.ediv_nonneg (by omega) (by omega)) (by first | omega | exact Int.emod_nonneg _ (by omega) | exact Int.emod_lt_of_pos _ (by omega) | exact Int.ediv_nonneg (by omega) (by omega))
      · refine ⟨_, rfl, _, _, _, _, rfl, rfl, (SqL.of w.own), rfl, _, _, rfl, rfl, _, rfl, ?_⟩
        refine iD (fun h18 => ?_) (fun h18 => ?_)
        · refine ⟨_, rfl, _, _, _, _, rfl, rfl, (SqL.of w.own), rfl, .inl ⟨_, rfl, ?_⟩⟩
          refine ⟨_, rfl, _, _, rfl, rfl, (by show (0 : Int) < many; omega), _, rfl, _, _, _, _, rfl, rfl, (SqL.of w.own), rfl, _, rfl, _, _, rfl, rfl, (⟨by omega, draw_many (by omega) (by omega)⟩), _, rfl, _, _, _, _, rfl, rfl, w.own, rfl, ?_⟩
          have w19 := w.set (u := .lst [(V.int i0), (V.int (i1 / many)), (V.int i2), (V.int i3), (V.ref c)])
          refine ⟨_, rfl, ?_⟩
          exact k (i1 % many) _ _ w19 ⟨⟨_, _, _, _, _, _, rfl, by omega, hc, hn⟩⟩ (by first | omega | exact Int.emod_nonneg _ (by omega) | exact Int.emod_lt_of_pos _ (by omega) | exact Int.ediv_nonneg (by omega) (by omega)) (by first | omega | exact Int.emod_nonneg _ (by omega) | exact Int.emod_lt_of_pos _ (by omega) | exact Int.ediv_nonneg (by omega) (by omega))
        · refine ⟨_, rfl, _, _, _, _, rfl, rfl, (SqL.of w.own), rfl, _, _, rfl, rfl, _, rfl, _, _, _, _, rfl, rfl, w.own, rfl, ?_⟩
          have w20 := w.set (u := .lst [(V.int i0), (V.int i1), (V.int i2), (V.int (i3 - 1)), (V.ref c)])
          refine ⟨_, rfl, _, _, _, _, rfl, rfl, (SqL.of w20.own), rfl, _, _, rfl, rfl, .inr ⟨by decide, by decide⟩, _, rfl, _, _, _, _, rfl, rfl, (SqL.of w20.own), rfl, _, _, rfl, rfl, .inr ⟨by decide, by decide⟩, _, _, rfl, rfl, _, _, rfl, rfl, .inl ⟨_, rfl, ?_⟩⟩
          refine ⟨_, _, rfl, rfl, (by show (0 : Int) < 2147483647; omega), _, rfl, _, _, rfl, rfl, .inr ⟨by decide, by decide⟩, _, rfl, _, _, _, _, rfl, rfl, (SqL.of w20.own), rfl, _, _, rfl, rfl, .inr ⟨by decide, by decide⟩, _, _, rfl, rfl, .inl ⟨_, rfl, ?_⟩⟩
          refine ⟨_, _, rfl, rfl, (by show (0 : Int) < 998244353; omega), _, rfl, _, _, rfl, rfl, (by show (0 : Int) < many; omega), ?_⟩
          exact k ((((((((i2 * 48271) + ((i3 - 1) * 69621)) + 12345) % 2147483647) * 16807) + (i2 * 9301)) % 998244353) % many) _ _ w20 ⟨⟨_, _, _, _, _, _, rfl, by omega, hc, hn⟩⟩ (by first | omega | exact Int.emod_nonneg _ (by omega) | exact Int.emod_lt_of_pos _ (by omega) | exact Int.ediv_nonneg (by omega) (by omega)) (by first | omega | exact Int.emod_nonneg _ (by omega) | exact Int.emod_lt_of_pos _ (by omega) | exact Int.ediv_nonneg (by omega) (by omega))
    · refine ⟨_, rfl, _, _, _, _, rfl, rfl, (SqL.of w.own), rfl, _, _, rfl, rfl, _, rfl, ?_⟩
      refine iD (fun h21 => ?_) (fun h21 => ?_)
      · refine ⟨_, rfl, _, _, _, _, rfl, rfl, (SqL.of w.own), rfl, .inl ⟨_, rfl, ?_⟩⟩
        refine ⟨_, rfl, _, _, rfl, rfl, (by show (0 : Int) < many; omega), _, rfl, _, _, _, _, rfl, rfl, (SqL.of w.own), rfl, _, rfl, _, _, rfl, rfl, (⟨by omega, draw_many (by omega) (by omega)⟩), _, rfl, _, _, _, _, rfl, rfl, w.own, rfl, ?_⟩
        have w22 := w.set (u := .lst [(V.int i0), (V.int (i1 / many)), (V.int i2), (V.int i3), (V.ref c)])
        refine ⟨_, rfl, ?_⟩
        exact k (i1 % many) _ _ w22 ⟨⟨_, _, _, _, _, _, rfl, by omega, hc, hn⟩⟩ (by first | omega | exact Int.emod_nonneg _ (by omega) | exact Int.emod_lt_of_pos _ (by omega) | exact Int.ediv_nonneg (by omega) (by omega)) (by first | omega | exact Int.emod_nonneg _ (by omega) | exact Int.emod_lt_of_pos _ (by omega) | exact Int.ediv_nonneg (by omega) (by omega))
      · refine ⟨_, rfl, _, _, _, _, rfl, rfl, (SqL.of w.own), rfl, _, _, rfl, rfl, _, rfl, _, _, _, _, rfl, rfl, w.own, rfl, ?_⟩
        have w23 := w.set (u := .lst [(V.int i0), (V.int i1), (V.int i2), (V.int (i3 - 1)), (V.ref c)])
        refine ⟨_, rfl, _, _, _, _, rfl, rfl, (SqL.of w23.own), rfl, _, _, rfl, rfl, .inr ⟨by decide, by decide⟩, _, rfl, _, _, _, _, rfl, rfl, (SqL.of w23.own), rfl, _, _, rfl, rfl, .inr ⟨by decide, by decide⟩, _, _, rfl, rfl, _, _, rfl, rfl, .inl ⟨_, rfl, ?_⟩⟩
        refine ⟨_, _, rfl, rfl, (by show (0 : Int) < 2147483647; omega), _, rfl, _, _, rfl, rfl, .inr ⟨by decide, by decide⟩, _, rfl, _, _, _, _, rfl, rfl, (SqL.of w23.own), rfl, _, _, rfl, rfl, .inr ⟨by decide, by decide⟩, _, _, rfl, rfl, .inl ⟨_, rfl, ?_⟩⟩
        refine ⟨_, _, rfl, rfl, (by show (0 : Int) < 998244353; omega), _, rfl, _, _, rfl, rfl, (by show (0 : Int) < many; omega), ?_⟩
        exact k ((((((((i2 * 48271) + ((i3 - 1) * 69621)) + 12345) % 2147483647) * 16807) + (i2 * 9301)) % 998244353) % many) _ _ w23 ⟨⟨_, _, _, _, _, _, rfl, by omega, hc, hn⟩⟩ (by first | omega | exact Int.emod_nonneg _ (by omega) | exact Int.emod_lt_of_pos _ (by omega) | exact Int.ediv_nonneg (by omega) (by omega)) (by first | omega | exact Int.emod_nonneg _ (by omega) | exact Int.emod_lt_of_pos _ (by omega) | exact Int.ediv_nonneg (by omega) (by omega))
end
def sp_law_power (K : PySem.W.Frag) : Sp := fun vs H Q E => ∃ (base : Int) (count : Int), vs = [.int base, .int count] ∧ 2 ≤ base ∧ base ≤ 36 ∧ 0 ≤ count ∧ count ≤ 9000 ∧ (∀ (r : Int), r = base ^ count.toNat → 0 < r → Sz (6 * count.toNat + 1) r → Q (.int r) H)
section
variable {P : Program} {w : World} {K : PySem.W.Frag} {mg : Str → Option Value} {base : Heap}
theorem sc_law_power : FnScope ["base", "count", "result", "k"] ["base", "count"] (defScope s_law_power) := ⟨rfl, rfl, rfl, by decide +kernel, rfl, by decide +kernel, by decide +kernel⟩
theorem b_law_power (T : Txt P K mg w) : Binds K (fdOf K (a_law_power K)) ["base", "count"] [] := T.f_law_power.bindsN fun _ _ _ _ _ _ us hl => match us, hl with | [_, _], _ => rfl
theorem ok_law_power (T : Txt P K mg w) : FnOk P w K mg base CX0 1 (a_law_power K) (fdOf K (a_law_power K)) ["base", "count"] (sp_law_power K) := by
  refine T.f_law_power.ok sc_law_power (fun vs H Q E h => ?_) (fun cdv A outer s H vs Q E hr h => ?_)
  · obtain ⟨_, _, rfl, _, _, _, _, _⟩ := h
    rfl
  · obtain ⟨base, count, rfl, e1, e2, e3, e4, k⟩ := h
    refine ⟨_, PSs.nox (pss_cons (ps_set (i := 2) sc_law_power.nd rfl (Or.inl rfl) (pe_int)) (pss_cons (ps_for PassesOwn.never rfl (pi_range1 (by rfl) T.n_range (pa_cons (pv 1) (pa_nil))) (pg_name (i := 3) sc_law_power.nd rfl (Or.inl rfl)) (pss_one (ps_set (i := 2) sc_law_power.nd rfl (Or.inl rfl) (pe_op op_mulW (pv 2) (pv 0))))) (pss_one (ps_ret (pv 2))))), ?_⟩
    refine ⟨_, rfl, _, rfl, (by first | omega | (subst_vars; first | rfl | simp [Int.pow_succ] | omega)), (by first | omega | (subst_vars; first | rfl | simp [Int.pow_succ] | omega)), for_range (lo := 0) (n := (count).toNat) (fun i3 σ' H' => ∃ (result1 : Int) (o2 : Option V), σ' = [some (V.int base), some (V.int count), some (V.int result1), o2] ∧ H = H' ∧ result1 = base ^ i3) ⟨1, _, rfl, rfl, (by first | omega | (subst_vars; first | rfl | simp [Int.pow_succ] | omega))⟩ ?_ ?_⟩
    · rintro i7 _ H5 hi6 ⟨result1, o2, rfl, rfl, hp⟩
      refine ⟨_, rfl, _, rfl, _, _, rfl, rfl, (lp_mul_pow (by omega) (by omega) (by omega) hp), ?_⟩
      exact ⟨(result1 * base), _, rfl, rfl, (by first | omega | (subst_vars; first | rfl | simp [Int.pow_succ] | omega))⟩
    · rintro _ H8 ⟨result1, o2, rfl, rfl, hp⟩
      refine ⟨_, rfl, ?_⟩
      exact k result1 (by first | (subst_vars; rfl) | exact lp_pow_pos (by omega) hp | exact lp_pow_sz (by omega) (by omega) hp) (by first | (subst_vars; rfl) | exact lp_pow_pos (by omega) hp | exact lp_pow_sz (by omega) (by omega) hp) (by first | (subst_vars; rfl) | exact lp_pow_pos (by omega) hp | exact lp_pow_sz (by omega) (by omega) hp)
end
def sp_without_zeros (K : PySem.W.Frag) : Sp := fun vs H Q E => ∃ (I : Hp) (O : List (Addr × HO)) (base : Int) (coefficient : Int), vs = [.int base, .int coefficient] ∧ Wd I (O) H ∧ 2 ≤ base ∧ base ≤ 36 ∧ coefficient ≠ 0 ∧ Sz 8000 coefficient ∧ (∀ (r : Addr) (r_0 : Int) (r_1 : Int) (I' : Hp) (H' : Hp), Same I I' → Wd I' (O) H' → I' r = some (.tup [.int r_0, .int r_1]) → coefficient = r_0 * base ^ r_1.toNat → ¬ base ∣ r_0 → 0 ≤ r_1 → r_1 ≤ 16384 → Q (.ref r) H')
section
variable {P : Program} {w : World} {K : PySem.W.Frag} {mg : Str → Option Value} {base : Heap}
theorem sc_without_zeros : FnScope ["base", "coefficient", "squares", "rest", "count", "k"] ["base", "coefficient"] (defScope s_without_zeros) := ⟨rfl, rfl, rfl, by decide +kernel, rfl, by decide +kernel, by decide +kernel⟩
theorem b_without_zeros (T : Txt P K mg w) : Binds K (fdOf K (a_without_zeros K)) ["base", "coefficient"] [] := T.f_without_zeros.bindsN fun _ _ _ _ _ _ us hl => match us, hl with | [_, _], _ => rfl
theorem ok_without_zeros (T : Txt P K mg w) : FnOk P w K mg base CX0 2 (a_without_zeros K) (fdOf K (a_without_zeros K)) ["base", "coefficient"] (sp_without_zeros K) := by
  refine T.f_without_zeros.ok sc_without_zeros (fun vs H Q E h => ?_) (fun cdv A outer s H vs Q E hr h => ?_)
  · obtain ⟨_, _, _, _, rfl, _, _, _, _, _, _⟩ := h
    rfl
  · obtain ⟨I, O, base, coefficient, rfl, w, e1, e2, e3, e4, k⟩ := h
    refine ⟨_, PSs.nox (pss_cons (ps_set (i := 2) sc_without_zeros.nd rfl (Or.inl rfl) (pe_call (ok_squares_up_to T) (hr.mono (by decide)) (by rfl) T.g_squares_up_to T.f_squares_up_to.kp (b_squares_up_to T) .nil pass0 (pa_cons (pv 0) (pa_cons (pe_callB call_abs (by rfl) T.n_abs (by decide +kernel) (pa_cons (pv 1) (pa_nil))) (pa_nil))))) (pss_cons (ps_set (i := 3) sc_without_zeros.nd rfl (Or.inl rfl) (pv 1)) (pss_cons (ps_set (i := 4) sc_without_zeros.nd rfl (Or.inl rfl) (pe_int)) (pss_cons (ps_for PassesOwn.never rfl (pi_revR (by rfl) T.n_reversed (prg_1 (by rfl) T.n_range (pe_callB call_len_seq (by rfl) T.n_len (by decide +kernel) (pa_cons (pv 2) (pa_nil))))) (pg_name (i := 5) sc_without_zeros.nd rfl (Or.inl rfl)) (pss_one (ps_if (pt_cmpR op_eq (pe_op op_mod (pv 3) (pe_ix ix_list (pv 2) (pv 5) (fun _ _ => rfl))) (pe_int) (nomark _)) (pss_cons (ps_set (i := 3) sc_without_zeros.nd rfl (Or.inl rfl) (pe_op op_fdivW (pv 3) (pe_ix ix_list (pv 2) (pv 5) (fun _ _ => rfl)))) (pss_one (ps_set (i := 4) sc_without_zeros.nd rfl (Or.inl rfl) (pe_op op_add (pv 4) (pe_call (ok_power T) (hr.mono (by decide)) (by rfl) T.g_power T.f_power.kp (b_power T) .nil pass0 (pa_cons (pe_int) (pa_cons (pv 5) (pa_nil)))))))) (pss_nil)))) (pss_one (ps_ret (pe_tup (pa_cons (pv 3) (pa_cons (pv 4) (pa_nil)))))))))), ?_⟩
    refine ⟨_, rfl, _, rfl, _, rfl, I, (O), base, (if coefficient < 0 then -coefficient else coefficient), rfl, w, (by first | assumption | exact abs_sz e4), (by first | assumption | exact abs_sz e4), (by first | assumption | exact abs_sz e4), fun r1 r1_l I2 H4 s3 w5 f6 q7 q8 q9 q10 => ?_⟩
    have hlen : (List.map V.int r1_l).length = r1_l.length := List.length_map ..
    refine ⟨_, rfl, _, rfl, _, _, rfl, .inl (SqL.of (w5.get f6)), _, rfl, (by decide), (by decide), (by omega), (by omega), for_rangeC (lo := 0 + ((((((r1_l.map V.int)).length : Int) - 0).toNat : Nat) : Int) - 1) (c := -1) (n := ((((r1_l.map V.int)).length : Int) - 0).toNat) (fun i14 σ' H' => ∃ (rest11 : Int) (count12 : Int) (o13 : Option V), σ' = [some (V.int base), some (V.int coefficient), some (V.ref r1), some (V.int rest11), some (V.int count12), o13] ∧ H4 = H' ∧ 0 ≤ count12 ∧ coefficient = rest11 * base ^ count12.toNat ∧ ¬ base ^ (2 ^ (r1_l.length - i14)) ∣ rest11 ∧ count12 + ((2 ^ (r1_l.length - i14) : Nat) : Int) ≤ ((2 ^ r1_l.length : Nat) : Int)) ⟨coefficient, 0, _, rfl, rfl, (by first | omega | exact Int.add_nonneg hc (Int.le_of_lt (Int.pow_pos (by decide)))), (by first | exact wz_mul rfl he (by assumption) hc (by omega) | assumption | (simp; done)), (by first | exact wz_start e1 e3 (by assumption) | exact wz_no rfl (by assumption) (by omega) hn | exact wz_no2 rfl (by assumption)), (by first | exact wz_bnd hb (by omega) (by omega) | exact wz_bnd2 hb (by omega) | (simp; done))⟩ ?_ ?_⟩
    · rintro i18 _ H16 hi17 ⟨rest11, count12, o13, rfl, rfl, hc, he, hn, hb⟩
      obtain ⟨c19, h0_20, h1_21, h2_22⟩ := at_map (f := V.int) (l := r1_l) (i := (0 + ((((((r1_l.map V.int)).length : Int) - 0).toNat : Nat) : Int) - 1 + (i18 : Int) * -1)) (by omega) (by omega)
      obtain rfl : c19 = (base ^ (2 ^ (r1_l.length - 1 - i18))) := by
        have q := (sqL_get q7 h1_21).2
        rw [q]
        congr 2
        omega
      have hp_ : 0 < (base ^ (2 ^ (r1_l.length - 1 - i18))) := wz_pos e1
      refine ⟨_, rfl, _, rfl, _, rfl, _, _, _, _, rfl, rfl, (SqL.of (w5.get f6)), h2_22, _, _, rfl, rfl, (by show (0 : Int) < (base ^ (2 ^ (r1_l.length - 1 - i18))); omega), rfl, _, rfl, ?_⟩
      refine iEqI (fun h23 => ?_) (fun h23 => ?_)
      · obtain ⟨c24, h0_25, h1_26, h2_27⟩ := at_map (f := V.int) (l := r1_l) (i := (0 + ((((((r1_l.map V.int)).length : Int) - 0).toNat : Nat) : Int) - 1 + (i18 : Int) * -1)) (by omega) (by omega)
        obtain rfl : c24 = (base ^ (2 ^ (r1_l.length - 1 - i18))) := by
          have q := (sqL_get q7 h1_26).2
          rw [q]
          congr 2
          omega
        have hp_ : 0 < (base ^ (2 ^ (r1_l.length - 1 - i18))) := wz_pos e1
        refine ⟨_, rfl, _, rfl, _, rfl, _, _, _, _, rfl, rfl, (SqL.of (w5.get f6)), h2_27, _, _, rfl, rfl, (Sz.cdiv hp_ (wz_size e1 (by assumption) (by omega) e4)), _, rfl, _, rfl, 2, (0 + ((((((r1_l.map V.int)).length : Int) - 0).toNat : Nat) : Int) - 1 + (i18 : Int) * -1), rfl, (by first | decide | omega), (by first | decide | omega), (by first | decide | omega), (by first | decide | omega), fun r28 q29 => ?_⟩
        subst q29
        refine ⟨_, _, rfl, rfl, ?_⟩
        exact ⟨(rest11 / (base ^ (2 ^ (r1_l.length - 1 - i18)))), (count12 + ((2 : Int) ^ (0 + ((((((r1_l.map V.int)).length : Int) - 0).toNat : Nat) : Int) - 1 + (i18 : Int) * -1).toNat)), _, rfl, rfl, (by first | omega | exact Int.add_nonneg hc (Int.le_of_lt (Int.pow_pos (by decide)))), (by first | exact wz_mul rfl he (by assumption) hc (by omega) | assumption | (simp; done)), (by first | exact wz_start e1 e3 (by assumption) | exact wz_no rfl (by assumption) (by omega) hn | exact wz_no2 rfl (by assumption)), (by first | exact wz_bnd hb (by omega) (by omega) | exact wz_bnd2 hb (by omega) | (simp; done))⟩
      · exact ⟨rest11, count12, _, rfl, rfl, (by first | omega | exact Int.add_nonneg hc (Int.le_of_lt (Int.pow_pos (by decide)))), (by first | exact wz_mul rfl he (by assumption) hc (by omega) | assumption | (simp; done)), (by first | exact wz_start e1 e3 (by assumption) | exact wz_no rfl (by assumption) (by omega) hn | exact wz_no2 rfl (by assumption)), (by first | exact wz_bnd hb (by omega) (by omega) | exact wz_bnd2 hb (by omega) | (simp; done))⟩
    · rintro _ H30 ⟨rest11, count12, o13, rfl, rfl, hc, he, hn, hb⟩
      refine ⟨_, rfl, _, rfl, (by show 2 ≤ sizeLine; decide), fun p31 hp32 => ?_⟩
      have s33 := w5.newS (o := .tup [(V.int rest11), (V.int count12)]) hp32
      have w34 := w5.new (o := .tup [(V.int rest11), (V.int count12)]) hp32
      exact k p31 rest11 count12 _ _ ((Same.trans s3 s33)) w34 upd_same (by first | (rw [hlen] at *; first | exact he | exact wz_last (cnt := 0) hn | exact hc | exact wz_most hb (by assumption))) (by first | (rw [hlen] at *; first | exact he | exact wz_last (cnt := 0) hn | exact hc | exact wz_most hb (by assumption))) (by first | (rw [hlen] at *; first | exact he | exact wz_last (cnt := 0) hn | exact hc | exact wz_most hb (by assumption))) (by first | (rw [hlen] at *; first | exact he | exact wz_last (cnt := 0) hn | exact hc | exact wz_most hb (by assumption)))
end
def sp_check_base (K : PySem.W.Frag) : Sp := fun vs H Q E => ∃ (base : Int), vs = [.int base] ∧ 2 ≤ base ∧ base ≤ 36 ∧ Q (.non) H
section
variable {P : Program} {w : World} {K : PySem.W.Frag} {mg : Str → Option Value} {base : Heap}
theorem sc_check_base : FnScope ["base"] ["base"] (defScope s_check_base) := ⟨rfl, rfl, rfl, by decide +kernel, rfl, by decide +kernel, by decide +kernel⟩
theorem b_check_base (T : Txt P K mg w) : Binds K (fdOf K (a_check_base K)) ["base"] [] := T.f_check_base.bindsN fun _ _ _ _ _ _ us hl => match us, hl with | [_], _ => rfl
theorem ok_check_base (T : Txt P K mg w) : FnOk P w K mg base CX0 1 (a_check_base K) (fdOf K (a_check_base K)) ["base"] (sp_check_base K) := by
  refine T.f_check_base.ok sc_check_base (fun vs H Q E h => ?_) (fun cdv A outer s H vs Q E hr h => ?_)
  · obtain ⟨_, rfl, _, _, _⟩ := h
    rfl
  · obtain ⟨base, rfl, e1, e2, k⟩ := h
    refine ⟨_, PSs.nox (pss_one (ps_if (pt_not (pt_chain op_le op_le (pe_int) (pv 0) (pe_int))) (pss_one (ps_never)) (pss_nil))), ?_⟩
    refine ⟨_, rfl, _, _, rfl, rfl, _, rfl, ?_⟩
    refine iD (fun h1 => ?_) (fun h1 => (by omega))
    refine ⟨_, _, rfl, rfl, _, rfl, ?_⟩
    refine iND (fun h2 => (by omega)) (fun h2 => ?_)
    exact k
end
def sp_Exact_init (K : PySem.W.Frag) : Sp := fun vs H Q E => ∃ (I : Hp) (O : List (Addr × HO)) (self : Addr) (self_d : Addr) (base : Int) (coefficient : Int) (exponent : Int), vs = [.ref self, .int base, .int coefficient, .int exponent] ∧ Wd I ((self, .ins (He.ga K "Exact") self_d []) :: O) H ∧ 2 ≤ base ∧ base ≤ 36 ∧ Sz 8000 coefficient ∧ (∀ (self_coefficient' : Int) (self_exponent' : Int) (I' : Hp) (H' : Hp), Same I I' → Wd I' ((self, .ins (He.ga K "Exact") self_d (fs_Exact (.int (base)) (.int self_coefficient') (.int self_exponent'))) :: O) H' → Low base coefficient exponent self_coefficient' self_exponent' → Q (.non) H')
section
variable {P : Program} {w : World} {K : PySem.W.Frag} {mg : Str → Option Value} {base : Heap}
theorem sc_Exact_init : FnScope ["self", "base", "coefficient", "exponent", "rest", "count"] ["self", "base", "coefficient", "exponent"] (defScope s_Exact_init) := ⟨rfl, rfl, rfl, by decide +kernel, rfl, by decide +kernel, by decide +kernel⟩
theorem ok_Exact_init (T : Txt P K mg w) : FnOk P w K mg base CX0 3 (a_Exact_init K) (fdOf K (a_Exact_init K)) ["self", "base", "coefficient", "exponent"] (sp_Exact_init K) := by
  refine T.f_Exact_init.ok sc_Exact_init (fun vs H Q E h => ?_) (fun cdv A outer s H vs Q E hr h => ?_)
  · obtain ⟨_, _, _, _, _, _, _, rfl, _, _, _, _, _⟩ := h
    rfl
  · obtain ⟨I, O, self, self_d, base, coefficient, exponent, rfl, w, e1, e2, e3, k⟩ := h
    refine ⟨_, PSs.nox (pss_cons (ps_expr (pe_call (ok_check_base T) (hr.mono (by decide)) (by rfl) T.g_check_base T.f_check_base.kp (b_check_base T) .nil pass0 (pa_cons (pv 1) (pa_nil)))) (pss_cons (ps_fld (pv 0) (pv 1) (by rfl)) (pss_one (ps_if (pt_cmpR op_eq (pv 2) (pe_int) (nomark _)) (pss_cons (ps_fld (pv 0) (pe_int) (by rfl)) (pss_one (ps_fld (pv 0) (pe_int) (by rfl)))) (pss_cons (ps_asg (pe_call (ok_without_zeros T) (hr.mono (by decide)) (by rfl) T.g_without_zeros T.f_without_zeros.kp (b_without_zeros T) .nil pass0 (pa_cons (pv 1) (pa_cons (pv 2) (pa_nil)))) (pg_tup rfl (pgs_cons (pg_name (i := 4) sc_Exact_init.nd rfl (Or.inl rfl)) (pgs_cons (pg_name (i := 5) sc_Exact_init.nd rfl (Or.inl rfl)) (pgs_nil))))) (pss_cons (ps_fld (pv 0) (pv 4) (by rfl)) (pss_one (ps_fld (pv 0) (pe_op op_add (pv 3) (pv 5)) (by rfl))))))))), ?_⟩
    refine ⟨_, rfl, base, rfl, (by first | assumption | omega | rfl | exact low_zero (by assumption) | exact low_some (by assumption) (by assumption) (by assumption) (by assumption)), (by first | assumption | omega | rfl | exact low_zero (by assumption) | exact low_some (by assumption) (by assumption) (by assumption) (by assumption)), ?_⟩
    refine ⟨_, rfl, _, rfl, _, _, _, _, rfl, w.own, T.l_Exact, T.na_Exact_base, (by show 0 < 1000; decide), ?_⟩
    have w2 := w.set (u := .ins (He.ga K "Exact") self_d (putF "base" (V.int base) []))
    refine ⟨_, rfl, rfl, _, rfl, ?_⟩
    refine iEqI (fun h3 => ?_) (fun h3 => ?_)
    · refine ⟨_, rfl, _, _, _, _, rfl, w2.own, T.l_Exact, T.na_Exact_coefficient, (by show 1 < 1000; decide), ?_⟩
      have w4 := w2.set (u := .ins (He.ga K "Exact") self_d (putF "coefficient" (V.int 0) (putF "base" (V.int base) [])))
      refine ⟨_, rfl, _, _, _, _, rfl, w4.own, T.l_Exact, T.na_Exact_exponent, (by show 2 < 1000; decide), ?_⟩
      have w5 := w4.set (u := .ins (He.ga K "Exact") self_d (putF "exponent" (V.int 0) (putF "coefficient" (V.int 0) (putF "base" (V.int base) []))))
      exact k _ _ _ _ (Same.refl _) w5 (by first | assumption | omega | rfl | exact low_zero (by assumption) | exact low_some (by assumption) (by assumption) (by assumption) (by assumption))
    · refine ⟨_, rfl, _, rfl, I, ((self, .ins (He.ga K "Exact") self_d (putF "base" (V.int base) [])) :: O), base, coefficient, rfl, w2, (by first | assumption | omega | rfl | exact low_zero (by assumption) | exact low_some (by assumption) (by assumption) (by assumption) (by assumption)), (by first | assumption | omega | rfl | exact low_zero (by assumption) | exact low_some (by assumption) (by assumption) (by assumption) (by assumption)), (by first | assumption | omega | rfl | exact low_zero (by assumption) | exact low_some (by assumption) (by assumption) (by assumption) (by assumption)), (by first | assumption | omega | rfl | exact low_zero (by assumption) | exact low_some (by assumption) (by assumption) (by assumption) (by assumption)), fun r6 r6_0 r6_1 I7 H9 s8 w10 f11 q12 q13 q14 q15 => ?_⟩
      refine ⟨_, _, rfl, (SqT.of (w10.get f11)), rfl, _, _, rfl, _, _, rfl, rfl, _, rfl, _, rfl, _, _, _, _, rfl, w10.own, T.l_Exact, T.na_Exact_coefficient, (by show 1 < 1000; decide), ?_⟩
      have w16 := w10.set (u := .ins (He.ga K "Exact") self_d (putF "coefficient" (V.int r6_0) (putF "base" (V.int base) [])))
      refine ⟨_, rfl, _, rfl, _, _, rfl, rfl, _, rfl, _, _, _, _, rfl, w16.own, T.l_Exact, T.na_Exact_exponent, (by show 2 < 1000; decide), ?_⟩
      have w17 := w16.set (u := .ins (He.ga K "Exact") self_d (putF "exponent" (V.int (exponent + r6_1)) (putF "coefficient" (V.int r6_0) (putF "base" (V.int base) []))))
      exact k _ _ _ _ (s8) w17 (by first | assumption | omega | rfl | exact low_zero (by assumption) | exact low_some (by assumption) (by assumption) (by assumption) (by assumption))
end
def sp_taken_int (K : PySem.W.Frag) : Sp := fun vs H Q E => ∃ (I : Hp) (O : List (Addr × HO)) (value : Addr) (value_d : Addr) (value_base : Int) (value_coefficient : Int) (value_exponent : Int) (other : Int), vs = [.ref value, .int other] ∧ Wd I (O) H ∧ I value = some (.ins (He.ga K "Exact") value_d (fs_Exact (.int value_base) (.int value_coefficient) (.int value_exponent))) ∧ Nf value_base value_coefficient value_exponent ∧ Sz 8000 other ∧ (∀ (r : Addr) (r_d : Addr) (r_coefficient : Int) (r_exponent : Int) (I' : Hp) (H' : Hp), Same I I' → Wd I' (O) H' → I' r = some (.ins (He.ga K "Exact") r_d (fs_Exact (.int (value_base)) (.int r_coefficient) (.int r_exponent))) → Nf (value_base) r_coefficient r_exponent → Low value_base other 0 r_coefficient r_exponent → Q (.ref r) H')
section
variable {P : Program} {w : World} {K : PySem.W.Frag} {mg : Str → Option Value} {base : Heap}
theorem sc_taken_int : FnScope ["value", "other"] ["value", "other"] (defScope s_taken) := ⟨rfl, rfl, rfl, by decide +kernel, rfl, by decide +kernel, by decide +kernel⟩
theorem b_taken_int (T : Txt P K mg w) : Binds K (fdOf K (a_taken K)) ["value", "other"] [] := T.f_taken.bindsN fun _ _ _ _ _ _ us hl => match us, hl with | [_, _], _ => rfl
theorem ok_taken_int (T : Txt P K mg w) : FnOk P w K mg base CX0 5 (a_taken K) (fdOf K (a_taken K)) ["value", "other"] (sp_taken_int K) := by
  refine T.f_taken.ok sc_taken_int (fun vs H Q E h => ?_) (fun cdv A outer s H vs Q E hr h => ?_)
  · obtain ⟨_, _, _, _, _, _, _, _, rfl, _, _, _, _, _⟩ := h
    rfl
  · obtain ⟨I, O, value, value_d, value_base, value_coefficient, value_exponent, other, rfl, w, f_value, f_value1, e1, k⟩ := h
    obtain ⟨b0_value, b1_value, l0_value⟩ := id f_value1
    refine ⟨_, PSs.nox (pss_cons (ps_if (pt_val (pe_callB call_isi (by rfl) T.n_isinstance (by decide +kernel) (pa_cons (pv 1) (pa_cons (pe_bltn (v := .ty "int") (by rfl) T.n_int (by decide +kernel) rfl) (pa_nil))))) (pss_one (ps_ret (pe_make T.mk_Exact (ok_Exact_init T) (hr.mono (by decide)) (by rfl) T.g_Exact (bd_Exact_init_3 T).choose_spec.2 ((bd_Exact_init_3 T).choose_spec.1) pass0 (pa_cons (pe_fld (pv 0) (by rfl)) (pa_cons (pv 1) (pa_nil)))))) (pss_nil)) (pss_one (ps_never))), ?_⟩
    refine ⟨_, rfl, _, _, .type "int", .type "int", true, rfl, .ty _, .base (TyOf.int _), kit_ty (by decide +kernel), _, rfl, ?_⟩
    refine ⟨_, rfl, _, _, _, _, _, rfl, (w.get f_value), T.l_Exact, T.na_Exact_base, lk_Exact_base, _, rfl, fun x2 dx3 hx4 hd5 ne6 => ?_⟩
    have w7 := w.make (C := He.ga K "Exact") hx4 hd5 ne6
    refine ⟨I, (O), x2, _, value_base, other, 0, rfl, w7, (by first | assumption | omega | exact low_nf (by omega) (by omega) (by assumption)), (by first | assumption | omega | exact low_nf (by omega) (by omega) (by assumption)), (by first | assumption | omega | exact low_nf (by omega) (by omega) (by assumption)), fun y9 y10 I11 H13 s12 w14 q15 => ?_⟩
    refine ⟨rfl, ?_⟩
    have s16 := w14.freezeS
    have w17 := w14.freeze
    exact k x2 dx3 y9 y10 _ _ ((Same.trans s12 s16)) w17 upd_same (by first | assumption | exact num_nf (by assumption) (by assumption) (by assumption) | exact low_nf (by omega) (by omega) (by assumption)) (by first | assumption | omega | exact low_nf (by omega) (by omega) (by assumption))
end
def sp_taken_obj (K : PySem.W.Frag) : Sp := fun vs H Q E => ∃ (I : Hp) (O : List (Addr × HO)) (value : Addr) (value_d : Addr) (value_base : Int) (value_coefficient : Int) (value_exponent : Int) (other : Addr) (other_d : Addr) (other_base : Int) (other_coefficient : Int) (other_exponent : Int), vs = [.ref value, .ref other] ∧ Wd I (O) H ∧ I value = some (.ins (He.ga K "Exact") value_d (fs_Exact (.int value_base) (.int value_coefficient) (.int value_exponent))) ∧ Nf value_base value_coefficient value_exponent ∧ I other = some (.ins (He.ga K "Exact") other_d (fs_Exact (.int other_base) (.int other_coefficient) (.int other_exponent))) ∧ Nf other_base other_coefficient other_exponent ∧ (∀ (r : Addr) (r_d : Addr) (I' : Hp) (H' : Hp), Same I I' → Wd I' (O) H' → I' r = some (.ins (He.ga K "Exact") r_d (fs_Exact (.int (other_base)) (.int (other_coefficient)) (.int (other_exponent)))) → Q (.ref r) H')
section
variable {P : Program} {w : World} {K : PySem.W.Frag} {mg : Str → Option Value} {base : Heap}
theorem sc_taken_obj : FnScope ["value", "other"] ["value", "other"] (defScope s_taken) := ⟨rfl, rfl, rfl, by decide +kernel, rfl, by decide +kernel, by decide +kernel⟩
theorem b_taken_obj (T : Txt P K mg w) : Binds K (fdOf K (a_taken K)) ["value", "other"] [] := T.f_taken.bindsN fun _ _ _ _ _ _ us hl => match us, hl with | [_, _], _ => rfl
theorem ok_taken_obj (T : Txt P K mg w) : FnOk P w K mg base CX0 1 (a_taken K) (fdOf K (a_taken K)) ["value", "other"] (sp_taken_obj K) := by
  refine T.f_taken.ok sc_taken_obj (fun vs H Q E h => ?_) (fun cdv A outer s H vs Q E hr h => ?_)
  · obtain ⟨_, _, _, _, _, _, _, _, _, _, _, _, rfl, _, _, _, _, _, _⟩ := h
    rfl
  · obtain ⟨I, O, value, value_d, value_base, value_coefficient, value_exponent, other, other_d, other_base, other_coefficient, other_exponent, rfl, w, f_value, f_value1, f_other, f_other1, k⟩ := h
    refine ⟨_, PSs.nox (pss_cons (ps_if (pt_val (pe_callB call_isi (by rfl) T.n_isinstance (by decide +kernel) (pa_cons (pv 1) (pa_cons (pe_bltn (v := .ty "int") (by rfl) T.n_int (by decide +kernel) rfl) (pa_nil))))) (pss_one (ps_never)) (pss_nil)) (pss_one (ps_ret (pv 1)))), ?_⟩
    refine ⟨_, rfl, _, _, .ref (He.ga K "Exact"), .type "int", false, rfl, .ty _, .base (.ins (w.get f_other) T.l_Exact T.ic_Exact.ha T.ic_Exact.hn T.ic_Exact.htk T.ic_Exact.hm), T.ki_Exact_int, _, rfl, ?_⟩
    refine ⟨_, rfl, ?_⟩
    exact k other other_d _ _ (Same.refl _) w f_other
end
def sp_aligned (K : PySem.W.Frag) : Sp := fun vs H Q E => ∃ (I : Hp) (O : List (Addr × HO)) (left : Addr) (left_d : Addr) (left_base : Int) (left_coefficient : Int) (left_exponent : Int) (right : Addr) (right_d : Addr) (right_base : Int) (right_coefficient : Int) (right_exponent : Int), vs = [.ref left, .ref right] ∧ Wd I (O) H ∧ I left = some (.ins (He.ga K "Exact") left_d (fs_Exact (.int left_base) (.int left_coefficient) (.int left_exponent))) ∧ Nf left_base left_coefficient left_exponent ∧ I right = some (.ins (He.ga K "Exact") right_d (fs_Exact (.int right_base) (.int right_coefficient) (.int right_exponent))) ∧ Nf right_base right_coefficient right_exponent ∧ left_base = right_base ∧ AlS 8000 left_base left_coefficient left_exponent right_coefficient right_exponent ∧ (∀ (r : Addr) (r_0 : Int) (r_1 : Int) (r_2 : Int) (I' : Hp) (H' : Hp), Same I I' → Wd I' (O) H' → I' r = some (.tup [.int r_0, .int r_1, .int r_2]) → Al left_base left_coefficient left_exponent right_coefficient right_exponent r_0 r_1 r_2 → Q (.ref r) H')
section
variable {P : Program} {w : World} {K : PySem.W.Frag} {mg : Str → Option Value} {base : Heap}
theorem sc_aligned : FnScope ["left", "right", "more"] ["left", "right"] (defScope s_aligned) := ⟨rfl, rfl, rfl, by decide +kernel, rfl, by decide +kernel, by decide +kernel⟩
theorem b_aligned (T : Txt P K mg w) : Binds K (fdOf K (a_aligned K)) ["left", "right"] [] := T.f_aligned.bindsN fun _ _ _ _ _ _ us hl => match us, hl with | [_, _], _ => rfl
theorem ok_aligned (T : Txt P K mg w) : FnOk P w K mg base CX0 2 (a_aligned K) (fdOf K (a_aligned K)) ["left", "right"] (sp_aligned K) := by
  refine T.f_aligned.ok sc_aligned (fun vs H Q E h => ?_) (fun cdv A outer s H vs Q E hr h => ?_)
  · obtain ⟨_, _, _, _, _, _, _, _, _, _, _, _, rfl, _, _, _, _, _, _, _, _⟩ := h
    rfl
  · obtain ⟨I, O, left, left_d, left_base, left_coefficient, left_exponent, right, right_d, right_base, right_coefficient, right_exponent, rfl, w, f_left, f_left1, f_right, f_right1, e1, e2, k⟩ := h
    obtain ⟨b0_left, b1_left, l0_left⟩ := id f_left1
    obtain ⟨b0_right, b1_right, l0_right⟩ := id f_right1
    refine ⟨_, PSs.nox (pss_cons (ps_if (pt_cmpR op_ne (pe_fld (pv 0) (by rfl)) (pe_fld (pv 1) (by rfl)) (nomark _)) (pss_one (ps_never)) (pss_nil)) (pss_cons (ps_if (pt_cmpR op_eq (pe_fld (pv 0) (by rfl)) (pe_int) (nomark _)) (pss_one (ps_ret (pe_tup (pa_cons (pe_int) (pa_cons (pe_fld (pv 1) (by rfl)) (pa_cons (pe_fld (pv 1) (by rfl)) (pa_nil))))))) (pss_nil)) (pss_cons (ps_if (pt_cmpR op_eq (pe_fld (pv 1) (by rfl)) (pe_int) (nomark _)) (pss_one (ps_ret (pe_tup (pa_cons (pe_fld (pv 0) (by rfl)) (pa_cons (pe_int) (pa_cons (pe_fld (pv 0) (by rfl)) (pa_nil))))))) (pss_nil)) (pss_cons (ps_set (i := 2) sc_aligned.nd rfl (Or.inl rfl) (pe_op op_sub (pe_fld (pv 0) (by rfl)) (pe_fld (pv 1) (by rfl)))) (pss_cons (ps_if (pt_cmpR op_ge (pv 2) (pe_int) (nomark _)) (pss_one (ps_ret (pe_tup (pa_cons (pe_op op_mulW (pe_fld (pv 0) (by rfl)) (pe_call (ok_power T) (hr.mono (by decide)) (by rfl) T.g_power T.f_power.kp (b_power T) .nil pass0 (pa_cons (pe_fld (pv 0) (by rfl)) (pa_cons (pv 2) (pa_nil))))) (pa_cons (pe_fld (pv 1) (by rfl)) (pa_cons (pe_fld (pv 1) (by rfl)) (pa_nil))))))) (pss_nil)) (pss_one (ps_ret (pe_tup (pa_cons (pe_fld (pv 0) (by rfl)) (pa_cons (pe_op op_mulW (pe_fld (pv 1) (by rfl)) (pe_call (ok_power T) (hr.mono (by decide)) (by rfl) T.g_power T.f_power.kp (b_power T) .nil pass0 (pa_cons (pe_fld (pv 0) (by rfl)) (pa_cons (pe_un un_neg (pv 2)) (pa_nil))))) (pa_cons (pe_fld (pv 0) (by rfl)) (pa_nil)))))))))))), ?_⟩
    refine ⟨_, rfl, _, _, _, _, _, rfl, (w.get f_left), T.l_Exact, T.na_Exact_base, lk_Exact_base, _, rfl, _, _, _, _, _, rfl, (w.get f_right), T.l_Exact, T.na_Exact_base, lk_Exact_base, rfl, _, rfl, ?_⟩
    refine iNeI (fun h1 => (by exact absurd e1 h1)) (fun h1 => ?_)
    refine ⟨_, rfl, _, _, _, _, _, rfl, (w.get f_left), T.l_Exact, T.na_Exact_coefficient, lk_Exact_coefficient, rfl, _, rfl, ?_⟩
    refine iEqI (fun h2 => ?_) (fun h2 => ?_)
    · refine ⟨_, rfl, _, _, _, _, _, rfl, (w.get f_right), T.l_Exact, T.na_Exact_coefficient, lk_Exact_coefficient, _, rfl, _, _, _, _, _, rfl, (w.get f_right), T.l_Exact, T.na_Exact_exponent, lk_Exact_exponent, (by show 3 ≤ sizeLine; decide), fun p3 hp4 => ?_⟩
      have s5 := w.newS (o := .tup [(V.int 0), (V.int right_coefficient), (V.int right_exponent)]) hp4
      have w6 := w.new (o := .tup [(V.int 0), (V.int right_coefficient), (V.int right_exponent)]) hp4
      exact k p3 0 right_coefficient right_exponent _ _ (s5) w6 upd_same (by first | exact .inl ⟨by assumption, rfl, rfl, rfl⟩ | exact .inr (.inl ⟨by assumption, by assumption, rfl, rfl, rfl⟩) | exact .inr (.inr (.inl ⟨by assumption, by assumption, by assumption, rfl, rfl, rfl⟩)) | exact .inr (.inr (.inr ⟨by assumption, by assumption, by assumption, rfl, rfl, rfl⟩)))
    · refine ⟨_, rfl, _, _, _, _, _, rfl, (w.get f_right), T.l_Exact, T.na_Exact_coefficient, lk_Exact_coefficient, rfl, _, rfl, ?_⟩
      refine iEqI (fun h7 => ?_) (fun h7 => ?_)
      · refine ⟨_, rfl, _, _, _, _, _, rfl, (w.get f_left), T.l_Exact, T.na_Exact_coefficient, lk_Exact_coefficient, _, rfl, _, _, _, _, _, rfl, (w.get f_left), T.l_Exact, T.na_Exact_exponent, lk_Exact_exponent, (by show 3 ≤ sizeLine; decide), fun p8 hp9 => ?_⟩
        have s10 := w.newS (o := .tup [(V.int left_coefficient), (V.int 0), (V.int left_exponent)]) hp9
        have w11 := w.new (o := .tup [(V.int left_coefficient), (V.int 0), (V.int left_exponent)]) hp9
        exact k p8 left_coefficient 0 left_exponent _ _ (s10) w11 upd_same (by first | exact .inl ⟨by assumption, rfl, rfl, rfl⟩ | exact .inr (.inl ⟨by assumption, by assumption, rfl, rfl, rfl⟩) | exact .inr (.inr (.inl ⟨by assumption, by assumption, by assumption, rfl, rfl, rfl⟩)) | exact .inr (.inr (.inr ⟨by assumption, by assumption, by assumption, rfl, rfl, rfl⟩)))
      · refine ⟨_, rfl, _, _, _, _, _, rfl, (w.get f_left), T.l_Exact, T.na_Exact_exponent, lk_Exact_exponent, _, rfl, _, _, _, _, _, rfl, (w.get f_right), T.l_Exact, T.na_Exact_exponent, lk_Exact_exponent, _, _, rfl, rfl, _, rfl, _, _, rfl, rfl, _, rfl, ?_⟩
        refine iD (fun h12 => ?_) (fun h12 => ?_)
        · refine ⟨_, rfl, _, _, _, _, _, rfl, (w.get f_left), T.l_Exact, T.na_Exact_coefficient, lk_Exact_coefficient, _, rfl, _, _, _, _, _, rfl, (w.get f_left), T.l_Exact, T.na_Exact_base, lk_Exact_base, _, rfl, left_base, (left_exponent - right_exponent), rfl, (by first | omega | (have q := (al_left b0_left e2 (by assumption) (by assumption) (by assumption)).1; omega)), (by first | omega | (have q := (al_left b0_left e2 (by assumption) (by assumption) (by assumption)).1; omega)), (by first | omega | (have q := (al_left b0_left e2 (by assumption) (by assumption) (by assumption)).1; omega)), (by first | omega | (have q := (al_left b0_left e2 (by assumption) (by assumption) (by assumption)).1; omega)), fun r13 q14 => ?_⟩
          subst q14
          refine ⟨_, _, rfl, rfl, (Sz.cmul (al_left b0_left e2 (by assumption) (by assumption) (by assumption)).2.2 (al_left b0_left e2 (by assumption) (by assumption) (by assumption)).2.1), _, rfl, _, _, _, _, _, rfl, (w.get f_right), T.l_Exact, T.na_Exact_coefficient, lk_Exact_coefficient, _, rfl, _, _, _, _, _, rfl, (w.get f_right), T.l_Exact, T.na_Exact_exponent, lk_Exact_exponent, (by show 3 ≤ sizeLine; decide), fun p15 hp16 => ?_⟩
          have s17 := w.newS (o := .tup [(V.int (left_coefficient * (left_base ^ (left_exponent - right_exponent).toNat))), (V.int right_coefficient), (V.int right_exponent)]) hp16
          have w18 := w.new (o := .tup [(V.int (left_coefficient * (left_base ^ (left_exponent - right_exponent).toNat))), (V.int right_coefficient), (V.int right_exponent)]) hp16
          exact k p15 (left_coefficient * (left_base ^ (left_exponent - right_exponent).toNat)) right_coefficient right_exponent _ _ (s17) w18 upd_same (by first | exact .inl ⟨by assumption, rfl, rfl, rfl⟩ | exact .inr (.inl ⟨by assumption, by assumption, rfl, rfl, rfl⟩) | exact .inr (.inr (.inl ⟨by assumption, by assumption, by assumption, rfl, rfl, rfl⟩)) | exact .inr (.inr (.inr ⟨by assumption, by assumption, by assumption, rfl, rfl, rfl⟩)))
        · refine ⟨_, rfl, _, _, _, _, _, rfl, (w.get f_left), T.l_Exact, T.na_Exact_coefficient, lk_Exact_coefficient, _, rfl, _, _, _, _, _, rfl, (w.get f_right), T.l_Exact, T.na_Exact_coefficient, lk_Exact_coefficient, _, rfl, _, _, _, _, _, rfl, (w.get f_left), T.l_Exact, T.na_Exact_base, lk_Exact_base, _, rfl, _, rfl, left_base, (-(left_exponent - right_exponent)), rfl, (by first | omega | (have q := (al_right b0_left e2 (by assumption) (by assumption) (by assumption)).1; omega)), (by first | omega | (have q := (al_right b0_left e2 (by assumption) (by assumption) (by assumption)).1; omega)), (by first | omega | (have q := (al_right b0_left e2 (by assumption) (by assumption) (by assumption)).1; omega)), (by first | omega | (have q := (al_right b0_left e2 (by assumption) (by assumption) (by assumption)).1; omega)), fun r19 q20 => ?_⟩
          subst q20
          refine ⟨_, _, rfl, rfl, (Sz.cmul (al_right b0_left e2 (by assumption) (by assumption) (by assumption)).2.2 (al_right b0_left e2 (by assumption) (by assumption) (by assumption)).2.1), _, rfl, _, _, _, _, _, rfl, (w.get f_left), T.l_Exact, T.na_Exact_exponent, lk_Exact_exponent, (by show 3 ≤ sizeLine; decide), fun p21 hp22 => ?_⟩
          have s23 := w.newS (o := .tup [(V.int left_coefficient), (V.int (right_coefficient * (left_base ^ (-(left_exponent - right_exponent)).toNat))), (V.int left_exponent)]) hp22
          have w24 := w.new (o := .tup [(V.int left_coefficient), (V.int (right_coefficient * (left_base ^ (-(left_exponent - right_exponent)).toNat))), (V.int left_exponent)]) hp22
          exact k p21 left_coefficient (right_coefficient * (left_base ^ (-(left_exponent - right_exponent)).toNat)) left_exponent _ _ (s23) w24 upd_same (by first | exact .inl ⟨by assumption, rfl, rfl, rfl⟩ | exact .inr (.inl ⟨by assumption, by assumption, rfl, rfl, rfl⟩) | exact .inr (.inr (.inl ⟨by assumption, by assumption, by assumption, rfl, rfl, rfl⟩)) | exact .inr (.inr (.inr ⟨by assumption, by assumption, by assumption, rfl, rfl, rfl⟩)))
end
def sp_combined (K : PySem.W.Frag) : Sp := fun vs H Q E => ∃ (I : Hp) (O : List (Addr × HO)) (left : Addr) (left_d : Addr) (left_base : Int) (left_coefficient : Int) (left_exponent : Int) (right : Addr) (right_d : Addr) (right_base : Int) (right_coefficient : Int) (right_exponent : Int) (sign : Int), vs = [.ref left, .ref right, .int sign] ∧ Wd I (O) H ∧ I left = some (.ins (He.ga K "Exact") left_d (fs_Exact (.int left_base) (.int left_coefficient) (.int left_exponent))) ∧ Nf left_base left_coefficient left_exponent ∧ I right = some (.ins (He.ga K "Exact") right_d (fs_Exact (.int right_base) (.int right_coefficient) (.int right_exponent))) ∧ Nf right_base right_coefficient right_exponent ∧ left_base = right_base ∧ AlS 7900 left_base left_coefficient left_exponent right_coefficient right_exponent ∧ (sign = 1 ∨ sign = -1) ∧ (∀ (r : Addr) (r_d : Addr) (r_coefficient : Int) (r_exponent : Int) (I' : Hp) (H' : Hp), Same I I' → Wd I' (O) H' → I' r = some (.ins (He.ga K "Exact") r_d (fs_Exact (.int (left_base)) (.int r_coefficient) (.int r_exponent))) → Nf (left_base) r_coefficient r_exponent → Cb left_base left_coefficient left_exponent right_coefficient right_exponent sign r_coefficient r_exponent → Q (.ref r) H')
section
variable {P : Program} {w : World} {K : PySem.W.Frag} {mg : Str → Option Value} {base : Heap}
theorem sc_combined : FnScope ["left", "right", "sign", "first", "second", "exponent"] ["left", "right", "sign"] (defScope s_combined) := ⟨rfl, rfl, rfl, by decide +kernel, rfl, by decide +kernel, by decide +kernel⟩
theorem b_combined (T : Txt P K mg w) : Binds K (fdOf K (a_combined K)) ["left", "right", "sign"] [] := T.f_combined.bindsN fun _ _ _ _ _ _ us hl => match us, hl with | [_, _, _], _ => rfl
theorem ok_combined (T : Txt P K mg w) : FnOk P w K mg base CX0 5 (a_combined K) (fdOf K (a_combined K)) ["left", "right", "sign"] (sp_combined K) := by
  refine T.f_combined.ok sc_combined (fun vs H Q E h => ?_) (fun cdv A outer s H vs Q E hr h => ?_)
  · obtain ⟨_, _, _, _, _, _, _, _, _, _, _, _, _, rfl, _, _, _, _, _, _, _, _, _⟩ := h
    rfl
  · obtain ⟨I, O, left, left_d, left_base, left_coefficient, left_exponent, right, right_d, right_base, right_coefficient, right_exponent, sign, rfl, w, f_left, f_left1, f_right, f_right1, e1, e2, e3, k⟩ := h
    obtain ⟨b0_left, b1_left, l0_left⟩ := id f_left1
    obtain ⟨b0_right, b1_right, l0_right⟩ := id f_right1
    refine ⟨_, PSs.nox (pss_cons (ps_asg (pe_call (ok_aligned T) (hr.mono (by decide)) (by rfl) T.g_aligned T.f_aligned.kp (b_aligned T) .nil pass0 (pa_cons (pv 0) (pa_cons (pv 1) (pa_nil)))) (pg_tup rfl (pgs_cons (pg_name (i := 3) sc_combined.nd rfl (Or.inl rfl)) (pgs_cons (pg_name (i := 4) sc_combined.nd rfl (Or.inl rfl)) (pgs_cons (pg_name (i := 5) sc_combined.nd rfl (Or.inl rfl)) (pgs_nil)))))) (pss_one (ps_ret (pe_make T.mk_Exact (ok_Exact_init T) (hr.mono (by decide)) (by rfl) T.g_Exact (bd_Exact_init_4 T).choose_spec.2 ((bd_Exact_init_4 T).choose_spec.1) pass0 (pa_cons (pe_fld (pv 0) (by rfl)) (pa_cons (pe_op op_add (pv 3) (pe_op op_mulW (pv 2) (pv 4))) (pa_cons (pv 5) (pa_nil)))))))), ?_⟩
    refine ⟨_, rfl, _, rfl, I, (O), left, left_d, left_base, left_coefficient, left_exponent, right, right_d, right_base, right_coefficient, right_exponent, rfl, w, f_left, (by first | assumption | exact num_nf (by assumption) (by assumption) (by assumption) | exact low_nf (by omega) (by omega) (by assumption)), f_right, (by first | assumption | exact num_nf (by assumption) (by assumption) (by assumption) | exact low_nf (by omega) (by omega) (by assumption)), (by first | assumption | exact AlS.of e2 (by decide)), (by first | assumption | exact AlS.of e2 (by decide)), fun r1 r1_0 r1_1 r1_2 I2 H4 s3 w5 f6 q7 => ?_⟩
    refine ⟨_, _, rfl, (SqT.of (w5.get f6)), rfl, _, _, rfl, _, _, rfl, _, _, rfl, rfl, _, rfl, _, _, _, _, _, rfl, (w5.get (s3 _ _ f_left)), T.l_Exact, T.na_Exact_base, lk_Exact_base, _, rfl, _, rfl, _, rfl, _, _, rfl, rfl, (sign_mul e3 (e2 _ _ _ (by assumption)).2), _, _, rfl, rfl, _, rfl, fun x8 dx9 hx10 hd11 ne12 => ?_⟩
    have w13 := w5.make (C := He.ga K "Exact") hx10 hd11 ne12
    refine ⟨I2, (O), x8, _, left_base, (r1_0 + (sign * r1_1)), r1_2, rfl, w13, (by first | omega | exact Sz.mono (cb_sz e2 (by assumption) e3) (by decide)), (by first | omega | exact Sz.mono (cb_sz e2 (by assumption) e3) (by decide)), (by first | omega | exact Sz.mono (cb_sz e2 (by assumption) e3) (by decide)), fun y15 y16 I17 H19 s18 w20 q21 => ?_⟩
    refine ⟨rfl, ?_⟩
    have s22 := w20.freezeS
    have w23 := w20.freeze
    exact k x8 dx9 y15 y16 _ _ ((Same.trans (Same.trans s3 s18) s22)) w23 upd_same (by first | assumption | exact num_nf (by assumption) (by assumption) (by assumption) | exact low_nf (by omega) (by omega) (by assumption)) (by exact ⟨_, _, _, by assumption, by assumption⟩)
end
def sp_multiplied (K : PySem.W.Frag) : Sp := fun vs H Q E => ∃ (I : Hp) (O : List (Addr × HO)) (left : Addr) (left_d : Addr) (left_base : Int) (left_coefficient : Int) (left_exponent : Int) (right : Addr) (right_d : Addr) (right_base : Int) (right_coefficient : Int) (right_exponent : Int), vs = [.ref left, .ref right] ∧ Wd I (O) H ∧ I left = some (.ins (He.ga K "Exact") left_d (fs_Exact (.int left_base) (.int left_coefficient) (.int left_exponent))) ∧ Nf left_base left_coefficient left_exponent ∧ I right = some (.ins (He.ga K "Exact") right_d (fs_Exact (.int right_base) (.int right_coefficient) (.int right_exponent))) ∧ Nf right_base right_coefficient right_exponent ∧ left_base = right_base ∧ Sz 4000 left_coefficient ∧ Sz 4000 right_coefficient ∧ (∀ (r : Addr) (r_d : Addr) (r_coefficient : Int) (r_exponent : Int) (I' : Hp) (H' : Hp), Same I I' → Wd I' (O) H' → I' r = some (.ins (He.ga K "Exact") r_d (fs_Exact (.int (left_base)) (.int r_coefficient) (.int r_exponent))) → Nf (left_base) r_coefficient r_exponent → Low left_base (left_coefficient * right_coefficient) (left_exponent + right_exponent) r_coefficient r_exponent → Q (.ref r) H')
section
variable {P : Program} {w : World} {K : PySem.W.Frag} {mg : Str → Option Value} {base : Heap}
theorem sc_multiplied : FnScope ["left", "right"] ["left", "right"] (defScope s_multiplied) := ⟨rfl, rfl, rfl, by decide +kernel, rfl, by decide +kernel, by decide +kernel⟩
theorem b_multiplied (T : Txt P K mg w) : Binds K (fdOf K (a_multiplied K)) ["left", "right"] [] := T.f_multiplied.bindsN fun _ _ _ _ _ _ us hl => match us, hl with | [_, _], _ => rfl
theorem ok_multiplied (T : Txt P K mg w) : FnOk P w K mg base CX0 5 (a_multiplied K) (fdOf K (a_multiplied K)) ["left", "right"] (sp_multiplied K) := by
  refine T.f_multiplied.ok sc_multiplied (fun vs H Q E h => ?_) (fun cdv A outer s H vs Q E hr h => ?_)
  · obtain ⟨_, _, _, _, _, _, _, _, _, _, _, _, rfl, _, _, _, _, _, _, _, _, _⟩ := h
    rfl
  · obtain ⟨I, O, left, left_d, left_base, left_coefficient, left_exponent, right, right_d, right_base, right_coefficient, right_exponent, rfl, w, f_left, f_left1, f_right, f_right1, e1, e2, e3, k⟩ := h
    obtain ⟨b0_left, b1_left, l0_left⟩ := id f_left1
    obtain ⟨b0_right, b1_right, l0_right⟩ := id f_right1
    refine ⟨_, PSs.nox (pss_cons (ps_if (pt_cmpR op_ne (pe_fld (pv 0) (by rfl)) (pe_fld (pv 1) (by rfl)) (nomark _)) (pss_one (ps_never)) (pss_nil)) (pss_one (ps_ret (pe_make T.mk_Exact (ok_Exact_init T) (hr.mono (by decide)) (by rfl) T.g_Exact (bd_Exact_init_4 T).choose_spec.2 ((bd_Exact_init_4 T).choose_spec.1) pass0 (pa_cons (pe_fld (pv 0) (by rfl)) (pa_cons (pe_op op_mulW (pe_fld (pv 0) (by rfl)) (pe_fld (pv 1) (by rfl))) (pa_cons (pe_op op_add (pe_fld (pv 0) (by rfl)) (pe_fld (pv 1) (by rfl))) (pa_nil)))))))), ?_⟩
    refine ⟨_, rfl, _, _, _, _, _, rfl, (w.get f_left), T.l_Exact, T.na_Exact_base, lk_Exact_base, _, rfl, _, _, _, _, _, rfl, (w.get f_right), T.l_Exact, T.na_Exact_base, lk_Exact_base, rfl, _, rfl, ?_⟩
    refine iNeI (fun h1 => (by exact absurd e1 h1)) (fun h1 => ?_)
    refine ⟨_, rfl, _, _, _, _, _, rfl, (w.get f_left), T.l_Exact, T.na_Exact_base, lk_Exact_base, _, rfl, _, _, _, _, _, rfl, (w.get f_left), T.l_Exact, T.na_Exact_coefficient, lk_Exact_coefficient, _, rfl, _, _, _, _, _, rfl, (w.get f_right), T.l_Exact, T.na_Exact_coefficient, lk_Exact_coefficient, _, _, rfl, rfl, (Sz.cmul e2 e3), _, rfl, _, _, _, _, _, rfl, (w.get f_left), T.l_Exact, T.na_Exact_exponent, lk_Exact_exponent, _, rfl, _, _, _, _, _, rfl, (w.get f_right), T.l_Exact, T.na_Exact_exponent, lk_Exact_exponent, _, _, rfl, rfl, fun x2 dx3 hx4 hd5 ne6 => ?_⟩
    have w7 := w.make (C := He.ga K "Exact") hx4 hd5 ne6
    refine ⟨I, (O), x2, _, left_base, (left_coefficient * right_coefficient), (left_exponent + right_exponent), rfl, w7, (by first | omega | exact Sz.mul e2 e3), (by first | omega | exact Sz.mul e2 e3), (by first | omega | exact Sz.mul e2 e3), fun y9 y10 I11 H13 s12 w14 q15 => ?_⟩
    refine ⟨rfl, ?_⟩
    have s16 := w14.freezeS
    have w17 := w14.freeze
    exact k x2 dx3 y9 y10 _ _ ((Same.trans s12 s16)) w17 upd_same (by first | assumption | exact num_nf (by assumption) (by assumption) (by assumption) | exact low_nf (by omega) (by omega) (by assumption)) (by assumption)
end
def sp_compared (K : PySem.W.Frag) : Sp := fun vs H Q E => ∃ (I : Hp) (O : List (Addr × HO)) (left : Addr) (left_d : Addr) (left_base : Int) (left_coefficient : Int) (left_exponent : Int) (right : Addr) (right_d : Addr) (right_base : Int) (right_coefficient : Int) (right_exponent : Int), vs = [.ref left, .ref right] ∧ Wd I (O) H ∧ I left = some (.ins (He.ga K "Exact") left_d (fs_Exact (.int left_base) (.int left_coefficient) (.int left_exponent))) ∧ Nf left_base left_coefficient left_exponent ∧ I right = some (.ins (He.ga K "Exact") right_d (fs_Exact (.int right_base) (.int right_coefficient) (.int right_exponent))) ∧ Nf right_base right_coefficient right_exponent ∧ left_base = right_base ∧ AlS 7900 left_base left_coefficient left_exponent right_coefficient right_exponent ∧ (∀ (r : Int) (I' : Hp) (H' : Hp), Same I I' → Wd I' (O) H' → (∃ x y z, Al left_base left_coefficient left_exponent right_coefficient right_exponent x y z ∧ r = x - y) → Q (.int r) H')
section
variable {P : Program} {w : World} {K : PySem.W.Frag} {mg : Str → Option Value} {base : Heap}
theorem sc_compared : FnScope ["left", "right", "first", "second", "_"] ["left", "right"] (defScope s_compared) := ⟨rfl, rfl, rfl, by decide +kernel, rfl, by decide +kernel, by decide +kernel⟩
theorem b_compared (T : Txt P K mg w) : Binds K (fdOf K (a_compared K)) ["left", "right"] [] := T.f_compared.bindsN fun _ _ _ _ _ _ us hl => match us, hl with | [_, _], _ => rfl
theorem ok_compared (T : Txt P K mg w) : FnOk P w K mg base CX0 3 (a_compared K) (fdOf K (a_compared K)) ["left", "right"] (sp_compared K) := by
  refine T.f_compared.ok sc_compared (fun vs H Q E h => ?_) (fun cdv A outer s H vs Q E hr h => ?_)
  · obtain ⟨_, _, _, _, _, _, _, _, _, _, _, _, rfl, _, _, _, _, _, _, _, _⟩ := h
    rfl
  · obtain ⟨I, O, left, left_d, left_base, left_coefficient, left_exponent, right, right_d, right_base, right_coefficient, right_exponent, rfl, w, f_left, f_left1, f_right, f_right1, e1, e2, k⟩ := h
    obtain ⟨b0_left, b1_left, l0_left⟩ := id f_left1
    obtain ⟨b0_right, b1_right, l0_right⟩ := id f_right1
    refine ⟨_, PSs.nox (pss_cons (ps_asg (pe_call (ok_aligned T) (hr.mono (by decide)) (by rfl) T.g_aligned T.f_aligned.kp (b_aligned T) .nil pass0 (pa_cons (pv 0) (pa_cons (pv 1) (pa_nil)))) (pg_tup rfl (pgs_cons (pg_name (i := 2) sc_compared.nd rfl (Or.inl rfl)) (pgs_cons (pg_name (i := 3) sc_compared.nd rfl (Or.inl rfl)) (pgs_cons (pg_name (i := 4) sc_compared.nd rfl (Or.inl rfl)) (pgs_nil)))))) (pss_one (ps_ret (pe_op op_sub (pv 2) (pv 3))))), ?_⟩
    refine ⟨_, rfl, _, rfl, I, (O), left, left_d, left_base, left_coefficient, left_exponent, right, right_d, right_base, right_coefficient, right_exponent, rfl, w, f_left, (by first | assumption | exact num_nf (by assumption) (by assumption) (by assumption) | exact low_nf (by omega) (by omega) (by assumption)), f_right, (by first | assumption | exact num_nf (by assumption) (by assumption) (by assumption) | exact low_nf (by omega) (by omega) (by assumption)), (by first | assumption | exact AlS.of e2 (by decide)), (by first | assumption | exact AlS.of e2 (by decide)), fun r1 r1_0 r1_1 r1_2 I2 H4 s3 w5 f6 q7 => ?_⟩
    refine ⟨_, _, rfl, (SqT.of (w5.get f6)), rfl, _, _, rfl, _, _, rfl, _, _, rfl, rfl, _, rfl, _, rfl, _, _, rfl, rfl, ?_⟩
    exact k (r1_0 - r1_1) _ _ (s3) w5 (by exact ⟨_, _, _, by assumption, rfl⟩)
end
def sp_Exact_add_obj (K : PySem.W.Frag) : Sp := fun vs H Q E => ∃ (I : Hp) (O : List (Addr × HO)) (self : Addr) (self_d : Addr) (self_base : Int) (self_coefficient : Int) (self_exponent : Int) (other : Addr) (other_d : Addr) (other_base : Int) (other_coefficient : Int) (other_exponent : Int), vs = [.ref self, .ref other] ∧ Wd I (O) H ∧ I self = some (.ins (He.ga K "Exact") self_d (fs_Exact (.int self_base) (.int self_coefficient) (.int self_exponent))) ∧ Nf self_base self_coefficient self_exponent ∧ I other = some (.ins (He.ga K "Exact") other_d (fs_Exact (.int other_base) (.int other_coefficient) (.int other_exponent))) ∧ Nf other_base other_coefficient other_exponent ∧ self_base = other_base ∧ AlS 7900 self_base self_coefficient self_exponent other_coefficient other_exponent ∧ (∀ (r : Addr) (r_d : Addr) (r_coefficient : Int) (r_exponent : Int) (I' : Hp) (H' : Hp), Same I I' → Wd I' (O) H' → I' r = some (.ins (He.ga K "Exact") r_d (fs_Exact (.int (self_base)) (.int r_coefficient) (.int r_exponent))) → Nf (self_base) r_coefficient r_exponent → Cb self_base self_coefficient self_exponent other_coefficient other_exponent (1) r_coefficient r_exponent → Q (.ref r) H')
section
variable {P : Program} {w : World} {K : PySem.W.Frag} {mg : Str → Option Value} {base : Heap}
theorem sc_Exact_add_obj : FnScope ["self", "other"] ["self", "other"] (defScope s_Exact_add) := ⟨rfl, rfl, rfl, by decide +kernel, rfl, by decide +kernel, by decide +kernel⟩
theorem b_Exact_add_obj (T : Txt P K mg w) : Binds K (fdOf K (a_Exact_add K)) ["self", "other"] [] := T.f_Exact_add.bindsN fun _ _ _ _ _ _ us hl => match us, hl with | [_, _], _ => rfl
theorem ok_Exact_add_obj (T : Txt P K mg w) : FnOk P w K mg base CX0 6 (a_Exact_add K) (fdOf K (a_Exact_add K)) ["self", "other"] (sp_Exact_add_obj K) := by
  refine T.f_Exact_add.ok sc_Exact_add_obj (fun vs H Q E h => ?_) (fun cdv A outer s H vs Q E hr h => ?_)
  · obtain ⟨_, _, _, _, _, _, _, _, _, _, _, _, rfl, _, _, _, _, _, _, _, _⟩ := h
    rfl
  · obtain ⟨I, O, self, self_d, self_base, self_coefficient, self_exponent, other, other_d, other_base, other_coefficient, other_exponent, rfl, w, f_self, f_self1, f_other, f_other1, e1, e2, k⟩ := h
    obtain ⟨b0_self, b1_self, l0_self⟩ := id f_self1
    obtain ⟨b0_other, b1_other, l0_other⟩ := id f_other1
    refine ⟨_, PSs.nox (pss_one (ps_ret (pe_call (ok_combined T) (hr.mono (by decide)) (by rfl) T.g_combined T.f_combined.kp (b_combined T) .nil pass0 (pa_cons (pv 0) (pa_cons (pe_call (ok_taken_obj T) (hr.mono (by decide)) (by rfl) T.g_taken T.f_taken.kp (b_taken_obj T) .nil pass0 (pa_cons (pv 0) (pa_cons (pv 1) (pa_nil)))) (pa_cons (pe_int) (pa_nil))))))), ?_⟩
    refine ⟨_, rfl, _, rfl, _, rfl, I, (O), self, self_d, self_base, self_coefficient, self_exponent, other, other_d, other_base, other_coefficient, other_exponent, rfl, w, f_self, (by first | assumption | exact num_nf (by assumption) (by assumption) (by assumption) | exact low_nf (by omega) (by omega) (by assumption)), f_other, (by first | assumption | exact num_nf (by assumption) (by assumption) (by assumption) | exact low_nf (by omega) (by omega) (by assumption)), fun r1 r1_d I2 H4 s3 w5 f6 => ?_⟩
    refine ⟨I2, (O), self, self_d, self_base, self_coefficient, self_exponent, r1, r1_d, other_base, other_coefficient, other_exponent, 1, rfl, w5, (s3 _ _ f_self), (by first | assumption | exact num_nf (by assumption) (by assumption) (by assumption) | exact low_nf (by omega) (by omega) (by assumption)), f6, (by first | assumption | exact num_nf (by assumption) (by assumption) (by assumption) | exact low_nf (by omega) (by omega) (by assumption)), (by first | assumption | omega | decide | exact .inl rfl | exact .inr rfl | rfl), (by first | assumption | omega | decide | exact .inl rfl | exact .inr rfl | rfl), (by first | assumption | omega | decide | exact .inl rfl | exact .inr rfl | rfl), fun r7 r7_d r7_coefficient r7_exponent I8 H10 s9 w11 f12 f13 q14 => ?_⟩
    exact k r7 r7_d r7_coefficient r7_exponent _ _ ((Same.trans s3 s9)) w11 f12 (by first | assumption | exact num_nf (by assumption) (by assumption) (by assumption) | exact low_nf (by omega) (by omega) (by assumption)) (by first | assumption | omega | decide | exact .inl rfl | exact .inr rfl | rfl)
end
def sp_Exact_add_int (K : PySem.W.Frag) : Sp := fun vs H Q E => ∃ (I : Hp) (O : List (Addr × HO)) (self : Addr) (self_d : Addr) (self_base : Int) (self_coefficient : Int) (self_exponent : Int) (other : Int), vs = [.ref self, .int other] ∧ Wd I (O) H ∧ I self = some (.ins (He.ga K "Exact") self_d (fs_Exact (.int self_base) (.int self_coefficient) (.int self_exponent))) ∧ Nf self_base self_coefficient self_exponent ∧ Sz 8000 other ∧ (∀ c2 e2, Low self_base other 0 c2 e2 → AlS 7900 self_base self_coefficient self_exponent c2 e2) ∧ (∀ (r : Addr) (r_d : Addr) (r_coefficient : Int) (r_exponent : Int) (I' : Hp) (H' : Hp), Same I I' → Wd I' (O) H' → I' r = some (.ins (He.ga K "Exact") r_d (fs_Exact (.int (self_base)) (.int r_coefficient) (.int r_exponent))) → Nf (self_base) r_coefficient r_exponent → (∃ c2 e2, Low self_base other 0 c2 e2 ∧ Cb self_base self_coefficient self_exponent c2 e2 1 r_coefficient r_exponent) → Q (.ref r) H')
section
variable {P : Program} {w : World} {K : PySem.W.Frag} {mg : Str → Option Value} {base : Heap}
theorem sc_Exact_add_int : FnScope ["self", "other"] ["self", "other"] (defScope s_Exact_add) := ⟨rfl, rfl, rfl, by decide +kernel, rfl, by decide +kernel, by decide +kernel⟩
theorem b_Exact_add_int (T : Txt P K mg w) : Binds K (fdOf K (a_Exact_add K)) ["self", "other"] [] := T.f_Exact_add.bindsN fun _ _ _ _ _ _ us hl => match us, hl with | [_, _], _ => rfl
theorem ok_Exact_add_int (T : Txt P K mg w) : FnOk P w K mg base CX0 6 (a_Exact_add K) (fdOf K (a_Exact_add K)) ["self", "other"] (sp_Exact_add_int K) := by
  refine T.f_Exact_add.ok sc_Exact_add_int (fun vs H Q E h => ?_) (fun cdv A outer s H vs Q E hr h => ?_)
  · obtain ⟨_, _, _, _, _, _, _, _, rfl, _, _, _, _, _, _⟩ := h
    rfl
  · obtain ⟨I, O, self, self_d, self_base, self_coefficient, self_exponent, other, rfl, w, f_self, f_self1, e1, e2, k⟩ := h
    obtain ⟨b0_self, b1_self, l0_self⟩ := id f_self1
    refine ⟨_, PSs.nox (pss_one (ps_ret (pe_call (ok_combined T) (hr.mono (by decide)) (by rfl) T.g_combined T.f_combined.kp (b_combined T) .nil pass0 (pa_cons (pv 0) (pa_cons (pe_call (ok_taken_int T) (hr.mono (by decide)) (by rfl) T.g_taken T.f_taken.kp (b_taken_int T) .nil pass0 (pa_cons (pv 0) (pa_cons (pv 1) (pa_nil)))) (pa_cons (pe_int) (pa_nil))))))), ?_⟩
    refine ⟨_, rfl, _, rfl, _, rfl, I, (O), self, self_d, self_base, self_coefficient, self_exponent, other, rfl, w, f_self, (by first | assumption | exact num_nf (by assumption) (by assumption) (by assumption) | exact low_nf (by omega) (by omega) (by assumption)), (by first | assumption | omega | decide | exact .inl rfl | exact .inr rfl | rfl | exact e2 _ _ (by assumption) | exact ⟨_, _, by assumption, by assumption⟩ | exact Sz.mono e1 (by decide) | exact low_sz (by omega) (by assumption) e1), fun r1 r1_d r1_coefficient r1_exponent I2 H4 s3 w5 f6 f7 q8 => ?_⟩
    refine ⟨I2, (O), self, self_d, self_base, self_coefficient, self_exponent, r1, r1_d, self_base, r1_coefficient, r1_exponent, 1, rfl, w5, (s3 _ _ f_self), (by first | assumption | exact num_nf (by assumption) (by assumption) (by assumption) | exact low_nf (by omega) (by omega) (by assumption)), f6, (by first | assumption | exact num_nf (by assumption) (by assumption) (by assumption) | exact low_nf (by omega) (by omega) (by assumption)), (by first | assumption | omega | decide | exact .inl rfl | exact .inr rfl | rfl | exact e2 _ _ (by assumption) | exact ⟨_, _, by assumption, by assumption⟩ | exact Sz.mono e1 (by decide) | exact low_sz (by omega) (by assumption) e1), (by first | assumption | omega | decide | exact .inl rfl | exact .inr rfl | rfl | exact e2 _ _ (by assumption) | exact ⟨_, _, by assumption, by assumption⟩ | exact Sz.mono e1 (by decide) | exact low_sz (by omega) (by assumption) e1), (by first | assumption | omega | decide | exact .inl rfl | exact .inr rfl | rfl | exact e2 _ _ (by assumption) | exact ⟨_, _, by assumption, by assumption⟩ | exact Sz.mono e1 (by decide) | exact low_sz (by omega) (by assumption) e1), fun r9 r9_d r9_coefficient r9_exponent I10 H12 s11 w13 f14 f15 q16 => ?_⟩
    exact k r9 r9_d r9_coefficient r9_exponent _ _ ((Same.trans s3 s11)) w13 f14 (by first | assumption | exact num_nf (by assumption) (by assumption) (by assumption) | exact low_nf (by omega) (by omega) (by assumption)) (by first | assumption | omega | decide | exact .inl rfl | exact .inr rfl | rfl | exact e2 _ _ (by assumption) | exact ⟨_, _, by assumption, by assumption⟩ | exact Sz.mono e1 (by decide) | exact low_sz (by omega) (by assumption) e1)
end
def sp_Exact_sub_obj (K : PySem.W.Frag) : Sp := fun vs H Q E => ∃ (I : Hp) (O : List (Addr × HO)) (self : Addr) (self_d : Addr) (self_base : Int) (self_coefficient : Int) (self_exponent : Int) (other : Addr) (other_d : Addr) (other_base : Int) (other_coefficient : Int) (other_exponent : Int), vs = [.ref self, .ref other] ∧ Wd I (O) H ∧ I self = some (.ins (He.ga K "Exact") self_d (fs_Exact (.int self_base) (.int self_coefficient) (.int self_exponent))) ∧ Nf self_base self_coefficient self_exponent ∧ I other = some (.ins (He.ga K "Exact") other_d (fs_Exact (.int other_base) (.int other_coefficient) (.int other_exponent))) ∧ Nf other_base other_coefficient other_exponent ∧ self_base = other_base ∧ AlS 7900 self_base self_coefficient self_exponent other_coefficient other_exponent ∧ (∀ (r : Addr) (r_d : Addr) (r_coefficient : Int) (r_exponent : Int) (I' : Hp) (H' : Hp), Same I I' → Wd I' (O) H' → I' r = some (.ins (He.ga K "Exact") r_d (fs_Exact (.int (self_base)) (.int r_coefficient) (.int r_exponent))) → Nf (self_base) r_coefficient r_exponent → Cb self_base self_coefficient self_exponent other_coefficient other_exponent (-1) r_coefficient r_exponent → Q (.ref r) H')
section
variable {P : Program} {w : World} {K : PySem.W.Frag} {mg : Str → Option Value} {base : Heap}
theorem sc_Exact_sub_obj : FnScope ["self", "other"] ["self", "other"] (defScope s_Exact_sub) := ⟨rfl, rfl, rfl, by decide +kernel, rfl, by decide +kernel, by decide +kernel⟩
theorem b_Exact_sub_obj (T : Txt P K mg w) : Binds K (fdOf K (a_Exact_sub K)) ["self", "other"] [] := T.f_Exact_sub.bindsN fun _ _ _ _ _ _ us hl => match us, hl with | [_, _], _ => rfl
theorem ok_Exact_sub_obj (T : Txt P K mg w) : FnOk P w K mg base CX0 6 (a_Exact_sub K) (fdOf K (a_Exact_sub K)) ["self", "other"] (sp_Exact_sub_obj K) := by
  refine T.f_Exact_sub.ok sc_Exact_sub_obj (fun vs H Q E h => ?_) (fun cdv A outer s H vs Q E hr h => ?_)
  · obtain ⟨_, _, _, _, _, _, _, _, _, _, _, _, rfl, _, _, _, _, _, _, _, _⟩ := h
    rfl
  · obtain ⟨I, O, self, self_d, self_base, self_coefficient, self_exponent, other, other_d, other_base, other_coefficient, other_exponent, rfl, w, f_self, f_self1, f_other, f_other1, e1, e2, k⟩ := h
    obtain ⟨b0_self, b1_self, l0_self⟩ := id f_self1
    obtain ⟨b0_other, b1_other, l0_other⟩ := id f_other1
    refine ⟨_, PSs.nox (pss_one (ps_ret (pe_call (ok_combined T) (hr.mono (by decide)) (by rfl) T.g_combined T.f_combined.kp (b_combined T) .nil pass0 (pa_cons (pv 0) (pa_cons (pe_call (ok_taken_obj T) (hr.mono (by decide)) (by rfl) T.g_taken T.f_taken.kp (b_taken_obj T) .nil pass0 (pa_cons (pv 0) (pa_cons (pv 1) (pa_nil)))) (pa_cons (pe_un un_neg (pe_int)) (pa_nil))))))), ?_⟩
    refine ⟨_, rfl, _, rfl, _, rfl, I, (O), self, self_d, self_base, self_coefficient, self_exponent, other, other_d, other_base, other_coefficient, other_exponent, rfl, w, f_self, (by first | assumption | exact num_nf (by assumption) (by assumption) (by assumption) | exact low_nf (by omega) (by omega) (by assumption)), f_other, (by first | assumption | exact num_nf (by assumption) (by assumption) (by assumption) | exact low_nf (by omega) (by omega) (by assumption)), fun r1 r1_d I2 H4 s3 w5 f6 => ?_⟩
    refine ⟨_, rfl, I2, (O), self, self_d, self_base, self_coefficient, self_exponent, r1, r1_d, other_base, other_coefficient, other_exponent, (-1), rfl, w5, (s3 _ _ f_self), (by first | assumption | exact num_nf (by assumption) (by assumption) (by assumption) | exact low_nf (by omega) (by omega) (by assumption)), f6, (by first | assumption | exact num_nf (by assumption) (by assumption) (by assumption) | exact low_nf (by omega) (by omega) (by assumption)), (by first | assumption | omega | decide | exact .inl rfl | exact .inr rfl | rfl), (by first | assumption | omega | decide | exact .inl rfl | exact .inr rfl | rfl), (by first | assumption | omega | decide | exact .inl rfl | exact .inr rfl | rfl), fun r7 r7_d r7_coefficient r7_exponent I8 H10 s9 w11 f12 f13 q14 => ?_⟩
    exact k r7 r7_d r7_coefficient r7_exponent _ _ ((Same.trans s3 s9)) w11 f12 (by first | assumption | exact num_nf (by assumption) (by assumption) (by assumption) | exact low_nf (by omega) (by omega) (by assumption)) (by first | assumption | omega | decide | exact .inl rfl | exact .inr rfl | rfl)
end
def sp_Exact_sub_int (K : PySem.W.Frag) : Sp := fun vs H Q E => ∃ (I : Hp) (O : List (Addr × HO)) (self : Addr) (self_d : Addr) (self_base : Int) (self_coefficient : Int) (self_exponent : Int) (other : Int), vs = [.ref self, .int other] ∧ Wd I (O) H ∧ I self = some (.ins (He.ga K "Exact") self_d (fs_Exact (.int self_base) (.int self_coefficient) (.int self_exponent))) ∧ Nf self_base self_coefficient self_exponent ∧ Sz 8000 other ∧ (∀ c2 e2, Low self_base other 0 c2 e2 → AlS 7900 self_base self_coefficient self_exponent c2 e2) ∧ (∀ (r : Addr) (r_d : Addr) (r_coefficient : Int) (r_exponent : Int) (I' : Hp) (H' : Hp), Same I I' → Wd I' (O) H' → I' r = some (.ins (He.ga K "Exact") r_d (fs_Exact (.int (self_base)) (.int r_coefficient) (.int r_exponent))) → Nf (self_base) r_coefficient r_exponent → (∃ c2 e2, Low self_base other 0 c2 e2 ∧ Cb self_base self_coefficient self_exponent c2 e2 (-1) r_coefficient r_exponent) → Q (.ref r) H')
section
variable {P : Program} {w : World} {K : PySem.W.Frag} {mg : Str → Option Value} {base : Heap}
theorem sc_Exact_sub_int : FnScope ["self", "other"] ["self", "other"] (defScope s_Exact_sub) := ⟨rfl, rfl, rfl, by decide +kernel, rfl, by decide +kernel, by decide +kernel⟩
theorem b_Exact_sub_int (T : Txt P K mg w) : Binds K (fdOf K (a_Exact_sub K)) ["self", "other"] [] := T.f_Exact_sub.bindsN fun _ _ _ _ _ _ us hl => match us, hl with | [_, _], _ => rfl
theorem ok_Exact_sub_int (T : Txt P K mg w) : FnOk P w K mg base CX0 6 (a_Exact_sub K) (fdOf K (a_Exact_sub K)) ["self", "other"] (sp_Exact_sub_int K) := by
  refine T.f_Exact_sub.ok sc_Exact_sub_int (fun vs H Q E h => ?_) (fun cdv A outer s H vs Q E hr h => ?_)
  · obtain ⟨_, _, _, _, _, _, _, _, rfl, _, _, _, _, _, _⟩ := h
    rfl
  · obtain ⟨I, O, self, self_d, self_base, self_coefficient, self_exponent, other, rfl, w, f_self, f_self1, e1, e2, k⟩ := h
    obtain ⟨b0_self, b1_self, l0_self⟩ := id f_self1
    refine ⟨_, PSs.nox (pss_one (ps_ret (pe_call (ok_combined T) (hr.mono (by decide)) (by rfl) T.g_combined T.f_combined.kp (b_combined T) .nil pass0 (pa_cons (pv 0) (pa_cons (pe_call (ok_taken_int T) (hr.mono (by decide)) (by rfl) T.g_taken T.f_taken.kp (b_taken_int T) .nil pass0 (pa_cons (pv 0) (pa_cons (pv 1) (pa_nil)))) (pa_cons (pe_un un_neg (pe_int)) (pa_nil))))))), ?_⟩
    refine ⟨_, rfl, _, rfl, _, rfl, I, (O), self, self_d, self_base, self_coefficient, self_exponent, other, rfl, w, f_self, (by first | assumption | exact num_nf (by assumption) (by assumption) (by assumption) | exact low_nf (by omega) (by omega) (by assumption)), (by first | assumption | omega | decide | exact .inl rfl | exact .inr rfl | rfl | exact e2 _ _ (by assumption) | exact ⟨_, _, by assumption, by assumption⟩ | exact Sz.mono e1 (by decide) | exact low_sz (by omega) (by assumption) e1), fun r1 r1_d r1_coefficient r1_exponent I2 H4 s3 w5 f6 f7 q8 => ?_⟩
    refine ⟨_, rfl, I2, (O), self, self_d, self_base, self_coefficient, self_exponent, r1, r1_d, self_base, r1_coefficient, r1_exponent, (-1), rfl, w5, (s3 _ _ f_self), (by first | assumption | exact num_nf (by assumption) (by assumption) (by assumption) | exact low_nf (by omega) (by omega) (by assumption)), f6, (by first | assumption | exact num_nf (by assumption) (by assumption) (by assumption) | exact low_nf (by omega) (by omega) (by assumption)), (by first | assumption | omega | decide | exact .inl rfl | exact .inr rfl | rfl | exact e2 _ _ (by assumption) | exact ⟨_, _, by assumption, by assumption⟩ | exact Sz.mono e1 (by decide) | exact low_sz (by omega) (by assumption) e1), (by first | assumption | omega | decide | exact .inl rfl | exact .inr rfl | rfl | exact e2 _ _ (by assumption) | exact ⟨_, _, by assumption, by assumption⟩ | exact Sz.mono e1 (by decide) | exact low_sz (by omega) (by assumption) e1), (by first | assumption | omega | decide | exact .inl rfl | exact .inr rfl | rfl | exact e2 _ _ (by assumption) | exact ⟨_, _, by assumption, by assumption⟩ | exact Sz.mono e1 (by decide) | exact low_sz (by omega) (by assumption) e1), fun r9 r9_d r9_coefficient r9_exponent I10 H12 s11 w13 f14 f15 q16 => ?_⟩
    exact k r9 r9_d r9_coefficient r9_exponent _ _ ((Same.trans s3 s11)) w13 f14 (by first | assumption | exact num_nf (by assumption) (by assumption) (by assumption) | exact low_nf (by omega) (by omega) (by assumption)) (by first | assumption | omega | decide | exact .inl rfl | exact .inr rfl | rfl | exact e2 _ _ (by assumption) | exact ⟨_, _, by assumption, by assumption⟩ | exact Sz.mono e1 (by decide) | exact low_sz (by omega) (by assumption) e1)
end
def sp_Exact_mul_obj (K : PySem.W.Frag) : Sp := fun vs H Q E => ∃ (I : Hp) (O : List (Addr × HO)) (self : Addr) (self_d : Addr) (self_base : Int) (self_coefficient : Int) (self_exponent : Int) (other : Addr) (other_d : Addr) (other_base : Int) (other_coefficient : Int) (other_exponent : Int), vs = [.ref self, .ref other] ∧ Wd I (O) H ∧ I self = some (.ins (He.ga K "Exact") self_d (fs_Exact (.int self_base) (.int self_coefficient) (.int self_exponent))) ∧ Nf self_base self_coefficient self_exponent ∧ I other = some (.ins (He.ga K "Exact") other_d (fs_Exact (.int other_base) (.int other_coefficient) (.int other_exponent))) ∧ Nf other_base other_coefficient other_exponent ∧ self_base = other_base ∧ Sz 4000 self_coefficient ∧ Sz 4000 other_coefficient ∧ (∀ (r : Addr) (r_d : Addr) (r_coefficient : Int) (r_exponent : Int) (I' : Hp) (H' : Hp), Same I I' → Wd I' (O) H' → I' r = some (.ins (He.ga K "Exact") r_d (fs_Exact (.int (self_base)) (.int r_coefficient) (.int r_exponent))) → Nf (self_base) r_coefficient r_exponent → Low self_base (self_coefficient * other_coefficient) (self_exponent + other_exponent) r_coefficient r_exponent → Q (.ref r) H')
section
variable {P : Program} {w : World} {K : PySem.W.Frag} {mg : Str → Option Value} {base : Heap}
theorem sc_Exact_mul_obj : FnScope ["self", "other"] ["self", "other"] (defScope s_Exact_mul) := ⟨rfl, rfl, rfl, by decide +kernel, rfl, by decide +kernel, by decide +kernel⟩
theorem b_Exact_mul_obj (T : Txt P K mg w) : Binds K (fdOf K (a_Exact_mul K)) ["self", "other"] [] := T.f_Exact_mul.bindsN fun _ _ _ _ _ _ us hl => match us, hl with | [_, _], _ => rfl
theorem ok_Exact_mul_obj (T : Txt P K mg w) : FnOk P w K mg base CX0 6 (a_Exact_mul K) (fdOf K (a_Exact_mul K)) ["self", "other"] (sp_Exact_mul_obj K) := by
  refine T.f_Exact_mul.ok sc_Exact_mul_obj (fun vs H Q E h => ?_) (fun cdv A outer s H vs Q E hr h => ?_)
  · obtain ⟨_, _, _, _, _, _, _, _, _, _, _, _, rfl, _, _, _, _, _, _, _, _, _⟩ := h
    rfl
  · obtain ⟨I, O, self, self_d, self_base, self_coefficient, self_exponent, other, other_d, other_base, other_coefficient, other_exponent, rfl, w, f_self, f_self1, f_other, f_other1, e1, e2, e3, k⟩ := h
    obtain ⟨b0_self, b1_self, l0_self⟩ := id f_self1
    obtain ⟨b0_other, b1_other, l0_other⟩ := id f_other1
    refine ⟨_, PSs.nox (pss_one (ps_ret (pe_call (ok_multiplied T) (hr.mono (by decide)) (by rfl) T.g_multiplied T.f_multiplied.kp (b_multiplied T) .nil pass0 (pa_cons (pv 0) (pa_cons (pe_call (ok_taken_obj T) (hr.mono (by decide)) (by rfl) T.g_taken T.f_taken.kp (b_taken_obj T) .nil pass0 (pa_cons (pv 0) (pa_cons (pv 1) (pa_nil)))) (pa_nil)))))), ?_⟩
    refine ⟨_, rfl, _, rfl, _, rfl, I, (O), self, self_d, self_base, self_coefficient, self_exponent, other, other_d, other_base, other_coefficient, other_exponent, rfl, w, f_self, (by first | assumption | exact num_nf (by assumption) (by assumption) (by assumption) | exact low_nf (by omega) (by omega) (by assumption)), f_other, (by first | assumption | exact num_nf (by assumption) (by assumption) (by assumption) | exact low_nf (by omega) (by omega) (by assumption)), fun r1 r1_d I2 H4 s3 w5 f6 => ?_⟩
    refine ⟨I2, (O), self, self_d, self_base, self_coefficient, self_exponent, r1, r1_d, other_base, other_coefficient, other_exponent, rfl, w5, (s3 _ _ f_self), (by first | assumption | exact num_nf (by assumption) (by assumption) (by assumption) | exact low_nf (by omega) (by omega) (by assumption)), f6, (by first | assumption | exact num_nf (by assumption) (by assumption) (by assumption) | exact low_nf (by omega) (by omega) (by assumption)), (by first | assumption | omega | decide | exact .inl rfl | exact .inr rfl | rfl), (by first | assumption | omega | decide | exact .inl rfl | exact .inr rfl | rfl), (by first | assumption | omega | decide | exact .inl rfl | exact .inr rfl | rfl), fun r7 r7_d r7_coefficient r7_exponent I8 H10 s9 w11 f12 f13 q14 => ?_⟩
    exact k r7 r7_d r7_coefficient r7_exponent _ _ ((Same.trans s3 s9)) w11 f12 (by first | assumption | exact num_nf (by assumption) (by assumption) (by assumption) | exact low_nf (by omega) (by omega) (by assumption)) (by first | assumption | omega | decide | exact .inl rfl | exact .inr rfl | rfl)
end
def sp_Exact_mul_int (K : PySem.W.Frag) : Sp := fun vs H Q E => ∃ (I : Hp) (O : List (Addr × HO)) (self : Addr) (self_d : Addr) (self_base : Int) (self_coefficient : Int) (self_exponent : Int) (other : Int), vs = [.ref self, .int other] ∧ Wd I (O) H ∧ I self = some (.ins (He.ga K "Exact") self_d (fs_Exact (.int self_base) (.int self_coefficient) (.int self_exponent))) ∧ Nf self_base self_coefficient self_exponent ∧ Sz 4000 other ∧ Sz 4000 self_coefficient ∧ (∀ (r : Addr) (r_d : Addr) (r_coefficient : Int) (r_exponent : Int) (I' : Hp) (H' : Hp), Same I I' → Wd I' (O) H' → I' r = some (.ins (He.ga K "Exact") r_d (fs_Exact (.int (self_base)) (.int r_coefficient) (.int r_exponent))) → Nf (self_base) r_coefficient r_exponent → (∃ c2 e2, Low self_base other 0 c2 e2 ∧ Low self_base (self_coefficient * c2) (self_exponent + e2) r_coefficient r_exponent) → Q (.ref r) H')
section
variable {P : Program} {w : World} {K : PySem.W.Frag} {mg : Str → Option Value} {base : Heap}
theorem sc_Exact_mul_int : FnScope ["self", "other"] ["self", "other"] (defScope s_Exact_mul) := ⟨rfl, rfl, rfl, by decide +kernel, rfl, by decide +kernel, by decide +kernel⟩
theorem b_Exact_mul_int (T : Txt P K mg w) : Binds K (fdOf K (a_Exact_mul K)) ["self", "other"] [] := T.f_Exact_mul.bindsN fun _ _ _ _ _ _ us hl => match us, hl with | [_, _], _ => rfl
theorem ok_Exact_mul_int (T : Txt P K mg w) : FnOk P w K mg base CX0 6 (a_Exact_mul K) (fdOf K (a_Exact_mul K)) ["self", "other"] (sp_Exact_mul_int K) := by
  refine T.f_Exact_mul.ok sc_Exact_mul_int (fun vs H Q E h => ?_) (fun cdv A outer s H vs Q E hr h => ?_)
  · obtain ⟨_, _, _, _, _, _, _, _, rfl, _, _, _, _, _, _⟩ := h
    rfl
  · obtain ⟨I, O, self, self_d, self_base, self_coefficient, self_exponent, other, rfl, w, f_self, f_self1, e1, e2, k⟩ := h
    obtain ⟨b0_self, b1_self, l0_self⟩ := id f_self1
    refine ⟨_, PSs.nox (pss_one (ps_ret (pe_call (ok_multiplied T) (hr.mono (by decide)) (by rfl) T.g_multiplied T.f_multiplied.kp (b_multiplied T) .nil pass0 (pa_cons (pv 0) (pa_cons (pe_call (ok_taken_int T) (hr.mono (by decide)) (by rfl) T.g_taken T.f_taken.kp (b_taken_int T) .nil pass0 (pa_cons (pv 0) (pa_cons (pv 1) (pa_nil)))) (pa_nil)))))), ?_⟩
    refine ⟨_, rfl, _, rfl, _, rfl, I, (O), self, self_d, self_base, self_coefficient, self_exponent, other, rfl, w, f_self, (by first | assumption | exact num_nf (by assumption) (by assumption) (by assumption) | exact low_nf (by omega) (by omega) (by assumption)), (by first | assumption | omega | decide | exact .inl rfl | exact .inr rfl | rfl | exact e2 _ _ (by assumption) | exact ⟨_, _, by assumption, by assumption⟩ | exact Sz.mono e1 (by decide) | exact low_sz (by omega) (by assumption) e1), fun r1 r1_d r1_coefficient r1_exponent I2 H4 s3 w5 f6 f7 q8 => ?_⟩
    refine ⟨I2, (O), self, self_d, self_base, self_coefficient, self_exponent, r1, r1_d, self_base, r1_coefficient, r1_exponent, rfl, w5, (s3 _ _ f_self), (by first | assumption | exact num_nf (by assumption) (by assumption) (by assumption) | exact low_nf (by omega) (by omega) (by assumption)), f6, (by first | assumption | exact num_nf (by assumption) (by assumption) (by assumption) | exact low_nf (by omega) (by omega) (by assumption)), (by first | assumption | omega | decide | exact .inl rfl | exact .inr rfl | rfl | exact e2 _ _ (by assumption) | exact ⟨_, _, by assumption, by assumption⟩ | exact Sz.mono e1 (by decide) | exact low_sz (by omega) (by assumption) e1), (by first | assumption | omega | decide | exact .inl rfl | exact .inr rfl | rfl | exact e2 _ _ (by assumption) | exact ⟨_, _, by assumption, by assumption⟩ | exact Sz.mono e1 (by decide) | exact low_sz (by omega) (by assumption) e1), (by first | assumption | omega | decide | exact .inl rfl | exact .inr rfl | rfl | exact e2 _ _ (by assumption) | exact ⟨_, _, by assumption, by assumption⟩ | exact Sz.mono e1 (by decide) | exact low_sz (by omega) (by assumption) e1), fun r9 r9_d r9_coefficient r9_exponent I10 H12 s11 w13 f14 f15 q16 => ?_⟩
    exact k r9 r9_d r9_coefficient r9_exponent _ _ ((Same.trans s3 s11)) w13 f14 (by first | assumption | exact num_nf (by assumption) (by assumption) (by assumption) | exact low_nf (by omega) (by omega) (by assumption)) (by first | assumption | omega | decide | exact .inl rfl | exact .inr rfl | rfl | exact e2 _ _ (by assumption) | exact ⟨_, _, by assumption, by assumption⟩ | exact Sz.mono e1 (by decide) | exact low_sz (by omega) (by assumption) e1)
end
def sp_Exact_neg (K : PySem.W.Frag) : Sp := fun vs H Q E => ∃ (I : Hp) (O : List (Addr × HO)) (self : Addr) (self_d : Addr) (self_base : Int) (self_coefficient : Int) (self_exponent : Int), vs = [.ref self] ∧ Wd I (O) H ∧ I self = some (.ins (He.ga K "Exact") self_d (fs_Exact (.int self_base) (.int self_coefficient) (.int self_exponent))) ∧ Nf self_base self_coefficient self_exponent ∧ Sz 8000 self_coefficient ∧ (∀ (r : Addr) (r_d : Addr) (r_coefficient : Int) (r_exponent : Int) (I' : Hp) (H' : Hp), Same I I' → Wd I' (O) H' → I' r = some (.ins (He.ga K "Exact") r_d (fs_Exact (.int (self_base)) (.int r_coefficient) (.int r_exponent))) → Nf (self_base) r_coefficient r_exponent → Low self_base (-self_coefficient) self_exponent r_coefficient r_exponent → Q (.ref r) H')
section
variable {P : Program} {w : World} {K : PySem.W.Frag} {mg : Str → Option Value} {base : Heap}
theorem sc_Exact_neg : FnScope ["self"] ["self"] (defScope s_Exact_neg) := ⟨rfl, rfl, rfl, by decide +kernel, rfl, by decide +kernel, by decide +kernel⟩
theorem b_Exact_neg (T : Txt P K mg w) : Binds K (fdOf K (a_Exact_neg K)) ["self"] [] := T.f_Exact_neg.bindsN fun _ _ _ _ _ _ us hl => match us, hl with | [_], _ => rfl
theorem ok_Exact_neg (T : Txt P K mg w) : FnOk P w K mg base CX0 5 (a_Exact_neg K) (fdOf K (a_Exact_neg K)) ["self"] (sp_Exact_neg K) := by
  refine T.f_Exact_neg.ok sc_Exact_neg (fun vs H Q E h => ?_) (fun cdv A outer s H vs Q E hr h => ?_)
  · obtain ⟨_, _, _, _, _, _, _, rfl, _, _, _, _, _⟩ := h
    rfl
  · obtain ⟨I, O, self, self_d, self_base, self_coefficient, self_exponent, rfl, w, f_self, f_self1, e1, k⟩ := h
    obtain ⟨b0_self, b1_self, l0_self⟩ := id f_self1
    refine ⟨_, PSs.nox (pss_one (ps_ret (pe_make T.mk_Exact (ok_Exact_init T) (hr.mono (by decide)) (by rfl) T.g_Exact (bd_Exact_init_4 T).choose_spec.2 ((bd_Exact_init_4 T).choose_spec.1) pass0 (pa_cons (pe_fld (pv 0) (by rfl)) (pa_cons (pe_un un_neg (pe_fld (pv 0) (by rfl))) (pa_cons (pe_fld (pv 0) (by rfl)) (pa_nil))))))), ?_⟩
    refine ⟨_, rfl, _, _, _, _, _, rfl, (w.get f_self), T.l_Exact, T.na_Exact_base, lk_Exact_base, _, rfl, _, _, _, _, _, rfl, (w.get f_self), T.l_Exact, T.na_Exact_coefficient, lk_Exact_coefficient, _, rfl, _, rfl, _, _, _, _, _, rfl, (w.get f_self), T.l_Exact, T.na_Exact_exponent, lk_Exact_exponent, fun x1 dx2 hx3 hd4 ne5 => ?_⟩
    have w6 := w.make (C := He.ga K "Exact") hx3 hd4 ne5
    refine ⟨I, (O), x1, _, self_base, (-self_coefficient), self_exponent, rfl, w6, (by first | assumption | omega | exact Sz.neg (by assumption)), (by first | assumption | omega | exact Sz.neg (by assumption)), (by first | assumption | omega | exact Sz.neg (by assumption)), fun y8 y9 I10 H12 s11 w13 q14 => ?_⟩
    refine ⟨rfl, ?_⟩
    have s15 := w13.freezeS
    have w16 := w13.freeze
    exact k x1 dx2 y8 y9 _ _ ((Same.trans s11 s15)) w16 upd_same (by first | assumption | exact num_nf (by assumption) (by assumption) (by assumption) | exact low_nf (by omega) (by omega) (by assumption)) (by first | assumption | omega | exact Sz.neg (by assumption))
end
def sp_law_base (K : PySem.W.Frag) : Sp := fun vs H Q E => ∃ (I : Hp) (O : List (Addr × HO)) (source : Addr) (source_s : List V), vs = [.ref source] ∧ Wd I ((source, .lst source_s) :: O) H ∧ SrcOk I source_s ∧ (∀ (r : Int) (source_s' : List V) (I' : Hp) (H' : Hp), Same I I' → Wd I' ((source, .lst source_s') :: O) H' → SrcOk I' source_s' → 2 ≤ r → r ≤ 36 → Q (.int r) H')
section
variable {P : Program} {w : World} {K : PySem.W.Frag} {mg : Str → Option Value} {base : Heap}
theorem sc_law_base : FnScope ["source", "kind"] ["source"] (defScope s_law_base) := ⟨rfl, rfl, rfl, by decide +kernel, rfl, by decide +kernel, by decide +kernel⟩
theorem b_law_base (T : Txt P K mg w) : Binds K (fdOf K (a_law_base K)) ["source"] [] := T.f_law_base.bindsN fun _ _ _ _ _ _ us hl => match us, hl with | [_], _ => rfl
theorem ok_law_base (T : Txt P K mg w) : FnOk P w K mg base CX0 2 (a_law_base K) (fdOf K (a_law_base K)) ["source"] (sp_law_base K) := by
  refine T.f_law_base.ok sc_law_base (fun vs H Q E h => ?_) (fun cdv A outer s H vs Q E hr h => ?_)
  · obtain ⟨_, _, _, _, rfl, _, _, _⟩ := h
    rfl
  · obtain ⟨I, O, source, source_s, rfl, w, f_source, k⟩ := h
    refine ⟨_, PSs.nox (pss_cons (ps_set (i := 1) sc_law_base.nd rfl (Or.inl rfl) (pe_call (ok_law_draw T) (hr.mono (by decide)) (by rfl) T.g_law_draw T.f_law_draw.kp (b_law_draw T) .nil pass0 (pa_cons (pv 0) (pa_cons (pe_int) (pa_nil))))) (pss_cons (ps_if (pt_cmpR op_eq (pv 1) (pe_int) (nomark _)) (pss_one (ps_ret (pe_op op_add (pe_int) (pe_call (ok_law_draw T) (hr.mono (by decide)) (by rfl) T.g_law_draw T.f_law_draw.kp (b_law_draw T) .nil pass0 (pa_cons (pv 0) (pa_cons (pe_int) (pa_nil))))))) (pss_nil)) (pss_cons (ps_if (pt_cmpR op_eq (pv 1) (pe_int) (nomark _)) (pss_one (ps_ret (pe_op op_add (pe_int) (pe_call (ok_law_draw T) (hr.mono (by decide)) (by rfl) T.g_law_draw T.f_law_draw.kp (b_law_draw T) .nil pass0 (pa_cons (pv 0) (pa_cons (pe_int) (pa_nil))))))) (pss_nil)) (pss_one (ps_ret (pe_ix ix_list (pe_lst (pa_cons (pe_int) (pa_cons (pe_int) (pa_cons (pe_int) (pa_cons (pe_int) (pa_cons (pe_int) (pa_nil))))))) (pe_call (ok_law_draw T) (hr.mono (by decide)) (by rfl) T.g_law_draw T.f_law_draw.kp (b_law_draw T) .nil pass0 (pa_cons (pv 0) (pa_cons (pe_int) (pa_nil)))) (fun _ _ => rfl))))))), ?_⟩
    refine ⟨_, rfl, I, (O), source, (source_s), 3, rfl, w, f_source, (by omega), (by omega), fun r1 xs2 H3 w4 f5 q6 q7 => ?_⟩
    refine ⟨_, rfl, rfl, _, rfl, ?_⟩
    refine iEqI (fun h8 => ?_) (fun h8 => ?_)
    · refine ⟨_, rfl, I, (O), source, (xs2), 4, rfl, w4, f5, (by omega), (by omega), fun r9 xs10 H11 w12 f13 q14 q15 => ?_⟩
      refine ⟨_, _, rfl, rfl, ?_⟩
      exact k (2 + r9) _ _ _ (Same.refl _) w12 f13 (by omega) (by omega)
    · refine ⟨_, rfl, rfl, _, rfl, ?_⟩
      refine iEqI (fun h16 => ?_) (fun h16 => ?_)
      · refine ⟨_, rfl, I, (O), source, (xs2), 35, rfl, w4, f5, (by omega), (by omega), fun r17 xs18 H19 w20 f21 q22 q23 => ?_⟩
        refine ⟨_, _, rfl, rfl, ?_⟩
        exact k (2 + r17) _ _ _ (Same.refl _) w20 f21 (by omega) (by omega)
      · refine ⟨(by show 5 ≤ sizeLine; decide), fun p24 hp25 => ?_⟩
        have s26 := w4.newS (o := .lst [(V.int 10), (V.int 16), (V.int 2), (V.int 3), (V.int 36)]) hp25
        have w27 := w4.new (o := .lst [(V.int 10), (V.int 16), (V.int 2), (V.int 3), (V.int 36)]) hp25
        refine ⟨_, rfl, (upd I p24 (.lst [(V.int 10), (V.int 16), (V.int 2), (V.int 3), (V.int 36)])), (O), source, (xs2), 5, rfl, w27, (SrcOk.mono s26 f5), (by omega), (by omega), fun r28 xs29 H30 w31 f32 q33 q34 => ?_⟩
        obtain ⟨c35, _, hc36, he37⟩ := at_map (f := V.int) (l := baseL) (i := r28) (by omega) (by show r28 < 5; omega)
        have hc36b := baseL_ok hc36
        refine ⟨_, _, _, _, rfl, rfl, (SqL.of (w31.get upd_same)), he37, ?_⟩
        exact k c35 _ _ _ (s26) w31 f32 (by omega) (by omega)
end
def sp_law_precision (K : PySem.W.Frag) : Sp := fun vs H Q E => ∃ (I : Hp) (O : List (Addr × HO)) (source : Addr) (source_s : List V) (most : Int), vs = [.ref source, .int most] ∧ Wd I ((source, .lst source_s) :: O) H ∧ SrcOk I source_s ∧ 8 ≤ most ∧ most ≤ 1000 ∧ (∀ (r : Int) (source_s' : List V) (H' : Hp), Wd I ((source, .lst source_s') :: O) H' → SrcOk I source_s' → 3 ≤ r → r ≤ most → Q (.int r) H')
section
variable {P : Program} {w : World} {K : PySem.W.Frag} {mg : Str → Option Value} {base : Heap}
theorem sc_law_precision : FnScope ["source", "most"] ["source", "most"] (defScope s_law_precision) := ⟨rfl, rfl, rfl, by decide +kernel, rfl, by decide +kernel, by decide +kernel⟩
theorem b_law_precision (T : Txt P K mg w) : Binds K (fdOf K (a_law_precision K)) ["source", "most"] [] := T.f_law_precision.bindsN fun _ _ _ _ _ _ us hl => match us, hl with | [_, _], _ => rfl
theorem ok_law_precision (T : Txt P K mg w) : FnOk P w K mg base CX0 2 (a_law_precision K) (fdOf K (a_law_precision K)) ["source", "most"] (sp_law_precision K) := by
  refine T.f_law_precision.ok sc_law_precision (fun vs H Q E h => ?_) (fun cdv A outer s H vs Q E hr h => ?_)
  · obtain ⟨_, _, _, _, _, rfl, _, _, _, _, _⟩ := h
    rfl
  · obtain ⟨I, O, source, source_s, most, rfl, w, f_source, e1, e2, k⟩ := h
    refine ⟨_, PSs.nox (pss_cons (ps_if (pt_cmpR op_lt (pe_call (ok_law_draw T) (hr.mono (by decide)) (by rfl) T.g_law_draw T.f_law_draw.kp (b_law_draw T) .nil pass0 (pa_cons (pv 0) (pa_cons (pe_int) (pa_nil)))) (pe_int) (nomark _)) (pss_one (ps_ret (pe_op op_add (pe_int) (pe_call (ok_law_draw T) (hr.mono (by decide)) (by rfl) T.g_law_draw T.f_law_draw.kp (b_law_draw T) .nil pass0 (pa_cons (pv 0) (pa_cons (pe_int) (pa_nil))))))) (pss_nil)) (pss_one (ps_ret (pe_op op_add (pe_int) (pe_call (ok_law_draw T) (hr.mono (by decide)) (by rfl) T.g_law_draw T.f_law_draw.kp (b_law_draw T) .nil pass0 (pa_cons (pv 0) (pa_cons (pe_op op_sub (pv 1) (pe_int)) (pa_nil)))))))), ?_⟩
    refine ⟨_, rfl, I, (O), source, (source_s), 4, rfl, w, f_source, (by omega), (by omega), fun r1 xs2 H3 w4 f5 q6 q7 => ?_⟩
    refine ⟨_, _, rfl, rfl, _, rfl, ?_⟩
    refine iD (fun h8 => ?_) (fun h8 => ?_)
    · refine ⟨_, rfl, I, (O), source, (xs2), 6, rfl, w4, f5, (by omega), (by omega), fun r9 xs10 H11 w12 f13 q14 q15 => ?_⟩
      refine ⟨_, _, rfl, rfl, ?_⟩
      exact k (3 + r9) _ _ w12 f13 (by omega) (by omega)
    · refine ⟨_, rfl, _, rfl, _, _, rfl, rfl, I, (O), source, (xs2), (most - 2), rfl, w4, f5, (by omega), (by omega), fun r16 xs17 H18 w19 f20 q21 q22 => ?_⟩
      refine ⟨_, _, rfl, rfl, ?_⟩
      exact k (3 + r16) _ _ w19 f20 (by omega) (by omega)
end
def sp_law_lowest (K : PySem.W.Frag) : Sp := fun vs H Q E => ∃ (I : Hp) (O : List (Addr × HO)) (base : Int) (coefficient : Int) (exponent : Int), vs = [.int base, .int coefficient, .int exponent] ∧ Wd I (O) H ∧ 2 ≤ base ∧ base ≤ 36 ∧ Sz 8000 coefficient ∧ (∀ (r : Addr) (r_0 : Int) (r_1 : Int) (I' : Hp) (H' : Hp), Same I I' → Wd I' (O) H' → I' r = some (.tup [.int r_0, .int r_1]) → Low base coefficient exponent r_0 r_1 → Q (.ref r) H')
section
variable {P : Program} {w : World} {K : PySem.W.Frag} {mg : Str → Option Value} {base : Heap}
theorem sc_law_lowest : FnScope ["base", "coefficient", "exponent", "rest", "count", "chunk"] ["base", "coefficient", "exponent"] (defScope s_law_lowest) := ⟨rfl, rfl, rfl, by decide +kernel, rfl, by decide +kernel, by decide +kernel⟩
theorem b_law_lowest (T : Txt P K mg w) : Binds K (fdOf K (a_law_lowest K)) ["base", "coefficient", "exponent"] [] := T.f_law_lowest.bindsN fun _ _ _ _ _ _ us hl => match us, hl with | [_, _, _], _ => rfl
theorem ok_law_lowest (T : Txt P K mg w) : FnOk P w K mg base CX0 2 (a_law_lowest K) (fdOf K (a_law_lowest K)) ["base", "coefficient", "exponent"] (sp_law_lowest K) := by
  refine T.f_law_lowest.ok sc_law_lowest (fun vs H Q E h => ?_) (fun cdv A outer s H vs Q E hr h => ?_)
  · obtain ⟨_, _, _, _, _, rfl, _, _, _, _, _⟩ := h
    rfl
  · obtain ⟨I, O, base, coefficient, exponent, rfl, w, e1, e2, e3, k⟩ := h
    refine ⟨_, PSs.nox (pss_cons (ps_if (pt_cmpR op_eq (pv 1) (pe_int) (nomark _)) (pss_one (ps_ret (pe_tup (pa_cons (pe_int) (pa_cons (pe_int) (pa_nil)))))) (pss_nil)) (pss_cons (ps_set (i := 3) sc_law_lowest.nd rfl (Or.inl rfl) (pv 1)) (pss_cons (ps_set (i := 4) sc_law_lowest.nd rfl (Or.inl rfl) (pv 2)) (pss_cons (ps_set (i := 5) sc_law_lowest.nd rfl (Or.inl rfl) (pe_call (ok_law_power T) (hr.mono (by decide)) (by rfl) T.g_law_power T.f_law_power.kp (b_law_power T) .nil pass0 (pa_cons (pv 0) (pa_cons (pe_int) (pa_nil))))) (pss_cons (ps_while PassesOwn.never (pt_cmpR op_eq (pe_op op_mod (pe_callTy call_int1 (by rfl) T.n_int (by decide +kernel) (pa_cons (pv 3) (pa_nil))) (pv 5)) (pe_int) (nomark _)) (pss_cons (ps_set (i := 3) sc_law_lowest.nd rfl (Or.inl rfl) (pe_op op_fdivW (pv 3) (pv 5))) (pss_one (ps_set (i := 4) sc_law_lowest.nd rfl (Or.inl rfl) (pe_op op_add (pv 4) (pe_int)))))) (pss_cons (ps_while PassesOwn.never (pt_cmpR op_eq (pe_op op_mod (pe_callTy call_int1 (by rfl) T.n_int (by decide +kernel) (pa_cons (pv 3) (pa_nil))) (pv 0)) (pe_int) (nomark _)) (pss_cons (ps_set (i := 3) sc_law_lowest.nd rfl (Or.inl rfl) (pe_op op_fdivW (pv 3) (pv 0))) (pss_one (ps_set (i := 4) sc_law_lowest.nd rfl (Or.inl rfl) (pe_op op_add (pv 4) (pe_int)))))) (pss_one (ps_ret (pe_tup (pa_cons (pv 3) (pa_cons (pv 4) (pa_nil)))))))))))), ?_⟩
    refine ⟨_, rfl, rfl, _, rfl, ?_⟩
    refine iEqI (fun h1 => ?_) (fun h1 => ?_)
    · refine ⟨(by show 2 ≤ sizeLine; decide), fun p2 hp3 => ?_⟩
      have s4 := w.newS (o := .tup [(V.int 0), (V.int 0)]) hp3
      have w5 := w.new (o := .tup [(V.int 0), (V.int 0)]) hp3
      exact k p2 0 0 _ _ (s4) w5 upd_same (by first | exact low_zero (by assumption) | exact lw_end (by assumption) hq hc (by assumption))
    · refine ⟨_, rfl, _, rfl, _, rfl, base, 16, rfl, (by omega), (by omega), (by omega), (by omega), fun r6 q7 q8 q9 => ?_⟩
      subst q7
      refine ⟨(fun m14 σ' H' => ∃ (rest10 : Int) (count11 : Int) (n12 : Nat), σ' = [some (V.int base), some (V.int coefficient), some (V.int exponent), some (V.int rest10), some (V.int count11), some (V.int (base ^ (16 : Int).toNat))] ∧ m14 = rest10.natAbs ∧ H = H' ∧ coefficient = rest10 * base ^ n12 ∧ count11 = exponent + n12), ⟨_, ⟨coefficient, exponent, (0), rfl, rfl, rfl, (by exact (by rw [Int.pow_zero, Int.mul_one])), (by omega)⟩⟩, ?_⟩
      rintro _ _ H15 ⟨rest10, count11, n12, rfl, rfl, rfl, hq, hc⟩
      refine ⟨_, rfl, .inl ⟨_, rfl, ?_⟩⟩
      refine ⟨_, rfl, _, _, rfl, rfl, (by show (0 : Int) < (base ^ (16 : Int).toNat); omega), rfl, _, rfl, ?_⟩
      refine iEqI (fun h16 => ?_) (fun h16 => ?_)
      · refine ⟨_, fun _ _ q => q, ?_⟩
        refine ⟨_, rfl, _, rfl, _, _, rfl, rfl, (Sz.cdiv (n := 97) (by assumption) (by assumption)), _, rfl, _, _, rfl, rfl, ?_⟩
        exact ⟨_, by exact lw_less (lw_ne0 (by assumption) hq) (by assumption) (pow_two_le e1 (by decide)), ⟨(rest10 / (base ^ (16 : Int).toNat)), (count11 + 16), (n12 + 16), rfl, rfl, rfl, (by exact lw_step hq (by assumption) e1), (by omega)⟩⟩
      · refine ⟨(fun m21 σ' H' => ∃ (rest17 : Int) (count18 : Int) (n19 : Nat), σ' = [some (V.int base), some (V.int coefficient), some (V.int exponent), some (V.int rest17), some (V.int count18), some (V.int (base ^ (16 : Int).toNat))] ∧ m21 = rest17.natAbs ∧ H = H' ∧ coefficient = rest17 * base ^ n19 ∧ count18 = exponent + n19), ⟨_, ⟨rest10, count11, (_), rfl, rfl, rfl, (by assumption), (by omega)⟩⟩, ?_⟩
        rintro _ _ H22 ⟨rest17, count18, n19, rfl, rfl, rfl, hq, hc⟩
        refine ⟨_, rfl, .inl ⟨_, rfl, ?_⟩⟩
        refine ⟨_, rfl, _, _, rfl, rfl, (by show (0 : Int) < base; omega), rfl, _, rfl, ?_⟩
        refine iEqI (fun h23 => ?_) (fun h23 => ?_)
        · refine ⟨_, fun _ _ q => q, ?_⟩
          refine ⟨_, rfl, _, rfl, _, _, rfl, rfl, (Sz.cdiv (n := 6) (by omega) (Sz.of (by omega) (by omega))), _, rfl, _, _, rfl, rfl, ?_⟩
          exact ⟨_, by exact lw_less (lw_ne0 (by assumption) hq) (by assumption) e1, ⟨(rest17 / base), (count18 + 1), (n19 + 1), rfl, rfl, rfl, (by exact lw_step1 hq (by assumption) e1), (by omega)⟩⟩
        · refine ⟨_, rfl, _, rfl, (by show 2 ≤ sizeLine; decide), fun p24 hp25 => ?_⟩
          have s26 := w.newS (o := .tup [(V.int rest17), (V.int count18)]) hp25
          have w27 := w.new (o := .tup [(V.int rest17), (V.int count18)]) hp25
          exact k p24 rest17 count18 _ _ (s26) w27 upd_same (by first | exact low_zero (by assumption) | exact lw_end (by assumption) hq hc (by assumption))
end
def sp_law_sum (K : PySem.W.Frag) : Sp := fun vs H Q E => ∃ (I : Hp) (O : List (Addr × HO)) (base : Int) (x : Addr) (x_0 : Int) (x_1 : Int) (y : Addr) (y_0 : Int) (y_1 : Int) (sign : Int), vs = [.int base, .ref x, .ref y, .int sign] ∧ Wd I (O) H ∧ I x = some (.tup [.int x_0, .int x_1]) ∧ I y = some (.tup [.int y_0, .int y_1]) ∧ 2 ≤ base ∧ base ≤ 36 ∧ -100 ≤ x_1 ∧ x_1 ≤ 6000 ∧ -100 ≤ y_1 ∧ y_1 ≤ 6000 ∧ Wt base 100 7000 x_0 x_1 ∧ Wt base 100 7000 y_0 y_1 ∧ (sign = 1 ∨ sign = -1) ∧ (∀ (r : Addr) (r_0 : Int) (r_1 : Int) (I' : Hp) (H' : Hp), Same I I' → Wd I' (O) H' → I' r = some (.tup [.int r_0, .int r_1]) → SumL base x_0 x_1 y_0 y_1 sign r_0 r_1 → Q (.ref r) H')
section
variable {P : Program} {w : World} {K : PySem.W.Frag} {mg : Str → Option Value} {base : Heap}
theorem sc_law_sum : FnScope ["base", "x", "y", "sign", "low", "first", "second"] ["base", "x", "y", "sign"] (defScope s_law_sum) := ⟨rfl, rfl, rfl, by decide +kernel, rfl, by decide +kernel, by decide +kernel⟩
theorem b_law_sum (T : Txt P K mg w) : Binds K (fdOf K (a_law_sum K)) ["base", "x", "y", "sign"] [] := T.f_law_sum.bindsN fun _ _ _ _ _ _ us hl => match us, hl with | [_, _, _, _], _ => rfl
theorem ok_law_sum (T : Txt P K mg w) : FnOk P w K mg base CX0 3 (a_law_sum K) (fdOf K (a_law_sum K)) ["base", "x", "y", "sign"] (sp_law_sum K) := by
  refine T.f_law_sum.ok sc_law_sum (fun vs H Q E h => ?_) (fun cdv A outer s H vs Q E hr h => ?_)
  · obtain ⟨_, _, _, _, _, _, _, _, _, _, rfl, _, _, _, _, _, _, _, _, _, _, _, _, _⟩ := h
    rfl
  · obtain ⟨I, O, base, x, x_0, x_1, y, y_0, y_1, sign, rfl, w, f_x, f_y, e1, e2, e3, e4, e5, e6, e7, e8, e9, k⟩ := h
    refine ⟨_, PSs.nox (pss_cons (ps_set (i := 4) sc_law_sum.nd rfl (Or.inl rfl) (pe_callB (call_min2 rfl) (by rfl) T.n_min (by decide +kernel) (pa_cons (pe_callTy call_int1 (by rfl) T.n_int (by decide +kernel) (pa_cons (pe_ix ix_tup (pv 1) (pe_int) (fun _ _ => rfl)) (pa_nil))) (pa_cons (pe_callTy call_int1 (by rfl) T.n_int (by decide +kernel) (pa_cons (pe_ix ix_tup (pv 2) (pe_int) (fun _ _ => rfl)) (pa_nil))) (pa_nil))))) (pss_cons (ps_set (i := 5) sc_law_sum.nd rfl (Or.inl rfl) (pe_op op_mulW (pe_ix ix_tup (pv 1) (pe_int) (fun _ _ => rfl)) (pe_call (ok_law_power T) (hr.mono (by decide)) (by rfl) T.g_law_power T.f_law_power.kp (b_law_power T) .nil pass0 (pa_cons (pv 0) (pa_cons (pe_op op_sub (pe_ix ix_tup (pv 1) (pe_int) (fun _ _ => rfl)) (pv 4)) (pa_nil)))))) (pss_cons (ps_set (i := 6) sc_law_sum.nd rfl (Or.inl rfl) (pe_op op_mulW (pe_ix ix_tup (pv 2) (pe_int) (fun _ _ => rfl)) (pe_call (ok_law_power T) (hr.mono (by decide)) (by rfl) T.g_law_power T.f_law_power.kp (b_law_power T) .nil pass0 (pa_cons (pv 0) (pa_cons (pe_op op_sub (pe_ix ix_tup (pv 2) (pe_int) (fun _ _ => rfl)) (pv 4)) (pa_nil)))))) (pss_one (ps_ret (pe_call (ok_law_lowest T) (hr.mono (by decide)) (by rfl) T.g_law_lowest T.f_law_lowest.kp (b_law_lowest T) .nil pass0 (pa_cons (pv 0) (pa_cons (pe_op op_add (pv 5) (pe_op op_mulW (pv 3) (pv 6))) (pa_cons (pv 4) (pa_nil)))))))))), ?_⟩
    refine ⟨_, rfl, _, _, _, _, rfl, rfl, (SqT.of (w.get f_x)), rfl, .inl ⟨_, rfl, ?_⟩⟩
    refine ⟨_, rfl, _, _, _, _, rfl, rfl, (SqT.of (w.get f_y)), rfl, .inl ⟨_, rfl, ?_⟩⟩
    refine ⟨_, _, rfl, ?_⟩
    generalize hmn2 : ((if y_1 < x_1 then y_1 else x_1) : Int) = mn1
    have ⟨hml3, hmr4, hmo5⟩ : mn1 ≤ x_1 ∧ mn1 ≤ y_1 ∧ (mn1 = x_1 ∨ mn1 = y_1) := by rw [← hmn2]; split <;> omega
    refine ⟨_, rfl, _, _, _, _, rfl, rfl, (SqT.of (w.get f_x)), rfl, _, rfl, _, rfl, _, _, _, _, rfl, rfl, (SqT.of (w.get f_x)), rfl, _, rfl, _, _, rfl, rfl, base, (x_1 - mn1), rfl, (by omega), (by omega), (by omega), (by omega), fun r6 q7 q8 q9 => ?_⟩
    subst q7
    refine ⟨_, _, rfl, rfl, (Sz.cmul (n := 7000) (m := 40000) (wt_sz e1 e7) (Sz.mono (by assumption) (by omega))), _, rfl, _, _, _, _, rfl, rfl, (SqT.of (w.get f_y)), rfl, _, rfl, _, rfl, _, _, _, _, rfl, rfl, (SqT.of (w.get f_y)), rfl, _, rfl, _, _, rfl, rfl, base, (y_1 - mn1), rfl, (by omega), (by omega), (by omega), (by omega), fun r10 q11 q12 q13 => ?_⟩
    subst q11
    refine ⟨_, _, rfl, rfl, (Sz.cmul (n := 7000) (m := 40000) (wt_sz e1 e8) (Sz.mono (by assumption) (by omega))), _, rfl, _, rfl, _, rfl, _, rfl, _, _, rfl, rfl, (sign_mul (k := 7000) e9 (ws_sz e1 e8 (by omega) (by omega))), _, _, rfl, rfl, _, rfl, I, (O), base, ((x_0 * (base ^ (x_1 - mn1).toNat)) + (sign * (y_0 * (base ^ (y_1 - mn1).toNat)))), mn1, rfl, w, (by first | assumption | exact ws_sum e1 e7 e8 e9 (by omega) (by omega) (by omega)), (by first | assumption | exact ws_sum e1 e7 e8 e9 (by omega) (by omega) (by omega)), (by first | assumption | exact ws_sum e1 e7 e8 e9 (by omega) (by omega) (by omega)), fun r14 r14_0 r14_1 I15 H17 s16 w18 f19 q20 => ?_⟩
    exact k r14 r14_0 r14_1 _ _ (s16) w18 f19 (by exact ⟨_, by omega, by omega, by omega, by assumption⟩)
end
def sp_law_product (K : PySem.W.Frag) : Sp := fun vs H Q E => ∃ (I : Hp) (O : List (Addr × HO)) (base : Int) (x : Addr) (x_0 : Int) (x_1 : Int) (y : Addr) (y_0 : Int) (y_1 : Int), vs = [.int base, .ref x, .ref y] ∧ Wd I (O) H ∧ I x = some (.tup [.int x_0, .int x_1]) ∧ I y = some (.tup [.int y_0, .int y_1]) ∧ 2 ≤ base ∧ base ≤ 36 ∧ Sz 4000 x_0 ∧ Sz 4000 y_0 ∧ (∀ (r : Addr) (r_0 : Int) (r_1 : Int) (I' : Hp) (H' : Hp), Same I I' → Wd I' (O) H' → I' r = some (.tup [.int r_0, .int r_1]) → Low base (x_0 * y_0) (x_1 + y_1) r_0 r_1 → Q (.ref r) H')
section
variable {P : Program} {w : World} {K : PySem.W.Frag} {mg : Str → Option Value} {base : Heap}
theorem sc_law_product : FnScope ["base", "x", "y"] ["base", "x", "y"] (defScope s_law_product) := ⟨rfl, rfl, rfl, by decide +kernel, rfl, by decide +kernel, by decide +kernel⟩
theorem b_law_product (T : Txt P K mg w) : Binds K (fdOf K (a_law_product K)) ["base", "x", "y"] [] := T.f_law_product.bindsN fun _ _ _ _ _ _ us hl => match us, hl with | [_, _, _], _ => rfl
theorem ok_law_product (T : Txt P K mg w) : FnOk P w K mg base CX0 3 (a_law_product K) (fdOf K (a_law_product K)) ["base", "x", "y"] (sp_law_product K) := by
  refine T.f_law_product.ok sc_law_product (fun vs H Q E h => ?_) (fun cdv A outer s H vs Q E hr h => ?_)
  · obtain ⟨_, _, _, _, _, _, _, _, _, rfl, _, _, _, _, _, _, _, _⟩ := h
    rfl
  · obtain ⟨I, O, base, x, x_0, x_1, y, y_0, y_1, rfl, w, f_x, f_y, e1, e2, e3, e4, k⟩ := h
    refine ⟨_, PSs.nox (pss_one (ps_ret (pe_call (ok_law_lowest T) (hr.mono (by decide)) (by rfl) T.g_law_lowest T.f_law_lowest.kp (b_law_lowest T) .nil pass0 (pa_cons (pv 0) (pa_cons (pe_op op_mulW (pe_ix ix_tup (pv 1) (pe_int) (fun _ _ => rfl)) (pe_ix ix_tup (pv 2) (pe_int) (fun _ _ => rfl))) (pa_cons (pe_op op_add (pe_ix ix_tup (pv 1) (pe_int) (fun _ _ => rfl)) (pe_ix ix_tup (pv 2) (pe_int) (fun _ _ => rfl))) (pa_nil))))))), ?_⟩
    refine ⟨_, rfl, _, rfl, _, _, _, _, rfl, rfl, (SqT.of (w.get f_x)), rfl, _, rfl, _, _, _, _, rfl, rfl, (SqT.of (w.get f_y)), rfl, _, _, rfl, rfl, (Sz.cmul e3 e4), _, rfl, _, _, _, _, rfl, rfl, (SqT.of (w.get f_x)), rfl, _, rfl, _, _, _, _, rfl, rfl, (SqT.of (w.get f_y)), rfl, _, _, rfl, rfl, I, (O), base, (x_0 * y_0), (x_1 + y_1), rfl, w, (by first | assumption | exact Sz.mul e3 e4), (by first | assumption | exact Sz.mul e3 e4), (by first | assumption | exact Sz.mul e3 e4), fun r1 r1_0 r1_1 I2 H4 s3 w5 f6 q7 => ?_⟩
    exact k r1 r1_0 r1_1 _ _ (s3) w5 f6 (by assumption)
end
def sp_law_small (K : PySem.W.Frag) : Sp := fun vs H Q E => ∃ (I : Hp) (O : List (Addr × HO)) (source : Addr) (source_s : List V), vs = [.ref source] ∧ Wd I ((source, .lst source_s) :: O) H ∧ SrcOk I source_s ∧ (∀ (r : Int) (source_s' : List V) (H' : Hp), Wd I ((source, .lst source_s') :: O) H' → SrcOk I source_s' → -20 ≤ r → r ≤ 20 → Q (.int r) H')
section
variable {P : Program} {w : World} {K : PySem.W.Frag} {mg : Str → Option Value} {base : Heap}
theorem sc_law_small : FnScope ["source", "size"] ["source"] (defScope s_law_small) := ⟨rfl, rfl, rfl, by decide +kernel, rfl, by decide +kernel, by decide +kernel⟩
theorem b_law_small (T : Txt P K mg w) : Binds K (fdOf K (a_law_small K)) ["source"] [] := T.f_law_small.bindsN fun _ _ _ _ _ _ us hl => match us, hl with | [_], _ => rfl
theorem ok_law_small (T : Txt P K mg w) : FnOk P w K mg base CX0 2 (a_law_small K) (fdOf K (a_law_small K)) ["source"] (sp_law_small K) := by
  refine T.f_law_small.ok sc_law_small (fun vs H Q E h => ?_) (fun cdv A outer s H vs Q E hr h => ?_)
  · obtain ⟨_, _, _, _, rfl, _, _, _⟩ := h
    rfl
  · obtain ⟨I, O, source, source_s, rfl, w, f_source, k⟩ := h
    refine ⟨_, PSs.nox (pss_cons (ps_set (i := 1) sc_law_small.nd rfl (Or.inl rfl) (pe_call (ok_law_draw T) (hr.mono (by decide)) (by rfl) T.g_law_draw T.f_law_draw.kp (b_law_draw T) .nil pass0 (pa_cons (pv 0) (pa_cons (pe_int) (pa_nil))))) (pss_cons (ps_if (pt_cmpR op_gt (pv 1) (pe_int) (nomark _)) (pss_one (ps_ret (pe_op op_sub (pe_int) (pv 1)))) (pss_nil)) (pss_one (ps_ret (pv 1))))), ?_⟩
    refine ⟨_, rfl, I, (O), source, (source_s), 41, rfl, w, f_source, (by omega), (by omega), fun r1 xs2 H3 w4 f5 q6 q7 => ?_⟩
    refine ⟨_, rfl, _, _, rfl, rfl, _, rfl, ?_⟩
    refine iD (fun h8 => ?_) (fun h8 => ?_)
    · refine ⟨_, rfl, _, _, rfl, rfl, ?_⟩
      exact k (20 - r1) _ _ w4 f5 (by omega) (by omega)
    · refine ⟨_, rfl, ?_⟩
      exact k r1 _ _ w4 f5 (by omega) (by omega)
end
def sp_law_gap (K : PySem.W.Frag) : Sp := fun vs H Q E => ∃ (I : Hp) (O : List (Addr × HO)) (source : Addr) (source_s : List V) (precision : Int), vs = [.ref source, .int precision] ∧ Wd I ((source, .lst source_s) :: O) H ∧ SrcOk I source_s ∧ 3 ≤ precision ∧ precision ≤ 40 ∧ (∀ (r : Int) (source_s' : List V) (H' : Hp), Wd I ((source, .lst source_s') :: O) H' → SrcOk I source_s' → -300 ≤ r → r ≤ 300 → Q (.int r) H')
section
variable {P : Program} {w : World} {K : PySem.W.Frag} {mg : Str → Option Value} {base : Heap}
theorem sc_law_gap : FnScope ["source", "precision", "kind", "size"] ["source", "precision"] (defScope s_law_gap) := ⟨rfl, rfl, rfl, by decide +kernel, rfl, by decide +kernel, by decide +kernel⟩
theorem b_law_gap (T : Txt P K mg w) : Binds K (fdOf K (a_law_gap K)) ["source", "precision"] [] := T.f_law_gap.bindsN fun _ _ _ _ _ _ us hl => match us, hl with | [_, _], _ => rfl
theorem ok_law_gap (T : Txt P K mg w) : FnOk P w K mg base CX0 2 (a_law_gap K) (fdOf K (a_law_gap K)) ["source", "precision"] (sp_law_gap K) := by
  refine T.f_law_gap.ok sc_law_gap (fun vs H Q E h => ?_) (fun cdv A outer s H vs Q E hr h => ?_)
  · obtain ⟨_, _, _, _, _, rfl, _, _, _, _, _⟩ := h
    rfl
  · obtain ⟨I, O, source, source_s, precision, rfl, w, f_source, e1, e2, k⟩ := h
    refine ⟨_, PSs.nox (pss_cons (ps_set (i := 2) sc_law_gap.nd rfl (Or.inl rfl) (pe_call (ok_law_draw T) (hr.mono (by decide)) (by rfl) T.g_law_draw T.f_law_draw.kp (b_law_draw T) .nil pass0 (pa_cons (pv 0) (pa_cons (pe_int) (pa_nil))))) (pss_cons (ps_set (i := 3) sc_law_gap.nd rfl (Or.inl rfl) (pe_call (ok_law_draw T) (hr.mono (by decide)) (by rfl) T.g_law_draw T.f_law_draw.kp (b_law_draw T) .nil pass0 (pa_cons (pv 0) (pa_cons (pe_int) (pa_nil))))) (Evl.pss_cut (ps_if (pt_cmpR op_eq (pv 2) (pe_int) (nomark _)) (pss_one (ps_set (i := 3) sc_law_gap.nd rfl (Or.inl rfl) (pe_op op_add (pe_op op_sub (pv 1) (pe_int)) (pv 3)))) (pss_nil)) (Evl.pss_cut (ps_if (pt_cmpR op_eq (pv 2) (pe_int) (nomark _)) (pss_one (ps_set (i := 3) sc_law_gap.nd rfl (Or.inl rfl) (pe_op op_add (pe_op op_sub (pe_op op_mul (pe_int) (pv 1)) (pe_int)) (pv 3)))) (pss_nil)) (Evl.pss_cut (ps_if (pt_cmpR op_eq (pv 2) (pe_int) (nomark _)) (pss_one (ps_set (i := 3) sc_law_gap.nd rfl (Or.inl rfl) (pe_op op_add (pe_int) (pe_call (ok_law_draw T) (hr.mono (by decide)) (by rfl) T.g_law_draw T.f_law_draw.kp (b_law_draw T) .nil pass0 (pa_cons (pv 0) (pa_cons (pe_op op_mul (pe_int) (pv 1)) (pa_nil))))))) (pss_nil)) (Evl.pss_cut (ps_if (pt_cmpR op_eq (pv 2) (pe_int) (nomark _)) (pss_one (ps_set (i := 3) sc_law_gap.nd rfl (Or.inl rfl) (pe_op op_add (pe_int) (pe_call (ok_law_draw T) (hr.mono (by decide)) (by rfl) T.g_law_draw T.f_law_draw.kp (b_law_draw T) .nil pass0 (pa_cons (pv 0) (pa_cons (pe_int) (pa_nil))))))) (pss_nil)) (pss_one (ps_ret (pe_op op_mulW (pv 3) (pe_op op_sub (pe_int) (pe_op op_mul (pe_int) (pe_call (ok_law_draw T) (hr.mono (by decide)) (by rfl) T.g_law_draw T.f_law_draw.kp (b_law_draw T) .nil pass0 (pa_cons (pv 0) (pa_cons (pe_int) (pa_nil))))))))))))))), ?_⟩
    refine ⟨_, rfl, I, (O), source, (source_s), 5, rfl, w, f_source, (by omega), (by omega), fun r1 xs2 H3 w4 f5 q6 q7 => ?_⟩
    refine ⟨_, rfl, I, (O), source, (xs2), 4, rfl, w4, f5, (by omega), (by omega), fun r8 xs9 H10 w11 f12 q13 q14 => ?_⟩
    refine ⟨fun σ' H' => ∃ size15 : Int, ((r1 = 1 ∧ size15 = ((precision - 1) + r8)) ∨ (¬ (r1 = 1) ∧ size15 = r8)) ∧ σ' = [some (V.ref source), some (V.int precision), some (V.int r1), some (V.int size15)] ∧ H10 = H', ?_, ?_⟩
    · refine ⟨_, rfl, rfl, _, rfl, ?_⟩
      refine iEqI (fun h17 => ?_) (fun h17 => ?_)
      · refine ⟨_, rfl, _, _, rfl, rfl, _, rfl, _, _, rfl, rfl, ?_⟩
        exact ⟨_, .inl ⟨h17, rfl⟩, rfl, rfl⟩
      · exact ⟨_, .inr ⟨h17, rfl⟩, rfl, rfl⟩
    · rintro σ' H' ⟨size15, j16, rfl, rfl⟩
      refine ⟨fun σ' H' => ∃ size18 : Int, ((r1 = 2 ∧ size18 = (((2 * precision) - 1) + size15)) ∨ (¬ (r1 = 2) ∧ size18 = size15)) ∧ σ' = [some (V.ref source), some (V.int precision), some (V.int r1), some (V.int size18)] ∧ H10 = H', ?_, ?_⟩
      · refine ⟨_, rfl, rfl, _, rfl, ?_⟩
        refine iEqI (fun h20 => ?_) (fun h20 => ?_)
        · refine ⟨_, rfl, _, _, rfl, rfl, .inl ⟨by decide, by decide⟩, _, _, rfl, rfl, _, rfl, _, _, rfl, rfl, ?_⟩
          exact ⟨_, .inl ⟨h20, rfl⟩, rfl, rfl⟩
        · exact ⟨_, .inr ⟨h20, rfl⟩, rfl, rfl⟩
      · rintro σ' H' ⟨size18, j19, rfl, rfl⟩
        refine ⟨fun σ' H' => ∃ (size21 : Int) (xs22 : List V), σ' = [some (V.ref source), some (V.int precision), some (V.int r1), some (V.int size21)] ∧ Wd I ((source, .lst xs22) :: O) H' ∧ SrcOk I xs22 ∧ 0 ≤ size21 ∧ size21 ≤ 300, ?_, ?_⟩
        · refine ⟨_, rfl, rfl, _, rfl, ?_⟩
          refine iEqI (fun h27 => ?_) (fun h27 => ?_)
          · refine ⟨_, rfl, _, rfl, _, _, rfl, rfl, .inl ⟨by decide, by decide⟩, I, (O), source, (xs9), (3 * precision), rfl, w11, f12, (by omega), (by omega), fun r28 xs29 H30 w31 f32 q33 q34 => ?_⟩
            refine ⟨_, _, rfl, rfl, ?_⟩
            exact ⟨(1 + r28), _, rfl, w31, f32, (by omega), (by omega)⟩
          · exact ⟨size18, _, rfl, w11, f12, (by omega), (by omega)⟩
        · rintro σ' H35 ⟨size21, xs22, rfl, w26, f23, q24, q25⟩
          refine ⟨fun σ' H' => ∃ (size36 : Int) (xs37 : List V), σ' = [some (V.ref source), some (V.int precision), some (V.int r1), some (V.int size36)] ∧ Wd I ((source, .lst xs37) :: O) H' ∧ SrcOk I xs37 ∧ 0 ≤ size36 ∧ size36 ≤ 300, ?_, ?_⟩
          · refine ⟨_, rfl, rfl, _, rfl, ?_⟩
            refine iEqI (fun h42 => ?_) (fun h42 => ?_)
            · refine ⟨_, rfl, I, (O), source, (xs22), 260, rfl, w26, f23, (by omega), (by omega), fun r43 xs44 H45 w46 f47 q48 q49 => ?_⟩
              refine ⟨_, _, rfl, rfl, ?_⟩
              exact ⟨(40 + r43), _, rfl, w46, f47, (by omega), (by omega)⟩
            · exact ⟨size21, _, rfl, w26, f23, (by omega), (by omega)⟩
          · rintro σ' H50 ⟨size36, xs37, rfl, w41, f38, q39, q40⟩
            refine ⟨_, rfl, _, rfl, I, (O), source, (xs37), 2, rfl, w41, f38, (by omega), (by omega), fun r51 xs52 H53 w54 f55 q56 q57 => ?_⟩
            refine ⟨_, _, rfl, rfl, .inl ⟨by decide, by decide⟩, _, _, rfl, rfl, _, _, rfl, rfl, (Sz.cmul (n := 10) (m := 2) (Sz.of (by omega) (by omega)) (Sz.of (by omega) (by omega))), ?_⟩
            exact k (size36 * (1 - (2 * r51))) _ _ w54 f55 (by first | exact (sgn_b (by omega) (by omega) (by omega) (by omega)).1 | exact (sgn_b (by omega) (by omega) (by omega) (by omega)).2) (by first | exact (sgn_b (by omega) (by omega) (by omega) (by omega)).1 | exact (sgn_b (by omega) (by omega) (by omega) (by omega)).2)
end
def sp_law_full (K : PySem.W.Frag) : Sp := fun vs H Q E => ∃ (I : Hp) (O : List (Addr × HO)) (source : Addr) (source_s : List V) (base : Int) (precision : Int), vs = [.ref source, .int base, .int precision] ∧ Wd I ((source, .lst source_s) :: O) H ∧ SrcOk I source_s ∧ 2 ≤ base ∧ base ≤ 36 ∧ 3 ≤ precision ∧ precision ≤ 200 ∧ (∀ (r : Int) (source_s' : List V) (H' : Hp), Wd I ((source, .lst source_s') :: O) H' → SrcOk I source_s' → base ^ (precision - 1).toNat ≤ r → r < base ^ precision.toNat → Q (.int r) H')
section
variable {P : Program} {w : World} {K : PySem.W.Frag} {mg : Str → Option Value} {base : Heap}
theorem sc_law_full : FnScope ["source", "base", "precision", "least", "kind", "result", "k"] ["source", "base", "precision"] (defScope s_law_full) := ⟨rfl, rfl, rfl, by decide +kernel, rfl, by decide +kernel, by decide +kernel⟩
theorem b_law_full (T : Txt P K mg w) : Binds K (fdOf K (a_law_full K)) ["source", "base", "precision"] [] := T.f_law_full.bindsN fun _ _ _ _ _ _ us hl => match us, hl with | [_, _, _], _ => rfl
theorem ok_law_full (T : Txt P K mg w) : FnOk P w K mg base CX0 2 (a_law_full K) (fdOf K (a_law_full K)) ["source", "base", "precision"] (sp_law_full K) := by
  refine T.f_law_full.ok sc_law_full (fun vs H Q E h => ?_) (fun cdv A outer s H vs Q E hr h => ?_)
  · obtain ⟨_, _, _, _, _, _, rfl, _, _, _, _, _, _, _⟩ := h
    rfl
  · obtain ⟨I, O, source, source_s, base, precision, rfl, w, f_source, e1, e2, e3, e4, k⟩ := h
    refine ⟨_, PSs.nox (pss_cons (ps_set (i := 3) sc_law_full.nd rfl (Or.inl rfl) (pe_call (ok_law_power T) (hr.mono (by decide)) (by rfl) T.g_law_power T.f_law_power.kp (b_law_power T) .nil pass0 (pa_cons (pv 1) (pa_cons (pe_op op_sub (pv 2) (pe_int)) (pa_nil))))) (pss_cons (ps_set (i := 4) sc_law_full.nd rfl (Or.inl rfl) (pe_call (ok_law_draw T) (hr.mono (by decide)) (by rfl) T.g_law_draw T.f_law_draw.kp (b_law_draw T) .nil pass0 (pa_cons (pv 0) (pa_cons (pe_int) (pa_nil))))) (pss_cons (ps_if (pt_cmpR op_eq (pv 4) (pe_int) (nomark _)) (pss_one (ps_ret (pe_op op_sub (pe_op op_mulW (pv 3) (pv 1)) (pe_int)))) (pss_nil)) (pss_cons (ps_if (pt_cmpR op_eq (pv 4) (pe_int) (nomark _)) (pss_one (ps_ret (pv 3))) (pss_nil)) (pss_cons (ps_if (pt_cmpR op_eq (pv 4) (pe_int) (nomark _)) (pss_one (ps_ret (pe_op op_add (pv 3) (pe_int)))) (pss_nil)) (pss_cons (ps_if (pt_cmpR op_eq (pv 4) (pe_int) (nomark _)) (pss_one (ps_ret (pe_op op_sub (pe_op op_sub (pe_op op_mulW (pv 3) (pv 1)) (pe_int)) (pe_call (ok_law_draw T) (hr.mono (by decide)) (by rfl) T.g_law_draw T.f_law_draw.kp (b_law_draw T) .nil pass0 (pa_cons (pv 0) (pa_cons (pv 1) (pa_nil))))))) (pss_nil)) (pss_cons (ps_if (pt_cmpR op_eq (pv 4) (pe_int) (nomark _)) (pss_one (ps_ret (pe_op op_sub (pe_op op_sub (pe_op op_mulW (pv 3) (pv 1)) (pe_int)) (pe_call (ok_law_power T) (hr.mono (by decide)) (by rfl) T.g_law_power T.f_law_power.kp (b_law_power T) .nil pass0 (pa_cons (pv 1) (pa_cons (pe_call (ok_law_draw T) (hr.mono (by decide)) (by rfl) T.g_law_draw T.f_law_draw.kp (b_law_draw T) .nil pass0 (pa_cons (pv 0) (pa_cons (pe_op op_sub (pv 2) (pe_int)) (pa_nil)))) (pa_nil))))))) (pss_nil)) (pss_cons (ps_set (i := 5) sc_law_full.nd rfl (Or.inl rfl) (pe_op op_add (pe_int) (pe_call (ok_law_draw T) (hr.mono (by decide)) (by rfl) T.g_law_draw T.f_law_draw.kp (b_law_draw T) .nil pass0 (pa_cons (pv 0) (pa_cons (pe_op op_sub (pv 1) (pe_int)) (pa_nil)))))) (pss_cons (ps_for PassesOwn.never rfl (pi_range1 (by rfl) T.n_range (pa_cons (pe_op op_sub (pv 2) (pe_int)) (pa_nil))) (pg_name (i := 6) sc_law_full.nd rfl (Or.inl rfl)) (pss_one (ps_set (i := 5) sc_law_full.nd rfl (Or.inl rfl) (pe_op op_add (pe_op op_mulW (pv 5) (pv 1)) (pe_call (ok_law_draw T) (hr.mono (by decide)) (by rfl) T.g_law_draw T.f_law_draw.kp (b_law_draw T) .nil pass0 (pa_cons (pv 0) (pa_cons (pv 1) (pa_nil)))))))) (pss_one (ps_ret (pv 5)))))))))))), ?_⟩
    refine ⟨_, rfl, _, rfl, _, _, rfl, rfl, base, (precision - 1), rfl, (by omega), (by omega), (by omega), (by omega), fun r1 q2 q3 q4 => ?_⟩
    subst q2
    refine ⟨_, rfl, I, (O), source, (source_s), 6, rfl, w, f_source, (by omega), (by omega), fun r5 xs6 H7 w8 f9 q10 q11 => ?_⟩
    refine ⟨_, rfl, rfl, _, rfl, ?_⟩
    refine iEqI (fun h12 => ?_) (fun h12 => ?_)
    · refine ⟨_, rfl, _, rfl, _, _, rfl, rfl, (Sz.cmul (n := 1200) (m := 7) (Sz.mono (by assumption) (by omega)) (Sz.of (by omega) (by omega))), _, _, rfl, rfl, ?_⟩
      exact k (((base ^ (precision - 1).toNat) * base) - 1) _ _ w8 f9 (by have q1 := fl_p (b := base) (p := precision) (by omega); have q2 := fl_big (b := base) (p := precision) e1 e3; omega) (by have q1 := fl_p (b := base) (p := precision) (by omega); have q2 := fl_big (b := base) (p := precision) e1 e3; omega)
    · refine ⟨_, rfl, rfl, _, rfl, ?_⟩
      refine iEqI (fun h13 => ?_) (fun h13 => ?_)
      · refine ⟨_, rfl, ?_⟩
        exact k (base ^ (precision - 1).toNat) _ _ w8 f9 (by have q1 := fl_p (b := base) (p := precision) (by omega); have q2 := fl_big (b := base) (p := precision) e1 e3; omega) (by have q1 := fl_p (b := base) (p := precision) (by omega); have q2 := fl_big (b := base) (p := precision) e1 e3; omega)
      · refine ⟨_, rfl, rfl, _, rfl, ?_⟩
        refine iEqI (fun h14 => ?_) (fun h14 => ?_)
        · refine ⟨_, rfl, _, _, rfl, rfl, ?_⟩
          exact k ((base ^ (precision - 1).toNat) + 1) _ _ w8 f9 (by have q1 := fl_p (b := base) (p := precision) (by omega); have q2 := fl_big (b := base) (p := precision) e1 e3; omega) (by have q1 := fl_p (b := base) (p := precision) (by omega); have q2 := fl_big (b := base) (p := precision) e1 e3; omega)
        · refine ⟨_, rfl, rfl, _, rfl, ?_⟩
          refine iEqI (fun h15 => ?_) (fun h15 => ?_)
          · refine ⟨_, rfl, _, rfl, _, _, rfl, rfl, (Sz.cmul (n := 1200) (m := 7) (Sz.mono (by assumption) (by omega)) (Sz.of (by omega) (by omega))), _, _, rfl, rfl, _, rfl, _, rfl, I, (O), source, (xs6), base, rfl, w8, f9, (by omega), (by omega), fun r16 xs17 H18 w19 f20 q21 q22 => ?_⟩
            refine ⟨_, _, rfl, rfl, ?_⟩
            exact k ((((base ^ (precision - 1).toNat) * base) - 1) - r16) _ _ w19 f20 (by have q1 := fl_p (b := base) (p := precision) (by omega); have q2 := fl_big (b := base) (p := precision) e1 e3; omega) (by have q1 := fl_p (b := base) (p := precision) (by omega); have q2 := fl_big (b := base) (p := precision) e1 e3; omega)
          · refine ⟨_, rfl, rfl, _, rfl, ?_⟩
            refine iEqI (fun h23 => ?_) (fun h23 => ?_)
            · refine ⟨_, rfl, _, rfl, _, _, rfl, rfl, (Sz.cmul (n := 1200) (m := 7) (Sz.mono (by assumption) (by omega)) (Sz.of (by omega) (by omega))), _, _, rfl, rfl, _, rfl, _, rfl, _, rfl, _, _, rfl, rfl, I, (O), source, (xs6), (precision - 1), rfl, w8, f9, (by omega), (by omega), fun r24 xs25 H26 w27 f28 q29 q30 => ?_⟩
              refine ⟨base, r24, rfl, (by omega), (by omega), (by omega), (by omega), fun r31 q32 q33 q34 => ?_⟩
              subst q32
              refine ⟨_, _, rfl, rfl, ?_⟩
              exact k ((((base ^ (precision - 1).toNat) * base) - 1) - (base ^ r24.toNat)) _ _ w27 f28 (by have q1 := fl_p (b := base) (p := precision) (by omega); have q2 := fl_big (b := base) (p := precision) e1 e3; (have q3 := fl_small (b := base) (p := precision) e1 e3 (by assumption) (by assumption)); omega) (by have q1 := fl_p (b := base) (p := precision) (by omega); have q2 := fl_big (b := base) (p := precision) e1 e3; (have q3 := fl_small (b := base) (p := precision) e1 e3 (by assumption) (by assumption)); omega)
            · refine ⟨_, rfl, _, rfl, _, _, rfl, rfl, I, (O), source, (xs6), (base - 1), rfl, w8, f9, (by omega), (by omega), fun r35 xs36 H37 w38 f39 q40 q41 => ?_⟩
              refine ⟨_, _, rfl, rfl, _, rfl, _, _, rfl, rfl, _, rfl, (by omega), (by omega), for_range (lo := 0) (n := ((precision - 1)).toNat) (fun i46 σ' H' => ∃ (result42 : Int) (o43 : Option V) (xs44 : List V), σ' = [some (V.ref source), some (V.int base), some (V.int precision), some (V.int (base ^ (precision - 1).toNat)), some (V.int r5), some (V.int result42), o43] ∧ Wd I ((source, .lst xs44) :: O) H' ∧ SrcOk I xs44 ∧ base ^ i46 ≤ result42 ∧ result42 < base ^ (i46 + 1)) ⟨(1 + r35), _, _, rfl, w38, f39, (by first | exact full_ge hg e1 (by omega) | (rw [Int.pow_zero]; omega)), (by first | exact full_lt hl (by have q := fl_le (b := base) e1 (i := 0); have q2 := Int.le_trans (Int.le_of_lt (fl_le e1)) hg; exact q2) (by omega) (by omega) | (rw [Int.pow_one]; omega))⟩ ?_ ?_⟩
              · rintro i50 _ H48 hi49 ⟨result42, o43, xs44, rfl, w47, f45, hg, hl⟩
                refine ⟨_, rfl, _, rfl, _, _, rfl, rfl, (Sz.cmul (n := 1321) (m := 7) (fl_sz (Int.le_trans (Int.le_of_lt (fl_le e1)) hg) e1 e2 hl (by omega)) (Sz.of (by omega) (by omega))), _, rfl, _, rfl, I, (O), source, (xs44), base, rfl, w47, f45, (by omega), (by omega), fun r51 xs52 H53 w54 f55 q56 q57 => ?_⟩
                refine ⟨_, _, rfl, rfl, ?_⟩
                exact ⟨((result42 * base) + r51), _, _, rfl, w54, f55, (by first | exact full_ge hg e1 (by omega) | (rw [Int.pow_zero]; omega)), (by first | exact full_lt hl (by have q := fl_le (b := base) e1 (i := 0); have q2 := Int.le_trans (Int.le_of_lt (fl_le e1)) hg; exact q2) (by omega) (by omega) | (rw [Int.pow_one]; omega))⟩
              · rintro _ H58 ⟨result42, o43, xs44, rfl, w47, f45, hg, hl⟩
                refine ⟨_, rfl, ?_⟩
                exact k result42 _ _ w47 f45 (by first | exact hg | (have q : (precision - 1).toNat + 1 = precision.toNat := by omega); rw [← q]; exact hl) (by first | exact hg | (have q : (precision - 1).toNat + 1 = precision.toNat := by omega); rw [← q]; exact hl)
end
def sp_law_value (K : PySem.W.Frag) : Sp := fun vs H Q E => ∃ (I : Hp) (O : List (Addr × HO)) (source : Addr) (source_s : List V) (base : Int) (precision : Int), vs = [.ref source, .int base, .int precision] ∧ Wd I ((source, .lst source_s) :: O) H ∧ SrcOk I source_s ∧ 2 ≤ base ∧ base ≤ 36 ∧ 3 ≤ precision ∧ precision ≤ 40 ∧ (∀ (r : Addr) (r_0 : Int) (r_1 : Int) (source_s' : List V) (I' : Hp) (H' : Hp), Same I I' → Wd I' ((source, .lst source_s') :: O) H' → I' r = some (.tup [.int r_0, .int r_1]) → SrcOk I' source_s' → Num base (-20) 61 2761 r_0 r_1 → r_0.natAbs < (base ^ 40).natAbs → Q (.ref r) H')
section
variable {P : Program} {w : World} {K : PySem.W.Frag} {mg : Str → Option Value} {base : Heap}
theorem sc_law_value : FnScope ["source", "base", "precision", "sign", "digits", "exponent"] ["source", "base", "precision"] (defScope s_law_value) := ⟨rfl, rfl, rfl, by decide +kernel, rfl, by decide +kernel, by decide +kernel⟩
theorem b_law_value (T : Txt P K mg w) : Binds K (fdOf K (a_law_value K)) ["source", "base", "precision"] [] := T.f_law_value.bindsN fun _ _ _ _ _ _ us hl => match us, hl with | [_, _, _], _ => rfl
theorem ok_law_value (T : Txt P K mg w) : FnOk P w K mg base CX0 3 (a_law_value K) (fdOf K (a_law_value K)) ["source", "base", "precision"] (sp_law_value K) := by
  refine T.f_law_value.ok sc_law_value (fun vs H Q E h => ?_) (fun cdv A outer s H vs Q E hr h => ?_)
  · obtain ⟨_, _, _, _, _, _, rfl, _, _, _, _, _, _, _⟩ := h
    rfl
  · obtain ⟨I, O, source, source_s, base, precision, rfl, w, f_source, e1, e2, e3, e4, k⟩ := h
    refine ⟨_, PSs.nox (pss_cons (ps_if (pt_cmpR op_eq (pe_call (ok_law_draw T) (hr.mono (by decide)) (by rfl) T.g_law_draw T.f_law_draw.kp (b_law_draw T) .nil pass0 (pa_cons (pv 0) (pa_cons (pe_int) (pa_nil)))) (pe_int) (nomark _)) (pss_one (ps_ret (pe_tup (pa_cons (pe_int) (pa_cons (pe_int) (pa_nil)))))) (pss_nil)) (pss_cons (ps_set (i := 3) sc_law_value.nd rfl (Or.inl rfl) (pe_op op_sub (pe_int) (pe_op op_mul (pe_int) (pe_call (ok_law_draw T) (hr.mono (by decide)) (by rfl) T.g_law_draw T.f_law_draw.kp (b_law_draw T) .nil pass0 (pa_cons (pv 0) (pa_cons (pe_int) (pa_nil))))))) (pss_cons (ps_set (i := 4) sc_law_value.nd rfl (Or.inl rfl) (pv 2)) (Evl.pss_cut (ps_if (pt_cmpR op_gt (pe_call (ok_law_draw T) (hr.mono (by decide)) (by rfl) T.g_law_draw T.f_law_draw.kp (b_law_draw T) .nil pass0 (pa_cons (pv 0) (pa_cons (pe_int) (pa_nil)))) (pe_int) (nomark _)) (pss_one (ps_set (i := 4) sc_law_value.nd rfl (Or.inl rfl) (pe_op op_add (pe_int) (pe_call (ok_law_draw T) (hr.mono (by decide)) (by rfl) T.g_law_draw T.f_law_draw.kp (b_law_draw T) .nil pass0 (pa_cons (pv 0) (pa_cons (pv 2) (pa_nil))))))) (pss_nil)) (pss_cons (ps_set (i := 5) sc_law_value.nd rfl (Or.inl rfl) (pe_call (ok_law_small T) (hr.mono (by decide)) (by rfl) T.g_law_small T.f_law_small.kp (b_law_small T) .nil pass0 (pa_cons (pv 0) (pa_nil)))) (pss_cons (ps_if (pt_cmpR op_lt (pv 4) (pe_int) (nomark _)) (pss_one (ps_ret (pe_call (ok_law_lowest T) (hr.mono (by decide)) (by rfl) T.g_law_lowest T.f_law_lowest.kp (b_law_lowest T) .nil pass0 (pa_cons (pv 1) (pa_cons (pe_op op_mulW (pv 3) (pe_op op_add (pe_int) (pe_call (ok_law_draw T) (hr.mono (by decide)) (by rfl) T.g_law_draw T.f_law_draw.kp (b_law_draw T) .nil pass0 (pa_cons (pv 0) (pa_cons (pe_op op_sub (pv 1) (pe_int)) (pa_nil)))))) (pa_cons (pv 5) (pa_nil))))))) (pss_nil)) (pss_one (ps_ret (pe_call (ok_law_lowest T) (hr.mono (by decide)) (by rfl) T.g_law_lowest T.f_law_lowest.kp (b_law_lowest T) .nil pass0 (pa_cons (pv 1) (pa_cons (pe_op op_mulW (pv 3) (pe_call (ok_law_full T) (hr.mono (by decide)) (by rfl) T.g_law_full T.f_law_full.kp (b_law_full T) .nil pass0 (pa_cons (pv 0) (pa_cons (pv 1) (pa_cons (pv 4) (pa_nil)))))) (pa_cons (pv 5) (pa_nil))))))))))))), ?_⟩
    refine ⟨_, rfl, I, (O), source, (source_s), 12, rfl, w, f_source, (by omega), (by omega), fun r1 xs2 H3 w4 f5 q6 q7 => ?_⟩
    refine ⟨rfl, _, rfl, ?_⟩
    refine iEqI (fun h8 => ?_) (fun h8 => ?_)
    · refine ⟨(by show 2 ≤ sizeLine; decide), fun p9 hp10 => ?_⟩
      have s11 := w4.newS (o := .tup [(V.int 0), (V.int 0)]) hp10
      have w12 := w4.new (o := .tup [(V.int 0), (V.int 0)]) hp10
      exact k p9 0 0 _ _ _ (s11) w12 upd_same (SrcOk.mono s11 f5) (by first | exact num_zero (by decide) (by decide) | (have q := fl_le (b := base) e1 (i := 40); omega)) (by first | exact num_zero (by decide) (by decide) | (have q := fl_le (b := base) e1 (i := 40); omega))
    · refine ⟨_, rfl, I, (O), source, (xs2), 2, rfl, w4, f5, (by omega), (by omega), fun r13 xs14 H15 w16 f17 q18 q19 => ?_⟩
      refine ⟨_, _, rfl, rfl, .inl ⟨by decide, by decide⟩, _, _, rfl, rfl, _, rfl, ?_⟩
      refine ⟨fun σ' H' => ∃ (digits20 : Int) (xs21 : List V), σ' = [some (V.ref source), some (V.int base), some (V.int precision), some (V.int (1 - (2 * r13))), some (V.int digits20), none] ∧ Wd I ((source, .lst xs21) :: O) H' ∧ SrcOk I xs21 ∧ 1 ≤ digits20 ∧ digits20 ≤ precision, ?_, ?_⟩
      · refine ⟨_, rfl, I, (O), source, (xs14), 3, rfl, w16, f17, (by omega), (by omega), fun r26 xs27 H28 w29 f30 q31 q32 => ?_⟩
        refine ⟨_, _, rfl, rfl, _, rfl, ?_⟩
        refine iD (fun h33 => ?_) (fun h33 => ?_)
        · refine ⟨_, rfl, _, rfl, I, (O), source, (xs27), precision, rfl, w29, f30, (by omega), (by omega), fun r34 xs35 H36 w37 f38 q39 q40 => ?_⟩
          refine ⟨_, _, rfl, rfl, ?_⟩
          exact ⟨(1 + r34), _, rfl, w37, f38, (by omega), (by omega)⟩
        · exact ⟨precision, _, rfl, w29, f30, (by omega), (by omega)⟩
      · rintro σ' H41 ⟨digits20, xs21, rfl, w25, f22, q23, q24⟩
        refine ⟨_, rfl, I, (O), source, (xs21), rfl, w25, f22, fun r42 xs43 H44 w45 f46 q47 q48 => ?_⟩
        refine ⟨_, rfl, _, _, rfl, rfl, _, rfl, ?_⟩
        refine iD (fun h49 => ?_) (fun h49 => ?_)
        · refine ⟨_, rfl, _, rfl, _, rfl, _, rfl, _, _, rfl, rfl, I, (O), source, (xs43), (base - 1), rfl, w45, f46, (by omega), (by omega), fun r50 xs51 H52 w53 f54 q55 q56 => ?_⟩
          refine ⟨_, _, rfl, rfl, _, _, rfl, rfl, (Sz.cmul (n := 2) (m := 7) (Sz.of (by omega) (by omega)) (Sz.of (by omega) (by omega))), _, rfl, I, ((source, .lst xs51) :: O), base, ((1 - (2 * r13)) * (1 + r50)), r42, rfl, w53, (by first | assumption | exact Sz.mono (Sz.mul (n := 2) (m := 7) (Sz.of (by omega) (by omega)) (Sz.of (by omega) (by omega))) (by decide)), (by first | assumption | exact Sz.mono (Sz.mul (n := 2) (m := 7) (Sz.of (by omega) (by omega)) (Sz.of (by omega) (by omega))) (by decide)), (by first | assumption | exact Sz.mono (Sz.mul (n := 2) (m := 7) (Sz.of (by omega) (by omega)) (Sz.of (by omega) (by omega))) (by decide)), fun r57 r57_0 r57_1 I58 H60 s59 w61 f62 q63 => ?_⟩
          exact k r57 r57_0 r57_1 _ _ _ (s59) w61 f62 (SrcOk.mono s59 f54) (by first | exact num_of2 (p := 1) (q := 460) e1 e2 (by assumption) (sgn_abs (digit_abs e1 (by omega) (by omega) (by decide)) (by assumption) (by assumption)).1 (by decide) (by omega) (by omega) (by decide) (by decide) (by omega) (by omega) (by decide) | exact abs_mono e1 (low_abs e1 (by assumption) (sgn_abs (digit_abs (p := 1) e1 (by omega) (by omega) (by decide)) (by assumption) (by assumption)).1) (by decide)) (by first | exact num_of2 (p := 1) (q := 460) e1 e2 (by assumption) (sgn_abs (digit_abs e1 (by omega) (by omega) (by decide)) (by assumption) (by assumption)).1 (by decide) (by omega) (by omega) (by decide) (by decide) (by omega) (by omega) (by decide) | exact abs_mono e1 (low_abs e1 (by assumption) (sgn_abs (digit_abs (p := 1) e1 (by omega) (by omega) (by decide)) (by assumption) (by assumption)).1) (by decide))
        · refine ⟨_, rfl, _, rfl, _, rfl, _, rfl, _, rfl, I, (O), source, (xs43), base, digits20, rfl, w45, f46, (by omega), (by omega), (by omega), (by omega), fun r64 xs65 H66 w67 f68 q69 q70 => ?_⟩
          refine ⟨_, _, rfl, rfl, (Sz.cmul (n := 2) (m := 1321) (Sz.of (by omega) (by omega)) (fl_sz (Int.le_trans (Int.le_of_lt (fl_le e1)) (by assumption)) e1 e2 (by assumption) (by omega))), _, rfl, I, ((source, .lst xs65) :: O), base, ((1 - (2 * r13)) * r64), r42, rfl, w67, (by first | assumption | exact Sz.mono (Sz.mul (n := 2) (m := 1321) (Sz.of (by omega) (by omega)) (fl_sz (Int.le_trans (Int.le_of_lt (fl_le e1)) (by assumption)) e1 e2 (by assumption) (by omega))) (by decide)), (by first | assumption | exact Sz.mono (Sz.mul (n := 2) (m := 1321) (Sz.of (by omega) (by omega)) (fl_sz (Int.le_trans (Int.le_of_lt (fl_le e1)) (by assumption)) e1 e2 (by assumption) (by omega))) (by decide)), (by first | assumption | exact Sz.mono (Sz.mul (n := 2) (m := 1321) (Sz.of (by omega) (by omega)) (fl_sz (Int.le_trans (Int.le_of_lt (fl_le e1)) (by assumption)) e1 e2 (by assumption) (by omega))) (by decide)), fun r71 r71_0 r71_1 I72 H74 s73 w75 f76 q77 => ?_⟩
          exact k r71 r71_0 r71_1 _ _ _ (s73) w75 f76 (SrcOk.mono s73 f68) (by first | exact num_of2 (q := 460) e1 e2 (by assumption) (sgn_abs (full_abs e1 (by assumption) (by assumption)) (by assumption) (by assumption)).1 (by omega) (by omega) (by omega) (by decide) (by decide) (by omega) (by omega) (by decide) | exact abs_mono e1 (low_abs e1 (by assumption) (sgn_abs (full_abs e1 (by assumption) (by assumption)) (by assumption) (by assumption)).1) (by omega)) (by first | exact num_of2 (q := 460) e1 e2 (by assumption) (sgn_abs (full_abs e1 (by assumption) (by assumption)) (by assumption) (by assumption)).1 (by omega) (by omega) (by omega) (by decide) (by decide) (by omega) (by omega) (by decide) | exact abs_mono e1 (low_abs e1 (by assumption) (sgn_abs (full_abs e1 (by assumption) (by assumption)) (by assumption) (by assumption)).1) (by omega))
end
def sp_law_two (K : PySem.W.Frag) : Sp := fun vs H Q E => ∃ (I : Hp) (O : List (Addr × HO)) (source : Addr) (source_s : List V) (base : Int) (precision : Int) (gap : Int), vs = [.ref source, .int base, .int precision, .int gap] ∧ Wd I ((source, .lst source_s) :: O) H ∧ SrcOk I source_s ∧ 2 ≤ base ∧ base ≤ 36 ∧ 3 ≤ precision ∧ precision ≤ 40 ∧ -300 ≤ gap ∧ gap ≤ 300 ∧ (∀ (r : Addr) (r_0 : Addr) (r_0_0 : Int) (r_0_1 : Int) (r_1 : Addr) (r_1_0 : Int) (r_1_1 : Int) (source_s' : List V) (I' : Hp) (H' : Hp), Same I I' → Wd I' ((source, .lst source_s') :: O) H' → I' r = some (.lst [.ref r_0, .ref r_1]) → I' r_0 = some (.tup [.int r_0_0, .int r_0_1]) → I' r_1 = some (.tup [.int r_1_0, .int r_1_1]) → SrcOk I' source_s' → Num base (-20) 361 2761 r_0_0 r_0_1 → Num base (-20) 361 2761 r_1_0 r_1_1 → Q (.ref r) H')
section
variable {P : Program} {w : World} {K : PySem.W.Frag} {mg : Str → Option Value} {base : Heap}
theorem sc_law_two : FnScope ["source", "base", "precision", "gap", "shift", "first", "second"] ["source", "base", "precision", "gap"] (defScope s_law_two) := ⟨rfl, rfl, rfl, by decide +kernel, rfl, by decide +kernel, by decide +kernel⟩
theorem b_law_two (T : Txt P K mg w) : Binds K (fdOf K (a_law_two K)) ["source", "base", "precision", "gap"] [] := T.f_law_two.bindsN fun _ _ _ _ _ _ us hl => match us, hl with | [_, _, _, _], _ => rfl
theorem ok_law_two (T : Txt P K mg w) : FnOk P w K mg base CX0 3 (a_law_two K) (fdOf K (a_law_two K)) ["source", "base", "precision", "gap"] (sp_law_two K) := by
  refine T.f_law_two.ok sc_law_two (fun vs H Q E h => ?_) (fun cdv A outer s H vs Q E hr h => ?_)
  · obtain ⟨_, _, _, _, _, _, _, rfl, _, _, _, _, _, _, _, _, _⟩ := h
    rfl
  · obtain ⟨I, O, source, source_s, base, precision, gap, rfl, w, f_source, e1, e2, e3, e4, e5, e6, k⟩ := h
    refine ⟨_, PSs.nox (pss_cons (ps_set (i := 4) sc_law_two.nd rfl (Or.inl rfl) (pe_call (ok_law_small T) (hr.mono (by decide)) (by rfl) T.g_law_small T.f_law_small.kp (b_law_small T) .nil pass0 (pa_cons (pv 0) (pa_nil)))) (pss_cons (ps_set (i := 5) sc_law_two.nd rfl (Or.inl rfl) (pe_op op_mulW (pe_call (ok_law_full T) (hr.mono (by decide)) (by rfl) T.g_law_full T.f_law_full.kp (b_law_full T) .nil pass0 (pa_cons (pv 0) (pa_cons (pv 1) (pa_cons (pv 2) (pa_nil))))) (pe_op op_sub (pe_int) (pe_op op_mul (pe_int) (pe_call (ok_law_draw T) (hr.mono (by decide)) (by rfl) T.g_law_draw T.f_law_draw.kp (b_law_draw T) .nil pass0 (pa_cons (pv 0) (pa_cons (pe_int) (pa_nil)))))))) (pss_cons (ps_set (i := 6) sc_law_two.nd rfl (Or.inl rfl) (pe_op op_mulW (pe_call (ok_law_full T) (hr.mono (by decide)) (by rfl) T.g_law_full T.f_law_full.kp (b_law_full T) .nil pass0 (pa_cons (pv 0) (pa_cons (pv 1) (pa_cons (pv 2) (pa_nil))))) (pe_op op_sub (pe_int) (pe_op op_mul (pe_int) (pe_call (ok_law_draw T) (hr.mono (by decide)) (by rfl) T.g_law_draw T.f_law_draw.kp (b_law_draw T) .nil pass0 (pa_cons (pv 0) (pa_cons (pe_int) (pa_nil)))))))) (pss_cons (ps_if (pt_cmpR op_ge (pv 3) (pe_int) (nomark _)) (pss_one (ps_ret (pe_lst (pa_cons (pe_call (ok_law_lowest T) (hr.mono (by decide)) (by rfl) T.g_law_lowest T.f_law_lowest.kp (b_law_lowest T) .nil pass0 (pa_cons (pv 1) (pa_cons (pv 5) (pa_cons (pe_op op_add (pv 3) (pv 4)) (pa_nil))))) (pa_cons (pe_call (ok_law_lowest T) (hr.mono (by decide)) (by rfl) T.g_law_lowest T.f_law_lowest.kp (b_law_lowest T) .nil pass0 (pa_cons (pv 1) (pa_cons (pv 6) (pa_cons (pv 4) (pa_nil))))) (pa_nil)))))) (pss_nil)) (pss_one (ps_ret (pe_lst (pa_cons (pe_call (ok_law_lowest T) (hr.mono (by decide)) (by rfl) T.g_law_lowest T.f_law_lowest.kp (b_law_lowest T) .nil pass0 (pa_cons (pv 1) (pa_cons (pv 5) (pa_cons (pv 4) (pa_nil))))) (pa_cons (pe_call (ok_law_lowest T) (hr.mono (by decide)) (by rfl) T.g_law_lowest T.f_law_lowest.kp (b_law_lowest T) .nil pass0 (pa_cons (pv 1) (pa_cons (pv 6) (pa_cons (pe_op op_sub (pv 4) (pv 3)) (pa_nil))))) (pa_nil)))))))))), ?_⟩
    refine ⟨_, rfl, I, (O), source, (source_s), rfl, w, f_source, fun r1 xs2 H3 w4 f5 q6 q7 => ?_⟩
    refine ⟨_, rfl, _, rfl, _, rfl, I, (O), source, (xs2), base, precision, rfl, w4, f5, (by omega), (by omega), (by omega), (by omega), fun r8 xs9 H10 w11 f12 q13 q14 => ?_⟩
    refine ⟨_, rfl, I, (O), source, (xs9), 2, rfl, w11, f12, (by omega), (by omega), fun r15 xs16 H17 w18 f19 q20 q21 => ?_⟩
    refine ⟨_, _, rfl, rfl, .inl ⟨by decide, by decide⟩, _, _, rfl, rfl, _, _, rfl, rfl, (Sz.cmul (n := 1321) (m := 2) (fl_sz (Int.le_trans (Int.le_of_lt (fl_le e1)) (by assumption)) e1 e2 (by assumption) (by omega)) (Sz.of (by omega) (by omega))), _, rfl, _, rfl, _, rfl, I, (O), source, (xs16), base, precision, rfl, w18, f19, (by omega), (by omega), (by omega), (by omega), fun r22 xs23 H24 w25 f26 q27 q28 => ?_⟩
    refine ⟨_, rfl, I, (O), source, (xs23), 2, rfl, w25, f26, (by omega), (by omega), fun r29 xs30 H31 w32 f33 q34 q35 => ?_⟩
    refine ⟨_, _, rfl, rfl, .inl ⟨by decide, by decide⟩, _, _, rfl, rfl, _, _, rfl, rfl, (Sz.cmul (n := 1321) (m := 2) (fl_sz (Int.le_trans (Int.le_of_lt (fl_le e1)) (by assumption)) e1 e2 (by assumption) (by omega)) (Sz.of (by omega) (by omega))), _, rfl, _, _, rfl, rfl, _, rfl, ?_⟩
    refine iD (fun h36 => ?_) (fun h36 => ?_)
    · refine ⟨_, rfl, _, rfl, _, rfl, _, rfl, _, _, rfl, rfl, I, ((source, .lst xs30) :: O), base, (r8 * (1 - (2 * r15))), (gap + r1), rfl, w32, (by first | assumption | exact Sz.mono (Sz.mul (n := 1321) (m := 2) (fl_sz (Int.le_trans (Int.le_of_lt (fl_le e1)) (by assumption)) e1 e2 (by assumption) (by omega)) (Sz.of (by omega) (by omega))) (by decide)), (by first | assumption | exact Sz.mono (Sz.mul (n := 1321) (m := 2) (fl_sz (Int.le_trans (Int.le_of_lt (fl_le e1)) (by assumption)) e1 e2 (by assumption) (by omega)) (Sz.of (by omega) (by omega))) (by decide)), (by first | assumption | exact Sz.mono (Sz.mul (n := 1321) (m := 2) (fl_sz (Int.le_trans (Int.le_of_lt (fl_le e1)) (by assumption)) e1 e2 (by assumption) (by omega)) (Sz.of (by omega) (by omega))) (by decide)), fun r37 r37_0 r37_1 I38 H40 s39 w41 f42 q43 => ?_⟩
      refine ⟨_, rfl, _, rfl, _, rfl, I38, ((source, .lst xs30) :: O), base, (r22 * (1 - (2 * r29))), r1, rfl, w41, (by first | assumption | exact Sz.mono (Sz.mul (n := 1321) (m := 2) (fl_sz (Int.le_trans (Int.le_of_lt (fl_le e1)) (by assumption)) e1 e2 (by assumption) (by omega)) (Sz.of (by omega) (by omega))) (by decide)), (by first | assumption | exact Sz.mono (Sz.mul (n := 1321) (m := 2) (fl_sz (Int.le_trans (Int.le_of_lt (fl_le e1)) (by assumption)) e1 e2 (by assumption) (by omega)) (Sz.of (by omega) (by omega))) (by decide)), (by first | assumption | exact Sz.mono (Sz.mul (n := 1321) (m := 2) (fl_sz (Int.le_trans (Int.le_of_lt (fl_le e1)) (by assumption)) e1 e2 (by assumption) (by omega)) (Sz.of (by omega) (by omega))) (by decide)), fun r44 r44_0 r44_1 I45 H47 s46 w48 f49 q50 => ?_⟩
      refine ⟨(by show 2 ≤ sizeLine; decide), fun p51 hp52 => ?_⟩
      have s53 := w48.newS (o := .lst [(V.ref r37), (V.ref r44)]) hp52
      have w54 := w48.new (o := .lst [(V.ref r37), (V.ref r44)]) hp52
      exact k p51 r37 r37_0 r37_1 r44 r44_0 r44_1 _ _ _ ((Same.trans (Same.trans s39 s46) s53)) w54 upd_same ((Same.trans s46 s53) _ _ f42) (s53 _ _ f49) (SrcOk.mono (Same.trans (Same.trans s39 s46) s53) f33) (by exact num_of2 (q := 460) e1 e2 (by assumption) (sgn_abs (full_abs e1 (by assumption) (by assumption)) (by assumption) (by assumption)).2 (by omega) (by omega) (by omega) (by decide) (by decide) (by omega) (by omega) (by decide)) (by exact num_of2 (q := 460) e1 e2 (by assumption) (sgn_abs (full_abs e1 (by assumption) (by assumption)) (by assumption) (by assumption)).2 (by omega) (by omega) (by omega) (by decide) (by decide) (by omega) (by omega) (by decide))
    · refine ⟨_, rfl, _, rfl, _, rfl, I, ((source, .lst xs30) :: O), base, (r8 * (1 - (2 * r15))), r1, rfl, w32, (by first | assumption | exact Sz.mono (Sz.mul (n := 1321) (m := 2) (fl_sz (Int.le_trans (Int.le_of_lt (fl_le e1)) (by assumption)) e1 e2 (by assumption) (by omega)) (Sz.of (by omega) (by omega))) (by decide)), (by first | assumption | exact Sz.mono (Sz.mul (n := 1321) (m := 2) (fl_sz (Int.le_trans (Int.le_of_lt (fl_le e1)) (by assumption)) e1 e2 (by assumption) (by omega)) (Sz.of (by omega) (by omega))) (by decide)), (by first | assumption | exact Sz.mono (Sz.mul (n := 1321) (m := 2) (fl_sz (Int.le_trans (Int.le_of_lt (fl_le e1)) (by assumption)) e1 e2 (by assumption) (by omega)) (Sz.of (by omega) (by omega))) (by decide)), fun r55 r55_0 r55_1 I56 H58 s57 w59 f60 q61 => ?_⟩
      refine ⟨_, rfl, _, rfl, _, rfl, _, rfl, _, _, rfl, rfl, I56, ((source, .lst xs30) :: O), base, (r22 * (1 - (2 * r29))), (r1 - gap), rfl, w59, (by first | assumption | exact Sz.mono (Sz.mul (n := 1321) (m := 2) (fl_sz (Int.le_trans (Int.le_of_lt (fl_le e1)) (by assumption)) e1 e2 (by assumption) (by omega)) (Sz.of (by omega) (by omega))) (by decide)), (by first | assumption | exact Sz.mono (Sz.mul (n := 1321) (m := 2) (fl_sz (Int.le_trans (Int.le_of_lt (fl_le e1)) (by assumption)) e1 e2 (by assumption) (by omega)) (Sz.of (by omega) (by omega))) (by decide)), (by first | assumption | exact Sz.mono (Sz.mul (n := 1321) (m := 2) (fl_sz (Int.le_trans (Int.le_of_lt (fl_le e1)) (by assumption)) e1 e2 (by assumption) (by omega)) (Sz.of (by omega) (by omega))) (by decide)), fun r62 r62_0 r62_1 I63 H65 s64 w66 f67 q68 => ?_⟩
      refine ⟨(by show 2 ≤ sizeLine; decide), fun p69 hp70 => ?_⟩
      have s71 := w66.newS (o := .lst [(V.ref r55), (V.ref r62)]) hp70
      have w72 := w66.new (o := .lst [(V.ref r55), (V.ref r62)]) hp70
      exact k p69 r55 r55_0 r55_1 r62 r62_0 r62_1 _ _ _ ((Same.trans (Same.trans s57 s64) s71)) w72 upd_same ((Same.trans s64 s71) _ _ f60) (s71 _ _ f67) (SrcOk.mono (Same.trans (Same.trans s57 s64) s71) f33) (by exact num_of2 (q := 460) e1 e2 (by assumption) (sgn_abs (full_abs e1 (by assumption) (by assumption)) (by assumption) (by assumption)).2 (by omega) (by omega) (by omega) (by decide) (by decide) (by omega) (by omega) (by decide)) (by exact num_of2 (q := 460) e1 e2 (by assumption) (sgn_abs (full_abs e1 (by assumption) (by assumption)) (by assumption) (by assumption)).2 (by omega) (by omega) (by omega) (by decide) (by decide) (by omega) (by omega) (by decide))
end
def sp_law_make (K : PySem.W.Frag) : Sp := fun vs H Q E => ∃ (I : Hp) (O : List (Addr × HO)) (base : Int) (x : Addr) (x_0 : Int) (x_1 : Int), vs = [.int base, .ref x] ∧ Wd I (O) H ∧ I x = some (.tup [.int x_0, .int x_1]) ∧ 2 ≤ base ∧ base ≤ 36 ∧ Sz 8000 x_0 ∧ Low base x_0 x_1 x_0 x_1 ∧ (∀ (r : Addr) (r_d : Addr) (I' : Hp) (H' : Hp), Same I I' → Wd I' (O) H' → I' r = some (.ins (He.ga K "Exact") r_d (fs_Exact (.int (base)) (.int (x_0)) (.int (x_1)))) → Nf (base) (x_0) (x_1) → Q (.ref r) H')
section
variable {P : Program} {w : World} {K : PySem.W.Frag} {mg : Str → Option Value} {base : Heap}
theorem sc_law_make : FnScope ["base", "x"] ["base", "x"] (defScope s_law_make) := ⟨rfl, rfl, rfl, by decide +kernel, rfl, by decide +kernel, by decide +kernel⟩
theorem b_law_make (T : Txt P K mg w) : Binds K (fdOf K (a_law_make K)) ["base", "x"] [] := T.f_law_make.bindsN fun _ _ _ _ _ _ us hl => match us, hl with | [_, _], _ => rfl
theorem ok_law_make (T : Txt P K mg w) : FnOk P w K mg base CX0 5 (a_law_make K) (fdOf K (a_law_make K)) ["base", "x"] (sp_law_make K) := by
  refine T.f_law_make.ok sc_law_make (fun vs H Q E h => ?_) (fun cdv A outer s H vs Q E hr h => ?_)
  · obtain ⟨_, _, _, _, _, _, rfl, _, _, _, _, _, _, _⟩ := h
    rfl
  · obtain ⟨I, O, base, x, x_0, x_1, rfl, w, f_x, e1, e2, e3, e4, k⟩ := h
    refine ⟨_, PSs.nox (pss_one (ps_ret (pe_make T.mk_Exact (ok_Exact_init T) (hr.mono (by decide)) (by rfl) T.g_Exact (bd_Exact_init_4 T).choose_spec.2 ((bd_Exact_init_4 T).choose_spec.1) pass0 (pa_cons (pv 0) (pa_cons (pe_ix ix_tup (pv 1) (pe_int) (fun _ _ => rfl)) (pa_cons (pe_ix ix_tup (pv 1) (pe_int) (fun _ _ => rfl)) (pa_nil))))))), ?_⟩
    refine ⟨_, rfl, _, rfl, _, _, _, _, rfl, rfl, (SqT.of (w.get f_x)), rfl, _, rfl, _, _, _, _, rfl, rfl, (SqT.of (w.get f_x)), rfl, fun x1 dx2 hx3 hd4 ne5 => ?_⟩
    have w6 := w.make (C := He.ga K "Exact") hx3 hd4 ne5
    refine ⟨I, (O), x1, _, base, x_0, x_1, rfl, w6, (by omega), (by omega), (by omega), fun y8 y9 I10 H12 s11 w13 q14 => ?_⟩
    refine ⟨rfl, ?_⟩
    have s15 := w13.freezeS
    have w16 := w13.freeze
    have q17 := low_unique (b := base) e1 (by assumption : Low base x_0 x_1 y8 y9) e4
    obtain ⟨q17a, q17b⟩ := q17
    exact k x1 dx2 _ _ ((Same.trans s11 s15)) w16 (by rw [← q17a, ← q17b]; exact upd_same) (by rw [← q17a, ← q17b]; exact low_nf e1 e2 (by assumption))
end
def sp_law_negative (K : PySem.W.Frag) : Sp := fun vs H Q E => ∃ (I : Hp) (O : List (Addr × HO)) (x : Addr) (x_0 : Int) (x_1 : Int), vs = [.ref x] ∧ Wd I (O) H ∧ I x = some (.tup [.int x_0, .int x_1]) ∧ (∀ (r : Addr) (I' : Hp) (H' : Hp), Same I I' → Wd I' (O) H' → I' r = some (.tup [.int (0 - x_0), .int (x_1)]) → Q (.ref r) H')
section
variable {P : Program} {w : World} {K : PySem.W.Frag} {mg : Str → Option Value} {base : Heap}
theorem sc_law_negative : FnScope ["x"] ["x"] (defScope s_law_negative) := ⟨rfl, rfl, rfl, by decide +kernel, rfl, by decide +kernel, by decide +kernel⟩
theorem b_law_negative (T : Txt P K mg w) : Binds K (fdOf K (a_law_negative K)) ["x"] [] := T.f_law_negative.bindsN fun _ _ _ _ _ _ us hl => match us, hl with | [_], _ => rfl
theorem ok_law_negative (T : Txt P K mg w) : FnOk P w K mg base CX0 1 (a_law_negative K) (fdOf K (a_law_negative K)) ["x"] (sp_law_negative K) := by
  refine T.f_law_negative.ok sc_law_negative (fun vs H Q E h => ?_) (fun cdv A outer s H vs Q E hr h => ?_)
  · obtain ⟨_, _, _, _, _, rfl, _, _, _⟩ := h
    rfl
  · obtain ⟨I, O, x, x_0, x_1, rfl, w, f_x, k⟩ := h
    refine ⟨_, PSs.nox (pss_one (ps_ret (pe_tup (pa_cons (pe_op op_sub (pe_int) (pe_ix ix_tup (pv 0) (pe_int) (fun _ _ => rfl))) (pa_cons (pe_ix ix_tup (pv 0) (pe_int) (fun _ _ => rfl)) (pa_nil)))))), ?_⟩
    refine ⟨_, rfl, _, _, _, _, rfl, rfl, (SqT.of (w.get f_x)), rfl, _, _, rfl, rfl, _, rfl, _, _, _, _, rfl, rfl, (SqT.of (w.get f_x)), rfl, (by show 2 ≤ sizeLine; decide), fun p1 hp2 => ?_⟩
    have s3 := w.newS (o := .tup [(V.int (0 - x_0)), (V.int x_1)]) hp2
    have w4 := w.new (o := .tup [(V.int (0 - x_0)), (V.int x_1)]) hp2
    exact k p1 _ _ (s3) w4 upd_same
end
def sp_law_integer (K : PySem.W.Frag) : Sp := fun vs H Q E => ∃ (I : Hp) (O : List (Addr × HO)) (source : Addr) (source_s : List V) (base : Int), vs = [.ref source, .int base] ∧ Wd I ((source, .lst source_s) :: O) H ∧ SrcOk I source_s ∧ 2 ≤ base ∧ base ≤ 36 ∧ (∀ (r : Int) (source_s' : List V) (H' : Hp), Wd I ((source, .lst source_s') :: O) H' → SrcOk I source_s' → r.natAbs < (base ^ 40).natAbs → Q (.int r) H')
section
variable {P : Program} {w : World} {K : PySem.W.Frag} {mg : Str → Option Value} {base : Heap}
theorem sc_law_integer : FnScope ["source", "base", "kind", "value", "k"] ["source", "base"] (defScope s_law_integer) := ⟨rfl, rfl, rfl, by decide +kernel, rfl, by decide +kernel, by decide +kernel⟩
theorem b_law_integer (T : Txt P K mg w) : Binds K (fdOf K (a_law_integer K)) ["source", "base"] [] := T.f_law_integer.bindsN fun _ _ _ _ _ _ us hl => match us, hl with | [_, _], _ => rfl
theorem ok_law_integer (T : Txt P K mg w) : FnOk P w K mg base CX0 2 (a_law_integer K) (fdOf K (a_law_integer K)) ["source", "base"] (sp_law_integer K) := by
  refine T.f_law_integer.ok sc_law_integer (fun vs H Q E h => ?_) (fun cdv A outer s H vs Q E hr h => ?_)
  · obtain ⟨_, _, _, _, _, rfl, _, _, _, _, _⟩ := h
    rfl
  · obtain ⟨I, O, source, source_s, base, rfl, w, f_source, e1, e2, k⟩ := h
    refine ⟨_, PSs.nox (pss_cons (ps_set (i := 2) sc_law_integer.nd rfl (Or.inl rfl) (pe_call (ok_law_draw T) (hr.mono (by decide)) (by rfl) T.g_law_draw T.f_law_draw.kp (b_law_draw T) .nil pass0 (pa_cons (pv 0) (pa_cons (pe_int) (pa_nil))))) (pss_cons (ps_set (i := 3) sc_law_integer.nd rfl (Or.inl rfl) (pe_call (ok_law_draw T) (hr.mono (by decide)) (by rfl) T.g_law_draw T.f_law_draw.kp (b_law_draw T) .nil pass0 (pa_cons (pv 0) (pa_cons (pe_int) (pa_nil))))) (Evl.pss_cut (ps_if (pt_cmpR op_gt (pv 2) (pe_int) (nomark _)) (pss_one (ps_for PassesOwn.never rfl (pi_range1 (by rfl) T.n_range (pa_cons (pe_call (ok_law_draw T) (hr.mono (by decide)) (by rfl) T.g_law_draw T.f_law_draw.kp (b_law_draw T) .nil pass0 (pa_cons (pv 0) (pa_cons (pe_int) (pa_nil)))) (pa_nil))) (pg_name (i := 4) sc_law_integer.nd rfl (Or.inl rfl)) (pss_one (ps_set (i := 3) sc_law_integer.nd rfl (Or.inl rfl) (pe_op op_add (pe_op op_mulW (pv 3) (pv 1)) (pe_call (ok_law_draw T) (hr.mono (by decide)) (by rfl) T.g_law_draw T.f_law_draw.kp (b_law_draw T) .nil pass0 (pa_cons (pv 0) (pa_cons (pv 1) (pa_nil))))))))) (pss_nil)) (Evl.pss_cut (ps_if (pt_cmpR op_eq (pv 2) (pe_int) (nomark _)) (pss_one (ps_set (i := 3) sc_law_integer.nd rfl (Or.inl rfl) (pe_op op_mulW (pv 3) (pe_call (ok_law_power T) (hr.mono (by decide)) (by rfl) T.g_law_power T.f_law_power.kp (b_law_power T) .nil pass0 (pa_cons (pv 1) (pa_cons (pe_call (ok_law_draw T) (hr.mono (by decide)) (by rfl) T.g_law_draw T.f_law_draw.kp (b_law_draw T) .nil pass0 (pa_cons (pv 0) (pa_cons (pe_int) (pa_nil)))) (pa_nil))))))) (pss_nil)) (pss_one (ps_ret (pe_op op_mulW (pv 3) (pe_op op_sub (pe_int) (pe_op op_mul (pe_int) (pe_call (ok_law_draw T) (hr.mono (by decide)) (by rfl) T.g_law_draw T.f_law_draw.kp (b_law_draw T) .nil pass0 (pa_cons (pv 0) (pa_cons (pe_int) (pa_nil))))))))))))), ?_⟩
    refine ⟨_, rfl, I, (O), source, (source_s), 4, rfl, w, f_source, (by omega), (by omega), fun r1 xs2 H3 w4 f5 q6 q7 => ?_⟩
    refine ⟨_, rfl, I, (O), source, (xs2), 13, rfl, w4, f5, (by omega), (by omega), fun r8 xs9 H10 w11 f12 q13 q14 => ?_⟩
    refine ⟨fun σ' H' => ∃ (value15 : Int) (o16 : Option V) (xs17 : List V), σ' = [some (V.ref source), some (V.int base), some (V.int r1), some (V.int value15), o16] ∧ Wd I ((source, .lst xs17) :: O) H' ∧ SrcOk I xs17 ∧ 0 ≤ value15 ∧ value15 < base ^ 34, ?_, ?_⟩
    · refine ⟨_, rfl, _, _, rfl, rfl, _, rfl, ?_⟩
      refine iD (fun h21 => ?_) (fun h21 => ?_)
      · refine ⟨_, rfl, I, (O), source, (xs9), 30, rfl, w11, f12, (by omega), (by omega), fun r22 xs23 H24 w25 f26 q27 q28 => ?_⟩
        refine ⟨_, rfl, (by omega), (by omega), for_range (lo := 0) (n := (r22).toNat) (fun i33 σ' H' => ∃ (value29 : Int) (o30 : Option V) (xs31 : List V), σ' = [some (V.ref source), some (V.int base), some (V.int r1), some (V.int value29), o30] ∧ Wd I ((source, .lst xs31) :: O) H' ∧ SrcOk I xs31 ∧ 0 ≤ value29 ∧ value29 < base ^ (4 + i33)) ⟨r8, _, _, rfl, w25, f26, (by first | omega | exact Int.add_nonneg (Int.mul_nonneg h0 (by omega)) (by assumption)), (by first | exact int_step hl h0 (by assumption) (by assumption) | exact int_start e1 (by assumption))⟩ ?_ ?_⟩
        · rintro i37 _ H35 hi36 ⟨value29, o30, xs31, rfl, w34, f32, h0, hl⟩
          refine ⟨_, rfl, _, rfl, _, _, rfl, rfl, (Sz.cmul (n := 1321) (m := 7) (fl_sz h0 e1 e2 hl (by omega)) (Sz.of (by omega) (by omega))), _, rfl, _, rfl, I, (O), source, (xs31), base, rfl, w34, f32, (by omega), (by omega), fun r38 xs39 H40 w41 f42 q43 q44 => ?_⟩
          refine ⟨_, _, rfl, rfl, ?_⟩
          exact ⟨((value29 * base) + r38), _, _, rfl, w41, f42, (by first | omega | exact Int.add_nonneg (Int.mul_nonneg h0 (by omega)) (by assumption)), (by first | exact int_step hl h0 (by assumption) (by assumption) | exact int_start e1 (by assumption))⟩
        · rintro _ H45 ⟨value29, o30, xs31, rfl, w34, f32, h0, hl⟩
          exact ⟨value29, _, _, rfl, w34, f32, (by omega), (by first | exact pow_mono e1 hl (by omega) | exact pow_mono e1 (int_start e1 (by assumption)) (by decide))⟩
      · exact ⟨r8, _, _, rfl, w11, f12, (by omega), (by first | exact pow_mono e1 hl (by omega) | exact pow_mono e1 (int_start e1 (by assumption)) (by decide))⟩
    · rintro σ' H46 ⟨value15, o16, xs17, rfl, w20, f18, q19, hv⟩
      refine ⟨fun σ' H' => ∃ (value47 : Int) (xs48 : List V), σ' = [some (V.ref source), some (V.int base), some (V.int r1), some (V.int value47), o16] ∧ Wd I ((source, .lst xs48) :: O) H' ∧ SrcOk I xs48 ∧ 0 ≤ value47 ∧ value47 < base ^ 40, ?_, ?_⟩
      · refine ⟨_, rfl, rfl, _, rfl, ?_⟩
        refine iEqI (fun h52 => ?_) (fun h52 => ?_)
        · refine ⟨_, rfl, _, rfl, _, rfl, I, (O), source, (xs17), 6, rfl, w20, f18, (by omega), (by omega), fun r53 xs54 H55 w56 f57 q58 q59 => ?_⟩
          refine ⟨base, r53, rfl, (by omega), (by omega), (by omega), (by omega), fun r60 q61 q62 q63 => ?_⟩
          subst q61
          refine ⟨_, _, rfl, rfl, (Sz.cmul (n := 1321) (m := 40) (fl_sz (by assumption) e1 e2 hv (by decide)) (Sz.mono (by assumption) (by omega))), ?_⟩
          exact ⟨(value15 * (base ^ r53.toNat)), _, rfl, w56, f57, (by first | assumption | exact (int_mul e1 (by assumption) hv (by omega)).1), (by first | exact (int_mul e1 (by assumption) hv (by omega)).2 | exact pow_mono e1 hv (by decide))⟩
        · exact ⟨value15, _, rfl, w20, f18, (by first | assumption | exact (int_mul e1 (by assumption) hv (by omega)).1), (by first | exact (int_mul e1 (by assumption) hv (by omega)).2 | exact pow_mono e1 hv (by decide))⟩
      · rintro σ' H64 ⟨value47, xs48, rfl, w51, f49, q50, hv2⟩
        refine ⟨_, rfl, _, rfl, I, (O), source, (xs48), 2, rfl, w51, f49, (by omega), (by omega), fun r65 xs66 H67 w68 f69 q70 q71 => ?_⟩
        refine ⟨_, _, rfl, rfl, .inl ⟨by decide, by decide⟩, _, _, rfl, rfl, _, _, rfl, rfl, (Sz.cmul (n := 1321) (m := 2) (fl_sz (by assumption) e1 e2 hv2 (by decide)) (Sz.of (by omega) (by omega))), ?_⟩
        exact k (value47 * (1 - (2 * r65))) _ _ w68 f69 (by exact (sgn_abs (pos_abs (by assumption) hv2) (by assumption) (by assumption)).2)
end
def sp_Exact_radd_int (K : PySem.W.Frag) : Sp := fun vs H Q E => ∃ (I : Hp) (O : List (Addr × HO)) (self : Addr) (self_d : Addr) (self_base : Int) (self_coefficient : Int) (self_exponent : Int) (other : Int), vs = [.ref self, .int other] ∧ Wd I (O) H ∧ I self = some (.ins (He.ga K "Exact") self_d (fs_Exact (.int self_base) (.int self_coefficient) (.int self_exponent))) ∧ Nf self_base self_coefficient self_exponent ∧ Sz 8000 other ∧ (∀ c2 e2, Low self_base other 0 c2 e2 → AlS 7900 self_base c2 e2 self_coefficient self_exponent) ∧ (∀ (r : Addr) (r_d : Addr) (r_coefficient : Int) (r_exponent : Int) (I' : Hp) (H' : Hp), Same I I' → Wd I' (O) H' → I' r = some (.ins (He.ga K "Exact") r_d (fs_Exact (.int (self_base)) (.int r_coefficient) (.int r_exponent))) → Nf (self_base) r_coefficient r_exponent → (∃ c2 e2, Low self_base other 0 c2 e2 ∧ Cb self_base c2 e2 self_coefficient self_exponent 1 r_coefficient r_exponent) → Q (.ref r) H')
section
variable {P : Program} {w : World} {K : PySem.W.Frag} {mg : Str → Option Value} {base : Heap}
theorem sc_Exact_radd_int : FnScope ["self", "other"] ["self", "other"] (defScope s_Exact_radd) := ⟨rfl, rfl, rfl, by decide +kernel, rfl, by decide +kernel, by decide +kernel⟩
theorem b_Exact_radd_int (T : Txt P K mg w) : Binds K (fdOf K (a_Exact_radd K)) ["self", "other"] [] := T.f_Exact_radd.bindsN fun _ _ _ _ _ _ us hl => match us, hl with | [_, _], _ => rfl
theorem ok_Exact_radd_int (T : Txt P K mg w) : FnOk P w K mg base CX0 6 (a_Exact_radd K) (fdOf K (a_Exact_radd K)) ["self", "other"] (sp_Exact_radd_int K) := by
  refine T.f_Exact_radd.ok sc_Exact_radd_int (fun vs H Q E h => ?_) (fun cdv A outer s H vs Q E hr h => ?_)
  · obtain ⟨_, _, _, _, _, _, _, _, rfl, _, _, _, _, _, _⟩ := h
    rfl
  · obtain ⟨I, O, self, self_d, self_base, self_coefficient, self_exponent, other, rfl, w, f_self, f_self1, e1, e2, k⟩ := h
    obtain ⟨b0_self, b1_self, l0_self⟩ := id f_self1
    refine ⟨_, PSs.nox (pss_one (ps_ret (pe_call (ok_combined T) (hr.mono (by decide)) (by rfl) T.g_combined T.f_combined.kp (b_combined T) .nil pass0 (pa_cons (pe_call (ok_taken_int T) (hr.mono (by decide)) (by rfl) T.g_taken T.f_taken.kp (b_taken_int T) .nil pass0 (pa_cons (pv 0) (pa_cons (pv 1) (pa_nil)))) (pa_cons (pv 0) (pa_cons (pe_int) (pa_nil))))))), ?_⟩
    refine ⟨_, rfl, _, rfl, I, (O), self, self_d, self_base, self_coefficient, self_exponent, other, rfl, w, f_self, (by first | assumption | exact num_nf (by assumption) (by assumption) (by assumption) | exact low_nf (by omega) (by omega) (by assumption)), (by first | assumption | omega | decide | exact .inl rfl | exact .inr rfl | rfl | exact e2 _ _ (by assumption) | exact ⟨_, _, by assumption, by assumption⟩ | exact Sz.mono e1 (by decide) | exact low_sz (by omega) (by assumption) e1), fun r1 r1_d r1_coefficient r1_exponent I2 H4 s3 w5 f6 f7 q8 => ?_⟩
    refine ⟨_, rfl, I2, (O), r1, r1_d, self_base, r1_coefficient, r1_exponent, self, self_d, self_base, self_coefficient, self_exponent, 1, rfl, w5, f6, (by first | assumption | exact num_nf (by assumption) (by assumption) (by assumption) | exact low_nf (by omega) (by omega) (by assumption)), (s3 _ _ f_self), (by first | assumption | exact num_nf (by assumption) (by assumption) (by assumption) | exact low_nf (by omega) (by omega) (by assumption)), (by first | assumption | omega | decide | exact .inl rfl | exact .inr rfl | rfl | exact e2 _ _ (by assumption) | exact ⟨_, _, by assumption, by assumption⟩ | exact Sz.mono e1 (by decide) | exact low_sz (by omega) (by assumption) e1), (by first | assumption | omega | decide | exact .inl rfl | exact .inr rfl | rfl | exact e2 _ _ (by assumption) | exact ⟨_, _, by assumption, by assumption⟩ | exact Sz.mono e1 (by decide) | exact low_sz (by omega) (by assumption) e1), (by first | assumption | omega | decide | exact .inl rfl | exact .inr rfl | rfl | exact e2 _ _ (by assumption) | exact ⟨_, _, by assumption, by assumption⟩ | exact Sz.mono e1 (by decide) | exact low_sz (by omega) (by assumption) e1), fun r9 r9_d r9_coefficient r9_exponent I10 H12 s11 w13 f14 f15 q16 => ?_⟩
    exact k r9 r9_d r9_coefficient r9_exponent _ _ ((Same.trans s3 s11)) w13 f14 (by first | assumption | exact num_nf (by assumption) (by assumption) (by assumption) | exact low_nf (by omega) (by omega) (by assumption)) (by first | assumption | omega | decide | exact .inl rfl | exact .inr rfl | rfl | exact e2 _ _ (by assumption) | exact ⟨_, _, by assumption, by assumption⟩ | exact Sz.mono e1 (by decide) | exact low_sz (by omega) (by assumption) e1)
end
def sp_Exact_rsub_int (K : PySem.W.Frag) : Sp := fun vs H Q E => ∃ (I : Hp) (O : List (Addr × HO)) (self : Addr) (self_d : Addr) (self_base : Int) (self_coefficient : Int) (self_exponent : Int) (other : Int), vs = [.ref self, .int other] ∧ Wd I (O) H ∧ I self = some (.ins (He.ga K "Exact") self_d (fs_Exact (.int self_base) (.int self_coefficient) (.int self_exponent))) ∧ Nf self_base self_coefficient self_exponent ∧ Sz 8000 other ∧ (∀ c2 e2, Low self_base other 0 c2 e2 → AlS 7900 self_base c2 e2 self_coefficient self_exponent) ∧ (∀ (r : Addr) (r_d : Addr) (r_coefficient : Int) (r_exponent : Int) (I' : Hp) (H' : Hp), Same I I' → Wd I' (O) H' → I' r = some (.ins (He.ga K "Exact") r_d (fs_Exact (.int (self_base)) (.int r_coefficient) (.int r_exponent))) → Nf (self_base) r_coefficient r_exponent → (∃ c2 e2, Low self_base other 0 c2 e2 ∧ Cb self_base c2 e2 self_coefficient self_exponent (-1) r_coefficient r_exponent) → Q (.ref r) H')
section
variable {P : Program} {w : World} {K : PySem.W.Frag} {mg : Str → Option Value} {base : Heap}
theorem sc_Exact_rsub_int : FnScope ["self", "other"] ["self", "other"] (defScope s_Exact_rsub) := ⟨rfl, rfl, rfl, by decide +kernel, rfl, by decide +kernel, by decide +kernel⟩
theorem b_Exact_rsub_int (T : Txt P K mg w) : Binds K (fdOf K (a_Exact_rsub K)) ["self", "other"] [] := T.f_Exact_rsub.bindsN fun _ _ _ _ _ _ us hl => match us, hl with | [_, _], _ => rfl
theorem ok_Exact_rsub_int (T : Txt P K mg w) : FnOk P w K mg base CX0 6 (a_Exact_rsub K) (fdOf K (a_Exact_rsub K)) ["self", "other"] (sp_Exact_rsub_int K) := by
  refine T.f_Exact_rsub.ok sc_Exact_rsub_int (fun vs H Q E h => ?_) (fun cdv A outer s H vs Q E hr h => ?_)
  · obtain ⟨_, _, _, _, _, _, _, _, rfl, _, _, _, _, _, _⟩ := h
    rfl
  · obtain ⟨I, O, self, self_d, self_base, self_coefficient, self_exponent, other, rfl, w, f_self, f_self1, e1, e2, k⟩ := h
    obtain ⟨b0_self, b1_self, l0_self⟩ := id f_self1
    refine ⟨_, PSs.nox (pss_one (ps_ret (pe_call (ok_combined T) (hr.mono (by decide)) (by rfl) T.g_combined T.f_combined.kp (b_combined T) .nil pass0 (pa_cons (pe_call (ok_taken_int T) (hr.mono (by decide)) (by rfl) T.g_taken T.f_taken.kp (b_taken_int T) .nil pass0 (pa_cons (pv 0) (pa_cons (pv 1) (pa_nil)))) (pa_cons (pv 0) (pa_cons (pe_un un_neg (pe_int)) (pa_nil))))))), ?_⟩
    refine ⟨_, rfl, _, rfl, I, (O), self, self_d, self_base, self_coefficient, self_exponent, other, rfl, w, f_self, (by first | assumption | exact num_nf (by assumption) (by assumption) (by assumption) | exact low_nf (by omega) (by omega) (by assumption)), (by first | assumption | omega | decide | exact .inl rfl | exact .inr rfl | rfl | exact e2 _ _ (by assumption) | exact ⟨_, _, by assumption, by assumption⟩ | exact Sz.mono e1 (by decide) | exact low_sz (by omega) (by assumption) e1), fun r1 r1_d r1_coefficient r1_exponent I2 H4 s3 w5 f6 f7 q8 => ?_⟩
    refine ⟨_, rfl, _, rfl, I2, (O), r1, r1_d, self_base, r1_coefficient, r1_exponent, self, self_d, self_base, self_coefficient, self_exponent, (-1), rfl, w5, f6, (by first | assumption | exact num_nf (by assumption) (by assumption) (by assumption) | exact low_nf (by omega) (by omega) (by assumption)), (s3 _ _ f_self), (by first | assumption | exact num_nf (by assumption) (by assumption) (by assumption) | exact low_nf (by omega) (by omega) (by assumption)), (by first | assumption | omega | decide | exact .inl rfl | exact .inr rfl | rfl | exact e2 _ _ (by assumption) | exact ⟨_, _, by assumption, by assumption⟩ | exact Sz.mono e1 (by decide) | exact low_sz (by omega) (by assumption) e1), (by first | assumption | omega | decide | exact .inl rfl | exact .inr rfl | rfl | exact e2 _ _ (by assumption) | exact ⟨_, _, by assumption, by assumption⟩ | exact Sz.mono e1 (by decide) | exact low_sz (by omega) (by assumption) e1), (by first | assumption | omega | decide | exact .inl rfl | exact .inr rfl | rfl | exact e2 _ _ (by assumption) | exact ⟨_, _, by assumption, by assumption⟩ | exact Sz.mono e1 (by decide) | exact low_sz (by omega) (by assumption) e1), fun r9 r9_d r9_coefficient r9_exponent I10 H12 s11 w13 f14 f15 q16 => ?_⟩
    exact k r9 r9_d r9_coefficient r9_exponent _ _ ((Same.trans s3 s11)) w13 f14 (by first | assumption | exact num_nf (by assumption) (by assumption) (by assumption) | exact low_nf (by omega) (by omega) (by assumption)) (by first | assumption | omega | decide | exact .inl rfl | exact .inr rfl | rfl | exact e2 _ _ (by assumption) | exact ⟨_, _, by assumption, by assumption⟩ | exact Sz.mono e1 (by decide) | exact low_sz (by omega) (by assumption) e1)
end
def sp_Exact_rmul_int (K : PySem.W.Frag) : Sp := fun vs H Q E => ∃ (I : Hp) (O : List (Addr × HO)) (self : Addr) (self_d : Addr) (self_base : Int) (self_coefficient : Int) (self_exponent : Int) (other : Int), vs = [.ref self, .int other] ∧ Wd I (O) H ∧ I self = some (.ins (He.ga K "Exact") self_d (fs_Exact (.int self_base) (.int self_coefficient) (.int self_exponent))) ∧ Nf self_base self_coefficient self_exponent ∧ Sz 4000 other ∧ Sz 4000 self_coefficient ∧ (∀ (r : Addr) (r_d : Addr) (r_coefficient : Int) (r_exponent : Int) (I' : Hp) (H' : Hp), Same I I' → Wd I' (O) H' → I' r = some (.ins (He.ga K "Exact") r_d (fs_Exact (.int (self_base)) (.int r_coefficient) (.int r_exponent))) → Nf (self_base) r_coefficient r_exponent → (∃ c2 e2, Low self_base other 0 c2 e2 ∧ Low self_base (c2 * self_coefficient) (e2 + self_exponent) r_coefficient r_exponent) → Q (.ref r) H')
section
variable {P : Program} {w : World} {K : PySem.W.Frag} {mg : Str → Option Value} {base : Heap}
theorem sc_Exact_rmul_int : FnScope ["self", "other"] ["self", "other"] (defScope s_Exact_rmul) := ⟨rfl, rfl, rfl, by decide +kernel, rfl, by decide +kernel, by decide +kernel⟩
theorem b_Exact_rmul_int (T : Txt P K mg w) : Binds K (fdOf K (a_Exact_rmul K)) ["self", "other"] [] := T.f_Exact_rmul.bindsN fun _ _ _ _ _ _ us hl => match us, hl with | [_, _], _ => rfl
theorem ok_Exact_rmul_int (T : Txt P K mg w) : FnOk P w K mg base CX0 6 (a_Exact_rmul K) (fdOf K (a_Exact_rmul K)) ["self", "other"] (sp_Exact_rmul_int K) := by
  refine T.f_Exact_rmul.ok sc_Exact_rmul_int (fun vs H Q E h => ?_) (fun cdv A outer s H vs Q E hr h => ?_)
  · obtain ⟨_, _, _, _, _, _, _, _, rfl, _, _, _, _, _, _⟩ := h
    rfl
  · obtain ⟨I, O, self, self_d, self_base, self_coefficient, self_exponent, other, rfl, w, f_self, f_self1, e1, e2, k⟩ := h
    obtain ⟨b0_self, b1_self, l0_self⟩ := id f_self1
    refine ⟨_, PSs.nox (pss_one (ps_ret (pe_call (ok_multiplied T) (hr.mono (by decide)) (by rfl) T.g_multiplied T.f_multiplied.kp (b_multiplied T) .nil pass0 (pa_cons (pe_call (ok_taken_int T) (hr.mono (by decide)) (by rfl) T.g_taken T.f_taken.kp (b_taken_int T) .nil pass0 (pa_cons (pv 0) (pa_cons (pv 1) (pa_nil)))) (pa_cons (pv 0) (pa_nil)))))), ?_⟩
    refine ⟨_, rfl, _, rfl, I, (O), self, self_d, self_base, self_coefficient, self_exponent, other, rfl, w, f_self, (by first | assumption | exact num_nf (by assumption) (by assumption) (by assumption) | exact low_nf (by omega) (by omega) (by assumption)), (by first | assumption | omega | decide | exact .inl rfl | exact .inr rfl | rfl | exact e2 _ _ (by assumption) | exact ⟨_, _, by assumption, by assumption⟩ | exact Sz.mono e1 (by decide) | exact low_sz (by omega) (by assumption) e1), fun r1 r1_d r1_coefficient r1_exponent I2 H4 s3 w5 f6 f7 q8 => ?_⟩
    refine ⟨_, rfl, I2, (O), r1, r1_d, self_base, r1_coefficient, r1_exponent, self, self_d, self_base, self_coefficient, self_exponent, rfl, w5, f6, (by first | assumption | exact num_nf (by assumption) (by assumption) (by assumption) | exact low_nf (by omega) (by omega) (by assumption)), (s3 _ _ f_self), (by first | assumption | exact num_nf (by assumption) (by assumption) (by assumption) | exact low_nf (by omega) (by omega) (by assumption)), (by first | assumption | omega | decide | exact .inl rfl | exact .inr rfl | rfl | exact e2 _ _ (by assumption) | exact ⟨_, _, by assumption, by assumption⟩ | exact Sz.mono e1 (by decide) | exact low_sz (by omega) (by assumption) e1), (by first | assumption | omega | decide | exact .inl rfl | exact .inr rfl | rfl | exact e2 _ _ (by assumption) | exact ⟨_, _, by assumption, by assumption⟩ | exact Sz.mono e1 (by decide) | exact low_sz (by omega) (by assumption) e1), (by first | assumption | omega | decide | exact .inl rfl | exact .inr rfl | rfl | exact e2 _ _ (by assumption) | exact ⟨_, _, by assumption, by assumption⟩ | exact Sz.mono e1 (by decide) | exact low_sz (by omega) (by assumption) e1), fun r9 r9_d r9_coefficient r9_exponent I10 H12 s11 w13 f14 f15 q16 => ?_⟩
    exact k r9 r9_d r9_coefficient r9_exponent _ _ ((Same.trans s3 s11)) w13 f14 (by first | assumption | exact num_nf (by assumption) (by assumption) (by assumption) | exact low_nf (by omega) (by omega) (by assumption)) (by first | assumption | omega | decide | exact .inl rfl | exact .inr rfl | rfl | exact e2 _ _ (by assumption) | exact ⟨_, _, by assumption, by assumption⟩ | exact Sz.mono e1 (by decide) | exact low_sz (by omega) (by assumption) e1)
end
def sp_law_operands (K : PySem.W.Frag) : Sp := fun vs H Q E => ∃ (I : Hp) (O : List (Addr × HO)) (source : Addr) (source_s : List V) (base : Int), vs = [.ref source, .int base] ∧ Wd I ((source, .lst source_s) :: O) H ∧ SrcOk I source_s ∧ 2 ≤ base ∧ base ≤ 36 ∧ (∀ (r : Addr) (r_0 : Addr) (r_0_0 : Int) (r_0_1 : Int) (r_1 : Addr) (r_1_0 : Int) (r_1_1 : Int) (source_s' : List V) (I' : Hp) (H' : Hp), Same I I' → Wd I' ((source, .lst source_s') :: O) H' → I' r = some (.lst [.ref r_0, .ref r_1]) → I' r_0 = some (.tup [.int r_0_0, .int r_0_1]) → I' r_1 = some (.tup [.int r_1_0, .int r_1_1]) → SrcOk I' source_s' → Num base (-20) 361 2761 r_0_0 r_0_1 → Num base (-20) 361 2761 r_1_0 r_1_1 → Q (.ref r) H')
section
variable {P : Program} {w : World} {K : PySem.W.Frag} {mg : Str → Option Value} {base : Heap}
theorem sc_law_operands : FnScope ["source", "base", "precision", "kind", "x"] ["source", "base"] (defScope s_law_operands) := ⟨rfl, rfl, rfl, by decide +kernel, rfl, by decide +kernel, by decide +kernel⟩
theorem b_law_operands (T : Txt P K mg w) : Binds K (fdOf K (a_law_operands K)) ["source", "base"] [] := T.f_law_operands.bindsN fun _ _ _ _ _ _ us hl => match us, hl with | [_, _], _ => rfl
theorem ok_law_operands (T : Txt P K mg w) : FnOk P w K mg base CX0 4 (a_law_operands K) (fdOf K (a_law_operands K)) ["source", "base"] (sp_law_operands K) := by
  refine T.f_law_operands.ok sc_law_operands (fun vs H Q E h => ?_) (fun cdv A outer s H vs Q E hr h => ?_)
  · obtain ⟨_, _, _, _, _, rfl, _, _, _, _, _⟩ := h
    rfl
  · obtain ⟨I, O, source, source_s, base, rfl, w, f_source, e1, e2, k⟩ := h
    refine ⟨_, PSs.nox (pss_cons (ps_set (i := 2) sc_law_operands.nd rfl (Or.inl rfl) (pe_call (ok_law_precision T) (hr.mono (by decide)) (by rfl) T.g_law_precision T.f_law_precision.kp (b_law_precision T) .nil pass0 (pa_cons (pv 0) (pa_cons (pe_int) (pa_nil))))) (pss_cons (ps_set (i := 3) sc_law_operands.nd rfl (Or.inl rfl) (pe_call (ok_law_draw T) (hr.mono (by decide)) (by rfl) T.g_law_draw T.f_law_draw.kp (b_law_draw T) .nil pass0 (pa_cons (pv 0) (pa_cons (pe_int) (pa_nil))))) (pss_cons (ps_if (pt_cmpR op_lt (pv 3) (pe_int) (nomark _)) (pss_one (ps_ret (pe_call (ok_law_two T) (hr.mono (by decide)) (by rfl) T.g_law_two T.f_law_two.kp (b_law_two T) .nil pass0 (pa_cons (pv 0) (pa_cons (pv 1) (pa_cons (pv 2) (pa_cons (pe_call (ok_law_gap T) (hr.mono (by decide)) (by rfl) T.g_law_gap T.f_law_gap.kp (b_law_gap T) .nil pass0 (pa_cons (pv 0) (pa_cons (pv 2) (pa_nil)))) (pa_nil)))))))) (pss_nil)) (pss_cons (ps_set (i := 4) sc_law_operands.nd rfl (Or.inl rfl) (pe_call (ok_law_value T) (hr.mono (by decide)) (by rfl) T.g_law_value T.f_law_value.kp (b_law_value T) .nil pass0 (pa_cons (pv 0) (pa_cons (pv 1) (pa_cons (pv 2) (pa_nil)))))) (pss_cons (ps_if (pt_cmpR op_eq (pv 3) (pe_int) (nomark _)) (pss_one (ps_ret (pe_lst (pa_cons (pv 4) (pa_cons (pe_call (ok_law_value T) (hr.mono (by decide)) (by rfl) T.g_law_value T.f_law_value.kp (b_law_value T) .nil pass0 (pa_cons (pv 0) (pa_cons (pv 1) (pa_cons (pv 2) (pa_nil))))) (pa_nil)))))) (pss_nil)) (pss_cons (ps_if (pt_cmpR op_eq (pv 3) (pe_int) (nomark _)) (pss_one (ps_ret (pe_lst (pa_cons (pv 4) (pa_cons (pv 4) (pa_nil)))))) (pss_nil)) (pss_cons (ps_if (pt_cmpR op_eq (pv 3) (pe_int) (nomark _)) (pss_one (ps_ret (pe_lst (pa_cons (pv 4) (pa_cons (pe_tup (pa_cons (pe_op op_sub (pe_int) (pe_ix ix_tup (pv 4) (pe_int) (fun _ _ => rfl))) (pa_cons (pe_ix ix_tup (pv 4) (pe_int) (fun _ _ => rfl)) (pa_nil)))) (pa_nil)))))) (pss_nil)) (pss_one (ps_ret (pe_lst (pa_cons (pv 4) (pa_cons (pe_call (ok_law_lowest T) (hr.mono (by decide)) (by rfl) T.g_law_lowest T.f_law_lowest.kp (b_law_lowest T) .nil pass0 (pa_cons (pv 1) (pa_cons (pe_op op_sub (pe_int) (pe_ix ix_tup (pv 4) (pe_int) (fun _ _ => rfl))) (pa_cons (pe_ix ix_tup (pv 4) (pe_int) (fun _ _ => rfl)) (pa_nil))))) (pa_nil))))))))))))), ?_⟩
    refine ⟨_, rfl, I, (O), source, (source_s), 40, rfl, w, f_source, (by first | assumption | omega | exact num_mono (by assumption : Num base (-20) 61 2761 _ _) (by decide) (by decide) (by decide) | exact num_neg (num_mono (by assumption : Num base (-20) 61 2761 _ _) (by decide) (by decide) (by decide)) | exact num_less e1 e2 (by assumption) (by assumption) (by assumption) | exact less_sz (by assumption : Num base (-20) 61 2761 _ _).2.2.2.2), (by first | assumption | omega | exact num_mono (by assumption : Num base (-20) 61 2761 _ _) (by decide) (by decide) (by decide) | exact num_neg (num_mono (by assumption : Num base (-20) 61 2761 _ _) (by decide) (by decide) (by decide)) | exact num_less e1 e2 (by assumption) (by assumption) (by assumption) | exact less_sz (by assumption : Num base (-20) 61 2761 _ _).2.2.2.2), fun r1 xs2 H3 w4 f5 q6 q7 => ?_⟩
    refine ⟨_, rfl, I, (O), source, (xs2), 6, rfl, w4, f5, (by first | assumption | omega | exact num_mono (by assumption : Num base (-20) 61 2761 _ _) (by decide) (by decide) (by decide) | exact num_neg (num_mono (by assumption : Num base (-20) 61 2761 _ _) (by decide) (by decide) (by decide)) | exact num_less e1 e2 (by assumption) (by assumption) (by assumption) | exact less_sz (by assumption : Num base (-20) 61 2761 _ _).2.2.2.2), (by first | assumption | omega | exact num_mono (by assumption : Num base (-20) 61 2761 _ _) (by decide) (by decide) (by decide) | exact num_neg (num_mono (by assumption : Num base (-20) 61 2761 _ _) (by decide) (by decide) (by decide)) | exact num_less e1 e2 (by assumption) (by assumption) (by assumption) | exact less_sz (by assumption : Num base (-20) 61 2761 _ _).2.2.2.2), fun r8 xs9 H10 w11 f12 q13 q14 => ?_⟩
    refine ⟨_, rfl, _, _, rfl, rfl, _, rfl, ?_⟩
    refine iD (fun h15 => ?_) (fun h15 => ?_)
    · refine ⟨_, rfl, _, rfl, _, rfl, _, rfl, _, rfl, I, (O), source, (xs9), r1, rfl, w11, f12, (by first | assumption | omega | exact num_mono (by assumption : Num base (-20) 61 2761 _ _) (by decide) (by decide) (by decide) | exact num_neg (num_mono (by assumption : Num base (-20) 61 2761 _ _) (by decide) (by decide) (by decide)) | exact num_less e1 e2 (by assumption) (by assumption) (by assumption) | exact less_sz (by assumption : Num base (-20) 61 2761 _ _).2.2.2.2), (by first | assumption | omega | exact num_mono (by assumption : Num base (-20) 61 2761 _ _) (by decide) (by decide) (by decide) | exact num_neg (num_mono (by assumption : Num base (-20) 61 2761 _ _) (by decide) (by decide) (by decide)) | exact num_less e1 e2 (by assumption) (by assumption) (by assumption) | exact less_sz (by assumption : Num base (-20) 61 2761 _ _).2.2.2.2), fun r16 xs17 H18 w19 f20 q21 q22 => ?_⟩
      refine ⟨I, (O), source, (xs17), base, r1, r16, rfl, w19, f20, (by first | assumption | omega | exact num_mono (by assumption : Num base (-20) 61 2761 _ _) (by decide) (by decide) (by decide) | exact num_neg (num_mono (by assumption : Num base (-20) 61 2761 _ _) (by decide) (by decide) (by decide)) | exact num_less e1 e2 (by assumption) (by assumption) (by assumption) | exact less_sz (by assumption : Num base (-20) 61 2761 _ _).2.2.2.2), (by first | assumption | omega | exact num_mono (by assumption : Num base (-20) 61 2761 _ _) (by decide) (by decide) (by decide) | exact num_neg (num_mono (by assumption : Num base (-20) 61 2761 _ _) (by decide) (by decide) (by decide)) | exact num_less e1 e2 (by assumption) (by assumption) (by assumption) | exact less_sz (by assumption : Num base (-20) 61 2761 _ _).2.2.2.2), (by first | assumption | omega | exact num_mono (by assumption : Num base (-20) 61 2761 _ _) (by decide) (by decide) (by decide) | exact num_neg (num_mono (by assumption : Num base (-20) 61 2761 _ _) (by decide) (by decide) (by decide)) | exact num_less e1 e2 (by assumption) (by assumption) (by assumption) | exact less_sz (by assumption : Num base (-20) 61 2761 _ _).2.2.2.2), (by first | assumption | omega | exact num_mono (by assumption : Num base (-20) 61 2761 _ _) (by decide) (by decide) (by decide) | exact num_neg (num_mono (by assumption : Num base (-20) 61 2761 _ _) (by decide) (by decide) (by decide)) | exact num_less e1 e2 (by assumption) (by assumption) (by assumption) | exact less_sz (by assumption : Num base (-20) 61 2761 _ _).2.2.2.2), (by first | assumption | omega | exact num_mono (by assumption : Num base (-20) 61 2761 _ _) (by decide) (by decide) (by decide) | exact num_neg (num_mono (by assumption : Num base (-20) 61 2761 _ _) (by decide) (by decide) (by decide)) | exact num_less e1 e2 (by assumption) (by assumption) (by assumption) | exact less_sz (by assumption : Num base (-20) 61 2761 _ _).2.2.2.2), (by first | assumption | omega | exact num_mono (by assumption : Num base (-20) 61 2761 _ _) (by decide) (by decide) (by decide) | exact num_neg (num_mono (by assumption : Num base (-20) 61 2761 _ _) (by decide) (by decide) (by decide)) | exact num_less e1 e2 (by assumption) (by assumption) (by assumption) | exact less_sz (by assumption : Num base (-20) 61 2761 _ _).2.2.2.2), fun r23 r23_0 r23_0_0 r23_0_1 r23_1 r23_1_0 r23_1_1 xs24 I25 H27 s26 w28 f29 f30 f31 f32 q33 q34 => ?_⟩
      exact k r23 r23_0 r23_0_0 r23_0_1 r23_1 r23_1_0 r23_1_1 _ _ _ (s26) w28 f29 f30 f31 f32 (by first | assumption | omega | exact num_mono (by assumption : Num base (-20) 61 2761 _ _) (by decide) (by decide) (by decide) | exact num_neg (num_mono (by assumption : Num base (-20) 61 2761 _ _) (by decide) (by decide) (by decide)) | exact num_less e1 e2 (by assumption) (by assumption) (by assumption) | exact less_sz (by assumption : Num base (-20) 61 2761 _ _).2.2.2.2) (by first | assumption | omega | exact num_mono (by assumption : Num base (-20) 61 2761 _ _) (by decide) (by decide) (by decide) | exact num_neg (num_mono (by assumption : Num base (-20) 61 2761 _ _) (by decide) (by decide) (by decide)) | exact num_less e1 e2 (by assumption) (by assumption) (by assumption) | exact less_sz (by assumption : Num base (-20) 61 2761 _ _).2.2.2.2)
    · refine ⟨_, rfl, _, rfl, _, rfl, I, (O), source, (xs9), base, r1, rfl, w11, f12, (by first | assumption | omega | exact num_mono (by assumption : Num base (-20) 61 2761 _ _) (by decide) (by decide) (by decide) | exact num_neg (num_mono (by assumption : Num base (-20) 61 2761 _ _) (by decide) (by decide) (by decide)) | exact num_less e1 e2 (by assumption) (by assumption) (by assumption) | exact less_sz (by assumption : Num base (-20) 61 2761 _ _).2.2.2.2), (by first | assumption | omega | exact num_mono (by assumption : Num base (-20) 61 2761 _ _) (by decide) (by decide) (by decide) | exact num_neg (num_mono (by assumption : Num base (-20) 61 2761 _ _) (by decide) (by decide) (by decide)) | exact num_less e1 e2 (by assumption) (by assumption) (by assumption) | exact less_sz (by assumption : Num base (-20) 61 2761 _ _).2.2.2.2), (by first | assumption | omega | exact num_mono (by assumption : Num base (-20) 61 2761 _ _) (by decide) (by decide) (by decide) | exact num_neg (num_mono (by assumption : Num base (-20) 61 2761 _ _) (by decide) (by decide) (by decide)) | exact num_less e1 e2 (by assumption) (by assumption) (by assumption) | exact less_sz (by assumption : Num base (-20) 61 2761 _ _).2.2.2.2), (by first | assumption | omega | exact num_mono (by assumption : Num base (-20) 61 2761 _ _) (by decide) (by decide) (by decide) | exact num_neg (num_mono (by assumption : Num base (-20) 61 2761 _ _) (by decide) (by decide) (by decide)) | exact num_less e1 e2 (by assumption) (by assumption) (by assumption) | exact less_sz (by assumption : Num base (-20) 61 2761 _ _).2.2.2.2), fun r35 r35_0 r35_1 xs36 I37 H39 s38 w40 f41 f42 q43 q44 => ?_⟩
      refine ⟨_, rfl, rfl, _, rfl, ?_⟩
      refine iEqI (fun h45 => ?_) (fun h45 => ?_)
      · refine ⟨_, rfl, _, rfl, _, rfl, _, rfl, I37, (O), source, (xs36), base, r1, rfl, w40, f42, (by first | assumption | omega | exact num_mono (by assumption : Num base (-20) 61 2761 _ _) (by decide) (by decide) (by decide) | exact num_neg (num_mono (by assumption : Num base (-20) 61 2761 _ _) (by decide) (by decide) (by decide)) | exact num_less e1 e2 (by assumption) (by assumption) (by assumption) | exact less_sz (by assumption : Num base (-20) 61 2761 _ _).2.2.2.2), (by first | assumption | omega | exact num_mono (by assumption : Num base (-20) 61 2761 _ _) (by decide) (by decide) (by decide) | exact num_neg (num_mono (by assumption : Num base (-20) 61 2761 _ _) (by decide) (by decide) (by decide)) | exact num_less e1 e2 (by assumption) (by assumption) (by assumption) | exact less_sz (by assumption : Num base (-20) 61 2761 _ _).2.2.2.2), (by first | assumption | omega | exact num_mono (by assumption : Num base (-20) 61 2761 _ _) (by decide) (by decide) (by decide) | exact num_neg (num_mono (by assumption : Num base (-20) 61 2761 _ _) (by decide) (by decide) (by decide)) | exact num_less e1 e2 (by assumption) (by assumption) (by assumption) | exact less_sz (by assumption : Num base (-20) 61 2761 _ _).2.2.2.2), (by first | assumption | omega | exact num_mono (by assumption : Num base (-20) 61 2761 _ _) (by decide) (by decide) (by decide) | exact num_neg (num_mono (by assumption : Num base (-20) 61 2761 _ _) (by decide) (by decide) (by decide)) | exact num_less e1 e2 (by assumption) (by assumption) (by assumption) | exact less_sz (by assumption : Num base (-20) 61 2761 _ _).2.2.2.2), fun r46 r46_0 r46_1 xs47 I48 H50 s49 w51 f52 f53 q54 q55 => ?_⟩
        refine ⟨(by show 2 ≤ sizeLine; decide), fun p56 hp57 => ?_⟩
        have s58 := w51.newS (o := .lst [(V.ref r35), (V.ref r46)]) hp57
        have w59 := w51.new (o := .lst [(V.ref r35), (V.ref r46)]) hp57
        exact k p56 r35 r35_0 r35_1 r46 r46_0 r46_1 _ _ _ ((Same.trans (Same.trans s38 s49) s58)) w59 upd_same ((Same.trans s49 s58) _ _ f41) (s58 _ _ f52) (SrcOk.mono s58 f53) (by first | assumption | omega | exact num_mono (by assumption : Num base (-20) 61 2761 _ _) (by decide) (by decide) (by decide) | exact num_neg (num_mono (by assumption : Num base (-20) 61 2761 _ _) (by decide) (by decide) (by decide)) | exact num_less e1 e2 (by assumption) (by assumption) (by assumption) | exact less_sz (by assumption : Num base (-20) 61 2761 _ _).2.2.2.2) (by first | assumption | omega | exact num_mono (by assumption : Num base (-20) 61 2761 _ _) (by decide) (by decide) (by decide) | exact num_neg (num_mono (by assumption : Num base (-20) 61 2761 _ _) (by decide) (by decide) (by decide)) | exact num_less e1 e2 (by assumption) (by assumption) (by assumption) | exact less_sz (by assumption : Num base (-20) 61 2761 _ _).2.2.2.2)
      · refine ⟨_, rfl, rfl, _, rfl, ?_⟩
        refine iEqI (fun h60 => ?_) (fun h60 => ?_)
        · refine ⟨_, rfl, _, rfl, (by show 2 ≤ sizeLine; decide), fun p61 hp62 => ?_⟩
          have s63 := w40.newS (o := .lst [(V.ref r35), (V.ref r35)]) hp62
          have w64 := w40.new (o := .lst [(V.ref r35), (V.ref r35)]) hp62
          exact k p61 r35 r35_0 r35_1 r35 r35_0 r35_1 _ _ _ ((Same.trans s38 s63)) w64 upd_same (s63 _ _ f41) (s63 _ _ f41) (SrcOk.mono s63 f42) (by first | assumption | omega | exact num_mono (by assumption : Num base (-20) 61 2761 _ _) (by decide) (by decide) (by decide) | exact num_neg (num_mono (by assumption : Num base (-20) 61 2761 _ _) (by decide) (by decide) (by decide)) | exact num_less e1 e2 (by assumption) (by assumption) (by assumption) | exact less_sz (by assumption : Num base (-20) 61 2761 _ _).2.2.2.2) (by first | assumption | omega | exact num_mono (by assumption : Num base (-20) 61 2761 _ _) (by decide) (by decide) (by decide) | exact num_neg (num_mono (by assumption : Num base (-20) 61 2761 _ _) (by decide) (by decide) (by decide)) | exact num_less e1 e2 (by assumption) (by assumption) (by assumption) | exact less_sz (by assumption : Num base (-20) 61 2761 _ _).2.2.2.2)
        · refine ⟨_, rfl, rfl, _, rfl, ?_⟩
          refine iEqI (fun h65 => ?_) (fun h65 => ?_)
          · refine ⟨_, rfl, _, rfl, _, _, _, _, rfl, rfl, (SqT.of (w40.get f41)), rfl, _, _, rfl, rfl, _, rfl, _, _, _, _, rfl, rfl, (SqT.of (w40.get f41)), rfl, (by show 2 ≤ sizeLine; decide), fun p66 hp67 => ?_⟩
            have s68 := w40.newS (o := .tup [(V.int (0 - r35_0)), (V.int r35_1)]) hp67
            have w69 := w40.new (o := .tup [(V.int (0 - r35_0)), (V.int r35_1)]) hp67
            refine ⟨(by show 2 ≤ sizeLine; decide), fun p70 hp71 => ?_⟩
            have s72 := w69.newS (o := .lst [(V.ref r35), (V.ref p66)]) hp71
            have w73 := w69.new (o := .lst [(V.ref r35), (V.ref p66)]) hp71
            exact k p70 r35 r35_0 r35_1 p66 (0 - r35_0) r35_1 _ _ _ ((Same.trans (Same.trans s38 s68) s72)) w73 upd_same ((Same.trans s68 s72) _ _ f41) (s72 _ _ upd_same) (SrcOk.mono (Same.trans s68 s72) f42) (by first | assumption | omega | exact num_mono (by assumption : Num base (-20) 61 2761 _ _) (by decide) (by decide) (by decide) | exact num_neg (num_mono (by assumption : Num base (-20) 61 2761 _ _) (by decide) (by decide) (by decide)) | exact num_less e1 e2 (by assumption) (by assumption) (by assumption) | exact less_sz (by assumption : Num base (-20) 61 2761 _ _).2.2.2.2) (by first | assumption | omega | exact num_mono (by assumption : Num base (-20) 61 2761 _ _) (by decide) (by decide) (by decide) | exact num_neg (num_mono (by assumption : Num base (-20) 61 2761 _ _) (by decide) (by decide) (by decide)) | exact num_less e1 e2 (by assumption) (by assumption) (by assumption) | exact less_sz (by assumption : Num base (-20) 61 2761 _ _).2.2.2.2)
          · refine ⟨_, rfl, _, rfl, _, rfl, _, _, _, _, rfl, rfl, (SqT.of (w40.get f41)), rfl, _, _, rfl, rfl, _, rfl, _, _, _, _, rfl, rfl, (SqT.of (w40.get f41)), rfl, I37, ((source, .lst xs36) :: O), base, (1 - r35_0), r35_1, rfl, w40, (by first | assumption | omega | exact num_mono (by assumption : Num base (-20) 61 2761 _ _) (by decide) (by decide) (by decide) | exact num_neg (num_mono (by assumption : Num base (-20) 61 2761 _ _) (by decide) (by decide) (by decide)) | exact num_less e1 e2 (by assumption) (by assumption) (by assumption) | exact less_sz (by assumption : Num base (-20) 61 2761 _ _).2.2.2.2), (by first | assumption | omega | exact num_mono (by assumption : Num base (-20) 61 2761 _ _) (by decide) (by decide) (by decide) | exact num_neg (num_mono (by assumption : Num base (-20) 61 2761 _ _) (by decide) (by decide) (by decide)) | exact num_less e1 e2 (by assumption) (by assumption) (by assumption) | exact less_sz (by assumption : Num base (-20) 61 2761 _ _).2.2.2.2), (by first | assumption | omega | exact num_mono (by assumption : Num base (-20) 61 2761 _ _) (by decide) (by decide) (by decide) | exact num_neg (num_mono (by assumption : Num base (-20) 61 2761 _ _) (by decide) (by decide) (by decide)) | exact num_less e1 e2 (by assumption) (by assumption) (by assumption) | exact less_sz (by assumption : Num base (-20) 61 2761 _ _).2.2.2.2), fun r74 r74_0 r74_1 I75 H77 s76 w78 f79 q80 => ?_⟩
            refine ⟨(by show 2 ≤ sizeLine; decide), fun p81 hp82 => ?_⟩
            have s83 := w78.newS (o := .lst [(V.ref r35), (V.ref r74)]) hp82
            have w84 := w78.new (o := .lst [(V.ref r35), (V.ref r74)]) hp82
            exact k p81 r35 r35_0 r35_1 r74 r74_0 r74_1 _ _ _ ((Same.trans (Same.trans s38 s76) s83)) w84 upd_same ((Same.trans s76 s83) _ _ f41) (s83 _ _ f79) (SrcOk.mono (Same.trans s76 s83) f42) (by first | assumption | omega | exact num_mono (by assumption : Num base (-20) 61 2761 _ _) (by decide) (by decide) (by decide) | exact num_neg (num_mono (by assumption : Num base (-20) 61 2761 _ _) (by decide) (by decide) (by decide)) | exact num_less e1 e2 (by assumption) (by assumption) (by assumption) | exact less_sz (by assumption : Num base (-20) 61 2761 _ _).2.2.2.2) (by first | assumption | omega | exact num_mono (by assumption : Num base (-20) 61 2761 _ _) (by decide) (by decide) (by decide) | exact num_neg (num_mono (by assumption : Num base (-20) 61 2761 _ _) (by decide) (by decide) (by decide)) | exact num_less e1 e2 (by assumption) (by assumption) (by assumption) | exact less_sz (by assumption : Num base (-20) 61 2761 _ _).2.2.2.2)
end
def sp_law_equal_int (K : PySem.W.Frag) : Sp := fun vs H Q E => ∃ (actual : Int) (expected : Int), vs = [.int actual, .int expected] ∧ (∀ (r : Bool), r = decide (actual = expected) → Q (.bl r) H)
section
variable {P : Program} {w : World} {K : PySem.W.Frag} {mg : Str → Option Value} {base : Heap}
theorem sc_law_equal_int : FnScope ["actual", "expected", "k"] ["actual", "expected"] (defScope s_law_equal) := ⟨rfl, rfl, rfl, by decide +kernel, rfl, by decide +kernel, by decide +kernel⟩
theorem b_law_equal_int (T : Txt P K mg w) : Binds K (fdOf K (a_law_equal K)) ["actual", "expected"] [] := T.f_law_equal.bindsN fun _ _ _ _ _ _ us hl => match us, hl with | [_, _], _ => rfl
theorem ok_law_equal_int (T : Txt P K mg w) : FnOk P w K mg base CX0 1 (a_law_equal K) (fdOf K (a_law_equal K)) ["actual", "expected"] (sp_law_equal_int K) := by
  refine T.f_law_equal.ok sc_law_equal_int (fun vs H Q E h => ?_) (fun cdv A outer s H vs Q E hr h => ?_)
  · obtain ⟨_, _, rfl, _⟩ := h
    rfl
  · obtain ⟨actual, expected, rfl, k⟩ := h
    refine ⟨_, PSs.nox (pss_cons (ps_if (pt_cmpR op_isN (pv 1) (pe_non) (nomark _)) (pss_one (ps_never)) (pss_nil)) (pss_cons (ps_if (pt_val (pe_callB call_isi (by rfl) T.n_isinstance (by decide +kernel) (pa_cons (pv 1) (pa_cons (pe_bltn (v := .ty "bool") (by rfl) T.n_bool (by decide +kernel) rfl) (pa_nil))))) (pss_one (ps_never)) (pss_nil)) (pss_cons (ps_if (pt_val (pe_callB call_isi (by rfl) T.n_isinstance (by decide +kernel) (pa_cons (pv 1) (pa_cons (pe_bltn (v := .ty "int") (by rfl) T.n_int (by decide +kernel) rfl) (pa_nil))))) (pss_one (ps_ret (pe_and (pe_callB call_isi (by rfl) T.n_isinstance (by decide +kernel) (pa_cons (pv 0) (pa_cons (pe_bltn (v := .ty "int") (by rfl) T.n_int (by decide +kernel) rfl) (pa_nil)))) (pe_and (pe_not (pe_callB call_isi (by rfl) T.n_isinstance (by decide +kernel) (pa_cons (pv 0) (pa_cons (pe_bltn (v := .ty "bool") (by rfl) T.n_bool (by decide +kernel) rfl) (pa_nil))))) (pe_one (pe_cmpR op_eq (pv 0) (pv 1) (nomark _))))))) (pss_nil)) (pss_cons (ps_never) (pss_cons (ps_never) (pss_cons (ps_never) (pss_cons (ps_never) (pss_cons (ps_never) (pss_cons (ps_never) (pss_one (ps_never))))))))))), ?_⟩
    refine ⟨_, rfl, rfl, _, rfl, ?_⟩
    refine iFd (by intro z; cases z) ?_
    refine ⟨_, rfl, _, _, .type "int", .type "bool", false, rfl, .ty _, .base (TyOf.int _), kit_ty (by decide +kernel), _, rfl, ?_⟩
    refine ⟨_, rfl, _, _, .type "int", .type "int", true, rfl, .ty _, .base (TyOf.int _), kit_ty (by decide +kernel), _, rfl, ?_⟩
    refine ⟨_, rfl, _, _, .type "int", .type "int", true, rfl, .ty _, .base (TyOf.int _), kit_ty (by decide +kernel), _, rfl, ?_⟩
    refine ⟨_, rfl, _, _, .type "int", .type "bool", false, rfl, .ty _, .base (TyOf.int _), kit_ty (by decide +kernel), _, rfl, _, rfl, ?_⟩
    refine ⟨_, rfl, _, rfl, rfl, ?_⟩
    exact k (decide ((V.int actual) = (V.int expected))) (by first | rfl | simp_all)
end
def sp_law_equal_bool (K : PySem.W.Frag) : Sp := fun vs H Q E => ∃ (actual : Bool) (expected : Bool), vs = [.bl actual, .bl expected] ∧ (∀ (r : Bool), r = decide (actual = expected) → Q (.bl r) H)
section
variable {P : Program} {w : World} {K : PySem.W.Frag} {mg : Str → Option Value} {base : Heap}
theorem sc_law_equal_bool : FnScope ["actual", "expected", "k"] ["actual", "expected"] (defScope s_law_equal) := ⟨rfl, rfl, rfl, by decide +kernel, rfl, by decide +kernel, by decide +kernel⟩
theorem b_law_equal_bool (T : Txt P K mg w) : Binds K (fdOf K (a_law_equal K)) ["actual", "expected"] [] := T.f_law_equal.bindsN fun _ _ _ _ _ _ us hl => match us, hl with | [_, _], _ => rfl
theorem ok_law_equal_bool (T : Txt P K mg w) : FnOk P w K mg base CX0 1 (a_law_equal K) (fdOf K (a_law_equal K)) ["actual", "expected"] (sp_law_equal_bool K) := by
  refine T.f_law_equal.ok sc_law_equal_bool (fun vs H Q E h => ?_) (fun cdv A outer s H vs Q E hr h => ?_)
  · obtain ⟨_, _, rfl, _⟩ := h
    rfl
  · obtain ⟨actual, expected, rfl, k⟩ := h
    refine ⟨_, PSs.nox (pss_cons (ps_if (pt_cmpR op_isN (pv 1) (pe_non) (nomark _)) (pss_one (ps_never)) (pss_nil)) (pss_cons (ps_if (pt_val (pe_callB call_isi (by rfl) T.n_isinstance (by decide +kernel) (pa_cons (pv 1) (pa_cons (pe_bltn (v := .ty "bool") (by rfl) T.n_bool (by decide +kernel) rfl) (pa_nil))))) (pss_one (ps_ret (pe_and (pe_callB call_isi (by rfl) T.n_isinstance (by decide +kernel) (pa_cons (pv 0) (pa_cons (pe_bltn (v := .ty "bool") (by rfl) T.n_bool (by decide +kernel) rfl) (pa_nil)))) (pe_one (pe_cmpR op_eq (pv 0) (pv 1) (nomark _)))))) (pss_nil)) (pss_cons (ps_never) (pss_cons (ps_never) (pss_cons (ps_never) (pss_cons (ps_never) (pss_cons (ps_never) (pss_cons (ps_never) (pss_cons (ps_never) (pss_one (ps_never))))))))))), ?_⟩
    refine ⟨_, rfl, rfl, _, rfl, ?_⟩
    refine iFd (by intro z; cases z) ?_
    refine ⟨_, rfl, _, _, .type "bool", .type "bool", true, rfl, .ty _, .base (TyOf.bl _), kit_ty (by decide +kernel), _, rfl, ?_⟩
    refine ⟨_, rfl, _, _, .type "bool", .type "bool", true, rfl, .ty _, .base (TyOf.bl _), kit_ty (by decide +kernel), _, rfl, ?_⟩
    refine ⟨_, rfl, _, rfl, rfl, ?_⟩
    exact k (decide ((V.bl actual) = (V.bl expected))) (by first | rfl | simp_all)
end
def sp_law_equal_ints (K : PySem.W.Frag) : Sp := fun vs H Q E => ∃ (I : Hp) (O : List (Addr × HO)) (actual : Addr) (actual_l : List Int) (expected : Addr) (expected_l : List Int), vs = [.ref actual, .ref expected] ∧ Wd I (O) H ∧ I actual = some (.lst (actual_l.map V.int)) ∧ I expected = some (.lst (expected_l.map V.int)) ∧ expected_l = actual_l ∧ expected_l.length ≤ 1000 ∧ (∀ (r : Bool) (I' : Hp) (H' : Hp), Same I I' → Wd I' (O) H' → r = true → Q (.bl r) H')
section
variable {P : Program} {w : World} {K : PySem.W.Frag} {mg : Str → Option Value} {base : Heap}
theorem sc_law_equal_ints : FnScope ["actual", "expected", "k"] ["actual", "expected"] (defScope s_law_equal) := ⟨rfl, rfl, rfl, by decide +kernel, rfl, by decide +kernel, by decide +kernel⟩
theorem b_law_equal_ints (T : Txt P K mg w) : Binds K (fdOf K (a_law_equal K)) ["actual", "expected"] [] := T.f_law_equal.bindsN fun _ _ _ _ _ _ us hl => match us, hl with | [_, _], _ => rfl
theorem ok_law_equal_ints (T : Txt P K mg w) : FnOk P w K mg base CX0 2 (a_law_equal K) (fdOf K (a_law_equal K)) ["actual", "expected"] (sp_law_equal_ints K) := by
  refine T.f_law_equal.ok sc_law_equal_ints (fun vs H Q E h => ?_) (fun cdv A outer s H vs Q E hr h => ?_)
  · obtain ⟨_, _, _, _, _, _, rfl, _, _, _, _, _, _⟩ := h
    rfl
  · obtain ⟨I, O, actual, actual_l, expected, expected_l, rfl, w, f_actual, f_expected, e1, e2, k⟩ := h
    subst e1
    refine ⟨_, PSs.nox (pss_cons (ps_if (pt_cmpR op_isN (pv 1) (pe_non) (nomark _)) (pss_one (ps_never)) (pss_nil)) (pss_cons (ps_if (pt_val (pe_callB call_isi (by rfl) T.n_isinstance (by decide +kernel) (pa_cons (pv 1) (pa_cons (pe_bltn (v := .ty "bool") (by rfl) T.n_bool (by decide +kernel) rfl) (pa_nil))))) (pss_one (ps_never)) (pss_nil)) (pss_cons (ps_if (pt_val (pe_callB call_isi (by rfl) T.n_isinstance (by decide +kernel) (pa_cons (pv 1) (pa_cons (pe_bltn (v := .ty "int") (by rfl) T.n_int (by decide +kernel) rfl) (pa_nil))))) (pss_one (ps_never)) (pss_nil)) (pss_cons (ps_if (pt_val (pe_callB call_isi (by rfl) T.n_isinstance (by decide +kernel) (pa_cons (pv 1) (pa_cons (pe_bltn (v := .ty "str") (by rfl) T.n_str (by decide +kernel) rfl) (pa_nil))))) (pss_one (ps_never)) (pss_nil)) (pss_cons (ps_if (pt_cmpR op_ne (pe_callB call_isi (by rfl) T.n_isinstance (by decide +kernel) (pa_cons (pv 1) (pa_cons (pe_bltn (v := .ty "list") (by rfl) T.n_list (by decide +kernel) rfl) (pa_nil)))) (pe_callB call_isi (by rfl) T.n_isinstance (by decide +kernel) (pa_cons (pv 0) (pa_cons (pe_bltn (v := .ty "list") (by rfl) T.n_list (by decide +kernel) rfl) (pa_nil)))) (nomark _)) (pss_one (ps_never)) (pss_nil)) (pss_cons (ps_if (pt_cmpR op_ne (pe_callB call_isi (by rfl) T.n_isinstance (by decide +kernel) (pa_cons (pv 1) (pa_cons (pe_bltn (v := .ty "tuple") (by rfl) T.n_tuple (by decide +kernel) rfl) (pa_nil)))) (pe_callB call_isi (by rfl) T.n_isinstance (by decide +kernel) (pa_cons (pv 0) (pa_cons (pe_bltn (v := .ty "tuple") (by rfl) T.n_tuple (by decide +kernel) rfl) (pa_nil)))) (nomark _)) (pss_one (ps_never)) (pss_nil)) (pss_cons (ps_if (PW.pt (pw_and (pt_not (pt_val (pe_callB call_isi (by rfl) T.n_isinstance (by decide +kernel) (pa_cons (pv 1) (pa_cons (pe_bltn (v := .ty "list") (by rfl) T.n_list (by decide +kernel) rfl) (pa_nil)))))) (pw_and1 (pt_never)))) (pss_one (ps_never)) (pss_nil)) (pss_cons (ps_if (pt_cmpR op_ne (pe_callB call_len_seq (by rfl) T.n_len (by decide +kernel) (pa_cons (pv 0) (pa_nil))) (pe_callB call_len_seq (by rfl) T.n_len (by decide +kernel) (pa_cons (pv 1) (pa_nil))) (nomark _)) (pss_one (ps_never)) (pss_nil)) (pss_cons (ps_for PassesOwn.never rfl (pi_range1 (by rfl) T.n_range (pa_cons (pe_callB call_len_seq (by rfl) T.n_len (by decide +kernel) (pa_cons (pv 1) (pa_nil))) (pa_nil))) (pg_name (i := 2) sc_law_equal_ints.nd rfl (Or.inl rfl)) (pss_one (ps_if (pt_not (pt_val (pe_call (ok_law_equal_int T) (hr.mono (by decide)) (by rfl) T.g_law_equal T.f_law_equal.kp (b_law_equal_int T) .nil pass0 (pa_cons (pe_ix ix_list (pv 0) (pv 2) (fun _ _ => rfl)) (pa_cons (pe_ix ix_list (pv 1) (pv 2) (fun _ _ => rfl)) (pa_nil)))))) (pss_one (ps_never)) (pss_nil)))) (pss_one (ps_ret (pe_bl)))))))))))), ?_⟩
    refine ⟨_, rfl, rfl, _, rfl, ?_⟩
    refine iFd (by intro z; cases z) ?_
    refine ⟨_, rfl, _, _, .type "list", .type "bool", false, rfl, .ty _, .base (.lst (w.get f_expected)), kit_ty (by decide +kernel), _, rfl, ?_⟩
    refine ⟨_, rfl, _, _, .type "list", .type "int", false, rfl, .ty _, .base (.lst (w.get f_expected)), kit_ty (by decide +kernel), _, rfl, ?_⟩
    refine ⟨_, rfl, _, _, .type "list", .type "str", false, rfl, .ty _, .base (.lst (w.get f_expected)), kit_ty (by decide +kernel), _, rfl, ?_⟩
    refine ⟨_, rfl, _, _, .type "list", .type "list", true, rfl, .ty _, .base (.lst (w.get f_expected)), kit_ty (by decide +kernel), _, rfl, _, _, .type "list", .type "list", true, rfl, .ty _, .base (.lst (w.get f_actual)), kit_ty (by decide +kernel), rfl, _, rfl, ?_⟩
    refine iCF (by decide) ?_
    refine ⟨_, rfl, _, _, .type "list", .type "tuple", false, rfl, .ty _, .base (.lst (w.get f_expected)), kit_ty (by decide +kernel), _, rfl, _, _, .type "list", .type "tuple", false, rfl, .ty _, .base (.lst (w.get f_actual)), kit_ty (by decide +kernel), rfl, _, rfl, ?_⟩
    refine iCF (by decide) ?_
    refine ⟨_, rfl, _, _, .type "list", .type "list", true, rfl, .ty _, .base (.lst (w.get f_expected)), kit_ty (by decide +kernel), _, rfl, ?_⟩
    refine ⟨_, rfl, _, _, rfl, .inl (SqL.of (w.get f_actual)), _, rfl, _, _, rfl, .inl (SqL.of (w.get f_expected)), rfl, _, rfl, ?_⟩
    refine iNeI (fun h8 => (by exact absurd rfl h8)) (fun h8 => ?_)
    refine ⟨_, rfl, _, _, rfl, .inl (SqL.of (w.get f_expected)), _, rfl, (by first | omega | (simp; omega)), (by first | omega | (simp; omega)), for_range (lo := 0) (n := ((((expected_l.map V.int)).length : Int)).toNat) (fun i10 σ' H' => ∃ (o9 : Option V), σ' = [some (V.ref actual), some (V.ref expected), o9] ∧ H = H') ⟨_, rfl, rfl⟩ ?_ ?_⟩
    · rintro i14 _ H12 hi13 ⟨o9, rfl, rfl⟩
      obtain ⟨c15, ha16, hb17, hc18⟩ := at_map (f := V.int) (l := expected_l) (i := (0 + (i14 : Int))) (by omega) (by simp at *; omega)
      obtain ⟨c19, ha20, hb21, hc22⟩ := at_map (f := V.int) (l := expected_l) (i := (0 + (i14 : Int))) (by omega) (by simp at *; omega)
      refine ⟨_, rfl, _, rfl, _, _, _, _, rfl, rfl, (SqL.of (w.get f_actual)), hc18, _, rfl, _, rfl, _, _, _, _, rfl, rfl, (SqL.of (w.get f_expected)), hc22, c15, c19, rfl, fun r23 q24 => ?_⟩
      subst q24
      refine ⟨_, rfl, ?_⟩
      refine iND (fun h25 => (by exact h25 (by simp_all))) (fun h25 => ?_)
      exact ⟨_, rfl, rfl⟩
    · rintro _ H26 ⟨o9, rfl, rfl⟩
      exact k true _ _ (Same.refl _) w (by first | rfl | assumption | omega)
end
def sp_law_equal_bools (K : PySem.W.Frag) : Sp := fun vs H Q E => ∃ (I : Hp) (O : List (Addr × HO)) (actual : Addr) (actual_l : List Bool) (expected : Addr) (expected_l : List Bool), vs = [.ref actual, .ref expected] ∧ Wd I (O) H ∧ I actual = some (.lst (actual_l.map V.bl)) ∧ I expected = some (.lst (expected_l.map V.bl)) ∧ expected_l = actual_l ∧ expected_l.length ≤ 1000 ∧ (∀ (r : Bool) (I' : Hp) (H' : Hp), Same I I' → Wd I' (O) H' → r = true → Q (.bl r) H')
section
variable {P : Program} {w : World} {K : PySem.W.Frag} {mg : Str → Option Value} {base : Heap}
theorem sc_law_equal_bools : FnScope ["actual", "expected", "k"] ["actual", "expected"] (defScope s_law_equal) := ⟨rfl, rfl, rfl, by decide +kernel, rfl, by decide +kernel, by decide +kernel⟩
theorem b_law_equal_bools (T : Txt P K mg w) : Binds K (fdOf K (a_law_equal K)) ["actual", "expected"] [] := T.f_law_equal.bindsN fun _ _ _ _ _ _ us hl => match us, hl with | [_, _], _ => rfl
theorem ok_law_equal_bools (T : Txt P K mg w) : FnOk P w K mg base CX0 2 (a_law_equal K) (fdOf K (a_law_equal K)) ["actual", "expected"] (sp_law_equal_bools K) := by
  refine T.f_law_equal.ok sc_law_equal_bools (fun vs H Q E h => ?_) (fun cdv A outer s H vs Q E hr h => ?_)
  · obtain ⟨_, _, _, _, _, _, rfl, _, _, _, _, _, _⟩ := h
    rfl
  · obtain ⟨I, O, actual, actual_l, expected, expected_l, rfl, w, f_actual, f_expected, e1, e2, k⟩ := h
    subst e1
    refine ⟨_, PSs.nox (pss_cons (ps_if (pt_cmpR op_isN (pv 1) (pe_non) (nomark _)) (pss_one (ps_never)) (pss_nil)) (pss_cons (ps_if (pt_val (pe_callB call_isi (by rfl) T.n_isinstance (by decide +kernel) (pa_cons (pv 1) (pa_cons (pe_bltn (v := .ty "bool") (by rfl) T.n_bool (by decide +kernel) rfl) (pa_nil))))) (pss_one (ps_never)) (pss_nil)) (pss_cons (ps_if (pt_val (pe_callB call_isi (by rfl) T.n_isinstance (by decide +kernel) (pa_cons (pv 1) (pa_cons (pe_bltn (v := .ty "int") (by rfl) T.n_int (by decide +kernel) rfl) (pa_nil))))) (pss_one (ps_never)) (pss_nil)) (pss_cons (ps_if (pt_val (pe_callB call_isi (by rfl) T.n_isinstance (by decide +kernel) (pa_cons (pv 1) (pa_cons (pe_bltn (v := .ty "str") (by rfl) T.n_str (by decide +kernel) rfl) (pa_nil))))) (pss_one (ps_never)) (pss_nil)) (pss_cons (ps_if (pt_cmpR op_ne (pe_callB call_isi (by rfl) T.n_isinstance (by decide +kernel) (pa_cons (pv 1) (pa_cons (pe_bltn (v := .ty "list") (by rfl) T.n_list (by decide +kernel) rfl) (pa_nil)))) (pe_callB call_isi (by rfl) T.n_isinstance (by decide +kernel) (pa_cons (pv 0) (pa_cons (pe_bltn (v := .ty "list") (by rfl) T.n_list (by decide +kernel) rfl) (pa_nil)))) (nomark _)) (pss_one (ps_never)) (pss_nil)) (pss_cons (ps_if (pt_cmpR op_ne (pe_callB call_isi (by rfl) T.n_isinstance (by decide +kernel) (pa_cons (pv 1) (pa_cons (pe_bltn (v := .ty "tuple") (by rfl) T.n_tuple (by decide +kernel) rfl) (pa_nil)))) (pe_callB call_isi (by rfl) T.n_isinstance (by decide +kernel) (pa_cons (pv 0) (pa_cons (pe_bltn (v := .ty "tuple") (by rfl) T.n_tuple (by decide +kernel) rfl) (pa_nil)))) (nomark _)) (pss_one (ps_never)) (pss_nil)) (pss_cons (ps_if (PW.pt (pw_and (pt_not (pt_val (pe_callB call_isi (by rfl) T.n_isinstance (by decide +kernel) (pa_cons (pv 1) (pa_cons (pe_bltn (v := .ty "list") (by rfl) T.n_list (by decide +kernel) rfl) (pa_nil)))))) (pw_and1 (pt_never)))) (pss_one (ps_never)) (pss_nil)) (pss_cons (ps_if (pt_cmpR op_ne (pe_callB call_len_seq (by rfl) T.n_len (by decide +kernel) (pa_cons (pv 0) (pa_nil))) (pe_callB call_len_seq (by rfl) T.n_len (by decide +kernel) (pa_cons (pv 1) (pa_nil))) (nomark _)) (pss_one (ps_never)) (pss_nil)) (pss_cons (ps_for PassesOwn.never rfl (pi_range1 (by rfl) T.n_range (pa_cons (pe_callB call_len_seq (by rfl) T.n_len (by decide +kernel) (pa_cons (pv 1) (pa_nil))) (pa_nil))) (pg_name (i := 2) sc_law_equal_bools.nd rfl (Or.inl rfl)) (pss_one (ps_if (pt_not (pt_val (pe_call (ok_law_equal_bool T) (hr.mono (by decide)) (by rfl) T.g_law_equal T.f_law_equal.kp (b_law_equal_bool T) .nil pass0 (pa_cons (pe_ix ix_list (pv 0) (pv 2) (fun _ _ => rfl)) (pa_cons (pe_ix ix_list (pv 1) (pv 2) (fun _ _ => rfl)) (pa_nil)))))) (pss_one (ps_never)) (pss_nil)))) (pss_one (ps_ret (pe_bl)))))))))))), ?_⟩
    refine ⟨_, rfl, rfl, _, rfl, ?_⟩
    refine iFd (by intro z; cases z) ?_
    refine ⟨_, rfl, _, _, .type "list", .type "bool", false, rfl, .ty _, .base (.lst (w.get f_expected)), kit_ty (by decide +kernel), _, rfl, ?_⟩
    refine ⟨_, rfl, _, _, .type "list", .type "int", false, rfl, .ty _, .base (.lst (w.get f_expected)), kit_ty (by decide +kernel), _, rfl, ?_⟩
    refine ⟨_, rfl, _, _, .type "list", .type "str", false, rfl, .ty _, .base (.lst (w.get f_expected)), kit_ty (by decide +kernel), _, rfl, ?_⟩
    refine ⟨_, rfl, _, _, .type "list", .type "list", true, rfl, .ty _, .base (.lst (w.get f_expected)), kit_ty (by decide +kernel), _, rfl, _, _, .type "list", .type "list", true, rfl, .ty _, .base (.lst (w.get f_actual)), kit_ty (by decide +kernel), rfl, _, rfl, ?_⟩
    refine iCF (by decide) ?_
    refine ⟨_, rfl, _, _, .type "list", .type "tuple", false, rfl, .ty _, .base (.lst (w.get f_expected)), kit_ty (by decide +kernel), _, rfl, _, _, .type "list", .type "tuple", false, rfl, .ty _, .base (.lst (w.get f_actual)), kit_ty (by decide +kernel), rfl, _, rfl, ?_⟩
    refine iCF (by decide) ?_
    refine ⟨_, rfl, _, _, .type "list", .type "list", true, rfl, .ty _, .base (.lst (w.get f_expected)), kit_ty (by decide +kernel), _, rfl, ?_⟩
    refine ⟨_, rfl, _, _, rfl, .inl (SqL.of (w.get f_actual)), _, rfl, _, _, rfl, .inl (SqL.of (w.get f_expected)), rfl, _, rfl, ?_⟩
    refine iNeI (fun h8 => (by exact absurd rfl h8)) (fun h8 => ?_)
    refine ⟨_, rfl, _, _, rfl, .inl (SqL.of (w.get f_expected)), _, rfl, (by first | omega | (simp; omega)), (by first | omega | (simp; omega)), for_range (lo := 0) (n := ((((expected_l.map V.bl)).length : Int)).toNat) (fun i10 σ' H' => ∃ (o9 : Option V), σ' = [some (V.ref actual), some (V.ref expected), o9] ∧ H = H') ⟨_, rfl, rfl⟩ ?_ ?_⟩
    · rintro i14 _ H12 hi13 ⟨o9, rfl, rfl⟩
      obtain ⟨c15, ha16, hb17, hc18⟩ := at_map (f := V.bl) (l := expected_l) (i := (0 + (i14 : Int))) (by omega) (by simp at *; omega)
      obtain ⟨c19, ha20, hb21, hc22⟩ := at_map (f := V.bl) (l := expected_l) (i := (0 + (i14 : Int))) (by omega) (by simp at *; omega)
      refine ⟨_, rfl, _, rfl, _, _, _, _, rfl, rfl, (SqL.of (w.get f_actual)), hc18, _, rfl, _, rfl, _, _, _, _, rfl, rfl, (SqL.of (w.get f_expected)), hc22, c15, c19, rfl, fun r23 q24 => ?_⟩
      subst q24
      refine ⟨_, rfl, ?_⟩
      refine iND (fun h25 => (by exact h25 (by simp_all))) (fun h25 => ?_)
      exact ⟨_, rfl, rfl⟩
    · rintro _ H26 ⟨o9, rfl, rfl⟩
      exact k true _ _ (Same.refl _) w (by first | rfl | assumption | omega)
end
def sp_Exact_abs (K : PySem.W.Frag) : Sp := fun vs H Q E => ∃ (I : Hp) (O : List (Addr × HO)) (self : Addr) (self_d : Addr) (self_base : Int) (self_coefficient : Int) (self_exponent : Int), vs = [.ref self] ∧ Wd I (O) H ∧ I self = some (.ins (He.ga K "Exact") self_d (fs_Exact (.int self_base) (.int self_coefficient) (.int self_exponent))) ∧ Nf self_base self_coefficient self_exponent ∧ Sz 8000 self_coefficient ∧ (∀ (r : Addr) (r_d : Addr) (r_coefficient : Int) (r_exponent : Int) (I' : Hp) (H' : Hp), Same I I' → Wd I' (O) H' → I' r = some (.ins (He.ga K "Exact") r_d (fs_Exact (.int (self_base)) (.int r_coefficient) (.int r_exponent))) → Nf (self_base) r_coefficient r_exponent → Low self_base (if self_coefficient < 0 then -self_coefficient else self_coefficient) self_exponent r_coefficient r_exponent → Q (.ref r) H')
section
variable {P : Program} {w : World} {K : PySem.W.Frag} {mg : Str → Option Value} {base : Heap}
theorem sc_Exact_abs : FnScope ["self"] ["self"] (defScope s_Exact_abs) := ⟨rfl, rfl, rfl, by decide +kernel, rfl, by decide +kernel, by decide +kernel⟩
theorem b_Exact_abs (T : Txt P K mg w) : Binds K (fdOf K (a_Exact_abs K)) ["self"] [] := T.f_Exact_abs.bindsN fun _ _ _ _ _ _ us hl => match us, hl with | [_], _ => rfl
theorem ok_Exact_abs (T : Txt P K mg w) : FnOk P w K mg base CX0 5 (a_Exact_abs K) (fdOf K (a_Exact_abs K)) ["self"] (sp_Exact_abs K) := by
  refine T.f_Exact_abs.ok sc_Exact_abs (fun vs H Q E h => ?_) (fun cdv A outer s H vs Q E hr h => ?_)
  · obtain ⟨_, _, _, _, _, _, _, rfl, _, _, _, _, _⟩ := h
    rfl
  · obtain ⟨I, O, self, self_d, self_base, self_coefficient, self_exponent, rfl, w, f_self, f_self1, e1, k⟩ := h
    obtain ⟨b0_self, b1_self, l0_self⟩ := id f_self1
    refine ⟨_, PSs.nox (pss_one (ps_ret (pe_make T.mk_Exact (ok_Exact_init T) (hr.mono (by decide)) (by rfl) T.g_Exact (bd_Exact_init_4 T).choose_spec.2 ((bd_Exact_init_4 T).choose_spec.1) pass0 (pa_cons (pe_fld (pv 0) (by rfl)) (pa_cons (pe_callB call_abs (by rfl) T.n_abs (by decide +kernel) (pa_cons (pe_fld (pv 0) (by rfl)) (pa_nil))) (pa_cons (pe_fld (pv 0) (by rfl)) (pa_nil))))))), ?_⟩
    refine ⟨_, rfl, _, _, _, _, _, rfl, (w.get f_self), T.l_Exact, T.na_Exact_base, lk_Exact_base, _, rfl, _, _, _, _, _, rfl, (w.get f_self), T.l_Exact, T.na_Exact_coefficient, lk_Exact_coefficient, _, rfl, _, rfl, _, _, _, _, _, rfl, (w.get f_self), T.l_Exact, T.na_Exact_exponent, lk_Exact_exponent, fun x1 dx2 hx3 hd4 ne5 => ?_⟩
    have w6 := w.make (C := He.ga K "Exact") hx3 hd4 ne5
    refine ⟨I, (O), x1, _, self_base, (if self_coefficient < 0 then -self_coefficient else self_coefficient), self_exponent, rfl, w6, (by first | assumption | omega | exact abs_sz (by assumption)), (by first | assumption | omega | exact abs_sz (by assumption)), (by first | assumption | omega | exact abs_sz (by assumption)), fun y8 y9 I10 H12 s11 w13 q14 => ?_⟩
    refine ⟨rfl, ?_⟩
    have s15 := w13.freezeS
    have w16 := w13.freeze
    exact k x1 dx2 y8 y9 _ _ ((Same.trans s11 s15)) w16 upd_same (by first | assumption | exact num_nf (by assumption) (by assumption) (by assumption) | exact low_nf (by omega) (by omega) (by assumption)) (by first | assumption | omega | exact abs_sz (by assumption))
end
def sp_Exact_bool (K : PySem.W.Frag) : Sp := fun vs H Q E => ∃ (I : Hp) (O : List (Addr × HO)) (self : Addr) (self_d : Addr) (self_base : Int) (self_coefficient : Int) (self_exponent : Int), vs = [.ref self] ∧ Wd I (O) H ∧ I self = some (.ins (He.ga K "Exact") self_d (fs_Exact (.int self_base) (.int self_coefficient) (.int self_exponent))) ∧ Nf self_base self_coefficient self_exponent ∧ (∀ (r : Bool), r = !decide (V.int self_coefficient = V.int 0) → Q (.bl r) H)
section
variable {P : Program} {w : World} {K : PySem.W.Frag} {mg : Str → Option Value} {base : Heap}
theorem sc_Exact_bool : FnScope ["self"] ["self"] (defScope s_Exact_bool) := ⟨rfl, rfl, rfl, by decide +kernel, rfl, by decide +kernel, by decide +kernel⟩
theorem b_Exact_bool (T : Txt P K mg w) : Binds K (fdOf K (a_Exact_bool K)) ["self"] [] := T.f_Exact_bool.bindsN fun _ _ _ _ _ _ us hl => match us, hl with | [_], _ => rfl
theorem ok_Exact_bool (T : Txt P K mg w) : FnOk P w K mg base CX0 1 (a_Exact_bool K) (fdOf K (a_Exact_bool K)) ["self"] (sp_Exact_bool K) := by
  refine T.f_Exact_bool.ok sc_Exact_bool (fun vs H Q E h => ?_) (fun cdv A outer s H vs Q E hr h => ?_)
  · obtain ⟨_, _, _, _, _, _, _, rfl, _, _, _, _⟩ := h
    rfl
  · obtain ⟨I, O, self, self_d, self_base, self_coefficient, self_exponent, rfl, w, f_self, f_self1, k⟩ := h
    refine ⟨_, PSs.nox (pss_one (ps_ret (pe_callTy call_bool1 (by rfl) T.n_bool (by decide +kernel) (pa_cons (pe_cmpR op_ne (pe_fld (pv 0) (by rfl)) (pe_int) (nomark _)) (pa_nil))))), ?_⟩
    refine ⟨_, rfl, _, _, _, _, _, rfl, (w.get f_self), T.l_Exact, T.na_Exact_coefficient, lk_Exact_coefficient, rfl, .inr ⟨_, rfl, ?_⟩⟩
    exact k (!decide ((V.int self_coefficient) = (V.int 0))) (by rfl)
end
def sp_law_is (K : PySem.W.Frag) : Sp := fun vs H Q E => ∃ (I : Hp) (O : List (Addr × HO)) (value : Addr) (value_d : Addr) (value_base : Int) (value_coefficient : Int) (value_exponent : Int) (base : Int) (x : Addr) (x_0 : Int) (x_1 : Int), vs = [.ref value, .int base, .ref x] ∧ Wd I (O) H ∧ I value = some (.ins (He.ga K "Exact") value_d (fs_Exact (.int value_base) (.int value_coefficient) (.int value_exponent))) ∧ Nf value_base value_coefficient value_exponent ∧ I x = some (.tup [.int x_0, .int x_1]) ∧ value_base = base ∧ Sz 8000 x_0 ∧ Low base x_0 x_1 value_coefficient value_exponent ∧ (∀ (r : Bool) (I' : Hp) (H' : Hp), Same I I' → Wd I' (O) H' → r = true → Q (.bl r) H')
section
variable {P : Program} {w : World} {K : PySem.W.Frag} {mg : Str → Option Value} {base : Heap}
theorem sc_law_is : FnScope ["value", "base", "x", "low"] ["value", "base", "x"] (defScope s_law_is) := ⟨rfl, rfl, rfl, by decide +kernel, rfl, by decide +kernel, by decide +kernel⟩
theorem b_law_is (T : Txt P K mg w) : Binds K (fdOf K (a_law_is K)) ["value", "base", "x"] [] := T.f_law_is.bindsN fun _ _ _ _ _ _ us hl => match us, hl with | [_, _, _], _ => rfl
theorem ok_law_is (T : Txt P K mg w) : FnOk P w K mg base CX0 3 (a_law_is K) (fdOf K (a_law_is K)) ["value", "base", "x"] (sp_law_is K) := by
  refine T.f_law_is.ok sc_law_is (fun vs H Q E h => ?_) (fun cdv A outer s H vs Q E hr h => ?_)
  · obtain ⟨_, _, _, _, _, _, _, _, _, _, _, rfl, _, _, _, _, _, _, _, _⟩ := h
    rfl
  · obtain ⟨I, O, value, value_d, value_base, value_coefficient, value_exponent, base, x, x_0, x_1, rfl, w, f_value, f_value1, f_x, e1, e2, e3, k⟩ := h
    obtain ⟨b0_value, b1_value, l0_value⟩ := id f_value1
    refine ⟨_, PSs.nox (pss_cons (ps_if (pt_not (pt_val (pe_callB call_isi (by rfl) T.n_isinstance (by decide +kernel) (pa_cons (pv 0) (pa_cons (pe_glob (v := .ref (He.ga K "Exact")) (by rfl) T.g_Exact rfl) (pa_nil)))))) (pss_one (ps_never)) (pss_nil)) (pss_cons (ps_set (i := 3) sc_law_is.nd rfl (Or.inl rfl) (pe_call (ok_law_lowest T) (hr.mono (by decide)) (by rfl) T.g_law_lowest T.f_law_lowest.kp (b_law_lowest T) .nil pass0 (pa_cons (pv 1) (pa_cons (pe_ix ix_tup (pv 2) (pe_int) (fun _ _ => rfl)) (pa_cons (pe_ix ix_tup (pv 2) (pe_int) (fun _ _ => rfl)) (pa_nil)))))) (pss_one (ps_ret (pe_call (ok_law_equal_ints T) (hr.mono (by decide)) (by rfl) T.g_law_equal T.f_law_equal.kp (b_law_equal_ints T) .nil pass0 (pa_cons (pe_lst (pa_cons (pe_fld (pv 0) (by rfl)) (pa_cons (pe_fld (pv 0) (by rfl)) (pa_cons (pe_fld (pv 0) (by rfl)) (pa_nil))))) (pa_cons (pe_lst (pa_cons (pv 1) (pa_cons (pe_ix ix_tup (pv 3) (pe_int) (fun _ _ => rfl)) (pa_cons (pe_ix ix_tup (pv 3) (pe_int) (fun _ _ => rfl)) (pa_nil))))) (pa_nil)))))))), ?_⟩
    refine ⟨_, rfl, _, _, .ref (He.ga K "Exact"), .ref (He.ga K "Exact"), true, rfl, .own _, .base (.ins (w.get f_value) T.l_Exact T.ic_Exact.ha T.ic_Exact.hn T.ic_Exact.htk T.ic_Exact.hm), T.ki_Exact_Exact, _, rfl, ?_⟩
    refine ⟨_, rfl, _, rfl, _, _, _, _, rfl, rfl, (SqT.of (w.get f_x)), rfl, _, rfl, _, _, _, _, rfl, rfl, (SqT.of (w.get f_x)), rfl, I, (O), base, x_0, x_1, rfl, w, (by first | assumption | omega | rfl), (by first | assumption | omega | rfl), (by first | assumption | omega | rfl), fun r2 r2_0 r2_1 I3 H5 s4 w6 f7 q8 => ?_⟩
    refine ⟨_, rfl, _, _, _, _, _, rfl, (w6.get (s4 _ _ f_value)), T.l_Exact, T.na_Exact_base, lk_Exact_base, _, rfl, _, _, _, _, _, rfl, (w6.get (s4 _ _ f_value)), T.l_Exact, T.na_Exact_coefficient, lk_Exact_coefficient, _, rfl, _, _, _, _, _, rfl, (w6.get (s4 _ _ f_value)), T.l_Exact, T.na_Exact_exponent, lk_Exact_exponent, (by show 3 ≤ sizeLine; decide), fun p9 hp10 => ?_⟩
    have s11 := w6.newS (o := .lst [(V.int value_base), (V.int value_coefficient), (V.int value_exponent)]) hp10
    have w12 := w6.new (o := .lst [(V.int value_base), (V.int value_coefficient), (V.int value_exponent)]) hp10
    refine ⟨_, rfl, _, rfl, _, _, _, _, rfl, rfl, (SqT.of (w12.get (s11 _ _ f7))), rfl, _, rfl, _, _, _, _, rfl, rfl, (SqT.of (w12.get (s11 _ _ f7))), rfl, (by show 3 ≤ sizeLine; decide), fun p13 hp14 => ?_⟩
    have s15 := w12.newS (o := .lst [(V.int base), (V.int r2_0), (V.int r2_1)]) hp14
    have w16 := w12.new (o := .lst [(V.int base), (V.int r2_0), (V.int r2_1)]) hp14
    refine ⟨(upd (upd I3 p9 (.lst [(V.int value_base), (V.int value_coefficient), (V.int value_exponent)])) p13 (.lst [(V.int base), (V.int r2_0), (V.int r2_1)])), (O), p9, [value_base, value_coefficient, value_exponent], p13, [base, r2_0, r2_1], rfl, w16, (s15 _ _ upd_same), upd_same, (by first | (show (3 : Nat) ≤ 1000; decide) | (have q := low_unique (b := base) (by omega) e3 (by assumption); rw [q.1, q.2, e1])), (by first | (show (3 : Nat) ≤ 1000; decide) | (have q := low_unique (b := base) (by omega) e3 (by assumption); rw [q.1, q.2, e1])), fun r17 I18 H20 s19 w21 q22 => ?_⟩
    subst q22
    exact k true _ _ ((Same.trans (Same.trans (Same.trans s4 s11) s15) s19)) w21 (by first | assumption | omega | rfl)
end
def sp_law_are (K : PySem.W.Frag) : Sp := fun vs H Q E => ∃ (I : Hp) (O : List (Addr × HO)) (values : Addr) (values_l : List V) (base : Int) (xs : Addr) (xs_l : List V), vs = [.ref values, .int base, .ref xs] ∧ Wd I (O) H ∧ I values = some (.lst values_l) ∧ I xs = some (.lst xs_l) ∧ PySem.Paired (ExAt K I base) values_l xs_l ∧ xs_l.length ≤ 1000 ∧ (∀ (r : Bool) (I' : Hp) (H' : Hp), Same I I' → Wd I' (O) H' → r = true → Q (.bl r) H')
section
variable {P : Program} {w : World} {K : PySem.W.Frag} {mg : Str → Option Value} {base : Heap}
theorem sc_law_are : FnScope ["values", "base", "xs", "k"] ["values", "base", "xs"] (defScope s_law_are) := ⟨rfl, rfl, rfl, by decide +kernel, rfl, by decide +kernel, by decide +kernel⟩
theorem b_law_are (T : Txt P K mg w) : Binds K (fdOf K (a_law_are K)) ["values", "base", "xs"] [] := T.f_law_are.bindsN fun _ _ _ _ _ _ us hl => match us, hl with | [_, _, _], _ => rfl
theorem ok_law_are (T : Txt P K mg w) : FnOk P w K mg base CX0 4 (a_law_are K) (fdOf K (a_law_are K)) ["values", "base", "xs"] (sp_law_are K) := by
  refine T.f_law_are.ok sc_law_are (fun vs H Q E h => ?_) (fun cdv A outer s H vs Q E hr h => ?_)
  · obtain ⟨_, _, _, _, _, _, _, rfl, _, _, _, _, _, _⟩ := h
    rfl
  · obtain ⟨I, O, values, values_l, base, xs, xs_l, rfl, w, f_values, f_xs, e1, e2, k⟩ := h
    have hlen := PySem.Paired.length e1
    refine ⟨_, PSs.nox (pss_cons (ps_if (PW.pt (pw_or (pt_not (pt_val (pe_callB call_isi (by rfl) T.n_isinstance (by decide +kernel) (pa_cons (pv 0) (pa_cons (pe_bltn (v := .ty "list") (by rfl) T.n_list (by decide +kernel) rfl) (pa_nil)))))) (pw_or1 (pt_cmpR op_ne (pe_callB call_len_seq (by rfl) T.n_len (by decide +kernel) (pa_cons (pv 0) (pa_nil))) (pe_callB call_len_seq (by rfl) T.n_len (by decide +kernel) (pa_cons (pv 2) (pa_nil))) (nomark _))))) (pss_one (ps_never)) (pss_nil)) (pss_cons (ps_for PassesOwn.never rfl (pi_range1 (by rfl) T.n_range (pa_cons (pe_callB call_len_seq (by rfl) T.n_len (by decide +kernel) (pa_cons (pv 2) (pa_nil))) (pa_nil))) (pg_name (i := 3) sc_law_are.nd rfl (Or.inl rfl)) (pss_one (ps_if (pt_not (pt_val (pe_call (ok_law_is T) (hr.mono (by decide)) (by rfl) T.g_law_is T.f_law_is.kp (b_law_is T) .nil pass0 (pa_cons (pe_ix ix_list (pv 0) (pv 3) (fun _ _ => rfl)) (pa_cons (pv 1) (pa_cons (pe_ix ix_list (pv 2) (pv 3) (fun _ _ => rfl)) (pa_nil))))))) (pss_one (ps_never)) (pss_nil)))) (pss_one (ps_ret (pe_bl))))), ?_⟩
    refine ⟨_, rfl, _, _, .type "list", .type "list", true, rfl, .ty _, .base (.lst (w.get f_values)), kit_ty (by decide +kernel), _, rfl, ?_⟩
    refine ⟨_, rfl, _, _, rfl, .inl (SqL.of (w.get f_values)), _, rfl, _, _, rfl, .inl (SqL.of (w.get f_xs)), rfl, _, rfl, ?_⟩
    refine iNeI (fun h2 => (by exact absurd (by rw [hlen]) h2)) (fun h2 => ?_)
    refine ⟨_, rfl, _, _, rfl, .inl (SqL.of (w.get f_xs)), _, rfl, (by omega), (by omega), for_range (lo := 0) (n := (((xs_l).length : Int)).toNat) (fun i6 σ' H' => ∃ (o3 : Option V) (I4 : Hp), σ' = [some (V.ref values), some (V.int base), some (V.ref xs), o3] ∧ Same I I4 ∧ Wd I4 (O) H') ⟨_, _, rfl, (Same.refl _), w⟩ ?_ ?_⟩
    · rintro i10 _ H8 hi9 ⟨o3, I4, rfl, s5, w7⟩
      obtain ⟨v11, u12, hv13, hu14, a15, d16, c17, e18, p19, y20, z21, rfl, ha22, hn23, rfl, hp24, hl25, hz26⟩ := paired_get (i := i10) e1 (by omega)
      refine ⟨_, rfl, _, rfl, _, _, _, _, rfl, rfl, (SqL.of (w7.get (s5 _ _ f_values))), at_of (j := i10) (by omega) hv13, _, rfl, _, rfl, _, rfl, _, _, _, _, rfl, rfl, (SqL.of (w7.get (s5 _ _ f_xs))), at_of (j := i10) (by omega) hu14, I4, (O), a15, d16, base, c17, e18, base, p19, y20, z21, rfl, w7, (s5 _ _ ha22), (by first | assumption | exact num_nf (by assumption) (by assumption) (by assumption) | exact low_nf (by omega) (by omega) (by assumption)), (s5 _ _ hp24), (by first | rfl | assumption | omega), (by first | rfl | assumption | omega), (by first | rfl | assumption | omega), fun r27 I28 H30 s29 w31 q32 => ?_⟩
      subst q32
      refine ⟨_, rfl, ?_⟩
      exact ⟨_, _, rfl, (Same.trans s5 s29), w31⟩
    · rintro _ H34 ⟨o3, I4, rfl, s5, w7⟩
      exact k true _ _ (s5) w7 (by first | rfl | assumption | omega)
end
def sp_law_due (K : PySem.W.Frag) : Sp := fun vs H Q E => ∃ (I : Hp) (O : List (Addr × HO)) (base : Int) (x : Addr) (x_0 : Int) (x_1 : Int) (y : Addr) (y_0 : Int) (y_1 : Int) (n : Int), vs = [.int base, .ref x, .ref y, .int n] ∧ Wd I (O) H ∧ I x = some (.tup [.int x_0, .int x_1]) ∧ I y = some (.tup [.int y_0, .int y_1]) ∧ 2 ≤ base ∧ base ≤ 36 ∧ Num base (-20) 361 2761 x_0 x_1 ∧ Num base (-20) 361 2761 y_0 y_1 ∧ n.natAbs < (base ^ 40).natAbs ∧ (∀ (r : Addr) (r_0 : Addr) (r_0_0 : Int) (r_0_1 : Int) (r_1 : Addr) (r_1_0 : Int) (r_1_1 : Int) (r_2 : Addr) (r_3 : Addr) (r_3_0 : Int) (r_3_1 : Int) (r_4 : Addr) (r_4_0 : Int) (r_4_1 : Int) (r_5 : Addr) (r_6 : Addr) (r_7 : Addr) (r_7_0 : Int) (r_7_1 : Int) (r_8 : Addr) (r_8_0 : Int) (r_8_1 : Int) (r_9 : Addr) (r_9_0 : Int) (r_9_1 : Int) (r_10 : Addr) (r_11 : Addr) (r_11_0 : Int) (r_11_1 : Int) (r_12 : Addr) (r_12_0 : Int) (r_12_1 : Int) (I' : Hp) (H' : Hp), Same I I' → Wd I' (O) H' → I' r = some (.lst [.ref r_0, .ref r_1, .ref r_2, .ref r_3, .ref r_4, .ref r_5, .ref r_6, .ref r_7, .ref r_8, .ref r_9, .ref r_10, .ref r_11, .ref r_12]) → I' r_0 = some (.tup [.int r_0_0, .int r_0_1]) → I' r_1 = some (.tup [.int r_1_0, .int r_1_1]) → I' r_2 = some (.tup [.int (0 - r_1_0), .int (r_1_1)]) → I' r_3 = some (.tup [.int r_3_0, .int r_3_1]) → I' r_4 = some (.tup [.int r_4_0, .int r_4_1]) → I' r_5 = some (.tup [.int (0 - x_0), .int (x_1)]) → I' r_6 = some (.tup [.int (if x_0 < 0 then -x_0 else x_0), .int (x_1)]) → I' r_7 = some (.tup [.int r_7_0, .int r_7_1]) → I' r_8 = some (.tup [.int r_8_0, .int r_8_1]) → I' r_9 = some (.tup [.int r_9_0, .int r_9_1]) → I' r_10 = some (.tup [.int (0 - r_9_0), .int (r_9_1)]) → I' r_11 = some (.tup [.int r_11_0, .int r_11_1]) → I' r_12 = some (.tup [.int r_12_0, .int r_12_1]) → SumL base x_0 x_1 y_0 y_1 1 r_0_0 r_0_1 → SumL base x_0 x_1 y_0 y_1 (-1) r_1_0 r_1_1 → Low base (x_0 * y_0) (x_1 + y_1) r_3_0 r_3_1 → Low base (x_0 * y_0) (x_1 + y_1) r_4_0 r_4_1 → SumL base x_0 x_1 n 0 1 r_7_0 r_7_1 → SumL base x_0 x_1 n 0 1 r_8_0 r_8_1 → SumL base x_0 x_1 n 0 (-1) r_9_0 r_9_1 → Low base (x_0 * n) (x_1 + 0) r_11_0 r_11_1 → Low base (x_0 * n) (x_1 + 0) r_12_0 r_12_1 → Q (.ref r) H')
section
variable {P : Program} {w : World} {K : PySem.W.Frag} {mg : Str → Option Value} {base : Heap}
theorem sc_law_due : FnScope ["base", "x", "y", "n", "total", "less", "times", "more", "under", "scaled", "due"] ["base", "x", "y", "n"] (defScope s_law_due) := ⟨rfl, rfl, rfl, by decide +kernel, rfl, by decide +kernel, by decide +kernel⟩
theorem b_law_due (T : Txt P K mg w) : Binds K (fdOf K (a_law_due K)) ["base", "x", "y", "n"] [] := T.f_law_due.bindsN fun _ _ _ _ _ _ us hl => match us, hl with | [_, _, _, _], _ => rfl
theorem ok_law_due (T : Txt P K mg w) : FnOk P w K mg base CX0 4 (a_law_due K) (fdOf K (a_law_due K)) ["base", "x", "y", "n"] (sp_law_due K) := by
  refine T.f_law_due.ok sc_law_due (fun vs H Q E h => ?_) (fun cdv A outer s H vs Q E hr h => ?_)
  · obtain ⟨_, _, _, _, _, _, _, _, _, _, rfl, _, _, _, _, _, _, _, _, _⟩ := h
    rfl
  · obtain ⟨I, O, base, x, x_0, x_1, y, y_0, y_1, n, rfl, w, f_x, f_y, e1, e2, e3, e4, e5, k⟩ := h
    refine ⟨_, PSs.nox (pss_cons (ps_set (i := 4) sc_law_due.nd rfl (Or.inl rfl) (pe_call (ok_law_sum T) (hr.mono (by decide)) (by rfl) T.g_law_sum T.f_law_sum.kp (b_law_sum T) .nil pass0 (pa_cons (pv 0) (pa_cons (pv 1) (pa_cons (pv 2) (pa_cons (pe_int) (pa_nil))))))) (pss_cons (ps_set (i := 5) sc_law_due.nd rfl (Or.inl rfl) (pe_call (ok_law_sum T) (hr.mono (by decide)) (by rfl) T.g_law_sum T.f_law_sum.kp (b_law_sum T) .nil pass0 (pa_cons (pv 0) (pa_cons (pv 1) (pa_cons (pv 2) (pa_cons (pe_op op_sub (pe_int) (pe_int)) (pa_nil))))))) (pss_cons (ps_set (i := 6) sc_law_due.nd rfl (Or.inl rfl) (pe_call (ok_law_product T) (hr.mono (by decide)) (by rfl) T.g_law_product T.f_law_product.kp (b_law_product T) .nil pass0 (pa_cons (pv 0) (pa_cons (pv 1) (pa_cons (pv 2) (pa_nil)))))) (pss_cons (ps_set (i := 7) sc_law_due.nd rfl (Or.inl rfl) (pe_call (ok_law_sum T) (hr.mono (by decide)) (by rfl) T.g_law_sum T.f_law_sum.kp (b_law_sum T) .nil pass0 (pa_cons (pv 0) (pa_cons (pv 1) (pa_cons (pe_tup (pa_cons (pv 3) (pa_cons (pe_int) (pa_nil)))) (pa_cons (pe_int) (pa_nil))))))) (pss_cons (ps_set (i := 8) sc_law_due.nd rfl (Or.inl rfl) (pe_call (ok_law_sum T) (hr.mono (by decide)) (by rfl) T.g_law_sum T.f_law_sum.kp (b_law_sum T) .nil pass0 (pa_cons (pv 0) (pa_cons (pv 1) (pa_cons (pe_tup (pa_cons (pv 3) (pa_cons (pe_int) (pa_nil)))) (pa_cons (pe_op op_sub (pe_int) (pe_int)) (pa_nil))))))) (pss_cons (ps_set (i := 9) sc_law_due.nd rfl (Or.inl rfl) (pe_call (ok_law_product T) (hr.mono (by decide)) (by rfl) T.g_law_product T.f_law_product.kp (b_law_product T) .nil pass0 (pa_cons (pv 0) (pa_cons (pv 1) (pa_cons (pe_tup (pa_cons (pv 3) (pa_cons (pe_int) (pa_nil)))) (pa_nil)))))) (pss_cons (ps_set (i := 10) sc_law_due.nd rfl (Or.inl rfl) (pe_lst (pa_cons (pv 4) (pa_cons (pv 5) (pa_cons (pe_call (ok_law_negative T) (hr.mono (by decide)) (by rfl) T.g_law_negative T.f_law_negative.kp (b_law_negative T) .nil pass0 (pa_cons (pv 5) (pa_nil))) (pa_cons (pv 6) (pa_cons (pv 6) (pa_cons (pe_call (ok_law_negative T) (hr.mono (by decide)) (by rfl) T.g_law_negative T.f_law_negative.kp (b_law_negative T) .nil pass0 (pa_cons (pv 1) (pa_nil))) (pa_cons (pe_tup (pa_cons (pe_callB call_abs (by rfl) T.n_abs (by decide +kernel) (pa_cons (pe_ix ix_tup (pv 1) (pe_int) (fun _ _ => rfl)) (pa_nil))) (pa_cons (pe_ix ix_tup (pv 1) (pe_int) (fun _ _ => rfl)) (pa_nil)))) (pa_nil)))))))))) (pss_one (ps_ret (pe_op op_cat (pv 10) (pe_lst (pa_cons (pv 7) (pa_cons (pv 7) (pa_cons (pv 8) (pa_cons (pe_call (ok_law_negative T) (hr.mono (by decide)) (by rfl) T.g_law_negative T.f_law_negative.kp (b_law_negative T) .nil pass0 (pa_cons (pv 8) (pa_nil))) (pa_cons (pv 9) (pa_cons (pv 9) (pa_nil)))))))))))))))))), ?_⟩
    refine ⟨_, rfl, _, rfl, _, rfl, I, (O), base, x, x_0, x_1, y, y_0, y_1, 1, rfl, w, f_x, f_y, (by first | assumption | omega | exact .inl rfl | exact .inr (by decide) | exact wt_mono e3.2.2.2.1 (by decide) | exact wt_mono e4.2.2.2.1 (by decide) | exact wt_mono (wt_int e1 e2 e5) (by decide) | (have q := e3.2.1; have q2 := e3.2.2.1; omega) | (have q := e4.2.1; have q2 := e4.2.2.1; omega)), (by first | assumption | omega | exact .inl rfl | exact .inr (by decide) | exact wt_mono e3.2.2.2.1 (by decide) | exact wt_mono e4.2.2.2.1 (by decide) | exact wt_mono (wt_int e1 e2 e5) (by decide) | (have q := e3.2.1; have q2 := e3.2.2.1; omega) | (have q := e4.2.1; have q2 := e4.2.2.1; omega)), (by first | assumption | omega | exact .inl rfl | exact .inr (by decide) | exact wt_mono e3.2.2.2.1 (by decide) | exact wt_mono e4.2.2.2.1 (by decide) | exact wt_mono (wt_int e1 e2 e5) (by decide) | (have q := e3.2.1; have q2 := e3.2.2.1; omega) | (have q := e4.2.1; have q2 := e4.2.2.1; omega)), (by first | assumption | omega | exact .inl rfl | exact .inr (by decide) | exact wt_mono e3.2.2.2.1 (by decide) | exact wt_mono e4.2.2.2.1 (by decide) | exact wt_mono (wt_int e1 e2 e5) (by decide) | (have q := e3.2.1; have q2 := e3.2.2.1; omega) | (have q := e4.2.1; have q2 := e4.2.2.1; omega)), (by first | assumption | omega | exact .inl rfl | exact .inr (by decide) | exact wt_mono e3.2.2.2.1 (by decide) | exact wt_mono e4.2.2.2.1 (by decide) | exact wt_mono (wt_int e1 e2 e5) (by decide) | (have q := e3.2.1; have q2 := e3.2.2.1; omega) | (have q := e4.2.1; have q2 := e4.2.2.1; omega)), (by first | assumption | omega | exact .inl rfl | exact .inr (by decide) | exact wt_mono e3.2.2.2.1 (by decide) | exact wt_mono e4.2.2.2.1 (by decide) | exact wt_mono (wt_int e1 e2 e5) (by decide) | (have q := e3.2.1; have q2 := e3.2.2.1; omega) | (have q := e4.2.1; have q2 := e4.2.2.1; omega)), (by first | assumption | omega | exact .inl rfl | exact .inr (by decide) | exact wt_mono e3.2.2.2.1 (by decide) | exact wt_mono e4.2.2.2.1 (by decide) | exact wt_mono (wt_int e1 e2 e5) (by decide) | (have q := e3.2.1; have q2 := e3.2.2.1; omega) | (have q := e4.2.1; have q2 := e4.2.2.1; omega)), (by first | assumption | omega | exact .inl rfl | exact .inr (by decide) | exact wt_mono e3.2.2.2.1 (by decide) | exact wt_mono e4.2.2.2.1 (by decide) | exact wt_mono (wt_int e1 e2 e5) (by decide) | (have q := e3.2.1; have q2 := e3.2.2.1; omega) | (have q := e4.2.1; have q2 := e4.2.2.1; omega)), (by first | assumption | omega | exact .inl rfl | exact .inr (by decide) | exact wt_mono e3.2.2.2.1 (by decide) | exact wt_mono e4.2.2.2.1 (by decide) | exact wt_mono (wt_int e1 e2 e5) (by decide) | (have q := e3.2.1; have q2 := e3.2.2.1; omega) | (have q := e4.2.1; have q2 := e4.2.2.1; omega)), fun r1 r1_0 r1_1 I2 H4 s3 w5 f6 q7 => ?_⟩
    refine ⟨_, rfl, _, rfl, _, rfl, _, _, rfl, rfl, I2, (O), base, x, x_0, x_1, y, y_0, y_1, (0 - 1), rfl, w5, (s3 _ _ f_x), (s3 _ _ f_y), (by first | assumption | omega | exact .inl rfl | exact .inr (by decide) | exact wt_mono e3.2.2.2.1 (by decide) | exact wt_mono e4.2.2.2.1 (by decide) | exact wt_mono (wt_int e1 e2 e5) (by decide) | (have q := e3.2.1; have q2 := e3.2.2.1; omega) | (have q := e4.2.1; have q2 := e4.2.2.1; omega)), (by first | assumption | omega | exact .inl rfl | exact .inr (by decide) | exact wt_mono e3.2.2.2.1 (by decide) | exact wt_mono e4.2.2.2.1 (by decide) | exact wt_mono (wt_int e1 e2 e5) (by decide) | (have q := e3.2.1; have q2 := e3.2.2.1; omega) | (have q := e4.2.1; have q2 := e4.2.2.1; omega)), (by first | assumption | omega | exact .inl rfl | exact .inr (by decide) | exact wt_mono e3.2.2.2.1 (by decide) | exact wt_mono e4.2.2.2.1 (by decide) | exact wt_mono (wt_int e1 e2 e5) (by decide) | (have q := e3.2.1; have q2 := e3.2.2.1; omega) | (have q := e4.2.1; have q2 := e4.2.2.1; omega)), (by first | assumption | omega | exact .inl rfl | exact .inr (by decide) | exact wt_mono e3.2.2.2.1 (by decide) | exact wt_mono e4.2.2.2.1 (by decide) | exact wt_mono (wt_int e1 e2 e5) (by decide) | (have q := e3.2.1; have q2 := e3.2.2.1; omega) | (have q := e4.2.1; have q2 := e4.2.2.1; omega)), (by first | assumption | omega | exact .inl rfl | exact .inr (by decide) | exact wt_mono e3.2.2.2.1 (by decide) | exact wt_mono e4.2.2.2.1 (by decide) | exact wt_mono (wt_int e1 e2 e5) (by decide) | (have q := e3.2.1; have q2 := e3.2.2.1; omega) | (have q := e4.2.1; have q2 := e4.2.2.1; omega)), (by first | assumption | omega | exact .inl rfl | exact .inr (by decide) | exact wt_mono e3.2.2.2.1 (by decide) | exact wt_mono e4.2.2.2.1 (by decide) | exact wt_mono (wt_int e1 e2 e5) (by decide) | (have q := e3.2.1; have q2 := e3.2.2.1; omega) | (have q := e4.2.1; have q2 := e4.2.2.1; omega)), (by first | assumption | omega | exact .inl rfl | exact .inr (by decide) | exact wt_mono e3.2.2.2.1 (by decide) | exact wt_mono e4.2.2.2.1 (by decide) | exact wt_mono (wt_int e1 e2 e5) (by decide) | (have q := e3.2.1; have q2 := e3.2.2.1; omega) | (have q := e4.2.1; have q2 := e4.2.2.1; omega)), (by first | assumption | omega | exact .inl rfl | exact .inr (by decide) | exact wt_mono e3.2.2.2.1 (by decide) | exact wt_mono e4.2.2.2.1 (by decide) | exact wt_mono (wt_int e1 e2 e5) (by decide) | (have q := e3.2.1; have q2 := e3.2.2.1; omega) | (have q := e4.2.1; have q2 := e4.2.2.1; omega)), (by first | assumption | omega | exact .inl rfl | exact .inr (by decide) | exact wt_mono e3.2.2.2.1 (by decide) | exact wt_mono e4.2.2.2.1 (by decide) | exact wt_mono (wt_int e1 e2 e5) (by decide) | (have q := e3.2.1; have q2 := e3.2.2.1; omega) | (have q := e4.2.1; have q2 := e4.2.2.1; omega)), fun r8 r8_0 r8_1 I9 H11 s10 w12 f13 q14 => ?_⟩
    refine ⟨_, rfl, _, rfl, _, rfl, I9, (O), base, x, x_0, x_1, y, y_0, y_1, rfl, w12, ((Same.trans s3 s10) _ _ f_x), ((Same.trans s3 s10) _ _ f_y), (by first | assumption | exact Sz.mono e3.2.2.2.2 (by decide) | exact Sz.mono e4.2.2.2.2 (by decide) | exact Sz.mono (sz_int e1 e2 e5) (by decide)), (by first | assumption | exact Sz.mono e3.2.2.2.2 (by decide) | exact Sz.mono e4.2.2.2.2 (by decide) | exact Sz.mono (sz_int e1 e2 e5) (by decide)), (by first | assumption | exact Sz.mono e3.2.2.2.2 (by decide) | exact Sz.mono e4.2.2.2.2 (by decide) | exact Sz.mono (sz_int e1 e2 e5) (by decide)), (by first | assumption | exact Sz.mono e3.2.2.2.2 (by decide) | exact Sz.mono e4.2.2.2.2 (by decide) | exact Sz.mono (sz_int e1 e2 e5) (by decide)), fun r15 r15_0 r15_1 I16 H18 s17 w19 f20 q21 => ?_⟩
    refine ⟨_, rfl, _, rfl, _, rfl, (by show 2 ≤ sizeLine; decide), fun p22 hp23 => ?_⟩
    have s24 := w19.newS (o := .tup [(V.int n), (V.int 0)]) hp23
    have w25 := w19.new (o := .tup [(V.int n), (V.int 0)]) hp23
    refine ⟨(upd I16 p22 (.tup [(V.int n), (V.int 0)])), (O), base, x, x_0, x_1, p22, n, 0, 1, rfl, w25, ((Same.trans (Same.trans (Same.trans s3 s10) s17) s24) _ _ f_x), upd_same, (by first | assumption | omega | exact .inl rfl | exact .inr (by decide) | exact wt_mono e3.2.2.2.1 (by decide) | exact wt_mono e4.2.2.2.1 (by decide) | exact wt_mono (wt_int e1 e2 e5) (by decide) | (have q := e3.2.1; have q2 := e3.2.2.1; omega) | (have q := e4.2.1; have q2 := e4.2.2.1; omega)), (by first | assumption | omega | exact .inl rfl | exact .inr (by decide) | exact wt_mono e3.2.2.2.1 (by decide) | exact wt_mono e4.2.2.2.1 (by decide) | exact wt_mono (wt_int e1 e2 e5) (by decide) | (have q := e3.2.1; have q2 := e3.2.2.1; omega) | (have q := e4.2.1; have q2 := e4.2.2.1; omega)), (by first | assumption | omega | exact .inl rfl | exact .inr (by decide) | exact wt_mono e3.2.2.2.1 (by decide) | exact wt_mono e4.2.2.2.1 (by decide) | exact wt_mono (wt_int e1 e2 e5) (by decide) | (have q := e3.2.1; have q2 := e3.2.2.1; omega) | (have q := e4.2.1; have q2 := e4.2.2.1; omega)), (by first | assumption | omega | exact .inl rfl | exact .inr (by decide) | exact wt_mono e3.2.2.2.1 (by decide) | exact wt_mono e4.2.2.2.1 (by decide) | exact wt_mono (wt_int e1 e2 e5) (by decide) | (have q := e3.2.1; have q2 := e3.2.2.1; omega) | (have q := e4.2.1; have q2 := e4.2.2.1; omega)), (by first | assumption | omega | exact .inl rfl | exact .inr (by decide) | exact wt_mono e3.2.2.2.1 (by decide) | exact wt_mono e4.2.2.2.1 (by decide) | exact wt_mono (wt_int e1 e2 e5) (by decide) | (have q := e3.2.1; have q2 := e3.2.2.1; omega) | (have q := e4.2.1; have q2 := e4.2.2.1; omega)), (by first | assumption | omega | exact .inl rfl | exact .inr (by decide) | exact wt_mono e3.2.2.2.1 (by decide) | exact wt_mono e4.2.2.2.1 (by decide) | exact wt_mono (wt_int e1 e2 e5) (by decide) | (have q := e3.2.1; have q2 := e3.2.2.1; omega) | (have q := e4.2.1; have q2 := e4.2.2.1; omega)), (by first | assumption | omega | exact .inl rfl | exact .inr (by decide) | exact wt_mono e3.2.2.2.1 (by decide) | exact wt_mono e4.2.2.2.1 (by decide) | exact wt_mono (wt_int e1 e2 e5) (by decide) | (have q := e3.2.1; have q2 := e3.2.2.1; omega) | (have q := e4.2.1; have q2 := e4.2.2.1; omega)), (by first | assumption | omega | exact .inl rfl | exact .inr (by decide) | exact wt_mono e3.2.2.2.1 (by decide) | exact wt_mono e4.2.2.2.1 (by decide) | exact wt_mono (wt_int e1 e2 e5) (by decide) | (have q := e3.2.1; have q2 := e3.2.2.1; omega) | (have q := e4.2.1; have q2 := e4.2.2.1; omega)), (by first | assumption | omega | exact .inl rfl | exact .inr (by decide) | exact wt_mono e3.2.2.2.1 (by decide) | exact wt_mono e4.2.2.2.1 (by decide) | exact wt_mono (wt_int e1 e2 e5) (by decide) | (have q := e3.2.1; have q2 := e3.2.2.1; omega) | (have q := e4.2.1; have q2 := e4.2.2.1; omega)), fun r26 r26_0 r26_1 I27 H29 s28 w30 f31 q32 => ?_⟩
    refine ⟨_, rfl, _, rfl, _, rfl, (by show 2 ≤ sizeLine; decide), fun p33 hp34 => ?_⟩
    have s35 := w30.newS (o := .tup [(V.int n), (V.int 0)]) hp34
    have w36 := w30.new (o := .tup [(V.int n), (V.int 0)]) hp34
    refine ⟨_, _, rfl, rfl, (upd I27 p33 (.tup [(V.int n), (V.int 0)])), (O), base, x, x_0, x_1, p33, n, 0, (0 - 1), rfl, w36, ((Same.trans (Same.trans (Same.trans (Same.trans (Same.trans s3 s10) s17) s24) s28) s35) _ _ f_x), upd_same, (by first | assumption | omega | exact .inl rfl | exact .inr (by decide) | exact wt_mono e3.2.2.2.1 (by decide) | exact wt_mono e4.2.2.2.1 (by decide) | exact wt_mono (wt_int e1 e2 e5) (by decide) | (have q := e3.2.1; have q2 := e3.2.2.1; omega) | (have q := e4.2.1; have q2 := e4.2.2.1; omega)), (by first | assumption | omega | exact .inl rfl | exact .inr (by decide) | exact wt_mono e3.2.2.2.1 (by decide) | exact wt_mono e4.2.2.2.1 (by decide) | exact wt_mono (wt_int e1 e2 e5) (by decide) | (have q := e3.2.1; have q2 := e3.2.2.1; omega) | (have q := e4.2.1; have q2 := e4.2.2.1; omega)), (by first | assumption | omega | exact .inl rfl | exact .inr (by decide) | exact wt_mono e3.2.2.2.1 (by decide) | exact wt_mono e4.2.2.2.1 (by decide) | exact wt_mono (wt_int e1 e2 e5) (by decide) | (have q := e3.2.1; have q2 := e3.2.2.1; omega) | (have q := e4.2.1; have q2 := e4.2.2.1; omega)), (by first | assumption | omega | exact .inl rfl | exact .inr (by decide) | exact wt_mono e3.2.2.2.1 (by decide) | exact wt_mono e4.2.2.2.1 (by decide) | exact wt_mono (wt_int e1 e2 e5) (by decide) | (have q := e3.2.1; have q2 := e3.2.2.1; omega) | (have q := e4.2.1; have q2 := e4.2.2.1; omega)), (by first | assumption | omega | exact .inl rfl | exact .inr (by decide) | exact wt_mono e3.2.2.2.1 (by decide) | exact wt_mono e4.2.2.2.1 (by decide) | exact wt_mono (wt_int e1 e2 e5) (by decide) | (have q := e3.2.1; have q2 := e3.2.2.1; omega) | (have q := e4.2.1; have q2 := e4.2.2.1; omega)), (by first | assumption | omega | exact .inl rfl | exact .inr (by decide) | exact wt_mono e3.2.2.2.1 (by decide) | exact wt_mono e4.2.2.2.1 (by decide) | exact wt_mono (wt_int e1 e2 e5) (by decide) | (have q := e3.2.1; have q2 := e3.2.2.1; omega) | (have q := e4.2.1; have q2 := e4.2.2.1; omega)), (by first | assumption | omega | exact .inl rfl | exact .inr (by decide) | exact wt_mono e3.2.2.2.1 (by decide) | exact wt_mono e4.2.2.2.1 (by decide) | exact wt_mono (wt_int e1 e2 e5) (by decide) | (have q := e3.2.1; have q2 := e3.2.2.1; omega) | (have q := e4.2.1; have q2 := e4.2.2.1; omega)), (by first | assumption | omega | exact .inl rfl | exact .inr (by decide) | exact wt_mono e3.2.2.2.1 (by decide) | exact wt_mono e4.2.2.2.1 (by decide) | exact wt_mono (wt_int e1 e2 e5) (by decide) | (have q := e3.2.1; have q2 := e3.2.2.1; omega) | (have q := e4.2.1; have q2 := e4.2.2.1; omega)), (by first | assumption | omega | exact .inl rfl | exact .inr (by decide) | exact wt_mono e3.2.2.2.1 (by decide) | exact wt_mono e4.2.2.2.1 (by decide) | exact wt_mono (wt_int e1 e2 e5) (by decide) | (have q := e3.2.1; have q2 := e3.2.2.1; omega) | (have q := e4.2.1; have q2 := e4.2.2.1; omega)), fun r37 r37_0 r37_1 I38 H40 s39 w41 f42 q43 => ?_⟩
    refine ⟨_, rfl, _, rfl, _, rfl, (by show 2 ≤ sizeLine; decide), fun p44 hp45 => ?_⟩
    have s46 := w41.newS (o := .tup [(V.int n), (V.int 0)]) hp45
    have w47 := w41.new (o := .tup [(V.int n), (V.int 0)]) hp45
    refine ⟨(upd I38 p44 (.tup [(V.int n), (V.int 0)])), (O), base, x, x_0, x_1, p44, n, 0, rfl, w47, ((Same.trans (Same.trans (Same.trans (Same.trans (Same.trans (Same.trans (Same.trans s3 s10) s17) s24) s28) s35) s39) s46) _ _ f_x), upd_same, (by first | assumption | exact Sz.mono e3.2.2.2.2 (by decide) | exact Sz.mono e4.2.2.2.2 (by decide) | exact Sz.mono (sz_int e1 e2 e5) (by decide)), (by first | assumption | exact Sz.mono e3.2.2.2.2 (by decide) | exact Sz.mono e4.2.2.2.2 (by decide) | exact Sz.mono (sz_int e1 e2 e5) (by decide)), (by first | assumption | exact Sz.mono e3.2.2.2.2 (by decide) | exact Sz.mono e4.2.2.2.2 (by decide) | exact Sz.mono (sz_int e1 e2 e5) (by decide)), (by first | assumption | exact Sz.mono e3.2.2.2.2 (by decide) | exact Sz.mono e4.2.2.2.2 (by decide) | exact Sz.mono (sz_int e1 e2 e5) (by decide)), fun r48 r48_0 r48_1 I49 H51 s50 w52 f53 q54 => ?_⟩
    refine ⟨_, rfl, _, rfl, _, rfl, I49, (O), r8, r8_0, r8_1, rfl, w52, ((Same.trans (Same.trans (Same.trans (Same.trans (Same.trans (Same.trans s17 s24) s28) s35) s39) s46) s50) _ _ f13), fun r55 I56 H58 s57 w59 f60 => ?_⟩
    refine ⟨_, rfl, _, rfl, _, rfl, I56, (O), x, x_0, x_1, rfl, w59, ((Same.trans (Same.trans (Same.trans (Same.trans (Same.trans (Same.trans (Same.trans (Same.trans (Same.trans s3 s10) s17) s24) s28) s35) s39) s46) s50) s57) _ _ f_x), fun r61 I62 H64 s63 w65 f66 => ?_⟩
    refine ⟨_, rfl, _, _, _, _, rfl, rfl, (SqT.of (w65.get ((Same.trans (Same.trans (Same.trans (Same.trans (Same.trans (Same.trans (Same.trans (Same.trans (Same.trans (Same.trans s3 s10) s17) s24) s28) s35) s39) s46) s50) s57) s63) _ _ f_x))), rfl, _, rfl, _, rfl, _, _, _, _, rfl, rfl, (SqT.of (w65.get ((Same.trans (Same.trans (Same.trans (Same.trans (Same.trans (Same.trans (Same.trans (Same.trans (Same.trans (Same.trans s3 s10) s17) s24) s28) s35) s39) s46) s50) s57) s63) _ _ f_x))), rfl, (by show 2 ≤ sizeLine; decide), fun p67 hp68 => ?_⟩
    have s69 := w65.newS (o := .tup [(V.int (if x_0 < 0 then -x_0 else x_0)), (V.int x_1)]) hp68
    have w70 := w65.new (o := .tup [(V.int (if x_0 < 0 then -x_0 else x_0)), (V.int x_1)]) hp68
    refine ⟨(by show 7 ≤ sizeLine; decide), fun p71 hp72 => ?_⟩
    have s73 := w70.newS (o := .lst [(V.ref r1), (V.ref r8), (V.ref r55), (V.ref r15), (V.ref r15), (V.ref r61), (V.ref p67)]) hp72
    have w74 := w70.new (o := .lst [(V.ref r1), (V.ref r8), (V.ref r55), (V.ref r15), (V.ref r15), (V.ref r61), (V.ref p67)]) hp72
    refine ⟨_, rfl, _, rfl, _, rfl, _, rfl, _, rfl, (upd (upd I62 p67 (.tup [(V.int (if x_0 < 0 then -x_0 else x_0)), (V.int x_1)])) p71 (.lst [(V.ref r1), (V.ref r8), (V.ref r55), (V.ref r15), (V.ref r15), (V.ref r61), (V.ref p67)])), (O), r37, r37_0, r37_1, rfl, w74, ((Same.trans (Same.trans (Same.trans (Same.trans (Same.trans s46 s50) s57) s63) s69) s73) _ _ f42), fun r75 I76 H78 s77 w79 f80 => ?_⟩
    refine ⟨_, rfl, _, rfl, (by show 6 ≤ sizeLine; decide), fun p81 hp82 => ?_⟩
    have s83 := w79.newS (o := .lst [(V.ref r26), (V.ref r26), (V.ref r37), (V.ref r75), (V.ref r48), (V.ref r48)]) hp82
    have w84 := w79.new (o := .lst [(V.ref r26), (V.ref r26), (V.ref r37), (V.ref r75), (V.ref r48), (V.ref r48)]) hp82
    refine ⟨_, _, _, _, rfl, rfl, (w84.get ((Same.trans s77 s83) _ _ upd_same)), (w84.get upd_same), (by show 13 ≤ sizeLine; decide), fun p85 hp86 => ?_⟩
    have s87 := w84.newS (o := .lst ([(V.ref r1), (V.ref r8), (V.ref r55), (V.ref r15), (V.ref r15), (V.ref r61), (V.ref p67)] ++ [(V.ref r26), (V.ref r26), (V.ref r37), (V.ref r75), (V.ref r48), (V.ref r48)])) hp86
    have w88 := w84.new (o := .lst ([(V.ref r1), (V.ref r8), (V.ref r55), (V.ref r15), (V.ref r15), (V.ref r61), (V.ref p67)] ++ [(V.ref r26), (V.ref r26), (V.ref r37), (V.ref r75), (V.ref r48), (V.ref r48)])) hp86
    exact k p85 r1 r1_0 r1_1 r8 r8_0 r8_1 r55 r15 r15_0 r15_1 r15 r15_0 r15_1 r61 p67 r26 r26_0 r26_1 r26 r26_0 r26_1 r37 r37_0 r37_1 r75 r48 r48_0 r48_1 r48 r48_0 r48_1 _ _ ((Same.trans (Same.trans (Same.trans (Same.trans (Same.trans (Same.trans (Same.trans (Same.trans (Same.trans (Same.trans (Same.trans (Same.trans (Same.trans (Same.trans (Same.trans s3 s10) s17) s24) s28) s35) s39) s46) s50) s57) s63) s69) s73) s77) s83) s87)) w88 upd_same ((Same.trans (Same.trans (Same.trans (Same.trans (Same.trans (Same.trans (Same.trans (Same.trans (Same.trans (Same.trans (Same.trans (Same.trans (Same.trans (Same.trans s10 s17) s24) s28) s35) s39) s46) s50) s57) s63) s69) s73) s77) s83) s87) _ _ f6) ((Same.trans (Same.trans (Same.trans (Same.trans (Same.trans (Same.trans (Same.trans (Same.trans (Same.trans (Same.trans (Same.trans (Same.trans (Same.trans s17 s24) s28) s35) s39) s46) s50) s57) s63) s69) s73) s77) s83) s87) _ _ f13) ((Same.trans (Same.trans (Same.trans (Same.trans (Same.trans s63 s69) s73) s77) s83) s87) _ _ f60) ((Same.trans (Same.trans (Same.trans (Same.trans (Same.trans (Same.trans (Same.trans (Same.trans (Same.trans (Same.trans (Same.trans (Same.trans s24 s28) s35) s39) s46) s50) s57) s63) s69) s73) s77) s83) s87) _ _ f20) ((Same.trans (Same.trans (Same.trans (Same.trans (Same.trans (Same.trans (Same.trans (Same.trans (Same.trans (Same.trans (Same.trans (Same.trans s24 s28) s35) s39) s46) s50) s57) s63) s69) s73) s77) s83) s87) _ _ f20) ((Same.trans (Same.trans (Same.trans (Same.trans s69 s73) s77) s83) s87) _ _ f66) ((Same.trans (Same.trans (Same.trans s73 s77) s83) s87) _ _ upd_same) ((Same.trans (Same.trans (Same.trans (Same.trans (Same.trans (Same.trans (Same.trans (Same.trans (Same.trans (Same.trans s35 s39) s46) s50) s57) s63) s69) s73) s77) s83) s87) _ _ f31) ((Same.trans (Same.trans (Same.trans (Same.trans (Same.trans (Same.trans (Same.trans (Same.trans (Same.trans (Same.trans s35 s39) s46) s50) s57) s63) s69) s73) s77) s83) s87) _ _ f31) ((Same.trans (Same.trans (Same.trans (Same.trans (Same.trans (Same.trans (Same.trans (Same.trans s46 s50) s57) s63) s69) s73) s77) s83) s87) _ _ f42) ((Same.trans s83 s87) _ _ f80) ((Same.trans (Same.trans (Same.trans (Same.trans (Same.trans (Same.trans s57 s63) s69) s73) s77) s83) s87) _ _ f53) ((Same.trans (Same.trans (Same.trans (Same.trans (Same.trans (Same.trans s57 s63) s69) s73) s77) s83) s87) _ _ f53) (by first | assumption | rfl) (by first | assumption | rfl) (by first | assumption | rfl) (by first | assumption | rfl) (by first | assumption | rfl) (by first | assumption | rfl) (by first | assumption | rfl) (by first | assumption | rfl) (by first | assumption | rfl)
end
def sp_law (K : PySem.W.Frag) : Sp := fun vs H Q E => ∃ (I : Hp) (O : List (Addr × HO)) (script : Addr) (script_l : List Int), vs = [.ref script] ∧ Wd I (O) H ∧ SqL K I script (script_l.map V.int) ∧ script_l.length ≤ 63 ∧ (∀ (r : Bool) (I' : Hp) (H' : Hp), Same I I' → Wd I' (O) H' → r = true → Q (.bl r) H')
section
variable {P : Program} {w : World} {K : PySem.W.Frag} {mg : Str → Option Value} {base : Heap}
theorem sc_law : FnScope ["script", "source", "base", "n", "a", "b", "made", "due", "s", "t", "product", "further", "expected", "x", "y"] ["script"] (defScope s_law) := ⟨rfl, rfl, rfl, by decide +kernel, rfl, by decide +kernel, by decide +kernel⟩
theorem b_law (T : Txt P K mg w) : Binds K (fdOf K (a_law K)) ["script"] [] := T.f_law.bindsN fun _ _ _ _ _ _ us hl => match us, hl with | [_], _ => rfl
theorem ok_law (T : Txt P K mg w) : FnOk P w K mg base CX0 7 (a_law K) (fdOf K (a_law K)) ["script"] (sp_law K) := by
  refine T.f_law.ok sc_law (fun vs H Q E h => ?_) (fun cdv A outer s H vs Q E hr h => ?_)
  · obtain ⟨_, _, _, _, rfl, _, _, _, _⟩ := h
    rfl
  · obtain ⟨I, O, script, script_l, rfl, w, f_script, f_script1, k⟩ := h
    refine ⟨_, PSs.nox (pss_cons (ps_set (i := 1) sc_law.nd rfl (Or.inl rfl) (pe_call (ok_law_source T) (hr.mono (by decide)) (by rfl) T.g_law_source T.f_law_source.kp (b_law_source T) .nil pass0 (pa_cons (pv 0) (pa_nil)))) (pss_cons (ps_set (i := 2) sc_law.nd rfl (Or.inl rfl) (pe_call (ok_law_base T) (hr.mono (by decide)) (by rfl) T.g_law_base T.f_law_base.kp (b_law_base T) .nil pass0 (pa_cons (pv 1) (pa_nil)))) (pss_cons (ps_asg (pe_call (ok_law_operands T) (hr.mono (by decide)) (by rfl) T.g_law_operands T.f_law_operands.kp (b_law_operands T) .nil pass0 (pa_cons (pv 1) (pa_cons (pv 2) (pa_nil)))) (pg_lst rfl (pgs_cons (pg_name (i := 13) sc_law.nd rfl (Or.inl rfl)) (pgs_cons (pg_name (i := 14) sc_law.nd rfl (Or.inl rfl)) (pgs_nil))))) (pss_cons (ps_set (i := 3) sc_law.nd rfl (Or.inl rfl) (pe_call (ok_law_integer T) (hr.mono (by decide)) (by rfl) T.g_law_integer T.f_law_integer.kp (b_law_integer T) .nil pass0 (pa_cons (pv 1) (pa_cons (pv 2) (pa_nil))))) (pss_cons (ps_set (i := 4) sc_law.nd rfl (Or.inl rfl) (pe_call (ok_law_make T) (hr.mono (by decide)) (by rfl) T.g_law_make T.f_law_make.kp (b_law_make T) .nil pass0 (pa_cons (pv 2) (pa_cons (pv 13) (pa_nil))))) (pss_cons (ps_set (i := 5) sc_law.nd rfl (Or.inl rfl) (pv 4)) (Evl.pss_cut (ps_if (PW.pt (pw_or (pt_cmpR (op_nePair (nu_of hr)) (pv 13) (pv 14) (nomark _)) (pw_or1 (pt_cmpR op_eq (pe_call (ok_law_draw T) (hr.mono (by decide)) (by rfl) T.g_law_draw T.f_law_draw.kp (b_law_draw T) .nil pass0 (pa_cons (pv 1) (pa_cons (pe_int) (pa_nil)))) (pe_int) (nomark _))))) (pss_one (ps_set (i := 5) sc_law.nd rfl (Or.inl rfl) (pe_call (ok_law_make T) (hr.mono (by decide)) (by rfl) T.g_law_make T.f_law_make.kp (b_law_make T) .nil pass0 (pa_cons (pv 2) (pa_cons (pv 14) (pa_nil)))))) (pss_nil)) (pss_cons (ps_set (i := 6) sc_law.nd rfl (Or.inl rfl) (pe_lst (pa_cons (pe_op (op_ins2 T.sf_Exact T.op_Exact_add T.fn_Exact_add (ok_Exact_add_obj T) (hr.mono (by decide)) (b_Exact_add_obj T) pass0) (pv 4) (pv 5)) (pa_cons (pe_op (op_ins2 T.sf_Exact T.op_Exact_sub T.fn_Exact_sub (ok_Exact_sub_obj T) (hr.mono (by decide)) (b_Exact_sub_obj T) pass0) (pv 4) (pv 5)) (pa_cons (pe_op (op_ins2 T.sf_Exact T.op_Exact_sub T.fn_Exact_sub (ok_Exact_sub_obj T) (hr.mono (by decide)) (b_Exact_sub_obj T) pass0) (pv 5) (pv 4)) (pa_cons (pe_op (op_ins2 T.sf_Exact T.op_Exact_mul T.fn_Exact_mul (ok_Exact_mul_obj T) (hr.mono (by decide)) (b_Exact_mul_obj T) pass0) (pv 4) (pv 5)) (pa_cons (pe_op (op_ins2 T.sf_Exact T.op_Exact_mul T.fn_Exact_mul (ok_Exact_mul_obj T) (hr.mono (by decide)) (b_Exact_mul_obj T) pass0) (pv 5) (pv 4)) (pa_cons (pe_un (un_ins T.op_Exact_neg T.fn_Exact_neg (ok_Exact_neg T) (hr.mono (by decide)) (b_Exact_neg T) pass0) (pv 4)) (pa_cons (pe_callB (call_absIns T.op_Exact_abs T.fn_Exact_abs (ok_Exact_abs T) (hr.mono (by decide)) (b_Exact_abs T) pass0) (by rfl) T.n_abs (by decide +kernel) (pa_cons (pv 4) (pa_nil))) (pa_nil)))))))))) (pss_cons (ps_set (i := 6) sc_law.nd rfl (Or.inl rfl) (pe_op op_cat (pv 6) (pe_lst (pa_cons (pe_op (op_insI T.sf_Exact T.op_Exact_add T.fn_Exact_add T.op_Exact_radd (.inr ⟨_, rfl⟩) T.fo_int_add T.ro_int_add T.su_int_Exact (ok_Exact_add_int T) (hr.mono (by decide)) (b_Exact_add_int T) pass0) (pv 4) (pv 3)) (pa_cons (pe_op (op_rIns T.sf_Exact T.op_Exact_add T.op_Exact_radd T.fn_Exact_radd T.fo_int_add T.ro_int_add (by decide +kernel) T.su_Exact_int PySem.F.slot_int_add (fun _ _ _ _ _ _ _ _ h q => no_add h q) (ok_Exact_radd_int T) (hr.mono (by decide)) (b_Exact_radd_int T) pass0) (pv 3) (pv 4)) (pa_cons (pe_op (op_insI T.sf_Exact T.op_Exact_sub T.fn_Exact_sub T.op_Exact_rsub (.inr ⟨_, rfl⟩) T.fo_int_sub T.ro_int_sub T.su_int_Exact (ok_Exact_sub_int T) (hr.mono (by decide)) (b_Exact_sub_int T) pass0) (pv 4) (pv 3)) (pa_cons (pe_op (op_rIns T.sf_Exact T.op_Exact_sub T.op_Exact_rsub T.fn_Exact_rsub T.fo_int_sub T.ro_int_sub (by decide +kernel) T.su_Exact_int PySem.F.slot_int_sub (fun _ _ _ _ _ _ _ _ h q => no_sub h q) (ok_Exact_rsub_int T) (hr.mono (by decide)) (b_Exact_rsub_int T) pass0) (pv 3) (pv 4)) (pa_cons (pe_op (op_insI T.sf_Exact T.op_Exact_mul T.fn_Exact_mul T.op_Exact_rmul (.inr ⟨_, rfl⟩) T.fo_int_mul T.ro_int_mul T.su_int_Exact (ok_Exact_mul_int T) (hr.mono (by decide)) (b_Exact_mul_int T) pass0) (pv 4) (pv 3)) (pa_cons (pe_op (op_rIns T.sf_Exact T.op_Exact_mul T.op_Exact_rmul T.fn_Exact_rmul T.fo_int_mul T.ro_int_mul (by decide +kernel) T.su_Exact_int PySem.F.slot_int_mul (fun _ _ _ _ _ _ _ _ h q => no_mul h q) (ok_Exact_rmul_int T) (hr.mono (by decide)) (b_Exact_rmul_int T) pass0) (pv 3) (pv 4)) (pa_nil)))))))))) (pss_cons (ps_set (i := 7) sc_law.nd rfl (Or.inl rfl) (pe_call (ok_law_due T) (hr.mono (by decide)) (by rfl) T.g_law_due T.f_law_due.kp (b_law_due T) .nil pass0 (pa_cons (pv 2) (pa_cons (pv 13) (pa_cons (pv 14) (pa_cons (pv 3) (pa_nil))))))) (pss_cons (ps_if (pt_not (pt_val (pe_call (ok_law_are T) (hr.mono (by decide)) (by rfl) T.g_law_are T.f_law_are.kp (b_law_are T) .nil pass0 (pa_cons (pv 6) (pa_cons (pv 2) (pa_cons (pv 7) (pa_nil))))))) (pss_one (ps_never)) (pss_nil)) (pss_cons (ps_set (i := 8) sc_law.nd rfl (Or.inl rfl) (pe_ix ix_list (pv 6) (pe_int) (fun _ _ => rfl))) (pss_cons (ps_set (i := 9) sc_law.nd rfl (Or.inl rfl) (pe_ix ix_list (pv 6) (pe_int) (fun _ _ => rfl))) (pss_cons (ps_set (i := 10) sc_law.nd rfl (Or.inl rfl) (pe_call (ok_law_product T) (hr.mono (by decide)) (by rfl) T.g_law_product T.f_law_product.kp (b_law_product T) .nil pass0 (pa_cons (pv 2) (pa_cons (pe_ix ix_list (pv 7) (pe_int) (fun _ _ => rfl)) (pa_cons (pe_ix ix_list (pv 7) (pe_int) (fun _ _ => rfl)) (pa_nil)))))) (pss_cons (ps_set (i := 11) sc_law.nd rfl (Or.inl rfl) (pe_lst (pa_cons (pe_op (op_ins2 T.sf_Exact T.op_Exact_add T.fn_Exact_add (ok_Exact_add_obj T) (hr.mono (by decide)) (b_Exact_add_obj T) pass0) (pv 8) (pv 9)) (pa_cons (pe_op (op_ins2 T.sf_Exact T.op_Exact_mul T.fn_Exact_mul (ok_Exact_mul_obj T) (hr.mono (by decide)) (b_Exact_mul_obj T) pass0) (pv 8) (pv 9)) (pa_cons (pe_op (op_rIns T.sf_Exact T.op_Exact_sub T.op_Exact_rsub T.fn_Exact_rsub T.fo_int_sub T.ro_int_sub (by decide +kernel) T.su_Exact_int PySem.F.slot_int_sub (fun _ _ _ _ _ _ _ _ h q => no_sub h q) (ok_Exact_rsub_int T) (hr.mono (by decide)) (b_Exact_rsub_int T) pass0) (pv 3) (pe_op (op_ins2 T.sf_Exact T.op_Exact_mul T.fn_Exact_mul (ok_Exact_mul_obj T) (hr.mono (by decide)) (b_Exact_mul_obj T) pass0) (pv 8) (pv 9))) (pa_cons (pe_op (op_ins2 T.sf_Exact T.op_Exact_sub T.fn_Exact_sub (ok_Exact_sub_obj T) (hr.mono (by decide)) (b_Exact_sub_obj T) pass0) (pv 8) (pe_ix ix_list (pv 6) (pe_int) (fun _ _ => rfl))) (pa_nil))))))) (pss_cons (ps_set (i := 12) sc_law.nd rfl (Or.inl rfl) (pe_lst (pa_cons (pe_call (ok_law_sum T) (hr.mono (by decide)) (by rfl) T.g_law_sum T.f_law_sum.kp (b_law_sum T) .nil pass0 (pa_cons (pv 2) (pa_cons (pe_ix ix_list (pv 7) (pe_int) (fun _ _ => rfl)) (pa_cons (pe_ix ix_list (pv 7) (pe_int) (fun _ _ => rfl)) (pa_cons (pe_int) (pa_nil)))))) (pa_cons (pv 10) (pa_nil))))) (pss_cons (ps_expr (pe_bm PySem.F.plainAttrs_list PySem.F.slot_list_append PySem.F.type_list_append mt_append (pv 12) (pa_cons (pe_call (ok_law_sum T) (hr.mono (by decide)) (by rfl) T.g_law_sum T.f_law_sum.kp (b_law_sum T) .nil pass0 (pa_cons (pv 2) (pa_cons (pe_tup (pa_cons (pv 3) (pa_cons (pe_int) (pa_nil)))) (pa_cons (pv 10) (pa_cons (pe_op op_sub (pe_int) (pe_int)) (pa_nil)))))) (pa_nil)))) (pss_cons (ps_expr (pe_bm PySem.F.plainAttrs_list PySem.F.slot_list_append PySem.F.type_list_append mt_append (pv 12) (pa_cons (pe_call (ok_law_sum T) (hr.mono (by decide)) (by rfl) T.g_law_sum T.f_law_sum.kp (b_law_sum T) .nil pass0 (pa_cons (pv 2) (pa_cons (pe_ix ix_list (pv 7) (pe_int) (fun _ _ => rfl)) (pa_cons (pe_ix ix_list (pv 7) (pe_int) (fun _ _ => rfl)) (pa_cons (pe_op op_sub (pe_int) (pe_int)) (pa_nil)))))) (pa_nil)))) (pss_cons (ps_if (pt_not (pt_val (pe_call (ok_law_are T) (hr.mono (by decide)) (by rfl) T.g_law_are T.f_law_are.kp (b_law_are T) .nil pass0 (pa_cons (pv 11) (pa_cons (pv 2) (pa_cons (pv 12) (pa_nil))))))) (pss_one (ps_never)) (pss_nil)) (pss_cons (ps_if (pt_not (pt_val (pe_call (ok_law_equal_bools T) (hr.mono (by decide)) (by rfl) T.g_law_equal T.f_law_equal.kp (b_law_equal_bools T) .nil pass0 (pa_cons (pe_lst (pa_cons (pe_callTy (call_boolIns T.op_Exact_bool T.fn_Exact_bool (ok_Exact_bool T) (hr.mono (by decide)) (b_Exact_bool T) pass0) (by rfl) T.n_bool (by decide +kernel) (pa_cons (pv 4) (pa_nil))) (pa_cons (pe_callTy (call_boolIns T.op_Exact_bool T.fn_Exact_bool (ok_Exact_bool T) (hr.mono (by decide)) (b_Exact_bool T) pass0) (by rfl) T.n_bool (by decide +kernel) (pa_cons (pv 5) (pa_nil))) (pa_cons (pe_callTy (call_boolIns T.op_Exact_bool T.fn_Exact_bool (ok_Exact_bool T) (hr.mono (by decide)) (b_Exact_bool T) pass0) (by rfl) T.n_bool (by decide +kernel) (pa_cons (pv 9) (pa_nil))) (pa_nil))))) (pa_cons (pe_lst (pa_cons (pe_cmpR op_ne (pe_ix ix_tup (pv 13) (pe_int) (fun _ _ => rfl)) (pe_int) (nomark _)) (pa_cons (pe_cmpR op_ne (pe_ix ix_tup (pv 14) (pe_int) (fun _ _ => rfl)) (pe_int) (nomark _)) (pa_cons (pe_cmpR op_ne (pe_ix ix_tup (pe_ix ix_list (pv 7) (pe_int) (fun _ _ => rfl)) (pe_int) (fun _ _ => rfl)) (pe_int) (nomark _)) (pa_nil))))) (pa_nil)))))) (pss_one (ps_never)) (pss_nil)) (pss_one (ps_ret (pe_call (ok_law_are T) (hr.mono (by decide)) (by rfl) T.g_law_are T.f_law_are.kp (b_law_are T) .nil pass0 (pa_cons (pe_lst (pa_cons (pv 4) (pa_cons (pv 5) (pa_cons (pv 8) (pa_cons (pv 9) (pa_nil)))))) (pa_cons (pv 2) (pa_cons (pe_lst (pa_cons (pv 13) (pa_cons (pv 14) (pa_cons (pe_ix ix_list (pv 7) (pe_int) (fun _ _ => rfl)) (pa_cons (pe_ix ix_list (pv 7) (pe_int) (fun _ _ => rfl)) (pa_nil)))))) (pa_nil))))))))))))))))))))))))))), ?_⟩
    refine ⟨_, rfl, I, (O), script, _, rfl, w, f_script, ‹_›, fun r1 r1_s I2 H4 s3 w5 f6 => ?_⟩
    refine ⟨_, rfl, I2, (O), r1, (r1_s), rfl, w5, f6, fun r7 xs8 I9 H11 s10 w12 f13 q14 q15 => ?_⟩
    refine ⟨_, rfl, _, rfl, I9, (O), r1, (xs8), r7, rfl, w12, f13, (by first | rfl | assumption | exact num_low (by assumption) | exact num_als (by assumption : 2 ≤ r7) (by assumption) (by assumption) (by decide) | exact num_als_int (by assumption : 2 ≤ r7) (by assumption : r7 ≤ 36) (by assumption) (by assumption) (by decide) (by decide) | exact num_als_rint (by assumption : 2 ≤ r7) (by assumption : r7 ≤ 36) (by assumption) (by assumption) (by decide) (by decide) | exact Sz.mono (num_sz14 (by assumption)) (by decide) | exact Sz.mono (sz_int (by assumption : 2 ≤ r7) (by assumption : r7 ≤ 36) (by assumption)) (by decide)), (by first | rfl | assumption | exact num_low (by assumption) | exact num_als (by assumption : 2 ≤ r7) (by assumption) (by assumption) (by decide) | exact num_als_int (by assumption : 2 ≤ r7) (by assumption : r7 ≤ 36) (by assumption) (by assumption) (by decide) (by decide) | exact num_als_rint (by assumption : 2 ≤ r7) (by assumption : r7 ≤ 36) (by assumption) (by assumption) (by decide) (by decide) | exact Sz.mono (num_sz14 (by assumption)) (by decide) | exact Sz.mono (sz_int (by assumption : 2 ≤ r7) (by assumption : r7 ≤ 36) (by assumption)) (by decide)), fun r16 r16_0 r16_0_0 r16_0_1 r16_1 r16_1_0 r16_1_1 xs17 I18 H20 s19 w21 f22 f23 f24 f25 q26 q27 => ?_⟩
    refine ⟨_, _, rfl, (SqL.of (w21.get f22)), rfl, _, _, rfl, _, _, rfl, rfl, _, rfl, _, rfl, I18, (O), r1, (xs17), r7, rfl, w21, f25, (by first | rfl | assumption | exact num_low (by assumption) | exact num_als (by assumption : 2 ≤ r7) (by assumption) (by assumption) (by decide) | exact num_als_int (by assumption : 2 ≤ r7) (by assumption : r7 ≤ 36) (by assumption) (by assumption) (by decide) (by decide) | exact num_als_rint (by assumption : 2 ≤ r7) (by assumption : r7 ≤ 36) (by assumption) (by assumption) (by decide) (by decide) | exact Sz.mono (num_sz14 (by assumption)) (by decide) | exact Sz.mono (sz_int (by assumption : 2 ≤ r7) (by assumption : r7 ≤ 36) (by assumption)) (by decide)), (by first | rfl | assumption | exact num_low (by assumption) | exact num_als (by assumption : 2 ≤ r7) (by assumption) (by assumption) (by decide) | exact num_als_int (by assumption : 2 ≤ r7) (by assumption : r7 ≤ 36) (by assumption) (by assumption) (by decide) (by decide) | exact num_als_rint (by assumption : 2 ≤ r7) (by assumption : r7 ≤ 36) (by assumption) (by assumption) (by decide) (by decide) | exact Sz.mono (num_sz14 (by assumption)) (by decide) | exact Sz.mono (sz_int (by assumption : 2 ≤ r7) (by assumption : r7 ≤ 36) (by assumption)) (by decide)), fun r28 xs29 H30 w31 f32 q33 => ?_⟩
    refine ⟨_, rfl, _, rfl, I18, ((r1, .lst xs29) :: O), r7, r16_0, r16_0_0, r16_0_1, rfl, w31, f23, (by first | rfl | assumption | exact num_low (by assumption) | exact num_als (by assumption : 2 ≤ r7) (by assumption) (by assumption) (by decide) | exact num_als_int (by assumption : 2 ≤ r7) (by assumption : r7 ≤ 36) (by assumption) (by assumption) (by decide) (by decide) | exact num_als_rint (by assumption : 2 ≤ r7) (by assumption : r7 ≤ 36) (by assumption) (by assumption) (by decide) (by decide) | exact Sz.mono (num_sz14 (by assumption)) (by decide) | exact Sz.mono (sz_int (by assumption : 2 ≤ r7) (by assumption : r7 ≤ 36) (by assumption)) (by decide)), (by first | rfl | assumption | exact num_low (by assumption) | exact num_als (by assumption : 2 ≤ r7) (by assumption) (by assumption) (by decide) | exact num_als_int (by assumption : 2 ≤ r7) (by assumption : r7 ≤ 36) (by assumption) (by assumption) (by decide) (by decide) | exact num_als_rint (by assumption : 2 ≤ r7) (by assumption : r7 ≤ 36) (by assumption) (by assumption) (by decide) (by decide) | exact Sz.mono (num_sz14 (by assumption)) (by decide) | exact Sz.mono (sz_int (by assumption : 2 ≤ r7) (by assumption : r7 ≤ 36) (by assumption)) (by decide)), (by first | rfl | assumption | exact num_low (by assumption) | exact num_als (by assumption : 2 ≤ r7) (by assumption) (by assumption) (by decide) | exact num_als_int (by assumption : 2 ≤ r7) (by assumption : r7 ≤ 36) (by assumption) (by assumption) (by decide) (by decide) | exact num_als_rint (by assumption : 2 ≤ r7) (by assumption : r7 ≤ 36) (by assumption) (by assumption) (by decide) (by decide) | exact Sz.mono (num_sz14 (by assumption)) (by decide) | exact Sz.mono (sz_int (by assumption : 2 ≤ r7) (by assumption : r7 ≤ 36) (by assumption)) (by decide)), (by first | rfl | assumption | exact num_low (by assumption) | exact num_als (by assumption : 2 ≤ r7) (by assumption) (by assumption) (by decide) | exact num_als_int (by assumption : 2 ≤ r7) (by assumption : r7 ≤ 36) (by assumption) (by assumption) (by decide) (by decide) | exact num_als_rint (by assumption : 2 ≤ r7) (by assumption : r7 ≤ 36) (by assumption) (by assumption) (by decide) (by decide) | exact Sz.mono (num_sz14 (by assumption)) (by decide) | exact Sz.mono (sz_int (by assumption : 2 ≤ r7) (by assumption : r7 ≤ 36) (by assumption)) (by decide)), fun r34 r34_d I35 H37 s36 w38 f39 f40 => ?_⟩
    refine ⟨_, rfl, ?_⟩
    refine ⟨fun σ' H' => ∃ (b41 : Addr) (b41_d : Addr) (I43 : Hp) (xs45 : List V), σ' = [some (V.ref script), some (V.ref r1), some (V.int r7), some (V.int r28), some (V.ref r34), some (V.ref b41), none, none, none, none, none, none, none, some (V.ref r16_0), some (V.ref r16_1)] ∧ Same I35 I43 ∧ Wd I43 ((r1, .lst xs45) :: O) H' ∧ SrcOk I43 xs45 ∧ I43 b41 = some (.ins (He.ga K "Exact") b41_d (fs_Exact (.int (r7)) (.int (r16_1_0)) (.int (r16_1_1)))), ?_, ?_⟩
    · refine ⟨_, rfl, _, rfl, _, _, _, _, _, _, rfl, rfl, (SqT.of (w38.get (s36 _ _ f23))), (SqT.of (w38.get (s36 _ _ f24))), _, rfl, ?_⟩
      refine iB (fun h48 => ?_) (fun h48 => ?_)
      · refine ⟨_, rfl, _, rfl, I35, ((r1, .lst xs29) :: O), r7, r16_1, r16_1_0, r16_1_1, rfl, w38, (s36 _ _ f24), (by first | rfl | assumption | exact num_low (by assumption) | exact num_als (by assumption : 2 ≤ r7) (by assumption) (by assumption) (by decide) | exact num_als_int (by assumption : 2 ≤ r7) (by assumption : r7 ≤ 36) (by assumption) (by assumption) (by decide) (by decide) | exact num_als_rint (by assumption : 2 ≤ r7) (by assumption : r7 ≤ 36) (by assumption) (by assumption) (by decide) (by decide) | exact Sz.mono (num_sz14 (by assumption)) (by decide) | exact Sz.mono (sz_int (by assumption : 2 ≤ r7) (by assumption : r7 ≤ 36) (by assumption)) (by decide)), (by first | rfl | assumption | exact num_low (by assumption) | exact num_als (by assumption : 2 ≤ r7) (by assumption) (by assumption) (by decide) | exact num_als_int (by assumption : 2 ≤ r7) (by assumption : r7 ≤ 36) (by assumption) (by assumption) (by decide) (by decide) | exact num_als_rint (by assumption : 2 ≤ r7) (by assumption : r7 ≤ 36) (by assumption) (by assumption) (by decide) (by decide) | exact Sz.mono (num_sz14 (by assumption)) (by decide) | exact Sz.mono (sz_int (by assumption : 2 ≤ r7) (by assumption : r7 ≤ 36) (by assumption)) (by decide)), (by first | rfl | assumption | exact num_low (by assumption) | exact num_als (by assumption : 2 ≤ r7) (by assumption) (by assumption) (by decide) | exact num_als_int (by assumption : 2 ≤ r7) (by assumption : r7 ≤ 36) (by assumption) (by assumption) (by decide) (by decide) | exact num_als_rint (by assumption : 2 ≤ r7) (by assumption : r7 ≤ 36) (by assumption) (by assumption) (by decide) (by decide) | exact Sz.mono (num_sz14 (by assumption)) (by decide) | exact Sz.mono (sz_int (by assumption : 2 ≤ r7) (by assumption : r7 ≤ 36) (by assumption)) (by decide)), (by first | rfl | assumption | exact num_low (by assumption) | exact num_als (by assumption : 2 ≤ r7) (by assumption) (by assumption) (by decide) | exact num_als_int (by assumption : 2 ≤ r7) (by assumption : r7 ≤ 36) (by assumption) (by assumption) (by decide) (by decide) | exact num_als_rint (by assumption : 2 ≤ r7) (by assumption : r7 ≤ 36) (by assumption) (by assumption) (by decide) (by decide) | exact Sz.mono (num_sz14 (by assumption)) (by decide) | exact Sz.mono (sz_int (by assumption : 2 ≤ r7) (by assumption : r7 ≤ 36) (by assumption)) (by decide)), fun r49 r49_d I50 H52 s51 w53 f54 f55 => ?_⟩
        exact ⟨r49, r49_d, _, _, rfl, s51, w53, (SrcOk.mono (Same.trans s36 s51) f32), (by first | exact f54 | (obtain ⟨h1, h2⟩ := pair_eq (by assumption); rw [← h1, ← h2]; exact f54))⟩
      · refine ⟨_, rfl, I35, (O), r1, (xs29), 2, rfl, w38, (SrcOk.mono s36 f32), (by omega), (by omega), fun r56 xs57 H58 w59 f60 q61 q62 => ?_⟩
        refine ⟨rfl, _, rfl, ?_⟩
        refine iEqI (fun h63 => ?_) (fun h63 => ?_)
        · refine ⟨_, rfl, _, rfl, I35, ((r1, .lst xs57) :: O), r7, r16_1, r16_1_0, r16_1_1, rfl, w59, (s36 _ _ f24), (by first | rfl | assumption | exact num_low (by assumption) | exact num_als (by assumption : 2 ≤ r7) (by assumption) (by assumption) (by decide) | exact num_als_int (by assumption : 2 ≤ r7) (by assumption : r7 ≤ 36) (by assumption) (by assumption) (by decide) (by decide) | exact num_als_rint (by assumption : 2 ≤ r7) (by assumption : r7 ≤ 36) (by assumption) (by assumption) (by decide) (by decide) | exact Sz.mono (num_sz14 (by assumption)) (by decide) | exact Sz.mono (sz_int (by assumption : 2 ≤ r7) (by assumption : r7 ≤ 36) (by assumption)) (by decide)), (by first | rfl | assumption | exact num_low (by assumption) | exact num_als (by assumption : 2 ≤ r7) (by assumption) (by assumption) (by decide) | exact num_als_int (by assumption : 2 ≤ r7) (by assumption : r7 ≤ 36) (by assumption) (by assumption) (by decide) (by decide) | exact num_als_rint (by assumption : 2 ≤ r7) (by assumption : r7 ≤ 36) (by assumption) (by assumption) (by decide) (by decide) | exact Sz.mono (num_sz14 (by assumption)) (by decide) | exact Sz.mono (sz_int (by assumption : 2 ≤ r7) (by assumption : r7 ≤ 36) (by assumption)) (by decide)), (by first | rfl | assumption | exact num_low (by assumption) | exact num_als (by assumption : 2 ≤ r7) (by assumption) (by assumption) (by decide) | exact num_als_int (by assumption : 2 ≤ r7) (by assumption : r7 ≤ 36) (by assumption) (by assumption) (by decide) (by decide) | exact num_als_rint (by assumption : 2 ≤ r7) (by assumption : r7 ≤ 36) (by assumption) (by assumption) (by decide) (by decide) | exact Sz.mono (num_sz14 (by assumption)) (by decide) | exact Sz.mono (sz_int (by assumption : 2 ≤ r7) (by assumption : r7 ≤ 36) (by assumption)) (by decide)), (by first | rfl | assumption | exact num_low (by assumption) | exact num_als (by assumption : 2 ≤ r7) (by assumption) (by assumption) (by decide) | exact num_als_int (by assumption : 2 ≤ r7) (by assumption : r7 ≤ 36) (by assumption) (by assumption) (by decide) (by decide) | exact num_als_rint (by assumption : 2 ≤ r7) (by assumption : r7 ≤ 36) (by assumption) (by assumption) (by decide) (by decide) | exact Sz.mono (num_sz14 (by assumption)) (by decide) | exact Sz.mono (sz_int (by assumption : 2 ≤ r7) (by assumption : r7 ≤ 36) (by assumption)) (by decide)), fun r64 r64_d I65 H67 s66 w68 f69 f70 => ?_⟩
          exact ⟨r64, r64_d, _, _, rfl, s66, w68, (SrcOk.mono s66 f60), (by first | exact f69 | (obtain ⟨h1, h2⟩ := pair_eq (by assumption); rw [← h1, ← h2]; exact f69))⟩
        · exact ⟨r34, r34_d, _, _, rfl, (Same.refl _), w59, f60, (by first | exact f39 | (obtain ⟨h1, h2⟩ := pair_eq (by assumption); rw [← h1, ← h2]; exact f39))⟩
    · rintro σ' H71 ⟨b41, b41_d, I43, xs45, rfl, s44, w47, f46, f42⟩
      refine ⟨_, rfl, _, rfl, _, _, _, _, _, _, rfl, rfl, (w47.get (s44 _ _ f39)), (w47.get f42), I43, ((r1, .lst xs45) :: O), r34, r34_d, r7, r16_0_0, r16_0_1, b41, b41_d, r7, r16_1_0, r16_1_1, rfl, w47, (s44 _ _ f39), (by first | assumption | exact num_nf (by assumption) (by assumption) (by assumption) | exact low_nf (by omega) (by omega) (by assumption)), f42, (by first | assumption | exact num_nf (by assumption) (by assumption) (by assumption) | exact low_nf (by omega) (by omega) (by assumption)), (by first | rfl | assumption | exact num_low (by assumption) | exact num_als (by assumption : 2 ≤ r7) (by assumption) (by assumption) (by decide) | exact num_als_int (by assumption : 2 ≤ r7) (by assumption : r7 ≤ 36) (by assumption) (by assumption) (by decide) (by decide) | exact num_als_rint (by assumption : 2 ≤ r7) (by assumption : r7 ≤ 36) (by assumption) (by assumption) (by decide) (by decide) | exact Sz.mono (num_sz14 (by assumption)) (by decide) | exact Sz.mono (sz_int (by assumption : 2 ≤ r7) (by assumption : r7 ≤ 36) (by assumption)) (by decide)), (by first | rfl | assumption | exact num_low (by assumption) | exact num_als (by assumption : 2 ≤ r7) (by assumption) (by assumption) (by decide) | exact num_als_int (by assumption : 2 ≤ r7) (by assumption : r7 ≤ 36) (by assumption) (by assumption) (by decide) (by decide) | exact num_als_rint (by assumption : 2 ≤ r7) (by assumption : r7 ≤ 36) (by assumption) (by assumption) (by decide) (by decide) | exact Sz.mono (num_sz14 (by assumption)) (by decide) | exact Sz.mono (sz_int (by assumption : 2 ≤ r7) (by assumption : r7 ≤ 36) (by assumption)) (by decide)), fun r72 r72_d r72_coefficient r72_exponent I73 H75 s74 w76 f77 f78 q79 => ?_⟩
      refine ⟨_, rfl, _, rfl, _, _, _, _, _, _, rfl, rfl, (w76.get ((Same.trans s44 s74) _ _ f39)), (w76.get (s74 _ _ f42)), I73, ((r1, .lst xs45) :: O), r34, r34_d, r7, r16_0_0, r16_0_1, b41, b41_d, r7, r16_1_0, r16_1_1, rfl, w76, ((Same.trans s44 s74) _ _ f39), (by first | assumption | exact num_nf (by assumption) (by assumption) (by assumption) | exact low_nf (by omega) (by omega) (by assumption)), (s74 _ _ f42), (by first | assumption | exact num_nf (by assumption) (by assumption) (by assumption) | exact low_nf (by omega) (by omega) (by assumption)), (by first | rfl | assumption | exact num_low (by assumption) | exact num_als (by assumption : 2 ≤ r7) (by assumption) (by assumption) (by decide) | exact num_als_int (by assumption : 2 ≤ r7) (by assumption : r7 ≤ 36) (by assumption) (by assumption) (by decide) (by decide) | exact num_als_rint (by assumption : 2 ≤ r7) (by assumption : r7 ≤ 36) (by assumption) (by assumption) (by decide) (by decide) | exact Sz.mono (num_sz14 (by assumption)) (by decide) | exact Sz.mono (sz_int (by assumption : 2 ≤ r7) (by assumption : r7 ≤ 36) (by assumption)) (by decide)), (by first | rfl | assumption | exact num_low (by assumption) | exact num_als (by assumption : 2 ≤ r7) (by assumption) (by assumption) (by decide) | exact num_als_int (by assumption : 2 ≤ r7) (by assumption : r7 ≤ 36) (by assumption) (by assumption) (by decide) (by decide) | exact num_als_rint (by assumption : 2 ≤ r7) (by assumption : r7 ≤ 36) (by assumption) (by assumption) (by decide) (by decide) | exact Sz.mono (num_sz14 (by assumption)) (by decide) | exact Sz.mono (sz_int (by assumption : 2 ≤ r7) (by assumption : r7 ≤ 36) (by assumption)) (by decide)), fun r80 r80_d r80_coefficient r80_exponent I81 H83 s82 w84 f85 f86 q87 => ?_⟩
      refine ⟨_, rfl, _, rfl, _, _, _, _, _, _, rfl, rfl, (w84.get ((Same.trans s74 s82) _ _ f42)), (w84.get ((Same.trans (Same.trans s44 s74) s82) _ _ f39)), I81, ((r1, .lst xs45) :: O), b41, b41_d, r7, r16_1_0, r16_1_1, r34, r34_d, r7, r16_0_0, r16_0_1, rfl, w84, ((Same.trans s74 s82) _ _ f42), (by first | assumption | exact num_nf (by assumption) (by assumption) (by assumption) | exact low_nf (by omega) (by omega) (by assumption)), ((Same.trans (Same.trans s44 s74) s82) _ _ f39), (by first | assumption | exact num_nf (by assumption) (by assumption) (by assumption) | exact low_nf (by omega) (by omega) (by assumption)), (by first | rfl | assumption | exact num_low (by assumption) | exact num_als (by assumption : 2 ≤ r7) (by assumption) (by assumption) (by decide) | exact num_als_int (by assumption : 2 ≤ r7) (by assumption : r7 ≤ 36) (by assumption) (by assumption) (by decide) (by decide) | exact num_als_rint (by assumption : 2 ≤ r7) (by assumption : r7 ≤ 36) (by assumption) (by assumption) (by decide) (by decide) | exact Sz.mono (num_sz14 (by assumption)) (by decide) | exact Sz.mono (sz_int (by assumption : 2 ≤ r7) (by assumption : r7 ≤ 36) (by assumption)) (by decide)), (by first | rfl | assumption | exact num_low (by assumption) | exact num_als (by assumption : 2 ≤ r7) (by assumption) (by assumption) (by decide) | exact num_als_int (by assumption : 2 ≤ r7) (by assumption : r7 ≤ 36) (by assumption) (by assumption) (by decide) (by decide) | exact num_als_rint (by assumption : 2 ≤ r7) (by assumption : r7 ≤ 36) (by assumption) (by assumption) (by decide) (by decide) | exact Sz.mono (num_sz14 (by assumption)) (by decide) | exact Sz.mono (sz_int (by assumption : 2 ≤ r7) (by assumption : r7 ≤ 36) (by assumption)) (by decide)), fun r88 r88_d r88_coefficient r88_exponent I89 H91 s90 w92 f93 f94 q95 => ?_⟩
      refine ⟨_, rfl, _, rfl, _, _, _, _, _, _, rfl, rfl, (w92.get ((Same.trans (Same.trans (Same.trans s44 s74) s82) s90) _ _ f39)), (w92.get ((Same.trans (Same.trans s74 s82) s90) _ _ f42)), I89, ((r1, .lst xs45) :: O), r34, r34_d, r7, r16_0_0, r16_0_1, b41, b41_d, r7, r16_1_0, r16_1_1, rfl, w92, ((Same.trans (Same.trans (Same.trans s44 s74) s82) s90) _ _ f39), (by first | assumption | exact num_nf (by assumption) (by assumption) (by assumption) | exact low_nf (by omega) (by omega) (by assumption)), ((Same.trans (Same.trans s74 s82) s90) _ _ f42), (by first | assumption | exact num_nf (by assumption) (by assumption) (by assumption) | exact low_nf (by omega) (by omega) (by assumption)), (by first | rfl | assumption | exact num_low (by assumption) | exact num_als (by assumption : 2 ≤ r7) (by assumption) (by assumption) (by decide) | exact num_als_int (by assumption : 2 ≤ r7) (by assumption : r7 ≤ 36) (by assumption) (by assumption) (by decide) (by decide) | exact num_als_rint (by assumption : 2 ≤ r7) (by assumption : r7 ≤ 36) (by assumption) (by assumption) (by decide) (by decide) | exact Sz.mono (num_sz14 (by assumption)) (by decide) | exact Sz.mono (sz_int (by assumption : 2 ≤ r7) (by assumption : r7 ≤ 36) (by assumption)) (by decide)), (by first | rfl | assumption | exact num_low (by assumption) | exact num_als (by assumption : 2 ≤ r7) (by assumption) (by assumption) (by decide) | exact num_als_int (by assumption : 2 ≤ r7) (by assumption : r7 ≤ 36) (by assumption) (by assumption) (by decide) (by decide) | exact num_als_rint (by assumption : 2 ≤ r7) (by assumption : r7 ≤ 36) (by assumption) (by assumption) (by decide) (by decide) | exact Sz.mono (num_sz14 (by assumption)) (by decide) | exact Sz.mono (sz_int (by assumption : 2 ≤ r7) (by assumption : r7 ≤ 36) (by assumption)) (by decide)), (by first | rfl | assumption | exact num_low (by assumption) | exact num_als (by assumption : 2 ≤ r7) (by assumption) (by assumption) (by decide) | exact num_als_int (by assumption : 2 ≤ r7) (by assumption : r7 ≤ 36) (by assumption) (by assumption) (by decide) (by decide) | exact num_als_rint (by assumption : 2 ≤ r7) (by assumption : r7 ≤ 36) (by assumption) (by assumption) (by decide) (by decide) | exact Sz.mono (num_sz14 (by assumption)) (by decide) | exact Sz.mono (sz_int (by assumption : 2 ≤ r7) (by assumption : r7 ≤ 36) (by assumption)) (by decide)), fun r96 r96_d r96_coefficient r96_exponent I97 H99 s98 w100 f101 f102 q103 => ?_⟩
      refine ⟨_, rfl, _, rfl, _, _, _, _, _, _, rfl, rfl, (w100.get ((Same.trans (Same.trans (Same.trans s74 s82) s90) s98) _ _ f42)), (w100.get ((Same.trans (Same.trans (Same.trans (Same.trans s44 s74) s82) s90) s98) _ _ f39)), I97, ((r1, .lst xs45) :: O), b41, b41_d, r7, r16_1_0, r16_1_1, r34, r34_d, r7, r16_0_0, r16_0_1, rfl, w100, ((Same.trans (Same.trans (Same.trans s74 s82) s90) s98) _ _ f42), (by first | assumption | exact num_nf (by assumption) (by assumption) (by assumption) | exact low_nf (by omega) (by omega) (by assumption)), ((Same.trans (Same.trans (Same.trans (Same.trans s44 s74) s82) s90) s98) _ _ f39), (by first | assumption | exact num_nf (by assumption) (by assumption) (by assumption) | exact low_nf (by omega) (by omega) (by assumption)), (by first | rfl | assumption | exact num_low (by assumption) | exact num_als (by assumption : 2 ≤ r7) (by assumption) (by assumption) (by decide) | exact num_als_int (by assumption : 2 ≤ r7) (by assumption : r7 ≤ 36) (by assumption) (by assumption) (by decide) (by decide) | exact num_als_rint (by assumption : 2 ≤ r7) (by assumption : r7 ≤ 36) (by assumption) (by assumption) (by decide) (by decide) | exact Sz.mono (num_sz14 (by assumption)) (by decide) | exact Sz.mono (sz_int (by assumption : 2 ≤ r7) (by assumption : r7 ≤ 36) (by assumption)) (by decide)), (by first | rfl | assumption | exact num_low (by assumption) | exact num_als (by assumption : 2 ≤ r7) (by assumption) (by assumption) (by decide) | exact num_als_int (by assumption : 2 ≤ r7) (by assumption : r7 ≤ 36) (by assumption) (by assumption) (by decide) (by decide) | exact num_als_rint (by assumption : 2 ≤ r7) (by assumption : r7 ≤ 36) (by assumption) (by assumption) (by decide) (by decide) | exact Sz.mono (num_sz14 (by assumption)) (by decide) | exact Sz.mono (sz_int (by assumption : 2 ≤ r7) (by assumption : r7 ≤ 36) (by assumption)) (by decide)), (by first | rfl | assumption | exact num_low (by assumption) | exact num_als (by assumption : 2 ≤ r7) (by assumption) (by assumption) (by decide) | exact num_als_int (by assumption : 2 ≤ r7) (by assumption : r7 ≤ 36) (by assumption) (by assumption) (by decide) (by decide) | exact num_als_rint (by assumption : 2 ≤ r7) (by assumption : r7 ≤ 36) (by assumption) (by assumption) (by decide) (by decide) | exact Sz.mono (num_sz14 (by assumption)) (by decide) | exact Sz.mono (sz_int (by assumption : 2 ≤ r7) (by assumption : r7 ≤ 36) (by assumption)) (by decide)), fun r104 r104_d r104_coefficient r104_exponent I105 H107 s106 w108 f109 f110 q111 => ?_⟩
      refine ⟨_, rfl, _, _, _, rfl, (w108.get ((Same.trans (Same.trans (Same.trans (Same.trans (Same.trans s44 s74) s82) s90) s98) s106) _ _ f39)), I105, ((r1, .lst xs45) :: O), r34, r34_d, r7, r16_0_0, r16_0_1, rfl, w108, ((Same.trans (Same.trans (Same.trans (Same.trans (Same.trans s44 s74) s82) s90) s98) s106) _ _ f39), (by first | assumption | exact num_nf (by assumption) (by assumption) (by assumption) | exact low_nf (by omega) (by omega) (by assumption)), (by first | rfl | assumption | exact num_low (by assumption) | exact num_als (by assumption : 2 ≤ r7) (by assumption) (by assumption) (by decide) | exact num_als_int (by assumption : 2 ≤ r7) (by assumption : r7 ≤ 36) (by assumption) (by assumption) (by decide) (by decide) | exact num_als_rint (by assumption : 2 ≤ r7) (by assumption : r7 ≤ 36) (by assumption) (by assumption) (by decide) (by decide) | exact Sz.mono (num_sz14 (by assumption)) (by decide) | exact Sz.mono (sz_int (by assumption : 2 ≤ r7) (by assumption : r7 ≤ 36) (by assumption)) (by decide)), fun r112 r112_d r112_coefficient r112_exponent I113 H115 s114 w116 f117 f118 q119 => ?_⟩
      refine ⟨_, rfl, _, _, _, rfl, (w116.get ((Same.trans (Same.trans (Same.trans (Same.trans (Same.trans (Same.trans s44 s74) s82) s90) s98) s106) s114) _ _ f39)), I113, ((r1, .lst xs45) :: O), r34, r34_d, r7, r16_0_0, r16_0_1, rfl, w116, ((Same.trans (Same.trans (Same.trans (Same.trans (Same.trans (Same.trans s44 s74) s82) s90) s98) s106) s114) _ _ f39), (by first | assumption | exact num_nf (by assumption) (by assumption) (by assumption) | exact low_nf (by omega) (by omega) (by assumption)), (by first | rfl | assumption | exact num_low (by assumption) | exact num_als (by assumption : 2 ≤ r7) (by assumption) (by assumption) (by decide) | exact num_als_int (by assumption : 2 ≤ r7) (by assumption : r7 ≤ 36) (by assumption) (by assumption) (by decide) (by decide) | exact num_als_rint (by assumption : 2 ≤ r7) (by assumption : r7 ≤ 36) (by assumption) (by assumption) (by decide) (by decide) | exact Sz.mono (num_sz14 (by assumption)) (by decide) | exact Sz.mono (sz_int (by assumption : 2 ≤ r7) (by assumption : r7 ≤ 36) (by assumption)) (by decide)), fun r120 r120_d r120_coefficient r120_exponent I121 H123 s122 w124 f125 f126 q127 => ?_⟩
      refine ⟨(by show 7 ≤ sizeLine; decide), fun p128 hp129 => ?_⟩
      have s130 := w124.newS (o := .lst [(V.ref r72), (V.ref r80), (V.ref r88), (V.ref r96), (V.ref r104), (V.ref r112), (V.ref r120)]) hp129
      have w131 := w124.new (o := .lst [(V.ref r72), (V.ref r80), (V.ref r88), (V.ref r96), (V.ref r104), (V.ref r112), (V.ref r120)]) hp129
      refine ⟨_, rfl, _, rfl, _, rfl, _, _, _, _, rfl, rfl, (w131.get ((Same.trans (Same.trans (Same.trans (Same.trans (Same.trans (Same.trans (Same.trans (Same.trans s44 s74) s82) s90) s98) s106) s114) s122) s130) _ _ f39)), (upd I121 p128 (.lst [(V.ref r72), (V.ref r80), (V.ref r88), (V.ref r96), (V.ref r104), (V.ref r112), (V.ref r120)])), ((r1, .lst xs45) :: O), r34, r34_d, r7, r16_0_0, r16_0_1, r28, rfl, w131, ((Same.trans (Same.trans (Same.trans (Same.trans (Same.trans (Same.trans (Same.trans (Same.trans s44 s74) s82) s90) s98) s106) s114) s122) s130) _ _ f39), (by first | assumption | exact num_nf (by assumption) (by assumption) (by assumption) | exact low_nf (by omega) (by omega) (by assumption)), (by first | rfl | assumption | exact num_low (by assumption) | exact num_als (by assumption : 2 ≤ r7) (by assumption) (by assumption) (by decide) | exact num_als_int (by assumption : 2 ≤ r7) (by assumption : r7 ≤ 36) (by assumption) (by assumption) (by decide) (by decide) | exact num_als_rint (by assumption : 2 ≤ r7) (by assumption : r7 ≤ 36) (by assumption) (by assumption) (by decide) (by decide) | exact Sz.mono (num_sz14 (by assumption)) (by decide) | exact Sz.mono (sz_int (by assumption : 2 ≤ r7) (by assumption : r7 ≤ 36) (by assumption)) (by decide)), (by first | rfl | assumption | exact num_low (by assumption) | exact num_als (by assumption : 2 ≤ r7) (by assumption) (by assumption) (by decide) | exact num_als_int (by assumption : 2 ≤ r7) (by assumption : r7 ≤ 36) (by assumption) (by assumption) (by decide) (by decide) | exact num_als_rint (by assumption : 2 ≤ r7) (by assumption : r7 ≤ 36) (by assumption) (by assumption) (by decide) (by decide) | exact Sz.mono (num_sz14 (by assumption)) (by decide) | exact Sz.mono (sz_int (by assumption : 2 ≤ r7) (by assumption : r7 ≤ 36) (by assumption)) (by decide)), fun r132 r132_d r132_coefficient r132_exponent I133 H135 s134 w136 f137 f138 q139 => ?_⟩
      obtain ⟨c142, e143, hL140, hC141⟩ := q139
      refine ⟨_, rfl, _, rfl, _, _, _, _, rfl, rfl, (w136.get ((Same.trans (Same.trans (Same.trans (Same.trans (Same.trans (Same.trans (Same.trans (Same.trans (Same.trans s44 s74) s82) s90) s98) s106) s114) s122) s130) s134) _ _ f39)), I133, ((r1, .lst xs45) :: O), r34, r34_d, r7, r16_0_0, r16_0_1, r28, rfl, w136, ((Same.trans (Same.trans (Same.trans (Same.trans (Same.trans (Same.trans (Same.trans (Same.trans (Same.trans s44 s74) s82) s90) s98) s106) s114) s122) s130) s134) _ _ f39), (by first | assumption | exact num_nf (by assumption) (by assumption) (by assumption) | exact low_nf (by omega) (by omega) (by assumption)), (by first | rfl | assumption | exact num_low (by assumption) | exact num_als (by assumption : 2 ≤ r7) (by assumption) (by assumption) (by decide) | exact num_als_int (by assumption : 2 ≤ r7) (by assumption : r7 ≤ 36) (by assumption) (by assumption) (by decide) (by decide) | exact num_als_rint (by assumption : 2 ≤ r7) (by assumption : r7 ≤ 36) (by assumption) (by assumption) (by decide) (by decide) | exact Sz.mono (num_sz14 (by assumption)) (by decide) | exact Sz.mono (sz_int (by assumption : 2 ≤ r7) (by assumption : r7 ≤ 36) (by assumption)) (by decide)), (by first | rfl | assumption | exact num_low (by assumption) | exact num_als (by assumption : 2 ≤ r7) (by assumption) (by assumption) (by decide) | exact num_als_int (by assumption : 2 ≤ r7) (by assumption : r7 ≤ 36) (by assumption) (by assumption) (by decide) (by decide) | exact num_als_rint (by assumption : 2 ≤ r7) (by assumption : r7 ≤ 36) (by assumption) (by assumption) (by decide) (by decide) | exact Sz.mono (num_sz14 (by assumption)) (by decide) | exact Sz.mono (sz_int (by assumption : 2 ≤ r7) (by assumption : r7 ≤ 36) (by assumption)) (by decide)), fun r144 r144_d r144_coefficient r144_exponent I145 H147 s146 w148 f149 f150 q151 => ?_⟩
      obtain ⟨c154, e155, hL152, hC153⟩ := q151
      refine ⟨_, rfl, _, rfl, _, _, _, _, rfl, rfl, (w148.get ((Same.trans (Same.trans (Same.trans (Same.trans (Same.trans (Same.trans (Same.trans (Same.trans (Same.trans (Same.trans s44 s74) s82) s90) s98) s106) s114) s122) s130) s134) s146) _ _ f39)), I145, ((r1, .lst xs45) :: O), r34, r34_d, r7, r16_0_0, r16_0_1, r28, rfl, w148, ((Same.trans (Same.trans (Same.trans (Same.trans (Same.trans (Same.trans (Same.trans (Same.trans (Same.trans (Same.trans s44 s74) s82) s90) s98) s106) s114) s122) s130) s134) s146) _ _ f39), (by first | assumption | exact num_nf (by assumption) (by assumption) (by assumption) | exact low_nf (by omega) (by omega) (by assumption)), (by first | rfl | assumption | exact num_low (by assumption) | exact num_als (by assumption : 2 ≤ r7) (by assumption) (by assumption) (by decide) | exact num_als_int (by assumption : 2 ≤ r7) (by assumption : r7 ≤ 36) (by assumption) (by assumption) (by decide) (by decide) | exact num_als_rint (by assumption : 2 ≤ r7) (by assumption : r7 ≤ 36) (by assumption) (by assumption) (by decide) (by decide) | exact Sz.mono (num_sz14 (by assumption)) (by decide) | exact Sz.mono (sz_int (by assumption : 2 ≤ r7) (by assumption : r7 ≤ 36) (by assumption)) (by decide)), (by first | rfl | assumption | exact num_low (by assumption) | exact num_als (by assumption : 2 ≤ r7) (by assumption) (by assumption) (by decide) | exact num_als_int (by assumption : 2 ≤ r7) (by assumption : r7 ≤ 36) (by assumption) (by assumption) (by decide) (by decide) | exact num_als_rint (by assumption : 2 ≤ r7) (by assumption : r7 ≤ 36) (by assumption) (by assumption) (by decide) (by decide) | exact Sz.mono (num_sz14 (by assumption)) (by decide) | exact Sz.mono (sz_int (by assumption : 2 ≤ r7) (by assumption : r7 ≤ 36) (by assumption)) (by decide)), fun r156 r156_d r156_coefficient r156_exponent I157 H159 s158 w160 f161 f162 q163 => ?_⟩
      obtain ⟨c166, e167, hL164, hC165⟩ := q163
      refine ⟨_, rfl, _, rfl, _, _, _, _, rfl, rfl, (w160.get ((Same.trans (Same.trans (Same.trans (Same.trans (Same.trans (Same.trans (Same.trans (Same.trans (Same.trans (Same.trans (Same.trans s44 s74) s82) s90) s98) s106) s114) s122) s130) s134) s146) s158) _ _ f39)), I157, ((r1, .lst xs45) :: O), r34, r34_d, r7, r16_0_0, r16_0_1, r28, rfl, w160, ((Same.trans (Same.trans (Same.trans (Same.trans (Same.trans (Same.trans (Same.trans (Same.trans (Same.trans (Same.trans (Same.trans s44 s74) s82) s90) s98) s106) s114) s122) s130) s134) s146) s158) _ _ f39), (by first | assumption | exact num_nf (by assumption) (by assumption) (by assumption) | exact low_nf (by omega) (by omega) (by assumption)), (by first | rfl | assumption | exact num_low (by assumption) | exact num_als (by assumption : 2 ≤ r7) (by assumption) (by assumption) (by decide) | exact num_als_int (by assumption : 2 ≤ r7) (by assumption : r7 ≤ 36) (by assumption) (by assumption) (by decide) (by decide) | exact num_als_rint (by assumption : 2 ≤ r7) (by assumption : r7 ≤ 36) (by assumption) (by assumption) (by decide) (by decide) | exact Sz.mono (num_sz14 (by assumption)) (by decide) | exact Sz.mono (sz_int (by assumption : 2 ≤ r7) (by assumption : r7 ≤ 36) (by assumption)) (by decide)), (by first | rfl | assumption | exact num_low (by assumption) | exact num_als (by assumption : 2 ≤ r7) (by assumption) (by assumption) (by decide) | exact num_als_int (by assumption : 2 ≤ r7) (by assumption : r7 ≤ 36) (by assumption) (by assumption) (by decide) (by decide) | exact num_als_rint (by assumption : 2 ≤ r7) (by assumption : r7 ≤ 36) (by assumption) (by assumption) (by decide) (by decide) | exact Sz.mono (num_sz14 (by assumption)) (by decide) | exact Sz.mono (sz_int (by assumption : 2 ≤ r7) (by assumption : r7 ≤ 36) (by assumption)) (by decide)), fun r168 r168_d r168_coefficient r168_exponent I169 H171 s170 w172 f173 f174 q175 => ?_⟩
      obtain ⟨c178, e179, hL176, hC177⟩ := q175
      refine ⟨_, rfl, _, rfl, _, _, _, _, rfl, rfl, (w172.get ((Same.trans (Same.trans (Same.trans (Same.trans (Same.trans (Same.trans (Same.trans (Same.trans (Same.trans (Same.trans (Same.trans (Same.trans s44 s74) s82) s90) s98) s106) s114) s122) s130) s134) s146) s158) s170) _ _ f39)), I169, ((r1, .lst xs45) :: O), r34, r34_d, r7, r16_0_0, r16_0_1, r28, rfl, w172, ((Same.trans (Same.trans (Same.trans (Same.trans (Same.trans (Same.trans (Same.trans (Same.trans (Same.trans (Same.trans (Same.trans (Same.trans s44 s74) s82) s90) s98) s106) s114) s122) s130) s134) s146) s158) s170) _ _ f39), (by first | assumption | exact num_nf (by assumption) (by assumption) (by assumption) | exact low_nf (by omega) (by omega) (by assumption)), (by first | rfl | assumption | exact num_low (by assumption) | exact num_als (by assumption : 2 ≤ r7) (by assumption) (by assumption) (by decide) | exact num_als_int (by assumption : 2 ≤ r7) (by assumption : r7 ≤ 36) (by assumption) (by assumption) (by decide) (by decide) | exact num_als_rint (by assumption : 2 ≤ r7) (by assumption : r7 ≤ 36) (by assumption) (by assumption) (by decide) (by decide) | exact Sz.mono (num_sz14 (by assumption)) (by decide) | exact Sz.mono (sz_int (by assumption : 2 ≤ r7) (by assumption : r7 ≤ 36) (by assumption)) (by decide)), (by first | rfl | assumption | exact num_low (by assumption) | exact num_als (by assumption : 2 ≤ r7) (by assumption) (by assumption) (by decide) | exact num_als_int (by assumption : 2 ≤ r7) (by assumption : r7 ≤ 36) (by assumption) (by assumption) (by decide) (by decide) | exact num_als_rint (by assumption : 2 ≤ r7) (by assumption : r7 ≤ 36) (by assumption) (by assumption) (by decide) (by decide) | exact Sz.mono (num_sz14 (by assumption)) (by decide) | exact Sz.mono (sz_int (by assumption : 2 ≤ r7) (by assumption : r7 ≤ 36) (by assumption)) (by decide)), fun r180 r180_d r180_coefficient r180_exponent I181 H183 s182 w184 f185 f186 q187 => ?_⟩
      obtain ⟨c190, e191, hL188, hC189⟩ := q187
      refine ⟨_, rfl, _, rfl, _, _, _, _, rfl, rfl, (w184.get ((Same.trans (Same.trans (Same.trans (Same.trans (Same.trans (Same.trans (Same.trans (Same.trans (Same.trans (Same.trans (Same.trans (Same.trans (Same.trans s44 s74) s82) s90) s98) s106) s114) s122) s130) s134) s146) s158) s170) s182) _ _ f39)), I181, ((r1, .lst xs45) :: O), r34, r34_d, r7, r16_0_0, r16_0_1, r28, rfl, w184, ((Same.trans (Same.trans (Same.trans (Same.trans (Same.trans (Same.trans (Same.trans (Same.trans (Same.trans (Same.trans (Same.trans (Same.trans (Same.trans s44 s74) s82) s90) s98) s106) s114) s122) s130) s134) s146) s158) s170) s182) _ _ f39), (by first | assumption | exact num_nf (by assumption) (by assumption) (by assumption) | exact low_nf (by omega) (by omega) (by assumption)), (by first | rfl | assumption | exact num_low (by assumption) | exact num_als (by assumption : 2 ≤ r7) (by assumption) (by assumption) (by decide) | exact num_als_int (by assumption : 2 ≤ r7) (by assumption : r7 ≤ 36) (by assumption) (by assumption) (by decide) (by decide) | exact num_als_rint (by assumption : 2 ≤ r7) (by assumption : r7 ≤ 36) (by assumption) (by assumption) (by decide) (by decide) | exact Sz.mono (num_sz14 (by assumption)) (by decide) | exact Sz.mono (sz_int (by assumption : 2 ≤ r7) (by assumption : r7 ≤ 36) (by assumption)) (by decide)), (by first | rfl | assumption | exact num_low (by assumption) | exact num_als (by assumption : 2 ≤ r7) (by assumption) (by assumption) (by decide) | exact num_als_int (by assumption : 2 ≤ r7) (by assumption : r7 ≤ 36) (by assumption) (by assumption) (by decide) (by decide) | exact num_als_rint (by assumption : 2 ≤ r7) (by assumption : r7 ≤ 36) (by assumption) (by assumption) (by decide) (by decide) | exact Sz.mono (num_sz14 (by assumption)) (by decide) | exact Sz.mono (sz_int (by assumption : 2 ≤ r7) (by assumption : r7 ≤ 36) (by assumption)) (by decide)), fun r192 r192_d r192_coefficient r192_exponent I193 H195 s194 w196 f197 f198 q199 => ?_⟩
      obtain ⟨c202, e203, hL200, hC201⟩ := q199
      refine ⟨(by show 6 ≤ sizeLine; decide), fun p204 hp205 => ?_⟩
      have s206 := w196.newS (o := .lst [(V.ref r132), (V.ref r144), (V.ref r156), (V.ref r168), (V.ref r180), (V.ref r192)]) hp205
      have w207 := w196.new (o := .lst [(V.ref r132), (V.ref r144), (V.ref r156), (V.ref r168), (V.ref r180), (V.ref r192)]) hp205
      refine ⟨_, _, _, _, rfl, rfl, (w207.get ((Same.trans (Same.trans (Same.trans (Same.trans (Same.trans (Same.trans s134 s146) s158) s170) s182) s194) s206) _ _ upd_same)), (w207.get upd_same), (by show 13 ≤ sizeLine; decide), fun p208 hp209 => ?_⟩
      have s210 := w207.newS (o := .lst ([(V.ref r72), (V.ref r80), (V.ref r88), (V.ref r96), (V.ref r104), (V.ref r112), (V.ref r120)] ++ [(V.ref r132), (V.ref r144), (V.ref r156), (V.ref r168), (V.ref r180), (V.ref r192)])) hp209
      have w211 := w207.new (o := .lst ([(V.ref r72), (V.ref r80), (V.ref r88), (V.ref r96), (V.ref r104), (V.ref r112), (V.ref r120)] ++ [(V.ref r132), (V.ref r144), (V.ref r156), (V.ref r168), (V.ref r180), (V.ref r192)])) hp209
      refine ⟨_, rfl, _, rfl, _, rfl, _, rfl, (upd (upd I193 p204 (.lst [(V.ref r132), (V.ref r144), (V.ref r156), (V.ref r168), (V.ref r180), (V.ref r192)])) p208 (.lst ([(V.ref r72), (V.ref r80), (V.ref r88), (V.ref r96), (V.ref r104), (V.ref r112), (V.ref r120)] ++ [(V.ref r132), (V.ref r144), (V.ref r156), (V.ref r168), (V.ref r180), (V.ref r192)]))), ((r1, .lst xs45) :: O), r7, r16_0, r16_0_0, r16_0_1, r16_1, r16_1_0, r16_1_1, r28, rfl, w211, ((Same.trans (Same.trans (Same.trans (Same.trans (Same.trans (Same.trans (Same.trans (Same.trans (Same.trans (Same.trans (Same.trans (Same.trans (Same.trans (Same.trans (Same.trans (Same.trans (Same.trans s36 s44) s74) s82) s90) s98) s106) s114) s122) s130) s134) s146) s158) s170) s182) s194) s206) s210) _ _ f23), ((Same.trans (Same.trans (Same.trans (Same.trans (Same.trans (Same.trans (Same.trans (Same.trans (Same.trans (Same.trans (Same.trans (Same.trans (Same.trans (Same.trans (Same.trans (Same.trans (Same.trans s36 s44) s74) s82) s90) s98) s106) s114) s122) s130) s134) s146) s158) s170) s182) s194) s206) s210) _ _ f24), (by first | rfl | assumption | exact num_low (by assumption) | exact num_als (by assumption : 2 ≤ r7) (by assumption) (by assumption) (by decide) | exact num_als_int (by assumption : 2 ≤ r7) (by assumption : r7 ≤ 36) (by assumption) (by assumption) (by decide) (by decide) | exact num_als_rint (by assumption : 2 ≤ r7) (by assumption : r7 ≤ 36) (by assumption) (by assumption) (by decide) (by decide) | exact Sz.mono (num_sz14 (by assumption)) (by decide) | exact Sz.mono (sz_int (by assumption : 2 ≤ r7) (by assumption : r7 ≤ 36) (by assumption)) (by decide)), (by first | rfl | assumption | exact num_low (by assumption) | exact num_als (by assumption : 2 ≤ r7) (by assumption) (by assumption) (by decide) | exact num_als_int (by assumption : 2 ≤ r7) (by assumption : r7 ≤ 36) (by assumption) (by assumption) (by decide) (by decide) | exact num_als_rint (by assumption : 2 ≤ r7) (by assumption : r7 ≤ 36) (by assumption) (by assumption) (by decide) (by decide) | exact Sz.mono (num_sz14 (by assumption)) (by decide) | exact Sz.mono (sz_int (by assumption : 2 ≤ r7) (by assumption : r7 ≤ 36) (by assumption)) (by decide)), (by first | rfl | assumption | exact num_low (by assumption) | exact num_als (by assumption : 2 ≤ r7) (by assumption) (by assumption) (by decide) | exact num_als_int (by assumption : 2 ≤ r7) (by assumption : r7 ≤ 36) (by assumption) (by assumption) (by decide) (by decide) | exact num_als_rint (by assumption : 2 ≤ r7) (by assumption : r7 ≤ 36) (by assumption) (by assumption) (by decide) (by decide) | exact Sz.mono (num_sz14 (by assumption)) (by decide) | exact Sz.mono (sz_int (by assumption : 2 ≤ r7) (by assumption : r7 ≤ 36) (by assumption)) (by decide)), (by first | rfl | assumption | exact num_low (by assumption) | exact num_als (by assumption : 2 ≤ r7) (by assumption) (by assumption) (by decide) | exact num_als_int (by assumption : 2 ≤ r7) (by assumption : r7 ≤ 36) (by assumption) (by assumption) (by decide) (by decide) | exact num_als_rint (by assumption : 2 ≤ r7) (by assumption : r7 ≤ 36) (by assumption) (by assumption) (by decide) (by decide) | exact Sz.mono (num_sz14 (by assumption)) (by decide) | exact Sz.mono (sz_int (by assumption : 2 ≤ r7) (by assumption : r7 ≤ 36) (by assumption)) (by decide)), (by first | rfl | assumption | exact num_low (by assumption) | exact num_als (by assumption : 2 ≤ r7) (by assumption) (by assumption) (by decide) | exact num_als_int (by assumption : 2 ≤ r7) (by assumption : r7 ≤ 36) (by assumption) (by assumption) (by decide) (by decide) | exact num_als_rint (by assumption : 2 ≤ r7) (by assumption : r7 ≤ 36) (by assumption) (by assumption) (by decide) (by decide) | exact Sz.mono (num_sz14 (by assumption)) (by decide) | exact Sz.mono (sz_int (by assumption : 2 ≤ r7) (by assumption : r7 ≤ 36) (by assumption)) (by decide)), fun r212 r212_0 r212_0_0 r212_0_1 r212_1 r212_1_0 r212_1_1 r212_2 r212_3 r212_3_0 r212_3_1 r212_4 r212_4_0 r212_4_1 r212_5 r212_6 r212_7 r212_7_0 r212_7_1 r212_8 r212_8_0 r212_8_1 r212_9 r212_9_0 r212_9_1 r212_10 r212_11 r212_11_0 r212_11_1 r212_12 r212_12_0 r212_12_1 I213 H215 s214 w216 f217 f218 f219 f220 f221 f222 f223 f224 f225 f226 f227 f228 f229 f230 q231 q232 q233 q234 q235 q236 q237 q238 q239 => ?_⟩
      refine ⟨_, rfl, _, rfl, _, rfl, I213, ((r1, .lst xs45) :: O), p208, ([(V.ref r72), (V.ref r80), (V.ref r88), (V.ref r96), (V.ref r104), (V.ref r112), (V.ref r120)] ++ [(V.ref r132), (V.ref r144), (V.ref r156), (V.ref r168), (V.ref r180), (V.ref r192)]), r7, r212, [(V.ref r212_0), (V.ref r212_1), (V.ref r212_2), (V.ref r212_3), (V.ref r212_4), (V.ref r212_5), (V.ref r212_6), (V.ref r212_7), (V.ref r212_8), (V.ref r212_9), (V.ref r212_10), (V.ref r212_11), (V.ref r212_12)], rfl, w216, (s214 _ _ upd_same), f217, (.cons ⟨_, _, _, _, _, _, _, rfl, ((Same.trans (Same.trans (Same.trans (Same.trans (Same.trans (Same.trans (Same.trans (Same.trans (Same.trans (Same.trans (Same.trans (Same.trans (Same.trans (Same.trans (Same.trans s82 s90) s98) s106) s114) s122) s130) s134) s146) s158) s170) s182) s194) s206) s210) s214) _ _ f77), (by first | assumption | exact num_nf (by assumption) (by assumption) (by assumption)), rfl, f218, (by exact are_sum (by assumption : 2 ≤ r7) (by assumption) (by assumption) rfl), (by exact Sz.mono (sum_sz2 (by assumption : 2 ≤ r7) (by assumption) (by assumption) (by assumption) (.inl rfl)) (by decide))⟩ (.cons ⟨_, _, _, _, _, _, _, rfl, ((Same.trans (Same.trans (Same.trans (Same.trans (Same.trans (Same.trans (Same.trans (Same.trans (Same.trans (Same.trans (Same.trans (Same.trans (Same.trans (Same.trans s90 s98) s106) s114) s122) s130) s134) s146) s158) s170) s182) s194) s206) s210) s214) _ _ f85), (by first | assumption | exact num_nf (by assumption) (by assumption) (by assumption)), rfl, f219, (by exact are_sum (by assumption : 2 ≤ r7) (by assumption) (by assumption) rfl), (by exact Sz.mono (sum_sz2 (by assumption : 2 ≤ r7) (by assumption) (by assumption) (by assumption) (.inr rfl)) (by decide))⟩ (.cons ⟨_, _, _, _, _, _, _, rfl, ((Same.trans (Same.trans (Same.trans (Same.trans (Same.trans (Same.trans (Same.trans (Same.trans (Same.trans (Same.trans (Same.trans (Same.trans (Same.trans s98 s106) s114) s122) s130) s134) s146) s158) s170) s182) s194) s206) s210) s214) _ _ f93), (by first | assumption | exact num_nf (by assumption) (by assumption) (by assumption)), rfl, f220, (by exact are_back (by assumption : 2 ≤ r7) (by assumption) (by assumption)), (by (refine sz_neg0 ?_ (show _ ≤ 8000 from Nat.le_refl _); exact Sz.mono (sum_sz2 (by assumption : 2 ≤ r7) (by assumption) (by assumption) (by assumption) (.inr rfl)) (by decide)))⟩ (.cons ⟨_, _, _, _, _, _, _, rfl, ((Same.trans (Same.trans (Same.trans (Same.trans (Same.trans (Same.trans (Same.trans (Same.trans (Same.trans (Same.trans (Same.trans (Same.trans s106 s114) s122) s130) s134) s146) s158) s170) s182) s194) s206) s210) s214) _ _ f101), (by first | assumption | exact num_nf (by assumption) (by assumption) (by assumption)), rfl, f221, (by exact are_low (by assumption : 2 ≤ r7) (by assumption) (by assumption)), (by exact Sz.mono (low_sz (by assumption : 2 ≤ r7) (by assumption) (Sz.mul (num_sz14 (by assumption)) (num_sz14 (by assumption)))) (by decide))⟩ (.cons ⟨_, _, _, _, _, _, _, rfl, ((Same.trans (Same.trans (Same.trans (Same.trans (Same.trans (Same.trans (Same.trans (Same.trans (Same.trans (Same.trans (Same.trans s114 s122) s130) s134) s146) s158) s170) s182) s194) s206) s210) s214) _ _ f109), (by first | assumption | exact num_nf (by assumption) (by assumption) (by assumption)), rfl, f222, (by exact are_lowc (by assumption : 2 ≤ r7) (by assumption) (by assumption)), (by exact Sz.mono (low_sz (by assumption : 2 ≤ r7) (by assumption) (Sz.mul (num_sz14 (by assumption)) (num_sz14 (by assumption)))) (by decide))⟩ (.cons ⟨_, _, _, _, _, _, _, rfl, ((Same.trans (Same.trans (Same.trans (Same.trans (Same.trans (Same.trans (Same.trans (Same.trans (Same.trans (Same.trans s122 s130) s134) s146) s158) s170) s182) s194) s206) s210) s214) _ _ f117), (by first | assumption | exact num_nf (by assumption) (by assumption) (by assumption)), rfl, f223, (by (rw [show ∀ z : Int, 0 - z = -z from fun z => Int.zero_sub z]; assumption)), (by exact sz_neg0 (num_sz14 (by assumption)) (by decide))⟩ (.cons ⟨_, _, _, _, _, _, _, rfl, ((Same.trans (Same.trans (Same.trans (Same.trans (Same.trans (Same.trans (Same.trans (Same.trans (Same.trans s130 s134) s146) s158) s170) s182) s194) s206) s210) s214) _ _ f125), (by first | assumption | exact num_nf (by assumption) (by assumption) (by assumption)), rfl, f224, (by assumption), (by exact abs_sz (Sz.mono (num_sz14 (by assumption)) (by decide)))⟩ (.cons ⟨_, _, _, _, _, _, _, rfl, ((Same.trans (Same.trans (Same.trans (Same.trans (Same.trans (Same.trans (Same.trans s146 s158) s170) s182) s194) s206) s210) s214) _ _ f137), (by first | assumption | exact num_nf (by assumption) (by assumption) (by assumption)), rfl, f225, (by exact are_int2 (by assumption : 2 ≤ r7) (by assumption) (by assumption) (by assumption) rfl), (by exact Sz.mono (sum_szi (by assumption : 2 ≤ r7) (by assumption : r7 ≤ 36) (by assumption) (by assumption) (by decide) (by assumption) (.inl rfl)) (by decide))⟩ (.cons ⟨_, _, _, _, _, _, _, rfl, ((Same.trans (Same.trans (Same.trans (Same.trans (Same.trans (Same.trans s158 s170) s182) s194) s206) s210) s214) _ _ f149), (by first | assumption | exact num_nf (by assumption) (by assumption) (by assumption)), rfl, f226, (by exact are_rint2 (by assumption : 2 ≤ r7) (by assumption) (by assumption) (by assumption)), (by exact Sz.mono (sum_szi (by assumption : 2 ≤ r7) (by assumption : r7 ≤ 36) (by assumption) (by assumption) (by decide) (by assumption) (.inl rfl)) (by decide))⟩ (.cons ⟨_, _, _, _, _, _, _, rfl, ((Same.trans (Same.trans (Same.trans (Same.trans (Same.trans s170 s182) s194) s206) s210) s214) _ _ f161), (by first | assumption | exact num_nf (by assumption) (by assumption) (by assumption)), rfl, f227, (by exact are_int2 (by assumption : 2 ≤ r7) (by assumption) (by assumption) (by assumption) rfl), (by exact Sz.mono (sum_szi (by assumption : 2 ≤ r7) (by assumption : r7 ≤ 36) (by assumption) (by assumption) (by decide) (by assumption) (.inr rfl)) (by decide))⟩ (.cons ⟨_, _, _, _, _, _, _, rfl, ((Same.trans (Same.trans (Same.trans (Same.trans s182 s194) s206) s210) s214) _ _ f173), (by first | assumption | exact num_nf (by assumption) (by assumption) (by assumption)), rfl, f228, (by exact are_rsub2 (by assumption : 2 ≤ r7) (by assumption) (by assumption) (by assumption)), (by (refine sz_neg0 ?_ (show _ ≤ 8000 from Nat.le_refl _); exact Sz.mono (sum_szi (by assumption : 2 ≤ r7) (by assumption : r7 ≤ 36) (by assumption) (by assumption) (by decide) (by assumption) (.inr rfl)) (by decide)))⟩ (.cons ⟨_, _, _, _, _, _, _, rfl, ((Same.trans (Same.trans (Same.trans s194 s206) s210) s214) _ _ f185), (by first | assumption | exact num_nf (by assumption) (by assumption) (by assumption)), rfl, f229, (by exact are_mint2 (by assumption : 2 ≤ r7) (by assumption) (by assumption) (by assumption)), (by exact Sz.mono (low_sz (by assumption : 2 ≤ r7) (by assumption) (Sz.mul (num_sz14 (by assumption)) (sz_int (by assumption : 2 ≤ r7) (by assumption : r7 ≤ 36) (by assumption)))) (by decide))⟩ (.cons ⟨_, _, _, _, _, _, _, rfl, ((Same.trans (Same.trans s206 s210) s214) _ _ f197), (by first | assumption | exact num_nf (by assumption) (by assumption) (by assumption)), rfl, f230, (by exact are_rmint2 (by assumption : 2 ≤ r7) (by assumption) (by assumption) (by assumption)), (by exact Sz.mono (low_sz (by assumption : 2 ≤ r7) (by assumption) (Sz.mul (num_sz14 (by assumption)) (sz_int (by assumption : 2 ≤ r7) (by assumption : r7 ≤ 36) (by assumption)))) (by decide))⟩ (.nil)))))))))))))), (by first | assumption | (show 13 ≤ 1000; decide) | decide), fun r240 I241 H243 s242 w244 q245 => ?_⟩
      subst q245
      refine ⟨_, rfl, ?_⟩
      have qs : r72_coefficient = r212_0_0 ∧ r72_exponent = r212_0_1 := cb_sum (by assumption : 2 ≤ r7) (by assumption) (by assumption)
      have qt : r80_coefficient = r212_1_0 ∧ r80_exponent = r212_1_1 := cb_sum (by assumption : 2 ≤ r7) (by assumption) (by assumption)
      have qm : r132_coefficient = r212_7_0 ∧ r132_exponent = r212_7_1 := cb_int2 (by assumption : 2 ≤ r7) (by assumption) (by assumption) (by assumption)
      have n0 : Wn r7 2762 r212_0_0 r212_0_1 := wn_sum (by assumption : 2 ≤ r7) (by assumption) (by assumption) (by assumption) (.inl rfl)
      have n1 : Wn r7 2762 r212_1_0 r212_1_1 := wn_sum (by assumption : 2 ≤ r7) (by assumption) (by assumption) (by assumption) (.inr rfl)
      have n7 : Wn r7 2762 r212_7_0 r212_7_1 := wn_int (by assumption : 2 ≤ r7) (by assumption : r7 ≤ 36) (by assumption) (by assumption) (by decide) (by assumption) (.inl rfl)
      have ms : Wn r7 2762 r72_coefficient r72_exponent := by rw [qs.1, qs.2]; exact n0
      have mt : Wn r7 2762 r80_coefficient r80_exponent := by rw [qt.1, qt.2]; exact n1
      have mm : Wn r7 2762 r132_coefficient r132_exponent := by rw [qm.1, qm.2]; exact n7
      refine ⟨_, rfl, _, _, _, _, rfl, rfl, (SqL.of (w244.get ((Same.trans s214 s242) _ _ upd_same))), rfl, _, rfl, _, _, _, _, rfl, rfl, (SqL.of (w244.get ((Same.trans s214 s242) _ _ upd_same))), rfl, _, rfl, _, rfl, _, _, _, _, rfl, rfl, (SqL.of (w244.get (s242 _ _ f217))), rfl, _, rfl, _, _, _, _, rfl, rfl, (SqL.of (w244.get (s242 _ _ f217))), rfl, I241, ((r1, .lst xs45) :: O), r7, r212_0, r212_0_0, r212_0_1, r212_1, r212_1_0, r212_1_1, rfl, w244, (s242 _ _ f218), (s242 _ _ f219), (by first | rfl | assumption | exact .inl rfl | exact .inr (by decide) | exact wn_als (by assumption : 2 ≤ r7) ms mt (by decide) | exact wn_als (by assumption : 2 ≤ r7) ms mm (by decide) | exact wn_sz (by assumption : 2 ≤ r7) ms (by decide) | exact wn_sz (by assumption : 2 ≤ r7) mt (by decide) | exact wn_sz (by assumption : 2 ≤ r7) mm (by decide) | exact wn_sz (by assumption : 2 ≤ r7) n0 (by decide) | exact wn_sz (by assumption : 2 ≤ r7) n1 (by decide) | exact wn_sz (by assumption : 2 ≤ r7) n7 (by decide) | exact wt_mono n0.2.2.2 (by decide) | exact wt_mono n1.2.2.2 (by decide) | exact wt_mono n7.2.2.2 (by decide) | (have q1 := n0.2.1; have q2 := n0.2.2.1; omega) | (have q1 := n1.2.1; have q2 := n1.2.2.1; omega) | (have q1 := n7.2.1; have q2 := n7.2.2.1; omega)), (by first | rfl | assumption | exact .inl rfl | exact .inr (by decide) | exact wn_als (by assumption : 2 ≤ r7) ms mt (by decide) | exact wn_als (by assumption : 2 ≤ r7) ms mm (by decide) | exact wn_sz (by assumption : 2 ≤ r7) ms (by decide) | exact wn_sz (by assumption : 2 ≤ r7) mt (by decide) | exact wn_sz (by assumption : 2 ≤ r7) mm (by decide) | exact wn_sz (by assumption : 2 ≤ r7) n0 (by decide) | exact wn_sz (by assumption : 2 ≤ r7) n1 (by decide) | exact wn_sz (by assumption : 2 ≤ r7) n7 (by decide) | exact wt_mono n0.2.2.2 (by decide) | exact wt_mono n1.2.2.2 (by decide) | exact wt_mono n7.2.2.2 (by decide) | (have q1 := n0.2.1; have q2 := n0.2.2.1; omega) | (have q1 := n1.2.1; have q2 := n1.2.2.1; omega) | (have q1 := n7.2.1; have q2 := n7.2.2.1; omega)), (by first | rfl | assumption | exact .inl rfl | exact .inr (by decide) | exact wn_als (by assumption : 2 ≤ r7) ms mt (by decide) | exact wn_als (by assumption : 2 ≤ r7) ms mm (by decide) | exact wn_sz (by assumption : 2 ≤ r7) ms (by decide) | exact wn_sz (by assumption : 2 ≤ r7) mt (by decide) | exact wn_sz (by assumption : 2 ≤ r7) mm (by decide) | exact wn_sz (by assumption : 2 ≤ r7) n0 (by decide) | exact wn_sz (by assumption : 2 ≤ r7) n1 (by decide) | exact wn_sz (by assumption : 2 ≤ r7) n7 (by decide) | exact wt_mono n0.2.2.2 (by decide) | exact wt_mono n1.2.2.2 (by decide) | exact wt_mono n7.2.2.2 (by decide) | (have q1 := n0.2.1; have q2 := n0.2.2.1; omega) | (have q1 := n1.2.1; have q2 := n1.2.2.1; omega) | (have q1 := n7.2.1; have q2 := n7.2.2.1; omega)), (by first | rfl | assumption | exact .inl rfl | exact .inr (by decide) | exact wn_als (by assumption : 2 ≤ r7) ms mt (by decide) | exact wn_als (by assumption : 2 ≤ r7) ms mm (by decide) | exact wn_sz (by assumption : 2 ≤ r7) ms (by decide) | exact wn_sz (by assumption : 2 ≤ r7) mt (by decide) | exact wn_sz (by assumption : 2 ≤ r7) mm (by decide) | exact wn_sz (by assumption : 2 ≤ r7) n0 (by decide) | exact wn_sz (by assumption : 2 ≤ r7) n1 (by decide) | exact wn_sz (by assumption : 2 ≤ r7) n7 (by decide) | exact wt_mono n0.2.2.2 (by decide) | exact wt_mono n1.2.2.2 (by decide) | exact wt_mono n7.2.2.2 (by decide) | (have q1 := n0.2.1; have q2 := n0.2.2.1; omega) | (have q1 := n1.2.1; have q2 := n1.2.2.1; omega) | (have q1 := n7.2.1; have q2 := n7.2.2.1; omega)), fun r247 r247_0 r247_1 I248 H250 s249 w251 f252 q253 => ?_⟩
      refine ⟨_, rfl, _, rfl, _, _, _, _, _, _, rfl, rfl, (w251.get ((Same.trans (Same.trans (Same.trans (Same.trans (Same.trans (Same.trans (Same.trans (Same.trans (Same.trans (Same.trans (Same.trans (Same.trans (Same.trans (Same.trans (Same.trans (Same.trans (Same.trans s82 s90) s98) s106) s114) s122) s130) s134) s146) s158) s170) s182) s194) s206) s210) s214) s242) s249) _ _ f77)), (w251.get ((Same.trans (Same.trans (Same.trans (Same.trans (Same.trans (Same.trans (Same.trans (Same.trans (Same.trans (Same.trans (Same.trans (Same.trans (Same.trans (Same.trans (Same.trans (Same.trans s90 s98) s106) s114) s122) s130) s134) s146) s158) s170) s182) s194) s206) s210) s214) s242) s249) _ _ f85)), I248, ((r1, .lst xs45) :: O), r72, r72_d, r7, r72_coefficient, r72_exponent, r80, r80_d, r7, r80_coefficient, r80_exponent, rfl, w251, ((Same.trans (Same.trans (Same.trans (Same.trans (Same.trans (Same.trans (Same.trans (Same.trans (Same.trans (Same.trans (Same.trans (Same.trans (Same.trans (Same.trans (Same.trans (Same.trans (Same.trans s82 s90) s98) s106) s114) s122) s130) s134) s146) s158) s170) s182) s194) s206) s210) s214) s242) s249) _ _ f77), (by first | assumption | exact num_nf (by assumption) (by assumption) (by assumption) | exact low_nf (by omega) (by omega) (by assumption)), ((Same.trans (Same.trans (Same.trans (Same.trans (Same.trans (Same.trans (Same.trans (Same.trans (Same.trans (Same.trans (Same.trans (Same.trans (Same.trans (Same.trans (Same.trans (Same.trans s90 s98) s106) s114) s122) s130) s134) s146) s158) s170) s182) s194) s206) s210) s214) s242) s249) _ _ f85), (by first | assumption | exact num_nf (by assumption) (by assumption) (by assumption) | exact low_nf (by omega) (by omega) (by assumption)), (by first | rfl | assumption | exact .inl rfl | exact .inr (by decide) | exact wn_als (by assumption : 2 ≤ r7) ms mt (by decide) | exact wn_als (by assumption : 2 ≤ r7) ms mm (by decide) | exact wn_sz (by assumption : 2 ≤ r7) ms (by decide) | exact wn_sz (by assumption : 2 ≤ r7) mt (by decide) | exact wn_sz (by assumption : 2 ≤ r7) mm (by decide) | exact wn_sz (by assumption : 2 ≤ r7) n0 (by decide) | exact wn_sz (by assumption : 2 ≤ r7) n1 (by decide) | exact wn_sz (by assumption : 2 ≤ r7) n7 (by decide) | exact wt_mono n0.2.2.2 (by decide) | exact wt_mono n1.2.2.2 (by decide) | exact wt_mono n7.2.2.2 (by decide) | (have q1 := n0.2.1; have q2 := n0.2.2.1; omega) | (have q1 := n1.2.1; have q2 := n1.2.2.1; omega) | (have q1 := n7.2.1; have q2 := n7.2.2.1; omega)), (by first | rfl | assumption | exact .inl rfl | exact .inr (by decide) | exact wn_als (by assumption : 2 ≤ r7) ms mt (by decide) | exact wn_als (by assumption : 2 ≤ r7) ms mm (by decide) | exact wn_sz (by assumption : 2 ≤ r7) ms (by decide) | exact wn_sz (by assumption : 2 ≤ r7) mt (by decide) | exact wn_sz (by assumption : 2 ≤ r7) mm (by decide) | exact wn_sz (by assumption : 2 ≤ r7) n0 (by decide) | exact wn_sz (by assumption : 2 ≤ r7) n1 (by decide) | exact wn_sz (by assumption : 2 ≤ r7) n7 (by decide) | exact wt_mono n0.2.2.2 (by decide) | exact wt_mono n1.2.2.2 (by decide) | exact wt_mono n7.2.2.2 (by decide) | (have q1 := n0.2.1; have q2 := n0.2.2.1; omega) | (have q1 := n1.2.1; have q2 := n1.2.2.1; omega) | (have q1 := n7.2.1; have q2 := n7.2.2.1; omega)), fun r254 r254_d r254_coefficient r254_exponent I255 H257 s256 w258 f259 f260 q261 => ?_⟩
      refine ⟨_, rfl, _, rfl, _, _, _, _, _, _, rfl, rfl, (w258.get ((Same.trans (Same.trans (Same.trans (Same.trans (Same.trans (Same.trans (Same.trans (Same.trans (Same.trans (Same.trans (Same.trans (Same.trans (Same.trans (Same.trans (Same.trans (Same.trans (Same.trans (Same.trans s82 s90) s98) s106) s114) s122) s130) s134) s146) s158) s170) s182) s194) s206) s210) s214) s242) s249) s256) _ _ f77)), (w258.get ((Same.trans (Same.trans (Same.trans (Same.trans (Same.trans (Same.trans (Same.trans (Same.trans (Same.trans (Same.trans (Same.trans (Same.trans (Same.trans (Same.trans (Same.trans (Same.trans (Same.trans s90 s98) s106) s114) s122) s130) s134) s146) s158) s170) s182) s194) s206) s210) s214) s242) s249) s256) _ _ f85)), I255, ((r1, .lst xs45) :: O), r72, r72_d, r7, r72_coefficient, r72_exponent, r80, r80_d, r7, r80_coefficient, r80_exponent, rfl, w258, ((Same.trans (Same.trans (Same.trans (Same.trans (Same.trans (Same.trans (Same.trans (Same.trans (Same.trans (Same.trans (Same.trans (Same.trans (Same.trans (Same.trans (Same.trans (Same.trans (Same.trans (Same.trans s82 s90) s98) s106) s114) s122) s130) s134) s146) s158) s170) s182) s194) s206) s210) s214) s242) s249) s256) _ _ f77), (by first | assumption | exact num_nf (by assumption) (by assumption) (by assumption) | exact low_nf (by omega) (by omega) (by assumption)), ((Same.trans (Same.trans (Same.trans (Same.trans (Same.trans (Same.trans (Same.trans (Same.trans (Same.trans (Same.trans (Same.trans (Same.trans (Same.trans (Same.trans (Same.trans (Same.trans (Same.trans s90 s98) s106) s114) s122) s130) s134) s146) s158) s170) s182) s194) s206) s210) s214) s242) s249) s256) _ _ f85), (by first | assumption | exact num_nf (by assumption) (by assumption) (by assumption) | exact low_nf (by omega) (by omega) (by assumption)), (by first | rfl | assumption | exact .inl rfl | exact .inr (by decide) | exact wn_als (by assumption : 2 ≤ r7) ms mt (by decide) | exact wn_als (by assumption : 2 ≤ r7) ms mm (by decide) | exact wn_sz (by assumption : 2 ≤ r7) ms (by decide) | exact wn_sz (by assumption : 2 ≤ r7) mt (by decide) | exact wn_sz (by assumption : 2 ≤ r7) mm (by decide) | exact wn_sz (by assumption : 2 ≤ r7) n0 (by decide) | exact wn_sz (by assumption : 2 ≤ r7) n1 (by decide) | exact wn_sz (by assumption : 2 ≤ r7) n7 (by decide) | exact wt_mono n0.2.2.2 (by decide) | exact wt_mono n1.2.2.2 (by decide) | exact wt_mono n7.2.2.2 (by decide) | (have q1 := n0.2.1; have q2 := n0.2.2.1; omega) | (have q1 := n1.2.1; have q2 := n1.2.2.1; omega) | (have q1 := n7.2.1; have q2 := n7.2.2.1; omega)), (by first | rfl | assumption | exact .inl rfl | exact .inr (by decide) | exact wn_als (by assumption : 2 ≤ r7) ms mt (by decide) | exact wn_als (by assumption : 2 ≤ r7) ms mm (by decide) | exact wn_sz (by assumption : 2 ≤ r7) ms (by decide) | exact wn_sz (by assumption : 2 ≤ r7) mt (by decide) | exact wn_sz (by assumption : 2 ≤ r7) mm (by decide) | exact wn_sz (by assumption : 2 ≤ r7) n0 (by decide) | exact wn_sz (by assumption : 2 ≤ r7) n1 (by decide) | exact wn_sz (by assumption : 2 ≤ r7) n7 (by decide) | exact wt_mono n0.2.2.2 (by decide) | exact wt_mono n1.2.2.2 (by decide) | exact wt_mono n7.2.2.2 (by decide) | (have q1 := n0.2.1; have q2 := n0.2.2.1; omega) | (have q1 := n1.2.1; have q2 := n1.2.2.1; omega) | (have q1 := n7.2.1; have q2 := n7.2.2.1; omega)), (by first | rfl | assumption | exact .inl rfl | exact .inr (by decide) | exact wn_als (by assumption : 2 ≤ r7) ms mt (by decide) | exact wn_als (by assumption : 2 ≤ r7) ms mm (by decide) | exact wn_sz (by assumption : 2 ≤ r7) ms (by decide) | exact wn_sz (by assumption : 2 ≤ r7) mt (by decide) | exact wn_sz (by assumption : 2 ≤ r7) mm (by decide) | exact wn_sz (by assumption : 2 ≤ r7) n0 (by decide) | exact wn_sz (by assumption : 2 ≤ r7) n1 (by decide) | exact wn_sz (by assumption : 2 ≤ r7) n7 (by decide) | exact wt_mono n0.2.2.2 (by decide) | exact wt_mono n1.2.2.2 (by decide) | exact wt_mono n7.2.2.2 (by decide) | (have q1 := n0.2.1; have q2 := n0.2.2.1; omega) | (have q1 := n1.2.1; have q2 := n1.2.2.1; omega) | (have q1 := n7.2.1; have q2 := n7.2.2.1; omega)), fun r262 r262_d r262_coefficient r262_exponent I263 H265 s264 w266 f267 f268 q269 => ?_⟩
      refine ⟨_, rfl, _, rfl, _, rfl, _, _, _, _, _, _, rfl, rfl, (w266.get ((Same.trans (Same.trans (Same.trans (Same.trans (Same.trans (Same.trans (Same.trans (Same.trans (Same.trans (Same.trans (Same.trans (Same.trans (Same.trans (Same.trans (Same.trans (Same.trans (Same.trans (Same.trans (Same.trans s82 s90) s98) s106) s114) s122) s130) s134) s146) s158) s170) s182) s194) s206) s210) s214) s242) s249) s256) s264) _ _ f77)), (w266.get ((Same.trans (Same.trans (Same.trans (Same.trans (Same.trans (Same.trans (Same.trans (Same.trans (Same.trans (Same.trans (Same.trans (Same.trans (Same.trans (Same.trans (Same.trans (Same.trans (Same.trans (Same.trans s90 s98) s106) s114) s122) s130) s134) s146) s158) s170) s182) s194) s206) s210) s214) s242) s249) s256) s264) _ _ f85)), I263, ((r1, .lst xs45) :: O), r72, r72_d, r7, r72_coefficient, r72_exponent, r80, r80_d, r7, r80_coefficient, r80_exponent, rfl, w266, ((Same.trans (Same.trans (Same.trans (Same.trans (Same.trans (Same.trans (Same.trans (Same.trans (Same.trans (Same.trans (Same.trans (Same.trans (Same.trans (Same.trans (Same.trans (Same.trans (Same.trans (Same.trans (Same.trans s82 s90) s98) s106) s114) s122) s130) s134) s146) s158) s170) s182) s194) s206) s210) s214) s242) s249) s256) s264) _ _ f77), (by first | assumption | exact num_nf (by assumption) (by assumption) (by assumption) | exact low_nf (by omega) (by omega) (by assumption)), ((Same.trans (Same.trans (Same.trans (Same.trans (Same.trans (Same.trans (Same.trans (Same.trans (Same.trans (Same.trans (Same.trans (Same.trans (Same.trans (Same.trans (Same.trans (Same.trans (Same.trans (Same.trans s90 s98) s106) s114) s122) s130) s134) s146) s158) s170) s182) s194) s206) s210) s214) s242) s249) s256) s264) _ _ f85), (by first | assumption | exact num_nf (by assumption) (by assumption) (by assumption) | exact low_nf (by omega) (by omega) (by assumption)), (by first | rfl | assumption | exact .inl rfl | exact .inr (by decide) | exact wn_als (by assumption : 2 ≤ r7) ms mt (by decide) | exact wn_als (by assumption : 2 ≤ r7) ms mm (by decide) | exact wn_sz (by assumption : 2 ≤ r7) ms (by decide) | exact wn_sz (by assumption : 2 ≤ r7) mt (by decide) | exact wn_sz (by assumption : 2 ≤ r7) mm (by decide) | exact wn_sz (by assumption : 2 ≤ r7) n0 (by decide) | exact wn_sz (by assumption : 2 ≤ r7) n1 (by decide) | exact wn_sz (by assumption : 2 ≤ r7) n7 (by decide) | exact wt_mono n0.2.2.2 (by decide) | exact wt_mono n1.2.2.2 (by decide) | exact wt_mono n7.2.2.2 (by decide) | (have q1 := n0.2.1; have q2 := n0.2.2.1; omega) | (have q1 := n1.2.1; have q2 := n1.2.2.1; omega) | (have q1 := n7.2.1; have q2 := n7.2.2.1; omega)), (by first | rfl | assumption | exact .inl rfl | exact .inr (by decide) | exact wn_als (by assumption : 2 ≤ r7) ms mt (by decide) | exact wn_als (by assumption : 2 ≤ r7) ms mm (by decide) | exact wn_sz (by assumption : 2 ≤ r7) ms (by decide) | exact wn_sz (by assumption : 2 ≤ r7) mt (by decide) | exact wn_sz (by assumption : 2 ≤ r7) mm (by decide) | exact wn_sz (by assumption : 2 ≤ r7) n0 (by decide) | exact wn_sz (by assumption : 2 ≤ r7) n1 (by decide) | exact wn_sz (by assumption : 2 ≤ r7) n7 (by decide) | exact wt_mono n0.2.2.2 (by decide) | exact wt_mono n1.2.2.2 (by decide) | exact wt_mono n7.2.2.2 (by decide) | (have q1 := n0.2.1; have q2 := n0.2.2.1; omega) | (have q1 := n1.2.1; have q2 := n1.2.2.1; omega) | (have q1 := n7.2.1; have q2 := n7.2.2.1; omega)), (by first | rfl | assumption | exact .inl rfl | exact .inr (by decide) | exact wn_als (by assumption : 2 ≤ r7) ms mt (by decide) | exact wn_als (by assumption : 2 ≤ r7) ms mm (by decide) | exact wn_sz (by assumption : 2 ≤ r7) ms (by decide) | exact wn_sz (by assumption : 2 ≤ r7) mt (by decide) | exact wn_sz (by assumption : 2 ≤ r7) mm (by decide) | exact wn_sz (by assumption : 2 ≤ r7) n0 (by decide) | exact wn_sz (by assumption : 2 ≤ r7) n1 (by decide) | exact wn_sz (by assumption : 2 ≤ r7) n7 (by decide) | exact wt_mono n0.2.2.2 (by decide) | exact wt_mono n1.2.2.2 (by decide) | exact wt_mono n7.2.2.2 (by decide) | (have q1 := n0.2.1; have q2 := n0.2.2.1; omega) | (have q1 := n1.2.1; have q2 := n1.2.2.1; omega) | (have q1 := n7.2.1; have q2 := n7.2.2.1; omega)), fun r270 r270_d r270_coefficient r270_exponent I271 H273 s272 w274 f275 f276 q277 => ?_⟩
      refine ⟨_, _, _, _, rfl, rfl, (w274.get f275), I271, ((r1, .lst xs45) :: O), r270, r270_d, r7, r270_coefficient, r270_exponent, r28, rfl, w274, f275, (by first | assumption | exact num_nf (by assumption) (by assumption) (by assumption) | exact low_nf (by omega) (by omega) (by assumption)), (by first | rfl | assumption | exact .inl rfl | exact .inr (by decide) | exact Sz.mono (sz_int (by assumption : 2 ≤ r7) (by assumption : r7 ≤ 36) (by assumption)) (by decide) | exact fun c2 e2 q => AlS.of (wt_als (m := 5524) (by assumption : 2 ≤ r7) (wt_mono (wt_nlow (by assumption : 2 ≤ r7) (by assumption : r7 ≤ 36) (by assumption) q) (by decide)) (prod_wt (by assumption : 2 ≤ r7) ms.2.2.2 mt.2.2.2 ms.2.1 mt.2.1 (by assumption))) (by decide) | exact wt_mono (wt_int (by assumption : 2 ≤ r7) (by assumption : r7 ≤ 36) (by assumption)) (by decide) | exact wt_mono (prod_wt (by assumption : 2 ≤ r7) n0.2.2.2 n1.2.2.2 n0.2.1 n1.2.1 (by assumption)) (by decide) | decide | (have q := prod_exp n0.2.1 n1.2.1 (by assumption); omega) | exact Int.le_trans (low_wt_exp (by assumption : 2 ≤ r7) (low_self (by assumption)) (prod_wt (by assumption : 2 ≤ r7) n0.2.2.2 n1.2.2.2 n0.2.1 n1.2.1 (by assumption))) (by decide)), (by first | rfl | assumption | exact .inl rfl | exact .inr (by decide) | exact Sz.mono (sz_int (by assumption : 2 ≤ r7) (by assumption : r7 ≤ 36) (by assumption)) (by decide) | exact fun c2 e2 q => AlS.of (wt_als (m := 5524) (by assumption : 2 ≤ r7) (wt_mono (wt_nlow (by assumption : 2 ≤ r7) (by assumption : r7 ≤ 36) (by assumption) q) (by decide)) (prod_wt (by assumption : 2 ≤ r7) ms.2.2.2 mt.2.2.2 ms.2.1 mt.2.1 (by assumption))) (by decide) | exact wt_mono (wt_int (by assumption : 2 ≤ r7) (by assumption : r7 ≤ 36) (by assumption)) (by decide) | exact wt_mono (prod_wt (by assumption : 2 ≤ r7) n0.2.2.2 n1.2.2.2 n0.2.1 n1.2.1 (by assumption)) (by decide) | decide | (have q := prod_exp n0.2.1 n1.2.1 (by assumption); omega) | exact Int.le_trans (low_wt_exp (by assumption : 2 ≤ r7) (low_self (by assumption)) (prod_wt (by assumption : 2 ≤ r7) n0.2.2.2 n1.2.2.2 n0.2.1 n1.2.1 (by assumption))) (by decide)), fun r278 r278_d r278_coefficient r278_exponent I279 H281 s280 w282 f283 f284 q285 => ?_⟩
      obtain ⟨c288, e289, hL286, hC287⟩ := q285
      refine ⟨_, rfl, _, rfl, _, _, _, _, rfl, rfl, (SqL.of (w282.get ((Same.trans (Same.trans (Same.trans (Same.trans (Same.trans (Same.trans s214 s242) s249) s256) s264) s272) s280) _ _ upd_same))), rfl, _, _, _, _, _, _, rfl, rfl, (w282.get ((Same.trans (Same.trans (Same.trans (Same.trans (Same.trans (Same.trans (Same.trans (Same.trans (Same.trans (Same.trans (Same.trans (Same.trans (Same.trans (Same.trans (Same.trans (Same.trans (Same.trans (Same.trans (Same.trans (Same.trans (Same.trans s82 s90) s98) s106) s114) s122) s130) s134) s146) s158) s170) s182) s194) s206) s210) s214) s242) s249) s256) s264) s272) s280) _ _ f77)), (w282.get ((Same.trans (Same.trans (Same.trans (Same.trans (Same.trans (Same.trans (Same.trans (Same.trans (Same.trans (Same.trans (Same.trans (Same.trans (Same.trans s146 s158) s170) s182) s194) s206) s210) s214) s242) s249) s256) s264) s272) s280) _ _ f137)), I279, ((r1, .lst xs45) :: O), r72, r72_d, r7, r72_coefficient, r72_exponent, r132, r132_d, r7, r132_coefficient, r132_exponent, rfl, w282, ((Same.trans (Same.trans (Same.trans (Same.trans (Same.trans (Same.trans (Same.trans (Same.trans (Same.trans (Same.trans (Same.trans (Same.trans (Same.trans (Same.trans (Same.trans (Same.trans (Same.trans (Same.trans (Same.trans (Same.trans (Same.trans s82 s90) s98) s106) s114) s122) s130) s134) s146) s158) s170) s182) s194) s206) s210) s214) s242) s249) s256) s264) s272) s280) _ _ f77), (by first | assumption | exact num_nf (by assumption) (by assumption) (by assumption) | exact low_nf (by omega) (by omega) (by assumption)), ((Same.trans (Same.trans (Same.trans (Same.trans (Same.trans (Same.trans (Same.trans (Same.trans (Same.trans (Same.trans (Same.trans (Same.trans (Same.trans s146 s158) s170) s182) s194) s206) s210) s214) s242) s249) s256) s264) s272) s280) _ _ f137), (by first | assumption | exact num_nf (by assumption) (by assumption) (by assumption) | exact low_nf (by omega) (by omega) (by assumption)), (by first | rfl | assumption | exact .inl rfl | exact .inr (by decide) | exact wn_als (by assumption : 2 ≤ r7) ms mt (by decide) | exact wn_als (by assumption : 2 ≤ r7) ms mm (by decide) | exact wn_sz (by assumption : 2 ≤ r7) ms (by decide) | exact wn_sz (by assumption : 2 ≤ r7) mt (by decide) | exact wn_sz (by assumption : 2 ≤ r7) mm (by decide) | exact wn_sz (by assumption : 2 ≤ r7) n0 (by decide) | exact wn_sz (by assumption : 2 ≤ r7) n1 (by decide) | exact wn_sz (by assumption : 2 ≤ r7) n7 (by decide) | exact wt_mono n0.2.2.2 (by decide) | exact wt_mono n1.2.2.2 (by decide) | exact wt_mono n7.2.2.2 (by decide) | (have q1 := n0.2.1; have q2 := n0.2.2.1; omega) | (have q1 := n1.2.1; have q2 := n1.2.2.1; omega) | (have q1 := n7.2.1; have q2 := n7.2.2.1; omega)), (by first | rfl | assumption | exact .inl rfl | exact .inr (by decide) | exact wn_als (by assumption : 2 ≤ r7) ms mt (by decide) | exact wn_als (by assumption : 2 ≤ r7) ms mm (by decide) | exact wn_sz (by assumption : 2 ≤ r7) ms (by decide) | exact wn_sz (by assumption : 2 ≤ r7) mt (by decide) | exact wn_sz (by assumption : 2 ≤ r7) mm (by decide) | exact wn_sz (by assumption : 2 ≤ r7) n0 (by decide) | exact wn_sz (by assumption : 2 ≤ r7) n1 (by decide) | exact wn_sz (by assumption : 2 ≤ r7) n7 (by decide) | exact wt_mono n0.2.2.2 (by decide) | exact wt_mono n1.2.2.2 (by decide) | exact wt_mono n7.2.2.2 (by decide) | (have q1 := n0.2.1; have q2 := n0.2.2.1; omega) | (have q1 := n1.2.1; have q2 := n1.2.2.1; omega) | (have q1 := n7.2.1; have q2 := n7.2.2.1; omega)), fun r290 r290_d r290_coefficient r290_exponent I291 H293 s292 w294 f295 f296 q297 => ?_⟩
      refine ⟨(by show 4 ≤ sizeLine; decide), fun p298 hp299 => ?_⟩
      have s300 := w294.newS (o := .lst [(V.ref r254), (V.ref r262), (V.ref r278), (V.ref r290)]) hp299
      have w301 := w294.new (o := .lst [(V.ref r254), (V.ref r262), (V.ref r278), (V.ref r290)]) hp299
      refine ⟨_, rfl, _, rfl, _, _, _, _, rfl, rfl, (SqL.of (w301.get ((Same.trans (Same.trans (Same.trans (Same.trans (Same.trans (Same.trans (Same.trans s242 s249) s256) s264) s272) s280) s292) s300) _ _ f217))), rfl, _, rfl, _, _, _, _, rfl, rfl, (SqL.of (w301.get ((Same.trans (Same.trans (Same.trans (Same.trans (Same.trans (Same.trans (Same.trans s242 s249) s256) s264) s272) s280) s292) s300) _ _ f217))), rfl, (upd I291 p298 (.lst [(V.ref r254), (V.ref r262), (V.ref r278), (V.ref r290)])), ((r1, .lst xs45) :: O), r7, r212_0, r212_0_0, r212_0_1, r212_1, r212_1_0, r212_1_1, 1, rfl, w301, ((Same.trans (Same.trans (Same.trans (Same.trans (Same.trans (Same.trans (Same.trans s242 s249) s256) s264) s272) s280) s292) s300) _ _ f218), ((Same.trans (Same.trans (Same.trans (Same.trans (Same.trans (Same.trans (Same.trans s242 s249) s256) s264) s272) s280) s292) s300) _ _ f219), (by first | rfl | assumption | exact .inl rfl | exact .inr (by decide) | exact wn_als (by assumption : 2 ≤ r7) ms mt (by decide) | exact wn_als (by assumption : 2 ≤ r7) ms mm (by decide) | exact wn_sz (by assumption : 2 ≤ r7) ms (by decide) | exact wn_sz (by assumption : 2 ≤ r7) mt (by decide) | exact wn_sz (by assumption : 2 ≤ r7) mm (by decide) | exact wn_sz (by assumption : 2 ≤ r7) n0 (by decide) | exact wn_sz (by assumption : 2 ≤ r7) n1 (by decide) | exact wn_sz (by assumption : 2 ≤ r7) n7 (by decide) | exact wt_mono n0.2.2.2 (by decide) | exact wt_mono n1.2.2.2 (by decide) | exact wt_mono n7.2.2.2 (by decide) | (have q1 := n0.2.1; have q2 := n0.2.2.1; omega) | (have q1 := n1.2.1; have q2 := n1.2.2.1; omega) | (have q1 := n7.2.1; have q2 := n7.2.2.1; omega)), (by first | rfl | assumption | exact .inl rfl | exact .inr (by decide) | exact wn_als (by assumption : 2 ≤ r7) ms mt (by decide) | exact wn_als (by assumption : 2 ≤ r7) ms mm (by decide) | exact wn_sz (by assumption : 2 ≤ r7) ms (by decide) | exact wn_sz (by assumption : 2 ≤ r7) mt (by decide) | exact wn_sz (by assumption : 2 ≤ r7) mm (by decide) | exact wn_sz (by assumption : 2 ≤ r7) n0 (by decide) | exact wn_sz (by assumption : 2 ≤ r7) n1 (by decide) | exact wn_sz (by assumption : 2 ≤ r7) n7 (by decide) | exact wt_mono n0.2.2.2 (by decide) | exact wt_mono n1.2.2.2 (by decide) | exact wt_mono n7.2.2.2 (by decide) | (have q1 := n0.2.1; have q2 := n0.2.2.1; omega) | (have q1 := n1.2.1; have q2 := n1.2.2.1; omega) | (have q1 := n7.2.1; have q2 := n7.2.2.1; omega)), (by first | rfl | assumption | exact .inl rfl | exact .inr (by decide) | exact wn_als (by assumption : 2 ≤ r7) ms mt (by decide) | exact wn_als (by assumption : 2 ≤ r7) ms mm (by decide) | exact wn_sz (by assumption : 2 ≤ r7) ms (by decide) | exact wn_sz (by assumption : 2 ≤ r7) mt (by decide) | exact wn_sz (by assumption : 2 ≤ r7) mm (by decide) | exact wn_sz (by assumption : 2 ≤ r7) n0 (by decide) | exact wn_sz (by assumption : 2 ≤ r7) n1 (by decide) | exact wn_sz (by assumption : 2 ≤ r7) n7 (by decide) | exact wt_mono n0.2.2.2 (by decide) | exact wt_mono n1.2.2.2 (by decide) | exact wt_mono n7.2.2.2 (by decide) | (have q1 := n0.2.1; have q2 := n0.2.2.1; omega) | (have q1 := n1.2.1; have q2 := n1.2.2.1; omega) | (have q1 := n7.2.1; have q2 := n7.2.2.1; omega)), (by first | rfl | assumption | exact .inl rfl | exact .inr (by decide) | exact wn_als (by assumption : 2 ≤ r7) ms mt (by decide) | exact wn_als (by assumption : 2 ≤ r7) ms mm (by decide) | exact wn_sz (by assumption : 2 ≤ r7) ms (by decide) | exact wn_sz (by assumption : 2 ≤ r7) mt (by decide) | exact wn_sz (by assumption : 2 ≤ r7) mm (by decide) | exact wn_sz (by assumption : 2 ≤ r7) n0 (by decide) | exact wn_sz (by assumption : 2 ≤ r7) n1 (by decide) | exact wn_sz (by assumption : 2 ≤ r7) n7 (by decide) | exact wt_mono n0.2.2.2 (by decide) | exact wt_mono n1.2.2.2 (by decide) | exact wt_mono n7.2.2.2 (by decide) | (have q1 := n0.2.1; have q2 := n0.2.2.1; omega) | (have q1 := n1.2.1; have q2 := n1.2.2.1; omega) | (have q1 := n7.2.1; have q2 := n7.2.2.1; omega)), (by first | rfl | assumption | exact .inl rfl | exact .inr (by decide) | exact wn_als (by assumption : 2 ≤ r7) ms mt (by decide) | exact wn_als (by assumption : 2 ≤ r7) ms mm (by decide) | exact wn_sz (by assumption : 2 ≤ r7) ms (by decide) | exact wn_sz (by assumption : 2 ≤ r7) mt (by decide) | exact wn_sz (by assumption : 2 ≤ r7) mm (by decide) | exact wn_sz (by assumption : 2 ≤ r7) n0 (by decide) | exact wn_sz (by assumption : 2 ≤ r7) n1 (by decide) | exact wn_sz (by assumption : 2 ≤ r7) n7 (by decide) | exact wt_mono n0.2.2.2 (by decide) | exact wt_mono n1.2.2.2 (by decide) | exact wt_mono n7.2.2.2 (by decide) | (have q1 := n0.2.1; have q2 := n0.2.2.1; omega) | (have q1 := n1.2.1; have q2 := n1.2.2.1; omega) | (have q1 := n7.2.1; have q2 := n7.2.2.1; omega)), (by first | rfl | assumption | exact .inl rfl | exact .inr (by decide) | exact wn_als (by assumption : 2 ≤ r7) ms mt (by decide) | exact wn_als (by assumption : 2 ≤ r7) ms mm (by decide) | exact wn_sz (by assumption : 2 ≤ r7) ms (by decide) | exact wn_sz (by assumption : 2 ≤ r7) mt (by decide) | exact wn_sz (by assumption : 2 ≤ r7) mm (by decide) | exact wn_sz (by assumption : 2 ≤ r7) n0 (by decide) | exact wn_sz (by assumption : 2 ≤ r7) n1 (by decide) | exact wn_sz (by assumption : 2 ≤ r7) n7 (by decide) | exact wt_mono n0.2.2.2 (by decide) | exact wt_mono n1.2.2.2 (by decide) | exact wt_mono n7.2.2.2 (by decide) | (have q1 := n0.2.1; have q2 := n0.2.2.1; omega) | (have q1 := n1.2.1; have q2 := n1.2.2.1; omega) | (have q1 := n7.2.1; have q2 := n7.2.2.1; omega)), (by first | rfl | assumption | exact .inl rfl | exact .inr (by decide) | exact wn_als (by assumption : 2 ≤ r7) ms mt (by decide) | exact wn_als (by assumption : 2 ≤ r7) ms mm (by decide) | exact wn_sz (by assumption : 2 ≤ r7) ms (by decide) | exact wn_sz (by assumption : 2 ≤ r7) mt (by decide) | exact wn_sz (by assumption : 2 ≤ r7) mm (by decide) | exact wn_sz (by assumption : 2 ≤ r7) n0 (by decide) | exact wn_sz (by assumption : 2 ≤ r7) n1 (by decide) | exact wn_sz (by assumption : 2 ≤ r7) n7 (by decide) | exact wt_mono n0.2.2.2 (by decide) | exact wt_mono n1.2.2.2 (by decide) | exact wt_mono n7.2.2.2 (by decide) | (have q1 := n0.2.1; have q2 := n0.2.2.1; omega) | (have q1 := n1.2.1; have q2 := n1.2.2.1; omega) | (have q1 := n7.2.1; have q2 := n7.2.2.1; omega)), (by first | rfl | assumption | exact .inl rfl | exact .inr (by decide) | exact wn_als (by assumption : 2 ≤ r7) ms mt (by decide) | exact wn_als (by assumption : 2 ≤ r7) ms mm (by decide) | exact wn_sz (by assumption : 2 ≤ r7) ms (by decide) | exact wn_sz (by assumption : 2 ≤ r7) mt (by decide) | exact wn_sz (by assumption : 2 ≤ r7) mm (by decide) | exact wn_sz (by assumption : 2 ≤ r7) n0 (by decide) | exact wn_sz (by assumption : 2 ≤ r7) n1 (by decide) | exact wn_sz (by assumption : 2 ≤ r7) n7 (by decide) | exact wt_mono n0.2.2.2 (by decide) | exact wt_mono n1.2.2.2 (by decide) | exact wt_mono n7.2.2.2 (by decide) | (have q1 := n0.2.1; have q2 := n0.2.2.1; omega) | (have q1 := n1.2.1; have q2 := n1.2.2.1; omega) | (have q1 := n7.2.1; have q2 := n7.2.2.1; omega)), (by first | rfl | assumption | exact .inl rfl | exact .inr (by decide) | exact wn_als (by assumption : 2 ≤ r7) ms mt (by decide) | exact wn_als (by assumption : 2 ≤ r7) ms mm (by decide) | exact wn_sz (by assumption : 2 ≤ r7) ms (by decide) | exact wn_sz (by assumption : 2 ≤ r7) mt (by decide) | exact wn_sz (by assumption : 2 ≤ r7) mm (by decide) | exact wn_sz (by assumption : 2 ≤ r7) n0 (by decide) | exact wn_sz (by assumption : 2 ≤ r7) n1 (by decide) | exact wn_sz (by assumption : 2 ≤ r7) n7 (by decide) | exact wt_mono n0.2.2.2 (by decide) | exact wt_mono n1.2.2.2 (by decide) | exact wt_mono n7.2.2.2 (by decide) | (have q1 := n0.2.1; have q2 := n0.2.2.1; omega) | (have q1 := n1.2.1; have q2 := n1.2.2.1; omega) | (have q1 := n7.2.1; have q2 := n7.2.2.1; omega)), fun r302 r302_0 r302_1 I303 H305 s304 w306 f307 q308 => ?_⟩
      refine ⟨_, rfl, (by show 2 ≤ sizeLine; decide), fun p309 hp310 => ?_⟩
      have w311 := w306.newO (o := .lst [(V.ref r302), (V.ref r247)]) hp310
      refine ⟨_, rfl, .inl ⟨rfl, _, SqL.of w311.own⟩, _, rfl, _, rfl, (by show 2 ≤ sizeLine; decide), fun p312 hp313 => ?_⟩
      have s314 := w311.newS (o := .tup [(V.int r28), (V.int 0)]) hp313
      have w315 := w311.new (o := .tup [(V.int r28), (V.int 0)]) hp313
      refine ⟨_, rfl, _, _, rfl, rfl, (upd I303 p312 (.tup [(V.int r28), (V.int 0)])), ((p309, .lst [(V.ref r302), (V.ref r247)]) :: (r1, .lst xs45) :: O), r7, p312, r28, 0, r247, r247_0, r247_1, (0 - 1), rfl, w315, upd_same, ((Same.trans (Same.trans (Same.trans (Same.trans (Same.trans (Same.trans (Same.trans s256 s264) s272) s280) s292) s300) s304) s314) _ _ f252), (by first | rfl | assumption | exact .inl rfl | exact .inr (by decide) | exact Sz.mono (sz_int (by assumption : 2 ≤ r7) (by assumption : r7 ≤ 36) (by assumption)) (by decide) | exact fun c2 e2 q => AlS.of (wt_als (m := 5524) (by assumption : 2 ≤ r7) (wt_mono (wt_nlow (by assumption : 2 ≤ r7) (by assumption : r7 ≤ 36) (by assumption) q) (by decide)) (prod_wt (by assumption : 2 ≤ r7) ms.2.2.2 mt.2.2.2 ms.2.1 mt.2.1 (by assumption))) (by decide) | exact wt_mono (wt_int (by assumption : 2 ≤ r7) (by assumption : r7 ≤ 36) (by assumption)) (by decide) | exact wt_mono (prod_wt (by assumption : 2 ≤ r7) n0.2.2.2 n1.2.2.2 n0.2.1 n1.2.1 (by assumption)) (by decide) | decide | (have q := prod_exp n0.2.1 n1.2.1 (by assumption); omega) | exact Int.le_trans (low_wt_exp (by assumption : 2 ≤ r7) (low_self (by assumption)) (prod_wt (by assumption : 2 ≤ r7) n0.2.2.2 n1.2.2.2 n0.2.1 n1.2.1 (by assumption))) (by decide)), (by first | rfl | assumption | exact .inl rfl | exact .inr (by decide) | exact Sz.mono (sz_int (by assumption : 2 ≤ r7) (by assumption : r7 ≤ 36) (by assumption)) (by decide) | exact fun c2 e2 q => AlS.of (wt_als (m := 5524) (by assumption : 2 ≤ r7) (wt_mono (wt_nlow (by assumption : 2 ≤ r7) (by assumption : r7 ≤ 36) (by assumption) q) (by decide)) (prod_wt (by assumption : 2 ≤ r7) ms.2.2.2 mt.2.2.2 ms.2.1 mt.2.1 (by assumption))) (by decide) | exact wt_mono (wt_int (by assumption : 2 ≤ r7) (by assumption : r7 ≤ 36) (by assumption)) (by decide) | exact wt_mono (prod_wt (by assumption : 2 ≤ r7) n0.2.2.2 n1.2.2.2 n0.2.1 n1.2.1 (by assumption)) (by decide) | decide | (have q := prod_exp n0.2.1 n1.2.1 (by assumption); omega) | exact Int.le_trans (low_wt_exp (by assumption : 2 ≤ r7) (low_self (by assumption)) (prod_wt (by assumption : 2 ≤ r7) n0.2.2.2 n1.2.2.2 n0.2.1 n1.2.1 (by assumption))) (by decide)), (by first | rfl | assumption | exact .inl rfl | exact .inr (by decide) | exact Sz.mono (sz_int (by assumption : 2 ≤ r7) (by assumption : r7 ≤ 36) (by assumption)) (by decide) | exact fun c2 e2 q => AlS.of (wt_als (m := 5524) (by assumption : 2 ≤ r7) (wt_mono (wt_nlow (by assumption : 2 ≤ r7) (by assumption : r7 ≤ 36) (by assumption) q) (by decide)) (prod_wt (by assumption : 2 ≤ r7) ms.2.2.2 mt.2.2.2 ms.2.1 mt.2.1 (by assumption))) (by decide) | exact wt_mono (wt_int (by assumption : 2 ≤ r7) (by assumption : r7 ≤ 36) (by assumption)) (by decide) | exact wt_mono (prod_wt (by assumption : 2 ≤ r7) n0.2.2.2 n1.2.2.2 n0.2.1 n1.2.1 (by assumption)) (by decide) | decide | (have q := prod_exp n0.2.1 n1.2.1 (by assumption); omega) | exact Int.le_trans (low_wt_exp (by assumption : 2 ≤ r7) (low_self (by assumption)) (prod_wt (by assumption : 2 ≤ r7) n0.2.2.2 n1.2.2.2 n0.2.1 n1.2.1 (by assumption))) (by decide)), (by first | rfl | assumption | exact .inl rfl | exact .inr (by decide) | exact Sz.mono (sz_int (by assumption : 2 ≤ r7) (by assumption : r7 ≤ 36) (by assumption)) (by decide) | exact fun c2 e2 q => AlS.of (wt_als (m := 5524) (by assumption : 2 ≤ r7) (wt_mono (wt_nlow (by assumption : 2 ≤ r7) (by assumption : r7 ≤ 36) (by assumption) q) (by decide)) (prod_wt (by assumption : 2 ≤ r7) ms.2.2.2 mt.2.2.2 ms.2.1 mt.2.1 (by assumption))) (by decide) | exact wt_mono (wt_int (by assumption : 2 ≤ r7) (by assumption : r7 ≤ 36) (by assumption)) (by decide) | exact wt_mono (prod_wt (by assumption : 2 ≤ r7) n0.2.2.2 n1.2.2.2 n0.2.1 n1.2.1 (by assumption)) (by decide) | decide | (have q := prod_exp n0.2.1 n1.2.1 (by assumption); omega) | exact Int.le_trans (low_wt_exp (by assumption : 2 ≤ r7) (low_self (by assumption)) (prod_wt (by assumption : 2 ≤ r7) n0.2.2.2 n1.2.2.2 n0.2.1 n1.2.1 (by assumption))) (by decide)), (by first | rfl | assumption | exact .inl rfl | exact .inr (by decide) | exact Sz.mono (sz_int (by assumption : 2 ≤ r7) (by assumption : r7 ≤ 36) (by assumption)) (by decide) | exact fun c2 e2 q => AlS.of (wt_als (m := 5524) (by assumption : 2 ≤ r7) (wt_mono (wt_nlow (by assumption : 2 ≤ r7) (by assumption : r7 ≤ 36) (by assumption) q) (by decide)) (prod_wt (by assumption : 2 ≤ r7) ms.2.2.2 mt.2.2.2 ms.2.1 mt.2.1 (by assumption))) (by decide) | exact wt_mono (wt_int (by assumption : 2 ≤ r7) (by assumption : r7 ≤ 36) (by assumption)) (by decide) | exact wt_mono (prod_wt (by assumption : 2 ≤ r7) n0.2.2.2 n1.2.2.2 n0.2.1 n1.2.1 (by assumption)) (by decide) | decide | (have q := prod_exp n0.2.1 n1.2.1 (by assumption); omega) | exact Int.le_trans (low_wt_exp (by assumption : 2 ≤ r7) (low_self (by assumption)) (prod_wt (by assumption : 2 ≤ r7) n0.2.2.2 n1.2.2.2 n0.2.1 n1.2.1 (by assumption))) (by decide)), (by first | rfl | assumption | exact .inl rfl | exact .inr (by decide) | exact Sz.mono (sz_int (by assumption : 2 ≤ r7) (by assumption : r7 ≤ 36) (by assumption)) (by decide) | exact fun c2 e2 q => AlS.of (wt_als (m := 5524) (by assumption : 2 ≤ r7) (wt_mono (wt_nlow (by assumption : 2 ≤ r7) (by assumption : r7 ≤ 36) (by assumption) q) (by decide)) (prod_wt (by assumption : 2 ≤ r7) ms.2.2.2 mt.2.2.2 ms.2.1 mt.2.1 (by assumption))) (by decide) | exact wt_mono (wt_int (by assumption : 2 ≤ r7) (by assumption : r7 ≤ 36) (by assumption)) (by decide) | exact wt_mono (prod_wt (by assumption : 2 ≤ r7) n0.2.2.2 n1.2.2.2 n0.2.1 n1.2.1 (by assumption)) (by decide) | decide | (have q := prod_exp n0.2.1 n1.2.1 (by assumption); omega) | exact Int.le_trans (low_wt_exp (by assumption : 2 ≤ r7) (low_self (by assumption)) (prod_wt (by assumption : 2 ≤ r7) n0.2.2.2 n1.2.2.2 n0.2.1 n1.2.1 (by assumption))) (by decide)), (by first | rfl | assumption | exact .inl rfl | exact .inr (by decide) | exact Sz.mono (sz_int (by assumption : 2 ≤ r7) (by assumption : r7 ≤ 36) (by assumption)) (by decide) | exact fun c2 e2 q => AlS.of (wt_als (m := 5524) (by assumption : 2 ≤ r7) (wt_mono (wt_nlow (by assumption : 2 ≤ r7) (by assumption : r7 ≤ 36) (by assumption) q) (by decide)) (prod_wt (by assumption : 2 ≤ r7) ms.2.2.2 mt.2.2.2 ms.2.1 mt.2.1 (by assumption))) (by decide) | exact wt_mono (wt_int (by assumption : 2 ≤ r7) (by assumption : r7 ≤ 36) (by assumption)) (by decide) | exact wt_mono (prod_wt (by assumption : 2 ≤ r7) n0.2.2.2 n1.2.2.2 n0.2.1 n1.2.1 (by assumption)) (by decide) | decide | (have q := prod_exp n0.2.1 n1.2.1 (by assumption); omega) | exact Int.le_trans (low_wt_exp (by assumption : 2 ≤ r7) (low_self (by assumption)) (prod_wt (by assumption : 2 ≤ r7) n0.2.2.2 n1.2.2.2 n0.2.1 n1.2.1 (by assumption))) (by decide)), (by first | rfl | assumption | exact .inl rfl | exact .inr (by decide) | exact Sz.mono (sz_int (by assumption : 2 ≤ r7) (by assumption : r7 ≤ 36) (by assumption)) (by decide) | exact fun c2 e2 q => AlS.of (wt_als (m := 5524) (by assumption : 2 ≤ r7) (wt_mono (wt_nlow (by assumption : 2 ≤ r7) (by assumption : r7 ≤ 36) (by assumption) q) (by decide)) (prod_wt (by assumption : 2 ≤ r7) ms.2.2.2 mt.2.2.2 ms.2.1 mt.2.1 (by assumption))) (by decide) | exact wt_mono (wt_int (by assumption : 2 ≤ r7) (by assumption : r7 ≤ 36) (by assumption)) (by decide) | exact wt_mono (prod_wt (by assumption : 2 ≤ r7) n0.2.2.2 n1.2.2.2 n0.2.1 n1.2.1 (by assumption)) (by decide) | decide | (have q := prod_exp n0.2.1 n1.2.1 (by assumption); omega) | exact Int.le_trans (low_wt_exp (by assumption : 2 ≤ r7) (low_self (by assumption)) (prod_wt (by assumption : 2 ≤ r7) n0.2.2.2 n1.2.2.2 n0.2.1 n1.2.1 (by assumption))) (by decide)), (by first | rfl | assumption | exact .inl rfl | exact .inr (by decide) | exact Sz.mono (sz_int (by assumption : 2 ≤ r7) (by assumption : r7 ≤ 36) (by assumption)) (by decide) | exact fun c2 e2 q => AlS.of (wt_als (m := 5524) (by assumption : 2 ≤ r7) (wt_mono (wt_nlow (by assumption : 2 ≤ r7) (by assumption : r7 ≤ 36) (by assumption) q) (by decide)) (prod_wt (by assumption : 2 ≤ r7) ms.2.2.2 mt.2.2.2 ms.2.1 mt.2.1 (by assumption))) (by decide) | exact wt_mono (wt_int (by assumption : 2 ≤ r7) (by assumption : r7 ≤ 36) (by assumption)) (by decide) | exact wt_mono (prod_wt (by assumption : 2 ≤ r7) n0.2.2.2 n1.2.2.2 n0.2.1 n1.2.1 (by assumption)) (by decide) | decide | (have q := prod_exp n0.2.1 n1.2.1 (by assumption); omega) | exact Int.le_trans (low_wt_exp (by assumption : 2 ≤ r7) (low_self (by assumption)) (prod_wt (by assumption : 2 ≤ r7) n0.2.2.2 n1.2.2.2 n0.2.1 n1.2.1 (by assumption))) (by decide)), fun r316 r316_0 r316_1 I317 H319 s318 w320 f321 q322 => ?_⟩
      refine ⟨_, _, _, rfl, rfl, w320.own, (by show 2 < sizeLine; decide), ?_⟩
      have w323 := w320.set (u := .lst [(V.ref r302), (V.ref r247), (V.ref r316)])
      refine ⟨_, rfl, .inl ⟨rfl, _, SqL.of w323.own⟩, _, rfl, _, rfl, _, _, _, _, rfl, rfl, (SqL.of (w323.get ((Same.trans (Same.trans (Same.trans (Same.trans (Same.trans (Same.trans (Same.trans (Same.trans (Same.trans (Same.trans s242 s249) s256) s264) s272) s280) s292) s300) s304) s314) s318) _ _ f217))), rfl, _, rfl, _, _, _, _, rfl, rfl, (SqL.of (w323.get ((Same.trans (Same.trans (Same.trans (Same.trans (Same.trans (Same.trans (Same.trans (Same.trans (Same.trans (Same.trans s242 s249) s256) s264) s272) s280) s292) s300) s304) s314) s318) _ _ f217))), rfl, _, _, rfl, rfl, I317, ((p309, .lst [(V.ref r302), (V.ref r247), (V.ref r316)]) :: (r1, .lst xs45) :: O), r7, r212_0, r212_0_0, r212_0_1, r212_7, r212_7_0, r212_7_1, (0 - 1), rfl, w323, ((Same.trans (Same.trans (Same.trans (Same.trans (Same.trans (Same.trans (Same.trans (Same.trans (Same.trans (Same.trans s242 s249) s256) s264) s272) s280) s292) s300) s304) s314) s318) _ _ f218), ((Same.trans (Same.trans (Same.trans (Same.trans (Same.trans (Same.trans (Same.trans (Same.trans (Same.trans (Same.trans s242 s249) s256) s264) s272) s280) s292) s300) s304) s314) s318) _ _ f225), (by first | rfl | assumption | exact .inl rfl | exact .inr (by decide) | exact wn_als (by assumption : 2 ≤ r7) ms mt (by decide) | exact wn_als (by assumption : 2 ≤ r7) ms mm (by decide) | exact wn_sz (by assumption : 2 ≤ r7) ms (by decide) | exact wn_sz (by assumption : 2 ≤ r7) mt (by decide) | exact wn_sz (by assumption : 2 ≤ r7) mm (by decide) | exact wn_sz (by assumption : 2 ≤ r7) n0 (by decide) | exact wn_sz (by assumption : 2 ≤ r7) n1 (by decide) | exact wn_sz (by assumption : 2 ≤ r7) n7 (by decide) | exact wt_mono n0.2.2.2 (by decide) | exact wt_mono n1.2.2.2 (by decide) | exact wt_mono n7.2.2.2 (by decide) | (have q1 := n0.2.1; have q2 := n0.2.2.1; omega) | (have q1 := n1.2.1; have q2 := n1.2.2.1; omega) | (have q1 := n7.2.1; have q2 := n7.2.2.1; omega)), (by first | rfl | assumption | exact .inl rfl | exact .inr (by decide) | exact wn_als (by assumption : 2 ≤ r7) ms mt (by decide) | exact wn_als (by assumption : 2 ≤ r7) ms mm (by decide) | exact wn_sz (by assumption : 2 ≤ r7) ms (by decide) | exact wn_sz (by assumption : 2 ≤ r7) mt (by decide) | exact wn_sz (by assumption : 2 ≤ r7) mm (by decide) | exact wn_sz (by assumption : 2 ≤ r7) n0 (by decide) | exact wn_sz (by assumption : 2 ≤ r7) n1 (by decide) | exact wn_sz (by assumption : 2 ≤ r7) n7 (by decide) | exact wt_mono n0.2.2.2 (by decide) | exact wt_mono n1.2.2.2 (by decide) | exact wt_mono n7.2.2.2 (by decide) | (have q1 := n0.2.1; have q2 := n0.2.2.1; omega) | (have q1 := n1.2.1; have q2 := n1.2.2.1; omega) | (have q1 := n7.2.1; have q2 := n7.2.2.1; omega)), (by first | rfl | assumption | exact .inl rfl | exact .inr (by decide) | exact wn_als (by assumption : 2 ≤ r7) ms mt (by decide) | exact wn_als (by assumption : 2 ≤ r7) ms mm (by decide) | exact wn_sz (by assumption : 2 ≤ r7) ms (by decide) | exact wn_sz (by assumption : 2 ≤ r7) mt (by decide) | exact wn_sz (by assumption : 2 ≤ r7) mm (by decide) | exact wn_sz (by assumption : 2 ≤ r7) n0 (by decide) | exact wn_sz (by assumption : 2 ≤ r7) n1 (by decide) | exact wn_sz (by assumption : 2 ≤ r7) n7 (by decide) | exact wt_mono n0.2.2.2 (by decide) | exact wt_mono n1.2.2.2 (by decide) | exact wt_mono n7.2.2.2 (by decide) | (have q1 := n0.2.1; have q2 := n0.2.2.1; omega) | (have q1 := n1.2.1; have q2 := n1.2.2.1; omega) | (have q1 := n7.2.1; have q2 := n7.2.2.1; omega)), (by first | rfl | assumption | exact .inl rfl | exact .inr (by decide) | exact wn_als (by assumption : 2 ≤ r7) ms mt (by decide) | exact wn_als (by assumption : 2 ≤ r7) ms mm (by decide) | exact wn_sz (by assumption : 2 ≤ r7) ms (by decide) | exact wn_sz (by assumption : 2 ≤ r7) mt (by decide) | exact wn_sz (by assumption : 2 ≤ r7) mm (by decide) | exact wn_sz (by assumption : 2 ≤ r7) n0 (by decide) | exact wn_sz (by assumption : 2 ≤ r7) n1 (by decide) | exact wn_sz (by assumption : 2 ≤ r7) n7 (by decide) | exact wt_mono n0.2.2.2 (by decide) | exact wt_mono n1.2.2.2 (by decide) | exact wt_mono n7.2.2.2 (by decide) | (have q1 := n0.2.1; have q2 := n0.2.2.1; omega) | (have q1 := n1.2.1; have q2 := n1.2.2.1; omega) | (have q1 := n7.2.1; have q2 := n7.2.2.1; omega)), (by first | rfl | assumption | exact .inl rfl | exact .inr (by decide) | exact wn_als (by assumption : 2 ≤ r7) ms mt (by decide) | exact wn_als (by assumption : 2 ≤ r7) ms mm (by decide) | exact wn_sz (by assumption : 2 ≤ r7) ms (by decide) | exact wn_sz (by assumption : 2 ≤ r7) mt (by decide) | exact wn_sz (by assumption : 2 ≤ r7) mm (by decide) | exact wn_sz (by assumption : 2 ≤ r7) n0 (by decide) | exact wn_sz (by assumption : 2 ≤ r7) n1 (by decide) | exact wn_sz (by assumption : 2 ≤ r7) n7 (by decide) | exact wt_mono n0.2.2.2 (by decide) | exact wt_mono n1.2.2.2 (by decide) | exact wt_mono n7.2.2.2 (by decide) | (have q1 := n0.2.1; have q2 := n0.2.2.1; omega) | (have q1 := n1.2.1; have q2 := n1.2.2.1; omega) | (have q1 := n7.2.1; have q2 := n7.2.2.1; omega)), (by first | rfl | assumption | exact .inl rfl | exact .inr (by decide) | exact wn_als (by assumption : 2 ≤ r7) ms mt (by decide) | exact wn_als (by assumption : 2 ≤ r7) ms mm (by decide) | exact wn_sz (by assumption : 2 ≤ r7) ms (by decide) | exact wn_sz (by assumption : 2 ≤ r7) mt (by decide) | exact wn_sz (by assumption : 2 ≤ r7) mm (by decide) | exact wn_sz (by assumption : 2 ≤ r7) n0 (by decide) | exact wn_sz (by assumption : 2 ≤ r7) n1 (by decide) | exact wn_sz (by assumption : 2 ≤ r7) n7 (by decide) | exact wt_mono n0.2.2.2 (by decide) | exact wt_mono n1.2.2.2 (by decide) | exact wt_mono n7.2.2.2 (by decide) | (have q1 := n0.2.1; have q2 := n0.2.2.1; omega) | (have q1 := n1.2.1; have q2 := n1.2.2.1; omega) | (have q1 := n7.2.1; have q2 := n7.2.2.1; omega)), (by first | rfl | assumption | exact .inl rfl | exact .inr (by decide) | exact wn_als (by assumption : 2 ≤ r7) ms mt (by decide) | exact wn_als (by assumption : 2 ≤ r7) ms mm (by decide) | exact wn_sz (by assumption : 2 ≤ r7) ms (by decide) | exact wn_sz (by assumption : 2 ≤ r7) mt (by decide) | exact wn_sz (by assumption : 2 ≤ r7) mm (by decide) | exact wn_sz (by assumption : 2 ≤ r7) n0 (by decide) | exact wn_sz (by assumption : 2 ≤ r7) n1 (by decide) | exact wn_sz (by assumption : 2 ≤ r7) n7 (by decide) | exact wt_mono n0.2.2.2 (by decide) | exact wt_mono n1.2.2.2 (by decide) | exact wt_mono n7.2.2.2 (by decide) | (have q1 := n0.2.1; have q2 := n0.2.2.1; omega) | (have q1 := n1.2.1; have q2 := n1.2.2.1; omega) | (have q1 := n7.2.1; have q2 := n7.2.2.1; omega)), (by first | rfl | assumption | exact .inl rfl | exact .inr (by decide) | exact wn_als (by assumption : 2 ≤ r7) ms mt (by decide) | exact wn_als (by assumption : 2 ≤ r7) ms mm (by decide) | exact wn_sz (by assumption : 2 ≤ r7) ms (by decide) | exact wn_sz (by assumption : 2 ≤ r7) mt (by decide) | exact wn_sz (by assumption : 2 ≤ r7) mm (by decide) | exact wn_sz (by assumption : 2 ≤ r7) n0 (by decide) | exact wn_sz (by assumption : 2 ≤ r7) n1 (by decide) | exact wn_sz (by assumption : 2 ≤ r7) n7 (by decide) | exact wt_mono n0.2.2.2 (by decide) | exact wt_mono n1.2.2.2 (by decide) | exact wt_mono n7.2.2.2 (by decide) | (have q1 := n0.2.1; have q2 := n0.2.2.1; omega) | (have q1 := n1.2.1; have q2 := n1.2.2.1; omega) | (have q1 := n7.2.1; have q2 := n7.2.2.1; omega)), (by first | rfl | assumption | exact .inl rfl | exact .inr (by decide) | exact wn_als (by assumption : 2 ≤ r7) ms mt (by decide) | exact wn_als (by assumption : 2 ≤ r7) ms mm (by decide) | exact wn_sz (by assumption : 2 ≤ r7) ms (by decide) | exact wn_sz (by assumption : 2 ≤ r7) mt (by decide) | exact wn_sz (by assumption : 2 ≤ r7) mm (by decide) | exact wn_sz (by assumption : 2 ≤ r7) n0 (by decide) | exact wn_sz (by assumption : 2 ≤ r7) n1 (by decide) | exact wn_sz (by assumption : 2 ≤ r7) n7 (by decide) | exact wt_mono n0.2.2.2 (by decide) | exact wt_mono n1.2.2.2 (by decide) | exact wt_mono n7.2.2.2 (by decide) | (have q1 := n0.2.1; have q2 := n0.2.2.1; omega) | (have q1 := n1.2.1; have q2 := n1.2.2.1; omega) | (have q1 := n7.2.1; have q2 := n7.2.2.1; omega)), fun r324 r324_0 r324_1 I325 H327 s326 w328 f329 q330 => ?_⟩
      refine ⟨_, _, _, rfl, rfl, w328.own, (by show 3 < sizeLine; decide), ?_⟩
      have w331 := w328.set (u := .lst [(V.ref r302), (V.ref r247), (V.ref r316), (V.ref r324)])
      have s332 := w331.freezeS
      have w333 := w331.freeze
      refine ⟨_, rfl, _, rfl, _, rfl, (upd I325 p309 (.lst [(V.ref r302), (V.ref r247), (V.ref r316), (V.ref r324)])), ((r1, .lst xs45) :: O), p298, [(V.ref r254), (V.ref r262), (V.ref r278), (V.ref r290)], r7, p309, [(V.ref r302), (V.ref r247), (V.ref r316), (V.ref r324)], rfl, w333, ((Same.trans (Same.trans (Same.trans (Same.trans s304 s314) s318) s326) s332) _ _ upd_same), upd_same, (.cons ⟨_, _, _, _, _, _, _, rfl, ((Same.trans (Same.trans (Same.trans (Same.trans (Same.trans (Same.trans (Same.trans (Same.trans (Same.trans s264 s272) s280) s292) s300) s304) s314) s318) s326) s332) _ _ f259), (by first | assumption | exact num_nf (by assumption) (by assumption) (by assumption)), rfl, ((Same.trans (Same.trans (Same.trans s314 s318) s326) s332) _ _ f307), (by (have h := (by assumption : Cb r7 r72_coefficient r72_exponent r80_coefficient r80_exponent 1 r254_coefficient r254_exponent); rw [qs.1, qs.2, qt.1, qt.2] at h; exact are_sum (by assumption : 2 ≤ r7) h (by assumption) rfl)), (by exact Sz.mono (sum_szw (by assumption : 2 ≤ r7) (by assumption) n0.2.2.2 n1.2.2.2 (.inl rfl) (by have q := n0.2.1; omega) (by have q := n1.2.1; omega)) (by decide))⟩ (.cons ⟨_, _, _, _, _, _, _, rfl, ((Same.trans (Same.trans (Same.trans (Same.trans (Same.trans (Same.trans (Same.trans (Same.trans s272 s280) s292) s300) s304) s314) s318) s326) s332) _ _ f267), (by first | assumption | exact num_nf (by assumption) (by assumption) (by assumption)), rfl, ((Same.trans (Same.trans (Same.trans (Same.trans (Same.trans (Same.trans (Same.trans (Same.trans (Same.trans (Same.trans s256 s264) s272) s280) s292) s300) s304) s314) s318) s326) s332) _ _ f252), (by (have h := (by assumption : Low r7 (r72_coefficient * r80_coefficient) (r72_exponent + r80_exponent) r262_coefficient r262_exponent); rw [qs.1, qs.2, qt.1, qt.2] at h; exact are_low (by assumption : 2 ≤ r7) h (by assumption))), (by exact Sz.mono (wt_sz (by assumption : 2 ≤ r7) (prod_wt (by assumption : 2 ≤ r7) n0.2.2.2 n1.2.2.2 n0.2.1 n1.2.1 (by assumption))) (by decide))⟩ (.cons ⟨_, _, _, _, _, _, _, rfl, ((Same.trans (Same.trans (Same.trans (Same.trans (Same.trans (Same.trans s292 s300) s304) s314) s318) s326) s332) _ _ f283), (by first | assumption | exact num_nf (by assumption) (by assumption) (by assumption)), rfl, ((Same.trans s326 s332) _ _ f321), (by (have h := (by assumption : Low r7 (r72_coefficient * r80_coefficient) (r72_exponent + r80_exponent) r270_coefficient r270_exponent); rw [qs.1, qs.2, qt.1, qt.2] at h; have h2 := low_unique (by assumption : 2 ≤ r7) h (by assumption : Low r7 (r212_0_0 * r212_1_0) (r212_0_1 + r212_1_1) r247_0 r247_1); have h3 := (by assumption : Cb r7 _ _ r270_coefficient r270_exponent (-1) r278_coefficient r278_exponent); rw [h2.1, h2.2] at h3; exact are_fint (by assumption : 2 ≤ r7) (by assumption) h3 (by assumption))), (by exact Sz.mono (sum_szw (m := 5524) (by assumption : 2 ≤ r7) (by assumption) (wt_mono (wt_int (by assumption : 2 ≤ r7) (by assumption : r7 ≤ 36) (by assumption)) (by decide)) (prod_wt (by assumption : 2 ≤ r7) n0.2.2.2 n1.2.2.2 n0.2.1 n1.2.1 (by assumption)) (.inr rfl) (by decide) (by have q := prod_exp n0.2.1 n1.2.1 (by assumption); omega)) (by decide))⟩ (.cons ⟨_, _, _, _, _, _, _, rfl, ((Same.trans (Same.trans (Same.trans (Same.trans (Same.trans s300 s304) s314) s318) s326) s332) _ _ f295), (by first | assumption | exact num_nf (by assumption) (by assumption) (by assumption)), rfl, (s332 _ _ f329), (by (have h := (by assumption : Cb r7 r72_coefficient r72_exponent r132_coefficient r132_exponent (-1) r290_coefficient r290_exponent); rw [qs.1, qs.2, qm.1, qm.2] at h; exact are_sum (by assumption : 2 ≤ r7) h (by assumption) rfl)), (by exact Sz.mono (sum_szw (by assumption : 2 ≤ r7) (by assumption) n0.2.2.2 n7.2.2.2 (.inr rfl) (by have q := n0.2.1; omega) (by have q := n7.2.1; omega)) (by decide))⟩ (.nil))))), (by first | assumption | (show 4 ≤ 1000; decide) | decide), fun r334 I335 H337 s336 w338 q339 => ?_⟩
      subst q339
      refine ⟨_, rfl, ?_⟩
      refine ⟨_, rfl, _, _, _, rfl, (w338.get ((Same.trans (Same.trans (Same.trans (Same.trans (Same.trans (Same.trans (Same.trans (Same.trans (Same.trans (Same.trans (Same.trans (Same.trans (Same.trans (Same.trans (Same.trans (Same.trans (Same.trans (Same.trans (Same.trans (Same.trans (Same.trans (Same.trans (Same.trans (Same.trans (Same.trans (Same.trans (Same.trans (Same.trans (Same.trans (Same.trans (Same.trans s44 s74) s82) s90) s98) s106) s114) s122) s130) s134) s146) s158) s170) s182) s194) s206) s210) s214) s242) s249) s256) s264) s272) s280) s292) s300) s304) s314) s318) s326) s332) s336) _ _ f39)), I335, ((r1, .lst xs45) :: O), r34, r34_d, r7, r16_0_0, r16_0_1, rfl, w338, ((Same.trans (Same.trans (Same.trans (Same.trans (Same.trans (Same.trans (Same.trans (Same.trans (Same.trans (Same.trans (Same.trans (Same.trans (Same.trans (Same.trans (Same.trans (Same.trans (Same.trans (Same.trans (Same.trans (Same.trans (Same.trans (Same.trans (Same.trans (Same.trans (Same.trans (Same.trans (Same.trans (Same.trans (Same.trans (Same.trans (Same.trans s44 s74) s82) s90) s98) s106) s114) s122) s130) s134) s146) s158) s170) s182) s194) s206) s210) s214) s242) s249) s256) s264) s272) s280) s292) s300) s304) s314) s318) s326) s332) s336) _ _ f39), (by first | assumption | exact num_nf (by assumption) (by assumption) (by assumption) | exact low_nf (by omega) (by omega) (by assumption)), fun r341 q342 => ?_⟩
      subst q342
      refine ⟨_, rfl, _, rfl, _, _, _, rfl, (w338.get ((Same.trans (Same.trans (Same.trans (Same.trans (Same.trans (Same.trans (Same.trans (Same.trans (Same.trans (Same.trans (Same.trans (Same.trans (Same.trans (Same.trans (Same.trans (Same.trans (Same.trans (Same.trans (Same.trans (Same.trans (Same.trans (Same.trans (Same.trans (Same.trans (Same.trans (Same.trans (Same.trans (Same.trans (Same.trans (Same.trans s74 s82) s90) s98) s106) s114) s122) s130) s134) s146) s158) s170) s182) s194) s206) s210) s214) s242) s249) s256) s264) s272) s280) s292) s300) s304) s314) s318) s326) s332) s336) _ _ f42)), I335, ((r1, .lst xs45) :: O), b41, b41_d, r7, r16_1_0, r16_1_1, rfl, w338, ((Same.trans (Same.trans (Same.trans (Same.trans (Same.trans (Same.trans (Same.trans (Same.trans (Same.trans (Same.trans (Same.trans (Same.trans (Same.trans (Same.trans (Same.trans (Same.trans (Same.trans (Same.trans (Same.trans (Same.trans (Same.trans (Same.trans (Same.trans (Same.trans (Same.trans (Same.trans (Same.trans (Same.trans (Same.trans (Same.trans s74 s82) s90) s98) s106) s114) s122) s130) s134) s146) s158) s170) s182) s194) s206) s210) s214) s242) s249) s256) s264) s272) s280) s292) s300) s304) s314) s318) s326) s332) s336) _ _ f42), (by first | assumption | exact num_nf (by assumption) (by assumption) (by assumption) | exact low_nf (by omega) (by omega) (by assumption)), fun r343 q344 => ?_⟩
      subst q344
      refine ⟨_, rfl, _, rfl, _, _, _, rfl, (w338.get ((Same.trans (Same.trans (Same.trans (Same.trans (Same.trans (Same.trans (Same.trans (Same.trans (Same.trans (Same.trans (Same.trans (Same.trans (Same.trans (Same.trans (Same.trans (Same.trans (Same.trans (Same.trans (Same.trans (Same.trans (Same.trans (Same.trans (Same.trans (Same.trans (Same.trans (Same.trans (Same.trans (Same.trans s90 s98) s106) s114) s122) s130) s134) s146) s158) s170) s182) s194) s206) s210) s214) s242) s249) s256) s264) s272) s280) s292) s300) s304) s314) s318) s326) s332) s336) _ _ f85)), I335, ((r1, .lst xs45) :: O), r80, r80_d, r7, r80_coefficient, r80_exponent, rfl, w338, ((Same.trans (Same.trans (Same.trans (Same.trans (Same.trans (Same.trans (Same.trans (Same.trans (Same.trans (Same.trans (Same.trans (Same.trans (Same.trans (Same.trans (Same.trans (Same.trans (Same.trans (Same.trans (Same.trans (Same.trans (Same.trans (Same.trans (Same.trans (Same.trans (Same.trans (Same.trans (Same.trans (Same.trans s90 s98) s106) s114) s122) s130) s134) s146) s158) s170) s182) s194) s206) s210) s214) s242) s249) s256) s264) s272) s280) s292) s300) s304) s314) s318) s326) s332) s336) _ _ f85), (by first | assumption | exact num_nf (by assumption) (by assumption) (by assumption) | exact low_nf (by omega) (by omega) (by assumption)), fun r345 q346 => ?_⟩
      subst q346
      refine ⟨_, rfl, (by show 3 ≤ sizeLine; decide), fun p347 hp348 => ?_⟩
      have s349 := w338.newS (o := .lst [(V.bl (!decide (V.int r16_0_0 = V.int 0))), (V.bl (!decide (V.int r16_1_0 = V.int 0))), (V.bl (!decide (V.int r80_coefficient = V.int 0)))]) hp348
      have w350 := w338.new (o := .lst [(V.bl (!decide (V.int r16_0_0 = V.int 0))), (V.bl (!decide (V.int r16_1_0 = V.int 0))), (V.bl (!decide (V.int r80_coefficient = V.int 0)))]) hp348
      refine ⟨_, rfl, _, _, _, _, rfl, rfl, (SqT.of (w350.get ((Same.trans (Same.trans (Same.trans (Same.trans (Same.trans (Same.trans (Same.trans (Same.trans (Same.trans (Same.trans (Same.trans (Same.trans (Same.trans (Same.trans (Same.trans (Same.trans (Same.trans (Same.trans (Same.trans (Same.trans (Same.trans (Same.trans (Same.trans (Same.trans (Same.trans (Same.trans (Same.trans (Same.trans (Same.trans (Same.trans (Same.trans (Same.trans (Same.trans s36 s44) s74) s82) s90) s98) s106) s114) s122) s130) s134) s146) s158) s170) s182) s194) s206) s210) s214) s242) s249) s256) s264) s272) s280) s292) s300) s304) s314) s318) s326) s332) s336) s349) _ _ f23))), rfl, rfl, _, rfl, _, _, _, _, rfl, rfl, (SqT.of (w350.get ((Same.trans (Same.trans (Same.trans (Same.trans (Same.trans (Same.trans (Same.trans (Same.trans (Same.trans (Same.trans (Same.trans (Same.trans (Same.trans (Same.trans (Same.trans (Same.trans (Same.trans (Same.trans (Same.trans (Same.trans (Same.trans (Same.trans (Same.trans (Same.trans (Same.trans (Same.trans (Same.trans (Same.trans (Same.trans (Same.trans (Same.trans (Same.trans (Same.trans s36 s44) s74) s82) s90) s98) s106) s114) s122) s130) s134) s146) s158) s170) s182) s194) s206) s210) s214) s242) s249) s256) s264) s272) s280) s292) s300) s304) s314) s318) s326) s332) s336) s349) _ _ f24))), rfl, rfl, _, rfl, _, _, _, _, rfl, rfl, (SqL.of (w350.get ((Same.trans (Same.trans (Same.trans (Same.trans (Same.trans (Same.trans (Same.trans (Same.trans (Same.trans (Same.trans (Same.trans (Same.trans (Same.trans (Same.trans s242 s249) s256) s264) s272) s280) s292) s300) s304) s314) s318) s326) s332) s336) s349) _ _ f217))), rfl, _, _, _, _, rfl, rfl, (SqT.of (w350.get ((Same.trans (Same.trans (Same.trans (Same.trans (Same.trans (Same.trans (Same.trans (Same.trans (Same.trans (Same.trans (Same.trans (Same.trans (Same.trans (Same.trans s242 s249) s256) s264) s272) s280) s292) s300) s304) s314) s318) s326) s332) s336) s349) _ _ f219))), rfl, rfl, (by show 3 ≤ sizeLine; decide), fun p351 hp352 => ?_⟩
      have s353 := w350.newS (o := .lst [(V.bl (!decide ((V.int r16_0_0) = (V.int 0)))), (V.bl (!decide ((V.int r16_1_0) = (V.int 0)))), (V.bl (!decide ((V.int r212_1_0) = (V.int 0))))]) hp352
      have w354 := w350.new (o := .lst [(V.bl (!decide ((V.int r16_0_0) = (V.int 0)))), (V.bl (!decide ((V.int r16_1_0) = (V.int 0)))), (V.bl (!decide ((V.int r212_1_0) = (V.int 0))))]) hp352
      refine ⟨(upd (upd I335 p347 (.lst [(V.bl (!decide (V.int r16_0_0 = V.int 0))), (V.bl (!decide (V.int r16_1_0 = V.int 0))), (V.bl (!decide (V.int r80_coefficient = V.int 0)))])) p351 (.lst [(V.bl (!decide ((V.int r16_0_0) = (V.int 0)))), (V.bl (!decide ((V.int r16_1_0) = (V.int 0)))), (V.bl (!decide ((V.int r212_1_0) = (V.int 0))))])), ((r1, .lst xs45) :: O), p347, [(!decide (V.int r16_0_0 = V.int 0)), (!decide (V.int r16_1_0 = V.int 0)), (!decide (V.int r80_coefficient = V.int 0))], p351, [(!decide ((V.int r16_0_0) = (V.int 0))), (!decide ((V.int r16_1_0) = (V.int 0))), (!decide ((V.int r212_1_0) = (V.int 0)))], rfl, w354, (s353 _ _ upd_same), upd_same, (by rw [qt.1]), (by show 3 ≤ 1000; decide), fun r355 I356 H358 s357 w359 q360 => ?_⟩
      subst q360
      refine ⟨_, rfl, ?_⟩
      refine ⟨_, rfl, _, rfl, _, rfl, _, rfl, (by show 4 ≤ sizeLine; decide), fun p362 hp363 => ?_⟩
      have s364 := w359.newS (o := .lst [(V.ref r34), (V.ref b41), (V.ref r72), (V.ref r80)]) hp363
      have w365 := w359.new (o := .lst [(V.ref r34), (V.ref b41), (V.ref r72), (V.ref r80)]) hp363
      refine ⟨_, rfl, _, rfl, _, rfl, _, rfl, _, _, _, _, rfl, rfl, (SqL.of (w365.get ((Same.trans (Same.trans (Same.trans (Same.trans (Same.trans (Same.trans (Same.trans (Same.trans (Same.trans (Same.trans (Same.trans (Same.trans (Same.trans (Same.trans (Same.trans (Same.trans (Same.trans s242 s249) s256) s264) s272) s280) s292) s300) s304) s314) s318) s326) s332) s336) s349) s353) s357) s364) _ _ f217))), rfl, _, rfl, _, _, _, _, rfl, rfl, (SqL.of (w365.get ((Same.trans (Same.trans (Same.trans (Same.trans (Same.trans (Same.trans (Same.trans (Same.trans (Same.trans (Same.trans (Same.trans (Same.trans (Same.trans (Same.trans (Same.trans (Same.trans (Same.trans s242 s249) s256) s264) s272) s280) s292) s300) s304) s314) s318) s326) s332) s336) s349) s353) s357) s364) _ _ f217))), rfl, (by show 4 ≤ sizeLine; decide), fun p366 hp367 => ?_⟩
      have s368 := w365.newS (o := .lst [(V.ref r16_0), (V.ref r16_1), (V.ref r212_0), (V.ref r212_1)]) hp367
      have w369 := w365.new (o := .lst [(V.ref r16_0), (V.ref r16_1), (V.ref r212_0), (V.ref r212_1)]) hp367
      refine ⟨(upd (upd I356 p362 (.lst [(V.ref r34), (V.ref b41), (V.ref r72), (V.ref r80)])) p366 (.lst [(V.ref r16_0), (V.ref r16_1), (V.ref r212_0), (V.ref r212_1)])), ((r1, .lst xs45) :: O), p362, [(V.ref r34), (V.ref b41), (V.ref r72), (V.ref r80)], r7, p366, [(V.ref r16_0), (V.ref r16_1), (V.ref r212_0), (V.ref r212_1)], rfl, w369, (s368 _ _ upd_same), upd_same, (.cons ⟨_, _, _, _, _, _, _, rfl, ((Same.trans (Same.trans (Same.trans (Same.trans (Same.trans (Same.trans (Same.trans (Same.trans (Same.trans (Same.trans (Same.trans (Same.trans (Same.trans (Same.trans (Same.trans (Same.trans (Same.trans (Same.trans (Same.trans (Same.trans (Same.trans (Same.trans (Same.trans (Same.trans (Same.trans (Same.trans (Same.trans (Same.trans (Same.trans (Same.trans (Same.trans (Same.trans (Same.trans (Same.trans (Same.trans (Same.trans s44 s74) s82) s90) s98) s106) s114) s122) s130) s134) s146) s158) s170) s182) s194) s206) s210) s214) s242) s249) s256) s264) s272) s280) s292) s300) s304) s314) s318) s326) s332) s336) s349) s353) s357) s364) s368) _ _ f39), (by first | assumption | exact num_nf (by assumption) (by assumption) (by assumption)), rfl, ((Same.trans (Same.trans (Same.trans (Same.trans (Same.trans (Same.trans (Same.trans (Same.trans (Same.trans (Same.trans (Same.trans (Same.trans (Same.trans (Same.trans (Same.trans (Same.trans (Same.trans (Same.trans (Same.trans (Same.trans (Same.trans (Same.trans (Same.trans (Same.trans (Same.trans (Same.trans (Same.trans (Same.trans (Same.trans (Same.trans (Same.trans (Same.trans (Same.trans (Same.trans (Same.trans (Same.trans (Same.trans s36 s44) s74) s82) s90) s98) s106) s114) s122) s130) s134) s146) s158) s170) s182) s194) s206) s210) s214) s242) s249) s256) s264) s272) s280) s292) s300) s304) s314) s318) s326) s332) s336) s349) s353) s357) s364) s368) _ _ f23), (by exact num_low (by assumption)), (by exact Sz.mono (num_sz14 (by assumption)) (by decide))⟩ (.cons ⟨_, _, _, _, _, _, _, rfl, ((Same.trans (Same.trans (Same.trans (Same.trans (Same.trans (Same.trans (Same.trans (Same.trans (Same.trans (Same.trans (Same.trans (Same.trans (Same.trans (Same.trans (Same.trans (Same.trans (Same.trans (Same.trans (Same.trans (Same.trans (Same.trans (Same.trans (Same.trans (Same.trans (Same.trans (Same.trans (Same.trans (Same.trans (Same.trans (Same.trans (Same.trans (Same.trans (Same.trans (Same.trans (Same.trans s74 s82) s90) s98) s106) s114) s122) s130) s134) s146) s158) s170) s182) s194) s206) s210) s214) s242) s249) s256) s264) s272) s280) s292) s300) s304) s314) s318) s326) s332) s336) s349) s353) s357) s364) s368) _ _ f42), (by first | assumption | exact num_nf (by assumption) (by assumption) (by assumption)), rfl, ((Same.trans (Same.trans (Same.trans (Same.trans (Same.trans (Same.trans (Same.trans (Same.trans (Same.trans (Same.trans (Same.trans (Same.trans (Same.trans (Same.trans (Same.trans (Same.trans (Same.trans (Same.trans (Same.trans (Same.trans (Same.trans (Same.trans (Same.trans (Same.trans (Same.trans (Same.trans (Same.trans (Same.trans (Same.trans (Same.trans (Same.trans (Same.trans (Same.trans (Same.trans (Same.trans (Same.trans (Same.trans s36 s44) s74) s82) s90) s98) s106) s114) s122) s130) s134) s146) s158) s170) s182) s194) s206) s210) s214) s242) s249) s256) s264) s272) s280) s292) s300) s304) s314) s318) s326) s332) s336) s349) s353) s357) s364) s368) _ _ f24), (by exact num_low (by assumption)), (by exact Sz.mono (num_sz14 (by assumption)) (by decide))⟩ (.cons ⟨_, _, _, _, _, _, _, rfl, ((Same.trans (Same.trans (Same.trans (Same.trans (Same.trans (Same.trans (Same.trans (Same.trans (Same.trans (Same.trans (Same.trans (Same.trans (Same.trans (Same.trans (Same.trans (Same.trans (Same.trans (Same.trans (Same.trans (Same.trans (Same.trans (Same.trans (Same.trans (Same.trans (Same.trans (Same.trans (Same.trans (Same.trans (Same.trans (Same.trans (Same.trans (Same.trans (Same.trans (Same.trans s82 s90) s98) s106) s114) s122) s130) s134) s146) s158) s170) s182) s194) s206) s210) s214) s242) s249) s256) s264) s272) s280) s292) s300) s304) s314) s318) s326) s332) s336) s349) s353) s357) s364) s368) _ _ f77), (by first | assumption | exact num_nf (by assumption) (by assumption) (by assumption)), rfl, ((Same.trans (Same.trans (Same.trans (Same.trans (Same.trans (Same.trans (Same.trans (Same.trans (Same.trans (Same.trans (Same.trans (Same.trans (Same.trans (Same.trans (Same.trans (Same.trans (Same.trans (Same.trans s242 s249) s256) s264) s272) s280) s292) s300) s304) s314) s318) s326) s332) s336) s349) s353) s357) s364) s368) _ _ f218), (by (rw [qs.1, qs.2]; exact n0.1)), (by exact wn_sz (by assumption : 2 ≤ r7) n0 (by decide))⟩ (.cons ⟨_, _, _, _, _, _, _, rfl, ((Same.trans (Same.trans (Same.trans (Same.trans (Same.trans (Same.trans (Same.trans (Same.trans (Same.trans (Same.trans (Same.trans (Same.trans (Same.trans (Same.trans (Same.trans (Same.trans (Same.trans (Same.trans (Same.trans (Same.trans (Same.trans (Same.trans (Same.trans (Same.trans (Same.trans (Same.trans (Same.trans (Same.trans (Same.trans (Same.trans (Same.trans (Same.trans (Same.trans s90 s98) s106) s114) s122) s130) s134) s146) s158) s170) s182) s194) s206) s210) s214) s242) s249) s256) s264) s272) s280) s292) s300) s304) s314) s318) s326) s332) s336) s349) s353) s357) s364) s368) _ _ f85), (by first | assumption | exact num_nf (by assumption) (by assumption) (by assumption)), rfl, ((Same.trans (Same.trans (Same.trans (Same.trans (Same.trans (Same.trans (Same.trans (Same.trans (Same.trans (Same.trans (Same.trans (Same.trans (Same.trans (Same.trans (Same.trans (Same.trans (Same.trans (Same.trans s242 s249) s256) s264) s272) s280) s292) s300) s304) s314) s318) s326) s332) s336) s349) s353) s357) s364) s368) _ _ f219), (by (rw [qt.1, qt.2]; exact n1.1)), (by exact wn_sz (by assumption : 2 ≤ r7) n1 (by decide))⟩ (.nil))))), (by first | assumption | (show 4 ≤ 1000; decide) | decide), fun r370 I371 H373 s372 w374 q375 => ?_⟩
      subst q375
      exact k true _ _ ((Same.trans (Same.trans (Same.trans (Same.trans (Same.trans (Same.trans (Same.trans (Same.trans (Same.trans (Same.trans (Same.trans (Same.trans (Same.trans (Same.trans (Same.trans (Same.trans (Same.trans (Same.trans (Same.trans (Same.trans (Same.trans (Same.trans (Same.trans (Same.trans (Same.trans (Same.trans (Same.trans (Same.trans (Same.trans (Same.trans (Same.trans (Same.trans (Same.trans (Same.trans (Same.trans (Same.trans (Same.trans (Same.trans (Same.trans (Same.trans (Same.trans s3 s10) s19) s36) s44) s74) s82) s90) s98) s106) s114) s122) s130) s134) s146) s158) s170) s182) s194) s206) s210) s214) s242) s249) s256) s264) s272) s280) s292) s300) s304) s314) s318) s326) s332) s336) s349) s353) s357) s364) s368) s372)) w374.rest (by first | rfl | assumption | omega)
end
def fa0 : List Bf := [gB "power", gB "squares_up_to", gB "_law_source", gB "_law_draw", gB "_law_power", gB "without_zeros", gB "check_base", gB "taken", gB "aligned", gB "combined", gB "multiplied", gB "compared", gB "_law_base", gB "_law_precision", gB "_law_lowest", gB "_law_sum", gB "_law_product", gB "_law_small", gB "_law_gap", gB "_law_full", gB "_law_value", gB "_law_two", gB "_law_make", gB "_law_negative", gB "_law_integer"]
def fa1 : List Bf := [gB "_law_operands", gB "_law_equal", gB "_law_is", gB "_law_are", gB "_law_due", gB "law", fB "abs", fB "bool", fB "int", fB "isinstance", fB "len", fB "list", fB "min", fB "range", fB "reversed", fB "str", fB "tuple", fun K => (He.Fa.cls "Exact").ok K, fun K => (He.Fa.noat "Exact" "base").ok K, fun K => (He.Fa.noat "Exact" "coefficient").ok K, fun K => (He.Fa.noat "Exact" "exponent").ok K, gB "Exact", fun K => (He.Fa.mkr "Exact").ok K, fun K => icB K (He.ga K "Exact"), fun K => decide (PySem.W.kitOne K (.ref (He.ga K "Exact")) (.type "int") = some false)]
def fa2 : List Bf := [fun K => decide (PySem.W.kitOne K (.ref (He.ga K "Exact")) (.ref (He.ga K "Exact")) = some true), fun K => decide (PySem.W.findIn K (.ref (He.ga K "Exact")) (PySem.dunder (Operator.info .Add).2) = some (some (.ref (a_Exact_add K)))), fun K => PySem.W.isFn K (.ref (a_Exact_add K)), fun K => PySem.W.selfFirst K (He.ga K "Exact"), fun K => decide (PySem.W.findIn K (.ref (He.ga K "Exact")) (PySem.dunder (Operator.info .Sub).2) = some (some (.ref (a_Exact_sub K)))), fun K => PySem.W.isFn K (.ref (a_Exact_sub K)), fun K => decide (PySem.W.findIn K (.ref (He.ga K "Exact")) (PySem.dunder (Operator.info .Mult).2) = some (some (.ref (a_Exact_mul K)))), fun K => PySem.W.isFn K (.ref (a_Exact_mul K)), fun K => decide (PySem.W.findIn K (.ref (He.ga K "Exact")) "__neg__" = some (some (.ref (a_Exact_neg K)))), fun K => PySem.W.isFn K (.ref (a_Exact_neg K)), fun K => decide (PySem.W.findIn K (.ref (He.ga K "Exact")) "__abs__" = some (some (.ref (a_Exact_abs K)))), fun K => PySem.W.isFn K (.ref (a_Exact_abs K)), fun K => decide (PySem.W.findIn K (.type "int") (PySem.dunder (Operator.info .Add).2) = some (some (.builtin "int.__add__"))), fun K => decide (PySem.W.findIn K (.type "int") (dunderR (Operator.info .Add).2) = some (some (.builtin "int.__radd__"))), fun K => decide (PySem.W.subIn K (.type "int") (.ref (He.ga K "Exact")) = some false), fun K => decide (PySem.W.subIn K (.ref (He.ga K "Exact")) (.type "int") = some false), fun K => decide (PySem.W.findIn K (.ref (He.ga K "Exact")) (dunderR (Operator.info .Add).2) = some (some (.ref (a_Exact_radd K)))), fun K => PySem.W.isFn K (.ref (a_Exact_radd K)), fun K => decide (PySem.W.findIn K (.type "int") (PySem.dunder (Operator.info .Sub).2) = some (some (.builtin "int.__sub__"))), fun K => decide (PySem.W.findIn K (.type "int") (dunderR (Operator.info .Sub).2) = some (some (.builtin "int.__rsub__"))), fun K => decide (PySem.W.findIn K (.ref (He.ga K "Exact")) (dunderR (Operator.info .Sub).2) = some (some (.ref (a_Exact_rsub K)))), fun K => PySem.W.isFn K (.ref (a_Exact_rsub K)), fun K => decide (PySem.W.findIn K (.type "int") (PySem.dunder (Operator.info .Mult).2) = some (some (.builtin "int.__mul__"))), fun K => decide (PySem.W.findIn K (.type "int") (dunderR (Operator.info .Mult).2) = some (some (.builtin "int.__rmul__"))), fun K => decide (PySem.W.findIn K (.ref (He.ga K "Exact")) (dunderR (Operator.info .Mult).2) = some (some (.ref (a_Exact_rmul K))))]
def fa3 : List Bf := [fun K => PySem.W.isFn K (.ref (a_Exact_rmul K)), fun K => decide (PySem.W.findIn K (.ref (He.ga K "Exact")) "__bool__" = some (some (.ref (a_Exact_bool K)))), fun K => PySem.W.isFn K (.ref (a_Exact_bool K))]
def fa : List Bf := fa0 ++ fa1 ++ fa2 ++ fa3
def d_power : He5.DefA := ⟨a_power, "power", "power", defArgs s_power, defBody s_power, defScope s_power, [], []⟩
def d_squares_up_to : He5.DefA := ⟨a_squares_up_to, "squares_up_to", "squares_up_to", defArgs s_squares_up_to, defBody s_squares_up_to, defScope s_squares_up_to, [], []⟩
def d_law_source : He5.DefA := ⟨a_law_source, "_law_source", "_law_source", defArgs s_law_source, defBody s_law_source, defScope s_law_source, [], []⟩
def d_law_draw : He5.DefA := ⟨a_law_draw, "_law_draw", "_law_draw", defArgs s_law_draw, defBody s_law_draw, defScope s_law_draw, [], []⟩
def d_law_power : He5.DefA := ⟨a_law_power, "_law_power", "_law_power", defArgs s_law_power, defBody s_law_power, defScope s_law_power, [], []⟩
def d_without_zeros : He5.DefA := ⟨a_without_zeros, "without_zeros", "without_zeros", defArgs s_without_zeros, defBody s_without_zeros, defScope s_without_zeros, [], []⟩
def d_check_base : He5.DefA := ⟨a_check_base, "check_base", "check_base", defArgs s_check_base, defBody s_check_base, defScope s_check_base, [], []⟩
def d_Exact_init : He5.DefA := ⟨a_Exact_init, "__init__", "Exact.__init__", defArgs s_Exact_init, defBody s_Exact_init, defScope s_Exact_init, [.int 0], []⟩
def d_taken : He5.DefA := ⟨a_taken, "taken", "taken", defArgs s_taken, defBody s_taken, defScope s_taken, [], []⟩
def d_aligned : He5.DefA := ⟨a_aligned, "aligned", "aligned", defArgs s_aligned, defBody s_aligned, defScope s_aligned, [], []⟩
def d_combined : He5.DefA := ⟨a_combined, "combined", "combined", defArgs s_combined, defBody s_combined, defScope s_combined, [], []⟩
def d_multiplied : He5.DefA := ⟨a_multiplied, "multiplied", "multiplied", defArgs s_multiplied, defBody s_multiplied, defScope s_multiplied, [], []⟩
def d_compared : He5.DefA := ⟨a_compared, "compared", "compared", defArgs s_compared, defBody s_compared, defScope s_compared, [], []⟩
def d_Exact_add : He5.DefA := ⟨a_Exact_add, "__add__", "Exact.__add__", defArgs s_Exact_add, defBody s_Exact_add, defScope s_Exact_add, [], []⟩
def d_Exact_sub : He5.DefA := ⟨a_Exact_sub, "__sub__", "Exact.__sub__", defArgs s_Exact_sub, defBody s_Exact_sub, defScope s_Exact_sub, [], []⟩
def d_Exact_mul : He5.DefA := ⟨a_Exact_mul, "__mul__", "Exact.__mul__", defArgs s_Exact_mul, defBody s_Exact_mul, defScope s_Exact_mul, [], []⟩
def d_Exact_neg : He5.DefA := ⟨a_Exact_neg, "__neg__", "Exact.__neg__", defArgs s_Exact_neg, defBody s_Exact_neg, defScope s_Exact_neg, [], []⟩
def d_law_base : He5.DefA := ⟨a_law_base, "_law_base", "_law_base", defArgs s_law_base, defBody s_law_base, defScope s_law_base, [], []⟩
def d_law_precision : He5.DefA := ⟨a_law_precision, "_law_precision", "_law_precision", defArgs s_law_precision, defBody s_law_precision, defScope s_law_precision, [], []⟩
def d_law_lowest : He5.DefA := ⟨a_law_lowest, "_law_lowest", "_law_lowest", defArgs s_law_lowest, defBody s_law_lowest, defScope s_law_lowest, [], []⟩
def d_law_sum : He5.DefA := ⟨a_law_sum, "_law_sum", "_law_sum", defArgs s_law_sum, defBody s_law_sum, defScope s_law_sum, [], []⟩
def d_law_product : He5.DefA := ⟨a_law_product, "_law_product", "_law_product", defArgs s_law_product, defBody s_law_product, defScope s_law_product, [], []⟩
def d_law_small : He5.DefA := ⟨a_law_small, "_law_small", "_law_small", defArgs s_law_small, defBody s_law_small, defScope s_law_small, [], []⟩
def d_law_gap : He5.DefA := ⟨a_law_gap, "_law_gap", "_law_gap", defArgs s_law_gap, defBody s_law_gap, defScope s_law_gap, [], []⟩
def d_law_full : He5.DefA := ⟨a_law_full, "_law_full", "_law_full", defArgs s_law_full, defBody s_law_full, defScope s_law_full, [], []⟩
def d_law_value : He5.DefA := ⟨a_law_value, "_law_value", "_law_value", defArgs s_law_value, defBody s_law_value, defScope s_law_value, [], []⟩
def d_law_two : He5.DefA := ⟨a_law_two, "_law_two", "_law_two", defArgs s_law_two, defBody s_law_two, defScope s_law_two, [], []⟩
def d_law_make : He5.DefA := ⟨a_law_make, "_law_make", "_law_make", defArgs s_law_make, defBody s_law_make, defScope s_law_make, [], []⟩
def d_law_negative : He5.DefA := ⟨a_law_negative, "_law_negative", "_law_negative", defArgs s_law_negative, defBody s_law_negative, defScope s_law_negative, [], []⟩
def d_law_integer : He5.DefA := ⟨a_law_integer, "_law_integer", "_law_integer", defArgs s_law_integer, defBody s_law_integer, defScope s_law_integer, [], []⟩
def d_Exact_radd : He5.DefA := ⟨a_Exact_radd, "__radd__", "Exact.__radd__", defArgs s_Exact_radd, defBody s_Exact_radd, defScope s_Exact_radd, [], []⟩
def d_Exact_rsub : He5.DefA := ⟨a_Exact_rsub, "__rsub__", "Exact.__rsub__", defArgs s_Exact_rsub, defBody s_Exact_rsub, defScope s_Exact_rsub, [], []⟩
def d_Exact_rmul : He5.DefA := ⟨a_Exact_rmul, "__rmul__", "Exact.__rmul__", defArgs s_Exact_rmul, defBody s_Exact_rmul, defScope s_Exact_rmul, [], []⟩
def d_law_operands : He5.DefA := ⟨a_law_operands, "_law_operands", "_law_operands", defArgs s_law_operands, defBody s_law_operands, defScope s_law_operands, [], []⟩
def d_law_equal : He5.DefA := ⟨a_law_equal, "_law_equal", "_law_equal", defArgs s_law_equal, defBody s_law_equal, defScope s_law_equal, [], []⟩
def d_Exact_abs : He5.DefA := ⟨a_Exact_abs, "__abs__", "Exact.__abs__", defArgs s_Exact_abs, defBody s_Exact_abs, defScope s_Exact_abs, [], []⟩
def d_Exact_bool : He5.DefA := ⟨a_Exact_bool, "__bool__", "Exact.__bool__", defArgs s_Exact_bool, defBody s_Exact_bool, defScope s_Exact_bool, [], []⟩
def d_law_is : He5.DefA := ⟨a_law_is, "_law_is", "_law_is", defArgs s_law_is, defBody s_law_is, defScope s_law_is, [], []⟩
def d_law_are : He5.DefA := ⟨a_law_are, "_law_are", "_law_are", defArgs s_law_are, defBody s_law_are, defScope s_law_are, [], []⟩
def d_law_due : He5.DefA := ⟨a_law_due, "_law_due", "_law_due", defArgs s_law_due, defBody s_law_due, defScope s_law_due, [], []⟩
def d_law : He5.DefA := ⟨a_law, "law", "law", defArgs s_law, defBody s_law, defScope s_law, [], []⟩
def fn0 : List He5.DefA := [d_power, d_squares_up_to, d_law_source, d_law_draw, d_law_power, d_without_zeros, d_check_base, d_Exact_init, d_taken, d_aligned, d_combined, d_multiplied, d_compared, d_Exact_add, d_Exact_sub, d_Exact_mul, d_Exact_neg, d_law_base, d_law_precision, d_law_lowest, d_law_sum, d_law_product, d_law_small, d_law_gap, d_law_full]
def fn1 : List He5.DefA := [d_law_value, d_law_two, d_law_make, d_law_negative, d_law_integer, d_Exact_radd, d_Exact_rsub, d_Exact_rmul, d_law_operands, d_law_equal, d_Exact_abs, d_Exact_bool, d_law_is, d_law_are, d_law_due, d_law]
def fn : List He5.DefA := fn0 ++ fn1
def fx0 : List He5.DefA := []
def fx : List He5.DefA := fx0
def loose0 : List Str := ["_wall", "LostError", "BadBase", "MixedBases", "NoQuotient", "NoPower", "power", "squares_up_to", "count_digits", "without_zeros", "check_base", "Exact", "taken", "aligned", "combined", "multiplied", "compared", "quotient", "_law_source", "_law_draw", "_law_base", "_law_precision", "_law_power", "_law_lowest", "_law_sum"]
def loose1 : List Str := ["_law_product", "_law_full", "_law_small", "_law_value", "_law_gap", "_law_two", "_law_equal", "_law_make", "_law_is", "_law_are", "_law_integer", "_law_operands", "_law_negative", "_law_due"]
def loose : List Str := loose0 ++ loose1
def ts0 : List (Tb × List Str) := []
def ts : List (Tb × List Str) := ts0
abbrev R : PySem.W.OpenRow := PySem.W.OpenLaw.row PySem.Challenge.rw_lostpart_k02_whole_exact_ring
abbrev hk : PySem.W.Hook := hookB 5 fa fn fx ts
def ob (s : PySem.W.SharedT) : AlB := obsBG 5 fa fn fx ts (HandSHeadRun.getT s)
theorem ob_eq (s : PySem.W.SharedT) : ob s = hk.obs s.abs := obsBG_eq (HandSHeadRun.getT_eq s)
theorem run (w : World) : HandSHeadRun.RunEq R (PySem.W.view R.prog [42]) hk ob 20000 loose w := by
  intro os
  kernel_rfl
theorem txt_of {P : Program} {K : PySem.W.Frag} {h : Heap} {mg : Str → Option Value} {w : World} (hf : P.main.file = PySem.Challenge.pw_lostpart_k02_whole_exact_ring.main.file) (ht : (P.main.scope.names.lookup ("super" : Str)).isSome = false) (X : K.In h) (G : h.Ns mainGlobals mg) (c : SaysB fa fn fx ts w K) : Txt P K mg w where
  f_power := c.def_ 0 rfl
  f_squares_up_to := c.def_ 1 rfl
  f_law_source := c.def_ 2 rfl
  f_law_draw := c.def_ 3 rfl
  f_law_power := c.def_ 4 rfl
  f_without_zeros := c.def_ 5 rfl
  f_check_base := c.def_ 6 rfl
  f_Exact_init := c.def_ 7 rfl
  f_taken := c.def_ 8 rfl
  f_aligned := c.def_ 9 rfl
  f_combined := c.def_ 10 rfl
  f_multiplied := c.def_ 11 rfl
  f_compared := c.def_ 12 rfl
  f_Exact_add := c.def_ 13 rfl
  f_Exact_sub := c.def_ 14 rfl
  f_Exact_mul := c.def_ 15 rfl
  f_Exact_neg := c.def_ 16 rfl
  f_law_base := c.def_ 17 rfl
  f_law_precision := c.def_ 18 rfl
  f_law_lowest := c.def_ 19 rfl
  f_law_sum := c.def_ 20 rfl
  f_law_product := c.def_ 21 rfl
  f_law_small := c.def_ 22 rfl
  f_law_gap := c.def_ 23 rfl
  f_law_full := c.def_ 24 rfl
  f_law_value := c.def_ 25 rfl
  f_law_two := c.def_ 26 rfl
  f_law_make := c.def_ 27 rfl
  f_law_negative := c.def_ 28 rfl
  f_law_integer := c.def_ 29 rfl
  f_Exact_radd := c.def_ 30 rfl
  f_Exact_rsub := c.def_ 31 rfl
  f_Exact_rmul := c.def_ 32 rfl
  f_law_operands := c.def_ 33 rfl
  f_law_equal := c.def_ 34 rfl
  f_Exact_abs := c.def_ 35 rfl
  f_Exact_bool := c.def_ 36 rfl
  f_law_is := c.def_ 37 rfl
  f_law_are := c.def_ 38 rfl
  f_law_due := c.def_ 39 rfl
  f_law := c.def_ 40 rfl
  g_power := PySem.W.mg_of X G (He.eqO_ok (c.fact 0 rfl))
  g_squares_up_to := PySem.W.mg_of X G (He.eqO_ok (c.fact 1 rfl))
  g_law_source := PySem.W.mg_of X G (He.eqO_ok (c.fact 2 rfl))
  g_law_draw := PySem.W.mg_of X G (He.eqO_ok (c.fact 3 rfl))
  g_law_power := PySem.W.mg_of X G (He.eqO_ok (c.fact 4 rfl))
  g_without_zeros := PySem.W.mg_of X G (He.eqO_ok (c.fact 5 rfl))
  g_check_base := PySem.W.mg_of X G (He.eqO_ok (c.fact 6 rfl))
  g_taken := PySem.W.mg_of X G (He.eqO_ok (c.fact 7 rfl))
  g_aligned := PySem.W.mg_of X G (He.eqO_ok (c.fact 8 rfl))
  g_combined := PySem.W.mg_of X G (He.eqO_ok (c.fact 9 rfl))
  g_multiplied := PySem.W.mg_of X G (He.eqO_ok (c.fact 10 rfl))
  g_compared := PySem.W.mg_of X G (He.eqO_ok (c.fact 11 rfl))
  g_law_base := PySem.W.mg_of X G (He.eqO_ok (c.fact 12 rfl))
  g_law_precision := PySem.W.mg_of X G (He.eqO_ok (c.fact 13 rfl))
  g_law_lowest := PySem.W.mg_of X G (He.eqO_ok (c.fact 14 rfl))
  g_law_sum := PySem.W.mg_of X G (He.eqO_ok (c.fact 15 rfl))
  g_law_product := PySem.W.mg_of X G (He.eqO_ok (c.fact 16 rfl))
  g_law_small := PySem.W.mg_of X G (He.eqO_ok (c.fact 17 rfl))
  g_law_gap := PySem.W.mg_of X G (He.eqO_ok (c.fact 18 rfl))
  g_law_full := PySem.W.mg_of X G (He.eqO_ok (c.fact 19 rfl))
  g_law_value := PySem.W.mg_of X G (He.eqO_ok (c.fact 20 rfl))
  g_law_two := PySem.W.mg_of X G (He.eqO_ok (c.fact 21 rfl))
  g_law_make := PySem.W.mg_of X G (He.eqO_ok (c.fact 22 rfl))
  g_law_negative := PySem.W.mg_of X G (He.eqO_ok (c.fact 23 rfl))
  g_law_integer := PySem.W.mg_of X G (He.eqO_ok (c.fact 24 rfl))
  g_law_operands := PySem.W.mg_of X G (He.eqO_ok (c.fact 25 rfl))
  g_law_equal := PySem.W.mg_of X G (He.eqO_ok (c.fact 26 rfl))
  g_law_is := PySem.W.mg_of X G (He.eqO_ok (c.fact 27 rfl))
  g_law_are := PySem.W.mg_of X G (He.eqO_ok (c.fact 28 rfl))
  g_law_due := PySem.W.mg_of X G (He.eqO_ok (c.fact 29 rfl))
  g_law := PySem.W.mg_of X G (He.eqO_ok (c.fact 30 rfl))
  n_abs := PySem.W.mg_none_of X G (He.eqO_ok (c.fact 31 rfl))
  n_bool := PySem.W.mg_none_of X G (He.eqO_ok (c.fact 32 rfl))
  n_int := PySem.W.mg_none_of X G (He.eqO_ok (c.fact 33 rfl))
  n_isinstance := PySem.W.mg_none_of X G (He.eqO_ok (c.fact 34 rfl))
  n_len := PySem.W.mg_none_of X G (He.eqO_ok (c.fact 35 rfl))
  n_list := PySem.W.mg_none_of X G (He.eqO_ok (c.fact 36 rfl))
  n_min := PySem.W.mg_none_of X G (He.eqO_ok (c.fact 37 rfl))
  n_range := PySem.W.mg_none_of X G (He.eqO_ok (c.fact 38 rfl))
  n_reversed := PySem.W.mg_none_of X G (He.eqO_ok (c.fact 39 rfl))
  n_str := PySem.W.mg_none_of X G (He.eqO_ok (c.fact 40 rfl))
  n_tuple := PySem.W.mg_none_of X G (He.eqO_ok (c.fact 41 rfl))
  l_Exact := He.cls_ok (c.fact 42 rfl)
  na_Exact_base := He.noat_ok (c.fact 43 rfl)
  na_Exact_coefficient := He.noat_ok (c.fact 44 rfl)
  na_Exact_exponent := He.noat_ok (c.fact 45 rfl)
  g_Exact := PySem.W.mg_of X G (He.eqO_ok (c.fact 46 rfl))
  mk_Exact := He.mkr_ok (c.fact 47 rfl)
  ic_Exact := icB_ok (c.fact 48 rfl)
  ki_Exact_int := of_decide_eq_true (c.fact 49 rfl)
  ki_Exact_Exact := of_decide_eq_true (c.fact 50 rfl)
  op_Exact_add := of_decide_eq_true (c.fact 51 rfl)
  fn_Exact_add := c.fact 52 rfl
  sf_Exact := c.fact 53 rfl
  op_Exact_sub := of_decide_eq_true (c.fact 54 rfl)
  fn_Exact_sub := c.fact 55 rfl
  op_Exact_mul := of_decide_eq_true (c.fact 56 rfl)
  fn_Exact_mul := c.fact 57 rfl
  op_Exact_neg := of_decide_eq_true (c.fact 58 rfl)
  fn_Exact_neg := c.fact 59 rfl
  op_Exact_abs := of_decide_eq_true (c.fact 60 rfl)
  fn_Exact_abs := c.fact 61 rfl
  fo_int_add := of_decide_eq_true (c.fact 62 rfl)
  ro_int_add := of_decide_eq_true (c.fact 63 rfl)
  su_int_Exact := of_decide_eq_true (c.fact 64 rfl)
  su_Exact_int := of_decide_eq_true (c.fact 65 rfl)
  op_Exact_radd := of_decide_eq_true (c.fact 66 rfl)
  fn_Exact_radd := c.fact 67 rfl
  fo_int_sub := of_decide_eq_true (c.fact 68 rfl)
  ro_int_sub := of_decide_eq_true (c.fact 69 rfl)
  op_Exact_rsub := of_decide_eq_true (c.fact 70 rfl)
  fn_Exact_rsub := c.fact 71 rfl
  fo_int_mul := of_decide_eq_true (c.fact 72 rfl)
  ro_int_mul := of_decide_eq_true (c.fact 73 rfl)
  op_Exact_rmul := of_decide_eq_true (c.fact 74 rfl)
  fn_Exact_rmul := c.fact 75 rfl
  op_Exact_bool := of_decide_eq_true (c.fact 76 rfl)
  fn_Exact_bool := c.fact 77 rfl
theorem law_ok {P : Program} {w : World} {K : PySem.W.Frag} {mg : Str → Option Value} {base : Heap} (KB : K.In base) (GB : base.Ns mainGlobals mg) (T : Txt P K mg w) : FnOk P w K mg base CX0 7 (a_law K) (fdOf K (a_law K)) ["script"] (sp_law K) := ok_law T
theorem law_start (K : PySem.W.Frag) (H : Hp) (a : Addr) (ns : List Int) (hl : ns.length ≤ 63) (hS : SqL K H a (ns.map V.int)) : sp_law K [.ref a] H (fun v _ => v = .bl true) fun _ _ _ => False :=
  ⟨H, [], a, ns, rfl, Wd.start H, hS, hl, fun _ _ _ _ _ e => by rw [e]⟩
end LX
open PySem PySem.W PySem.Calls PyProof.Rows
set_option maxRecDepth 100000 in
set_option maxHeartbeats 0 in
theorem PySem.Challenge.cw_lostpart_k02_whole_exact_ring_holds : PySem.Challenge.rw_lostpart_k02_whole_exact_ring.Holds := by
  w_on; o_law
  refine HandSHeadRun.head_any (r := OpenLaw.row PySem.Challenge.rw_lostpart_k02_whole_exact_ring) (q := view (OpenLaw.row PySem.Challenge.rw_lostpart_k02_whole_exact_ring).prog [42]) (H := LX.hk) (ob := LX.ob) (M := 20000) (loose := LX.loose) (d := HandSHeadRun.topDef (OpenLaw.row PySem.Challenge.rw_lostpart_k02_whole_exact_ring).prog 42) (kwd := []) LX.ob_eq
    (by kernel_rfl) (fun s => by kernel_rfl) LX.run (by kernel_rfl) (by kernel_rfl) (by kernel_rfl) (by rfl) (by first | assumption | decide +kernel) (by decide +kernel) ⟨rfl, rfl, rfl, rfl, rfl, by decide +kernel⟩ ?hw ?hc
  case hw => w_witness2
  case hc =>
    refine L2.walk_ofE (l := PySem.Challenge.rw_lostpart_k02_whole_exact_ring) (n := 63) (k := 7) (x := "script") (CX := L2.CX0) rfl (by decide) (by kernel_rfl) ⟨rfl, by decide, by decide⟩ ?F (fun _ _ _ _ z => z)
    intro w mg fa h Y G hmg0
    obtain ⟨K, KX, c⟩ := Y
    have hmg : mg ("law" : PySem.Str) = some (.ref fa) := by
      have e : (HandSHeadRun.topDef (OpenLaw.row PySem.Challenge.rw_lostpart_k02_whole_exact_ring).prog 42).name = ("law" : PySem.Str) := by kernel_rfl
      rw [← e]
      exact hmg0
    have T := LX.txt_of (P := (PySem.Challenge.rw_lostpart_k02_whole_exact_ring).prog) (by rfl) (by decide +kernel) KX G c
    have e := hmg.symm.trans T.g_law
    cases e
    refine ⟨K, _, LX.sp_law K, KX, fun s v => L2.FunD.bindsA (ps := ["script"]) T.f_law (fun _ _ _ _ _ _ us hl => match us, hl with | [_], _ => rfl) s [v] rfl, ?_, ?_⟩
    · exact fun H a ns hl _ hS => LX.law_start K H a ns hl hS
    · exact fun base KB GB => LX.law_ok KB GB T

namespace LX
end LX
