import PyProof.Rows.All
import Wide.All
import OpenK.AllK
import Wide.FinOn
import HandS.ForMost
import HandS.Exc
import HandS.TryOnly
import HandS.ExcOwn
import HandS.WordsExc
import HandS.Defaults
import HandS.Wide
import HandS.WideBits
import HandS.IsInst
import HandS.Evl
import HandS.Head0
import HandS.Head1
import HandS.Head2
import HandS.HeadEnd
import HandS.HeadHook1
import HandS.HeadHook2
import HandS.HeadHook3
import HandS.HeadNt
import KE.KSuper
import KE.KExcSuper
import HandS.Base
import HandS.Call
import HandS.ExcInit
import HandS.Nested
import HandS.NestedK
import KE.KExcIs
import HandS.ExcCtx
import HandS.ExcIs
import HandS.ExcField
import HandS.ExcInitHot
import HandS.HotCalls
import HandS.RaiseFrom
import HandS.Text
import HandS.Replace
import HandS.ReplaceDef
import HandS.ReplaceLit
import PySem.Challenge.RW_lostpart_k07_round_quotient
set_option Elab.async false
set_option linter.all false
set_option maxRecDepth 100000
set_option maxHeartbeats 4000000
namespace LP
open PySem PySem.Spec PyProof.Rows L2

/-! ### what is known of the heap: a frozen part and what is owned -/
structure Wd (I : Hp) (O : List (Addr × HO)) (H : Hp) : Prop where
  fz : ∀ a o, I a = some o → H a = some o
  ow : ∀ p ∈ O, H p.1 = some p.2 ∧ I p.1 = none
  nd : (O.map (·.1)).Nodup
theorem memFst {q : Addr × HO} {O : List (Addr × HO)} (h : q ∈ O) : q.1 ∈ O.map (·.1) := List.mem_map.mpr ⟨q, h, rfl⟩
section
variable {I I' H : Hp} {O : List (Addr × HO)} {a b p x dx C : Addr} {o o' u u' : HO} {e f : Addr × HO}
theorem Wd.get (w : Wd I O H) (h : I a = some o) : H a = some o := w.fz a o h
theorem Wd.start (H : Hp) : Wd H [] H := ⟨fun _ _ h => h, fun _ h => (List.not_mem_nil h).elim, List.nodup_nil⟩
theorem Wd.none (w : Wd I O H) (h : H p = .none) : I p = .none := by
  cases q : I p with
  | none => rfl
  | some o => rw [w.fz p o q] at h; cases h
theorem sameUpd (h : I p = .none) : Same I (upd I p o) := fun b u e => by
  rw [upd_ne (ne_of_none e h)]
  exact e
theorem Wd.notIn (w : Wd I O H) (h : H p = .none) : ∀ q ∈ O, q.1 ≠ p := fun q hq z => by
  have y := (w.ow q hq).1
  rw [z, h] at y
  cases y
theorem Wd.new (w : Wd I O H) (h : H p = .none) : Wd (upd I p o) O (upd H p o) := by
  refine ⟨fun b u e => ?_, fun q hq => ?_, w.nd⟩
  · by_cases hb : b = p
    · rw [hb, upd_same] at e
      rw [hb, upd_same]
      exact e
    · rw [upd_ne hb] at e
      rw [upd_ne hb]
      exact w.fz b u e
  · have hn := w.notIn h q hq
    rw [upd_ne hn, upd_ne hn]
    exact w.ow q hq
theorem Wd.newS (w : Wd I O H) (h : H p = .none) : Same I (upd I p o) := sameUpd (w.none h)
theorem Wd.newO (w : Wd I O H) (h : H p = .none) : Wd I ((p, o) :: O) (upd H p o) := by
  refine ⟨fun b u e => ?_, fun q hq => ?_, ?_⟩
  · rw [upd_ne fun z => by rw [z, w.none h] at e; cases e]
    exact w.fz b u e
  · rcases List.mem_cons.mp hq with rfl | hq
    · exact ⟨upd_same, w.none h⟩
    · rw [upd_ne (w.notIn h q hq)]
      exact w.ow q hq
  · refine List.nodup_cons.mpr ⟨fun hm => ?_, w.nd⟩
    obtain ⟨q, hq, z⟩ := List.mem_map.mp hm
    exact w.notIn h q hq z
/-- what is not tracked yet, beside -/
theorem Wd.beside (w : Wd I O H) (h : H p = .none) : Wd I O (upd H p o) := by
  refine ⟨fun b u e => ?_, fun q hq => ?_, w.nd⟩
  · rw [upd_ne fun z => by rw [z, w.none h] at e; cases e]
    exact w.fz b u e
  · rw [upd_ne (w.notIn h q hq)]
    exact w.ow q hq
theorem Wd.make (w : Wd I O H) (hx : H x = .none) (hd : H dx = .none) (ne : dx ≠ x) : Wd I ((x, .ins C dx []) :: O) (upd (upd H dx (.own x)) x (.ins C dx [])) :=
  Wd.newO (w.beside hd) (by rw [upd_ne (Ne.symm ne)]; exact hx)
theorem Wd.own (w : Wd I ((a, o) :: O) H) : H a = some o := (w.ow _ (List.mem_cons_self ..)).1
theorem Wd.ownN (w : Wd I ((a, o) :: O) H) : I a = .none := (w.ow _ (List.mem_cons_self ..)).2
theorem Wd.own1 (w : Wd I (e :: (a, o) :: O) H) : H a = some o := (w.ow _ (List.mem_cons_of_mem _ (List.mem_cons_self ..))).1
theorem Wd.own2 (w : Wd I (e :: f :: (a, o) :: O) H) : H a = some o := (w.ow _ (List.mem_cons_of_mem _ (List.mem_cons_of_mem _ (List.mem_cons_self ..)))).1
theorem Wd.set (w : Wd I ((a, o) :: O) H) : Wd I ((a, u) :: O) (upd H a u) := by
  have nd := List.nodup_cons.mp w.nd
  refine ⟨fun b v e => ?_, fun q hq => ?_, w.nd⟩
  · rw [upd_ne fun z => by rw [z, w.ownN] at e; cases e]
    exact w.fz b v e
  · rcases List.mem_cons.mp hq with rfl | hq
    · exact ⟨upd_same, w.ownN⟩
    · have hn : q.1 ≠ a := fun z => nd.1 (by have y := memFst hq; rw [z] at y; exact y)
      rw [upd_ne hn]
      exact w.ow q (List.mem_cons_of_mem _ hq)
theorem Wd.swap (w : Wd I (e :: f :: O) H) : Wd I (f :: e :: O) H := by
  refine ⟨w.fz, fun q hq => w.ow q ?_, ?_⟩
  · rcases List.mem_cons.mp hq with rfl | hq
    · exact List.mem_cons_of_mem _ (List.mem_cons_self ..)
    · rcases List.mem_cons.mp hq with rfl | hq
      · exact List.mem_cons_self ..
      · exact List.mem_cons_of_mem _ (List.mem_cons_of_mem _ hq)
  · have n1 := List.nodup_cons.mp w.nd
    have n2 := List.nodup_cons.mp n1.2
    refine List.nodup_cons.mpr ⟨fun hm => ?_, List.nodup_cons.mpr ⟨fun hm => n1.1 (List.mem_cons_of_mem _ hm), n2.2⟩⟩
    rcases List.mem_cons.mp hm with z | hm
    · exact n1.1 (List.mem_cons.mpr (.inl z.symm))
    · exact n2.1 hm
theorem Wd.rest (w : Wd I (e :: O) H) : Wd I O H := ⟨w.fz, fun q hq => w.ow q (List.mem_cons_of_mem _ hq), (List.nodup_cons.mp w.nd).2⟩
theorem Wd.set1 (w : Wd I (e :: (a, o) :: O) H) : Wd I (e :: (a, u) :: O) (upd H a u) := w.swap.set.swap
/-- it will not change any more -/
theorem Wd.freeze (w : Wd I ((a, o) :: O) H) : Wd (upd I a o) O H := by
  refine ⟨fun b v e => ?_, fun q hq => ?_, w.rest.nd⟩
  · by_cases hb : b = a
    · rw [hb, upd_same] at e
      cases e
      rw [hb]
      exact w.own
    · rw [upd_ne hb] at e
      exact w.fz b v e
  · have hn : q.1 ≠ a := fun z => (List.nodup_cons.mp w.nd).1 (by have y := memFst hq; rw [z] at y; exact y)
    rw [upd_ne hn]
    exact w.rest.ow q hq
theorem Wd.freezeS (w : Wd I ((a, o) :: O) H) : Same I (upd I a o) := sameUpd w.ownN
theorem Wd.seq {K : PySem.W.Frag} {xs : List V} (w : Wd I O H) (h : SqL K I a xs) : SqL K H a xs := Same.seq w.fz h
end

/-! ### tests -/
section
variable {A B : Prop}
theorem iEqI {a b : Int} (h1 : a = b → A) (h2 : ¬ a = b → B) : if decide (V.int a = V.int b) = true then A else B :=
  ite2 (fun h => h1 (V.int.inj (of_decide_eq_true h))) fun h => h2 fun z => h (decide_eq_true (congrArg V.int z))
theorem iNeI {a b : Int} (h1 : ¬ a = b → A) (h2 : a = b → B) : if (!decide (V.int a = V.int b)) = true then A else B := by
  by_cases h : a = b
  · rw [decide_eq_true (congrArg V.int h)]
    exact iteF (h2 h)
  · rw [decide_eq_false fun z => h (V.int.inj z)]
    exact iteT (h1 h)
theorem iEqS {a b : Str} (h1 : a = b → A) (h2 : ¬ a = b → B) : if decide (V.str a = V.str b) = true then A else B :=
  ite2 (fun h => h1 (V.str.inj (of_decide_eq_true h))) fun h => h2 fun z => h (decide_eq_true (congrArg V.str z))
theorem iNeS {a b : Str} (h1 : ¬ a = b → A) (h2 : a = b → B) : if (!decide (V.str a = V.str b)) = true then A else B := by
  by_cases h : a = b
  · rw [decide_eq_true (congrArg V.str h)]
    exact iteF (h2 h)
  · rw [decide_eq_false fun z => h (V.str.inj z)]
    exact iteT (h1 h)
theorem iEqB {a b : Bool} (h1 : a = b → A) (h2 : ¬ a = b → B) : if decide (V.bl a = V.bl b) = true then A else B :=
  ite2 (fun h => h1 (V.bl.inj (of_decide_eq_true h))) fun h => h2 fun z => h (decide_eq_true (congrArg V.bl z))
theorem iNeB {a b : Bool} (h1 : ¬ a = b → A) (h2 : a = b → B) : if (!decide (V.bl a = V.bl b)) = true then A else B := by
  by_cases h : a = b
  · rw [decide_eq_true (congrArg V.bl h)]
    exact iteF (h2 h)
  · rw [decide_eq_false fun z => h (V.bl.inj z)]
    exact iteT (h1 h)
theorem iD {p : Prop} [Decidable p] (h1 : p → A) (h2 : ¬ p → B) : if decide p = true then A else B :=
  ite2 (fun h => h1 (of_decide_eq_true h)) fun h => h2 fun z => h (decide_eq_true z)
theorem iND {p : Prop} [Decidable p] (h1 : ¬ p → A) (h2 : p → B) : if (!decide p) = true then A else B := by
  by_cases h : p
  · rw [decide_eq_true h]
    exact iteF (h2 h)
  · rw [decide_eq_false h]
    exact iteT (h1 h)
theorem iB {b : Bool} (h1 : b = true → A) (h2 : b = false → B) : if b = true then A else B := by
  cases b
  · exact iteF (h2 rfl)
  · exact iteT (h1 rfl)
theorem iNB {b : Bool} (h1 : b = false → A) (h2 : b = true → B) : if (!b) = true then A else B := by
  cases b
  · exact iteT (h1 rfl)
  · exact iteF (h2 rfl)
theorem iTd {p : Prop} [Decidable p] (h : p) (q : A) : if decide p = true then A else B := by rw [decide_eq_true h]; exact iteT q
theorem iFd {p : Prop} [Decidable p] (h : ¬ p) (q : B) : if decide p = true then A else B := by rw [decide_eq_false h]; exact iteF q
theorem iNTd {p : Prop} [Decidable p] (h : ¬ p) (q : A) : if (!decide p) = true then A else B := by rw [decide_eq_false h]; exact iteT q
theorem iNFd {p : Prop} [Decidable p] (h : p) (q : B) : if (!decide p) = true then A else B := by rw [decide_eq_true h]; exact iteF q
end

theorem inV_str (m : Str) (l : List Str) : inV (V.str m) (l.map V.str) = decide (m ∈ l) := by
  induction l with
  | nil => rfl
  | cons a r ih =>
    show (eqV (V.str a) (V.str m) || inV (V.str m) (r.map V.str)) = _
    rw [ih]
    show ((a == m) || decide (m ∈ r)) = _
    by_cases h : m = a
    · rw [h]; simp
    · have h' : (a == m) = false := by simpa using fun z => h z.symm
      rw [h']
      simp [h]
section
variable {A B : Prop} {m : Str} {l : List Str}
theorem iInS (h1 : m ∈ l → A) (h2 : ¬ m ∈ l → B) : if inV (V.str m) (l.map V.str) = true then A else B := by rw [inV_str]; exact iD h1 h2
theorem iNInS (h1 : ¬ m ∈ l → A) (h2 : m ∈ l → B) : if (!inV (V.str m) (l.map V.str)) = true then A else B := by rw [inV_str]; exact iND h1 h2
end
theorem get_map {α : Type} {f : α → V} {l : List α} {i : Nat} {x : V} (h : (l.map f)[i]? = some x) : ∃ m, l[i]? = some m ∧ x = f m := by
  rw [List.getElem?_map] at h
  cases e : l[i]? with
  | none => rw [e] at h; cases h
  | some m => rw [e] at h; exact ⟨m, rfl, (Option.some.inj h).symm⟩
theorem at_map {α : Type} {f : α → V} {l : List α} {i : Int} (h0 : 0 ≤ i) (h1 : i < (l.length : Int)) : ∃ m, m ∈ l ∧ l[i.toNat]? = some m ∧ atI (l.map f) i = some (f m) := by
  obtain ⟨j, rfl⟩ : ∃ j : Nat, i = (j : Int) := ⟨i.toNat, by omega⟩
  have hj : j < l.length := by omega
  refine ⟨l[j], List.getElem_mem hj, by simp [hj], ?_⟩
  refine at_of (j := j) rfl ?_
  rw [List.getElem?_map, List.getElem?_eq_getElem hj]
  rfl

theorem take_map {α : Type} {f : α → V} {l : List α} {i : Nat} {m : α} (h : l[i]? = some m) : (l.take (i + 1)).map f = (l.take i).map f ++ [f m] := by
  rw [List.take_add_one, h]
  simp

/-! ### the drawn numbers -/
structure SrcOk (I : Hp) (xs : List V) : Prop where
  ex : ∃ (i0 i1 i2 i3 : Int) (c : Addr) (ns : List Int), xs = [.int i0, .int i1, .int i2, .int i3, .ref c] ∧ 0 ≤ i0 ∧ I c = some (.lst (ns.map V.int)) ∧ ns.length ≤ 63
theorem SrcOk.mono {I I' : Hp} {xs : List V} (s : Same I I') (h : SrcOk I xs) : SrcOk I' xs := by
  obtain ⟨i0, i1, i2, i3, c, ns, e, h0, hc, hn⟩ := h.ex
  exact ⟨i0, i1, i2, i3, c, ns, e, h0, s _ _ hc, hn⟩

theorem draw_many {m : Int} (h0 : 0 < m) (h : m < 2 ^ 200) : m.natAbs.log2 < 9000 := by
  have h1 : m.natAbs < 2 ^ 200 := by
    have e : ((2 ^ 200 : Nat) : Int) = 2 ^ 200 := by norm_cast
    omega
  exact Nat.lt_of_lt_of_le (PySem.Flt.log2_lt_of (by decide) h1) (by decide)

theorem bigstep {v d : Int} {i : Nat} (h : v < 10 ^ i) (h0 : 0 ≤ d) (h1 : d < 10) : v * 10 + d < 10 ^ (i + 1) := by
  rw [Int.pow_succ]
  omega
theorem big_end {v : Int} {i n : Nat} (h : v < 10 ^ i) (hn : i ≤ n) : v < 10 ^ n := by
  have h1 : (10 : Int) ^ i ≤ 10 ^ n := by
    have := Nat.pow_le_pow_right (n := 10) (by decide) hn
    exact_mod_cast this
  omega
/-- sizes by bits -/
def Sz (n : Nat) (x : Int) : Prop := x.natAbs < 2 ^ n
instance decSz (n : Nat) (x : Int) : Decidable (Sz n x) := inferInstanceAs (Decidable (_ < _))
theorem Sz.mono {n m : Nat} {x : Int} (h : Sz n x) (hm : n ≤ m) : Sz m x := Nat.lt_of_lt_of_le h (Nat.pow_le_pow_right (by decide) hm)
theorem Sz.mul {n m : Nat} {x y : Int} (h : Sz n x) (k : Sz m y) : Sz (n + m) (x * y) := wide_lt h k
theorem Sz.add {n m : Nat} {x y : Int} (h : Sz n x) (k : Sz m y) : Sz (n + m + 1) (x + y) := by
  have h1 := Sz.mono h (Nat.le_add_right n m)
  have k1 := Sz.mono k (Nat.le_add_left m n)
  unfold Sz at *
  rw [Nat.pow_succ]
  omega
theorem Sz.addm {n : Nat} {x y : Int} (h : Sz n x) (k : Sz n y) : Sz (n + 1) (x + y) := by
  unfold Sz at *
  rw [Nat.pow_succ]
  omega
theorem Sz.neg {n : Nat} {x : Int} (h : Sz n x) : Sz n (-x) := by unfold Sz at *; omega
theorem Sz.subm {n : Nat} {x y : Int} (h : Sz n x) (k : Sz n y) : Sz (n + 1) (x - y) := by
  unfold Sz at *
  rw [Nat.pow_succ]
  omega
theorem Sz.cmul {n m : Nat} {x y : Int} (h : Sz n x) (k : Sz m y) (h0 : 0 < n := by decide) (k0 : 0 < m := by decide) (l : n + m ≤ 1000000 := by decide) : CMulW x y := wide_mul h k h0 k0 l
theorem Sz.cdiv {n : Nat} {x y : Int} (h0 : 0 < y) (k : Sz n y) (n0 : 0 < n := by decide) (l : n ≤ 9000 := by decide) : CDivW x y := wide_div h0 k n0 l
theorem Sz.cdivP {n : Nat} {x y : Int} (h0 : 0 < y) (k : Sz n y) (n0 : 0 < n := by decide) (l : n ≤ 9000 := by decide) : CDivP x y := ⟨h0, PyProof.noPylong_of_log2 (wide_div (i := x) h0 k n0 l).2⟩
theorem Sz.of {n : Nat} {x : Int} (h : -((2 ^ n : Nat) : Int) < x) (k : x < ((2 ^ n : Nat) : Int)) : Sz n x := by unfold Sz; omega
theorem Sz.lo {n : Nat} {x : Int} (h : Sz n x) : -((2 ^ n : Nat) : Int) < x ∧ x < ((2 ^ n : Nat) : Int) := by unfold Sz at h; omega
theorem Sz.pow {b : Int} (h0 : 0 ≤ b) (h1 : b ≤ 64) (i : Nat) : Sz (6 * i + 1) (b ^ i) := by
  unfold Sz
  rw [Int.natAbs_pow]
  have h2 : b.natAbs ≤ 2 ^ 6 := by omega
  calc b.natAbs ^ i ≤ (2 ^ 6) ^ i := Nat.pow_le_pow_left h2 i
    _ = 2 ^ (6 * i) := (Nat.pow_mul 2 6 i).symm
    _ < 2 ^ (6 * i + 1) := Nat.pow_lt_pow_right (by decide) (Nat.lt_succ_self _)
theorem lp_mul_pow {b r : Int} {i : Nat} (h0 : 0 ≤ b) (h1 : b ≤ 64) (hi : i ≤ 20000) (hr : r = b ^ i) : CMulW r b := by
  have h := Sz.pow h0 h1 i
  rw [← hr] at h
  have k := Sz.pow h0 h1 1
  rw [Int.pow_succ, Int.pow_zero, Int.one_mul] at k
  exact wide_mul h k (by omega) (by omega) (by omega)

theorem lp_pow_pos {b r : Int} {i : Nat} (h : 0 < b) (e : r = b ^ i) : 0 < r := by rw [e]; exact Int.pow_pos h
theorem lp_pow_sz {b r : Int} {i : Nat} (h0 : 0 ≤ b) (h1 : b ≤ 64) (e : r = b ^ i) : Sz (6 * i + 1) r := by rw [e]; exact Sz.pow h0 h1 i
theorem num_sz {w d p : Int} (hw : Sz 110 w) (hd : Sz 160 d) (h0 : -1 ≤ p) (h1 : p ≤ d) (h2 : 0 < d) : Sz 271 (w * d + p) := by
  have k := Sz.mul hw hd
  refine Sz.addm (n := 270) k (Sz.mono (n := 161) ?_ (by decide))
  have := hd.lo
  exact Sz.of (by omega) (by omega)

/-! ### the hook of the head: any Bool of the written part, any def at an address, tables with text keys -/
abbrev Bf := PySem.W.Frag → Bool
abbrev Tb := PySem.W.Frag → Addr
abbrev AlB := He.AlD × List (Option (List (Option (Str × Int))))
/-- a def with a closure (a method that says super()), as the text has it -/
def fnC (K : PySem.W.Frag) (a : Addr) : He5.FnW := match K.lookup a with
  | some ⟨_, _, .func fd, _⟩ => some (fd.name, fd.qualname, fd.params, fd.body, fd.scope, fd.globals, [], fd.builtins)
  | _ => none
def obsB (fa : List Bf) (fn fx : List He5.DefA) (ts : List (Tb × List Str)) (K : PySem.W.Frag) : AlB := (((fa.all fun f => f K) && fn.all fun d => d.ok K, (fn.map fun d => He5.fnA K (d.at_ K)) ++ fx.map fun d => fnC K (d.at_ K)), ts.map fun t => He.dicW K (t.1 K))
def valB (fn fx : List He5.DefA) (ts : List (Tb × List Str)) (w : World) : AlB := ((true, fn.map He5.DefA.val ++ fx.map He5.DefA.val), ts.map fun t => some (He.keysIn w.params t.2))
def SaysB (fa : List Bf) (fn fx : List He5.DefA) (ts : List (Tb × List Str)) (w : World) (K : PySem.W.Frag) : Prop := obsB fa fn fx ts K = valB fn fx ts w
def obsBG (n : Nat) (fa : List Bf) (fn fx : List He5.DefA) (ts : List (Tb × List Str)) (g : Addr → Option Obj) : AlB := obsB fa fn fx ts (He.frG g (He5.asA g n))
def hookB (n : Nat) (fa : List Bf) (fn fx : List He5.DefA) (ts : List (Tb × List Str)) : PySem.W.Hook where
  α := AlB
  obs := fun s => obsBG n fa fn fx ts s.heap.get?
  val := fun w => valB fn fx ts w
  says := fun w h => ∃ K : PySem.W.Frag, K.In h ∧ SaysB fa fn fx ts w K
  of := fun _ _ e => ⟨_, He.frG_in, e⟩
  keeps := fun _ _ _ ⟨K, hK, c⟩ k => ⟨K, PySem.W.Frag.In.keeps hK k, c⟩
theorem obsBG_eq {n : Nat} {fa : List Bf} {fn fx : List He5.DefA} {ts : List (Tb × List Str)} {g : Addr → Option Obj} {s : Shared} (h : ∀ a, g a = s.heap.get? a) : obsBG n fa fn fx ts g = (hookB n fa fn fx ts).obs s := by
  have e : g = s.heap.get? := funext h
  rw [e] <;> rfl
def fdOf (K : PySem.W.Frag) (a : Addr) : FuncData := match K.lookup a with
  | some ⟨_, _, .func fd, _⟩ => fd
  | _ => default
section
variable {fa : List Bf} {fn fx : List He5.DefA} {ts : List (Tb × List Str)} {w : World} {K : PySem.W.Frag}
theorem SaysB.one (c : SaysB fa fn fx ts w K) : ((fa.all fun f => f K) && fn.all fun d => d.ok K) = true := congrArg (fun z : AlB => z.1.1) c
theorem SaysB.fact (c : SaysB fa fn fx ts w K) (i : Nat) {f : Bf} (h : fa[i]? = some f) : f K = true :=
  List.all_eq_true.mp (He.ba c.one).1 f (List.mem_of_getElem? h)
theorem SaysB.two (c : SaysB fa fn fx ts w K) : (fn.map fun d => He5.fnA K (d.at_ K)) = fn.map He5.DefA.val ∧ (fx.map fun d => fnC K (d.at_ K)) = fx.map He5.DefA.val := by
  have e : (fn.map fun d => He5.fnA K (d.at_ K)) ++ (fx.map fun d => fnC K (d.at_ K)) = fn.map He5.DefA.val ++ fx.map He5.DefA.val := congrArg (fun z : AlB => z.1.2) c
  exact List.append_inj e (by rw [List.length_map, List.length_map])
theorem SaysB.def_ (c : SaysB fa fn fx ts w K) (i : Nat) {d : He5.DefA} (h : fn[i]? = some d) : FunD K d.name d.qual d.params d.body d.scope (d.dvs K) (d.kws K) (d.at_ K) (fdOf K (d.at_ K)) := by
  have c2 := (He.ba c.one).2
  have e := c.two.1
  have e2 : (fn.map fun d => He5.fnA K (d.at_ K))[i]? = (fn.map He5.DefA.val)[i]? := by rw [e]
  rw [List.getElem?_map, List.getElem?_map, h] at e2
  obtain ⟨fd, F⟩ := He5.DefA.funD (Option.some.inj e2) (List.all_eq_true.mp c2 d (List.mem_of_getElem? h))
  have ef : fdOf K (d.at_ K) = fd := by
    obtain ⟨oc, od, dV, kV, doc, pm, an, cdv, ct, osl, _, l, _⟩ := F.ex
    unfold fdOf
    rw [l]
  rw [ef]
  exact F
theorem SaysB.clo (c : SaysB fa fn fx ts w K) (i : Nat) {d : He5.DefA} (h : fx[i]? = some d) : fnC K (d.at_ K) = d.val := by
  have e := c.two.2
  have e2 : (fx.map fun d => fnC K (d.at_ K))[i]? = (fx.map He5.DefA.val)[i]? := by rw [e]
  rw [List.getElem?_map, List.getElem?_map, h] at e2
  exact Option.some.inj e2
theorem SaysB.tab (c : SaysB fa fn fx ts w K) (i : Nat) {t : Tb × List Str} (h : ts[i]? = some t) : ∃ es n, KDict K w (t.1 K) es n := by
  have e : ts.map (fun t => He.dicW K (t.1 K)) = ts.map fun t => some (He.keysIn w.params t.2) := congrArg (fun z : AlB => z.2) c
  have e2 : (ts.map fun t => He.dicW K (t.1 K))[i]? = (ts.map fun t => some (He.keysIn w.params t.2))[i]? := by rw [e]
  rw [List.getElem?_map, List.getElem?_map, h] at e2
  exact He.dicW_ok (Option.some.inj e2)
end
/-- a module's name -/
def gB (x : Str) : Bf := fun K => He.eqO (PySem.W.nsIn K mainGlobals x) (some (some (.ref (He.ga K x))))
def fB (x : Str) : Bf := fun K => He.eqO (PySem.W.nsIn K mainGlobals x) (some none)
def tB (x : Str) (vs : List He.Dv) : Bf := fun K => He.tupB K x vs
/-- what a dict of the module holds at some texts: texts, or nothing -/
def hB (x : Str) (l : List (Str × Option Str)) : Bf := fun K => l.all fun p => match PySem.W.nsIn K (He.ga K x) p.1, p.2 with
  | some none, none => true
  | some (some (.str z _)), some y => decide (z = y)
  | _, _ => false
end LP

set_option Elab.async false
set_option linter.all false
set_option maxRecDepth 100000
set_option maxHeartbeats 4000000
namespace LP
open PySem PySem.Spec PyProof.Rows L2
/-! ### d.get(k, x) of a dict of the module whose keys are texts -/
def KDic (K : PySem.W.Frag) (w : World) (a : Addr) : Prop := ∃ es n, KDict K w a es n
/-- what such a dict holds at a text -/
def KHas (K : PySem.W.Frag) (a : Addr) (k : Str) (o : Option V) : Prop := ∃ r, PySem.W.nsIn K a k = some r ∧ RelO o r
theorem hB_ok {K : PySem.W.Frag} {x : Str} {l : List (Str × Option Str)} (h : hB x l K = true) {k : Str} {o : Option Str} (hk : (k, o) ∈ l) : KHas K (He.ga K x) k (o.map V.str) := by
  have q := List.all_eq_true.mp h _ hk
  dsimp only at q
  split at q
  · rename_i e1
    exact ⟨_, e1, trivial⟩
  · rename_i e1
    exact ⟨_, e1, _, by rw [of_decide_eq_true q]⟩
  · cases q
def tKGet2 (K : PySem.W.Frag) (w : World) (td ty tx : TE) : TE := fun σ H Q => td σ H fun x H1 => ∃ a, x = .ref a ∧ KDic K w a ∧ ty σ H1 fun y H2 => tx σ H2 fun z H3 =>
  ∃ (k : Str) (o : Option V) (z' : V), y = .str k ∧ KHas K a k o ∧ o.getD z = z' ∧ Q z' H3
section
variable {X : Cx} {o e f : Expr} {td ty tx : TE} {apos cpos : Pos}
theorem pe_kget2 (ho : PE X o td) (he : PE X e ty) (hf : PE X f tx) (m : M2 X o "get" apos e f cpos) : PE X (.Call (.Attribute o "get" apos) [e, f] [] cpos) (tKGet2 X.K X.w td ty tx) := by
  refine ⟨fun pins s σ H Q I h => ?_⟩
  refine wpAny_Call_method m.base m.few m.line PySem.F.plainAttrs_dict PySem.F.slot_dict_get PySem.F.type_dict_get (thn (ho.run pins s σ H _ I h) fun u s1 ⟨x, H1, I1, rx, a, ex, ⟨es, n, hd⟩, q1⟩ => ?_)
  subst ex
  obtain rfl : u = Value.ref a := rx
  have hm1 := PySem.W.mapOf_K (prog := X.prog) (w := X.w) I1.kIn hd.at_ hd.lit
  refine ⟨hm1.typeIs, hm1.noDict, ?_⟩
  rw [m.trees]
  refine Calls.callWith_builtin rfl (Calls.evalArgs_plain (Calls.spliced_cons (thn (he.run pins s1 σ H1 _ I1 q1) fun iv s2 ⟨y, H2, I2, ry, q2⟩ =>
    Calls.spliced_cons (thn (hf.run pins s2 σ H2 _ I2 q2) fun fv s3 ⟨z, H3, I3, rz, k, ov, z', ey, ⟨r, hr, rel⟩, ez, q3⟩ => Calls.spliced_nil ?_))))
  subst ey
  subst ez
  obtain ⟨t, rfl⟩ := ry
  have hm := PySem.W.mapOf_K (prog := X.prog) (w := X.w) I3.kIn hd.at_ hd.lit
  have e1 := PySem.W.find_K hd.at_ hr
  refine call_meetsIn PySem.F.slot_dict_get hm.typeIs PySem.F.entry_dict_get (PySem.F.args_dict_get_3 _ _ _) (meets_dict_get_default (strKind X.prog X.w) a (strKind_is X.prog X.w k t) hd.low fv) ⟨_, hm, ?_⟩
  rw [e1]
  refine ⟨ov.getD z, H3, I3.tok _, ?_, q3⟩
  cases ov with
  | none => cases r with
    | none => exact rz
    | some _ => exact rel.elim
  | some v => cases r with
    | none => exact rel.elim
    | some _ => exact rel
end
end LP

set_option Elab.async false
set_option linter.all false
set_option maxRecDepth 100000
set_option maxHeartbeats 4000000
namespace LX
open PySem L2 LP
/-! ### the modes, rounding of a quotient -/
def modesL : List Str := ["nearest-even", "nearest-out", "nearest-in", "nearest-up", "nearest-down", "inward", "outward", "upward", "downward"]
def nearL : List Str := ["nearest-even", "nearest-out", "nearest-in", "nearest-up", "nearest-down"]
def goesUp (mode : Str) (pos : Bool) : Bool := if mode = "inward" then !pos else if mode = "outward" then pos else decide (mode = "upward")
def tieUp (mode : Str) (low : Int) (pos : Bool) : Bool :=
  if mode = "nearest-even" then decide (low % 2 = 1) else if mode = "nearest-out" then pos else if mode = "nearest-in" then !pos else decide (mode = "nearest-up")
def rqUp (n d : Int) (mode : Str) : Bool :=
  if ¬ mode ∈ nearL then goesUp mode (decide (0 < n)) else if 2 * (n % d) = d then tieUp mode (n / d) (decide (0 < n)) else decide (d < 2 * (n % d))
def rq (n d : Int) (mode : Str) : Int := if n % d = 0 then n / d else if rqUp n d mode then n / d + 1 else n / d
def mirrorOpt (mode : Str) : Option Str :=
  if mode = "nearest-up" then some "nearest-down" else if mode = "nearest-down" then some "nearest-up" else if mode = "upward" then some "downward" else if mode = "downward" then some "upward" else none
def mirrorS (mode : Str) : Str := (mirrorOpt mode).getD mode
def steadyL : List Str := ["nearest-even", "nearest-up", "nearest-down", "upward", "downward"]
theorem mode_cases {m : Str} (h : m ∈ modesL) : m = "nearest-even" ∨ m = "nearest-out" ∨ m = "nearest-in" ∨ m = "nearest-up" ∨ m = "nearest-down" ∨ m = "inward" ∨ m = "outward" ∨ m = "upward" ∨ m = "downward" := by
  simpa [modesL] using h
theorem mirror_mem {m : Str} (h : m ∈ modesL) : mirrorS m ∈ modesL := by
  rcases mode_cases h with h | h | h | h | h | h | h | h | h <;> subst h <;> decide +kernel
theorem getD_str {o : Option Str} {m : Str} : (o.map V.str).getD (V.str m) = V.str (o.getD m) := by cases o <;> rfl
/-- where a mode stands in their order, and its mirror -/
def permL : List Int := [0, 1, 2, 4, 3, 5, 6, 8, 7]
theorem mode_index {m : Str} (h : m ∈ modesL) : ∃ j : Nat, j < 9 ∧ (modesL.map V.str)[j]? = some (V.str m) ∧ (∀ (k : Nat) (z : V), k < j → (modesL.map V.str)[k]? = some z → eqV z (V.str m) = false) ∧
    ∀ p, permL[j]? = some p → 0 ≤ p ∧ p < 9 ∧ ∀ s, modesL[p.toNat]? = some s → s = mirrorS m := by
  have key : ∀ j : Fin 9, ∀ m : Str, modesL[j.val]? = some m → (∀ k : Fin 9, k.val < j.val → (match modesL[k.val]? with | some z => !(z == m) | none => true) = true) →
      (match permL[j.val]? with | some p => decide (0 ≤ p ∧ p < 9) && (match modesL[p.toNat]? with | some s => decide (s = mirrorS m) | none => true) | none => true) = true → ∃ j : Nat, j < 9 ∧ (modesL.map V.str)[j]? = some (V.str m) ∧ (∀ (k : Nat) (z : V), k < j → (modesL.map V.str)[k]? = some z → eqV z (V.str m) = false) ∧
    ∀ p, permL[j]? = some p → 0 ≤ p ∧ p < 9 ∧ ∀ s, modesL[p.toNat]? = some s → s = mirrorS m := by
    intro j m h1 h2 h3
    refine ⟨j.val, j.isLt, by rw [List.getElem?_map, h1]; rfl, fun k z hk hz => ?_, fun p hp => ?_⟩
    · obtain ⟨z', e, rfl⟩ := get_map hz
      have q := h2 ⟨k, Nat.lt_trans hk j.isLt⟩ hk
      rw [show modesL[(⟨k, Nat.lt_trans hk j.isLt⟩ : Fin 9).val]? = some z' from e] at q
      show (z' == m) = false
      simpa using q
    · rw [hp] at h3
      obtain ⟨q1, q2⟩ := Bool.and_eq_true_iff.mp h3
      have q1 := of_decide_eq_true q1
      refine ⟨q1.1, q1.2, fun s hs => ?_⟩
      rw [hs] at q2
      exact of_decide_eq_true q2
  rcases mode_cases h with h | h | h | h | h | h | h | h | h <;> subst h
  · exact key 0 _ rfl (by decide +kernel) (by decide +kernel)
  · exact key 1 _ rfl (by decide +kernel) (by decide +kernel)
  · exact key 2 _ rfl (by decide +kernel) (by decide +kernel)
  · exact key 3 _ rfl (by decide +kernel) (by decide +kernel)
  · exact key 4 _ rfl (by decide +kernel) (by decide +kernel)
  · exact key 5 _ rfl (by decide +kernel) (by decide +kernel)
  · exact key 6 _ rfl (by decide +kernel) (by decide +kernel)
  · exact key 7 _ rfl (by decide +kernel) (by decide +kernel)
  · exact key 8 _ rfl (by decide +kernel) (by decide +kernel)
/-! #### the nine modes, one by one: with the quotient q and the rest r -/
/-- up or not, by quotient, rest, divisor -/
def upM (mode : Str) (q r d : Int) : Bool :=
  if mode = "nearest-even" then (if 2 * r = d then decide (q % 2 = 1) else decide (d < 2 * r))
  else if mode = "nearest-out" then (if 2 * r = d then decide (0 ≤ q) else decide (d < 2 * r))
  else if mode = "nearest-in" then (if 2 * r = d then decide (q < 0) else decide (d < 2 * r))
  else if mode = "nearest-up" then decide (d ≤ 2 * r)
  else if mode = "nearest-down" then decide (d < 2 * r)
  else if mode = "inward" then decide (q < 0)
  else if mode = "outward" then decide (0 ≤ q)
  else decide (mode = "upward")
theorem sign_of {n d : Int} (hd : 0 < d) (hr : ¬ n % d = 0) : decide (0 < n) = decide (0 ≤ n / d) := by
  have h1 := Int.emod_nonneg n (show d ≠ 0 by omega)
  have h2 := Int.emod_lt_of_pos n hd
  have e := Int.mul_ediv_add_emod n d
  by_cases h : 0 ≤ n / d
  · have : 0 ≤ d * (n / d) := Int.mul_nonneg (by omega) h
    rw [decide_eq_true h, decide_eq_true (by omega)]
  · have h3 : d * (n / d) ≤ d * (-1) := Int.mul_le_mul_of_nonneg_left (by omega) (by omega)
    rw [decide_eq_false h, decide_eq_false (by omega)]
theorem rqUp_eq {n d : Int} {m : Str} (hm : m ∈ modesL) (hd : 0 < d) (hr : ¬ n % d = 0) : rqUp n d m = upM m (n / d) (n % d) d := by
  unfold rqUp
  rw [sign_of hd hr]
  clear hr
  generalize n / d = q
  generalize n % d = r
  have hq : decide (0 ≤ q) = !decide (q < 0) := by rw [Bool.eq_iff_iff]; simp
  rcases mode_cases hm with h | h | h | h | h | h | h | h | h <;> subst h <;> simp +decide [goesUp, tieUp, upM, nearL]
  · rw [hq]; simp
  · rw [Bool.eq_iff_iff]; simp; omega
  · omega
  · exact hq
theorem rq_eq {n d : Int} {m : Str} (hm : m ∈ modesL) (hd : 0 < d) : rq n d m = if n % d = 0 then n / d else if upM m (n / d) (n % d) d then n / d + 1 else n / d := by
  unfold rq
  by_cases hr : n % d = 0
  · rw [if_pos hr, if_pos hr]
  · rw [if_neg hr, if_neg hr, rqUp_eq hm hd hr]
theorem rq_bounds {n d : Int} {m : Str} : n / d ≤ rq n d m ∧ rq n d m ≤ n / d + (if n % d = 0 then 0 else 1) := by
  unfold rq
  split
  · omega
  · split <;> omega
theorem neg_divmod {n d : Int} (hd : 0 < d) : (n % d = 0 ∧ (-n) / d = -(n / d) ∧ (-n) % d = 0) ∨ (¬ n % d = 0 ∧ (-n) / d = -(n / d) - 1 ∧ (-n) % d = d - n % d) := by
  have h1 := Int.emod_nonneg n (show d ≠ 0 by omega)
  have h2 := Int.emod_lt_of_pos n hd
  have e := Int.mul_ediv_add_emod n d
  by_cases hr : n % d = 0
  · have e2 : -n = 0 + d * (-(n / d)) := by rw [Int.mul_neg]; omega
    refine .inl ⟨hr, ?_, ?_⟩
    · rw [e2, Int.add_mul_ediv_left _ _ (by omega)]; simp
    · rw [e2, Int.add_mul_emod_self_left]; simp
  · have e2 : -n = (d - n % d) + d * (-(n / d) - 1) := by rw [Int.mul_sub, Int.mul_neg]; omega
    refine .inr ⟨hr, ?_, ?_⟩
    · rw [e2, Int.add_mul_ediv_left _ _ (by omega), Int.ediv_eq_zero_of_lt (by omega) (by omega)]; omega
    · rw [e2, Int.add_mul_emod_self_left]; exact Int.emod_eq_of_lt (by omega) (by omega)
theorem rq_mirror {n d : Int} {m : Str} (hm : m ∈ modesL) (hd : 0 < d) : rq (0 - n) d (mirrorS m) = 0 - rq n d m := by
  rw [Int.zero_sub, rq_eq hm hd, rq_eq (mirror_mem hm) hd]
  have h1 := Int.emod_nonneg n (show d ≠ 0 by omega)
  have h2 := Int.emod_lt_of_pos n hd
  rcases neg_divmod (n := n) hd with ⟨a, b, c⟩ | ⟨a, b, c⟩
  · rw [if_pos a, if_pos c, b]; omega
  · rw [if_neg a, if_neg (by omega), b, c]
    generalize n / d = q at *
    generalize n % d = r at *
    rcases mode_cases hm with h | h | h | h | h | h | h | h | h <;> subst h <;> simp +decide [mirrorS, mirrorOpt, upM] <;> (repeat' split) <;> (try simp_all) <;> omega
theorem rq_scale {n d k : Int} {m : Str} (hm : m ∈ modesL) (hd : 0 < d) (hk : 0 < k) : rq (n * k) (d * k) m = rq n d m := by
  have hdk : 0 < d * k := Int.mul_pos hd hk
  rw [rq_eq hm hd, rq_eq hm hdk]
  have e1 : (n * k) / (d * k) = n / d := Int.mul_ediv_mul_of_pos_left n d hk
  have e2 : (n * k) % (d * k) = n % d * k := by rw [Int.mul_comm n k, Int.mul_comm d k, Int.mul_emod_mul_of_pos _ _ hk, Int.mul_comm]
  rw [e1, e2]
  have z : n % d * k = 0 ↔ n % d = 0 := by
    constructor
    · intro h
      rcases Int.mul_eq_zero.mp h with h | h
      · exact h
      · omega
    · intro h; rw [h]; omega
  have l1 : (2 * (n % d * k) = d * k) ↔ (2 * (n % d) = d) := by
    rw [← Int.mul_assoc]
    exact ⟨fun h => Int.eq_of_mul_eq_mul_right (by omega) h, fun h => by rw [h]⟩
  have l2 : (d * k < 2 * (n % d * k)) ↔ (d < 2 * (n % d)) := by
    rw [← Int.mul_assoc]
    exact ⟨fun h => Int.lt_of_mul_lt_mul_right h (by omega), fun h => Int.mul_lt_mul_of_pos_right h hk⟩
  have l3 : (d * k ≤ 2 * (n % d * k)) ↔ (d ≤ 2 * (n % d)) := by
    rw [← Int.mul_assoc]
    exact ⟨fun h => Int.le_of_mul_le_mul_right h hk, fun h => Int.mul_le_mul_of_nonneg_right h (by omega)⟩
  have eu : upM m (n / d) (n % d * k) (d * k) = upM m (n / d) (n % d) d := by
    unfold upM
    simp only [l1, l2, l3]
  rw [eu]
  by_cases h : n % d = 0
  · rw [if_pos h, if_pos (z.mpr h)]
  · rw [if_neg h, if_neg fun q => h (z.mp q)]
theorem rq_mono {n n' d : Int} {m : Str} (hm : m ∈ modesL) (hd : 0 < d) (h : n ≤ n') : rq n d m ≤ rq n' d m := by
  have b1 := rq_bounds (n := n) (d := d) (m := m)
  have b2 := rq_bounds (n := n') (d := d) (m := m)
  have hq : n / d ≤ n' / d := Int.ediv_le_ediv hd h
  by_cases e : n / d = n' / d
  · rw [rq_eq hm hd, rq_eq hm hd, ← e]
    have e1 := Int.mul_ediv_add_emod n d
    have e2 := Int.mul_ediv_add_emod n' d
    rw [← e] at e2
    have hr : n % d ≤ n' % d := by omega
    have r0 := Int.emod_nonneg n (show d ≠ 0 by omega)
    generalize n / d = q at *
    generalize n % d = r at *
    generalize n' % d = r' at *
    rcases mode_cases hm with h | h | h | h | h | h | h | h | h <;> subst h <;> simp +decide [upM] <;> (repeat' split) <;> (try simp_all) <;> omega
  · split at b1 <;> omega
theorem rq_shift {n d f : Int} {m : Str} (hm : m ∈ steadyL) (hd : 0 < d) : rq (n + 2 * f * d) d m = rq n d m + 2 * f := by
  have hm' : m ∈ modesL := by
    simp only [steadyL, List.mem_cons, List.not_mem_nil, or_false] at hm
    rcases hm with h | h | h | h | h <;> subst h <;> decide +kernel
  rw [rq_eq hm' hd, rq_eq hm' hd]
  have e1 : (n + 2 * f * d) / d = n / d + 2 * f := Int.add_mul_ediv_right _ _ (by omega)
  have e2 : (n + 2 * f * d) % d = n % d := Int.add_mul_emod_self_right _ _ _
  rw [e1, e2]
  generalize n / d = q
  generalize n % d = r
  simp only [steadyL, List.mem_cons, List.not_mem_nil, or_false] at hm
  rcases hm with h | h | h | h | h <;> subst h <;> simp +decide [upM] <;> (repeat' split) <;> (try simp_all) <;> omega
end LX

set_option Elab.async false
set_option linter.all false
set_option maxRecDepth 100000
set_option maxHeartbeats 4000000
/-! An own exception over ValueError whose __init__ says super().__init__(a text) and then keeps its parameters. -/
namespace LP
open PySem PySem.Spec PyProof.Rows L2 LamX NdefX
structure ExI (P : Program) (K : PySem.W.Frag) (C f cc cda : Addr) (name qual : Str) (params : Arguments) (body : List Stmt) (scope : Scope) : Prop where
  T : OexC K C
  lk : ∃ (oc : Value) (od : Option Addr) (doc pm ctv : Value) (osl : Array (Option Value)), K.lookup f = some ⟨oc, od, .func ((⟨name, qual, params, body, scope, [("__class__", cc)], cda⟩ : NF).fd doc pm ctv), osl⟩
  cell : ∃ (oc : Value) (od : Option Addr) (osl : Array (Option Value)), K.lookup cc = some ⟨oc, od, .cell (some (.ref C)), osl⟩
  code : PySem.W.codeIn K (.ref cda) qual = true
  file : ∃ (oc : Value) (od : Option Addr) (vs : Array Value) (osl : Array (Option Value)) (file : Str) (tf : Tok), K.lookup cda = some ⟨oc, od, .fields vs, osl⟩ ∧ vs[2]? = some (.str file tf) ∧ ((P.main.file : Str) == file) = true
  top : (P.main.scope.names.lookup ("super" : Str)).isSome = false
  self : PySem.W.mroIn K C (.ref C) = some true
  sup : PySem.W.nsIn K mainGlobals "super" = some none
  st : PySem.W.nsIn K cStatics "thirdparty.any" = some none
  ini : PySem.W.ks_superIn K C C "__init__" = some (some (.builtin "ValueError.__init__"))
  ve : PySem.W.subIn K (.ref C) (.type "ValueError") = some true

section
variable {X : Cx} {pins : List (Addr × Obj)} {σ : L2.St} {H : Hp} {s : Shared} {a C u : Addr} {A : Around} {E : Value → Shared → Prop}
/-- the bound ValueError.__init__ called -/
theorem bound_init {us : List Value} {Q : Value → Shared → Prop} (T : OexC X.K C) (I : Inv X pins σ H s) (e : H a = some (exo a C none)) (hu : s.heap.get? u = some (PySem.W.kxs_mw "ValueError.__init__" a)) (hl : us.length ≤ sizeLine) (h : ∀ s', Inv X pins σ H s' → Q .none s') :
    wpAny (model X.prog X.w) A (call (.ref u) us) Q E s := by
  obtain ⟨nm, q, N, bs, bm, sn, sub, ab, col, dd, k0, k1, k2, k3, k5, hC, hbm⟩ := T.cls
  obtain ⟨t1, ho⟩ := exo_at I.hok e
  have hC' := I.kIn _ _ hC
  obtain ⟨hp, g, d, t, os⟩ := s
  refine wpAny_call (codeAny_of_tree ?_)
  show wpAny _ A.in1 (callAny (.ref u) ⟨us, []⟩) _ _ _
  simp only [callAny]
  refine wpAny_bind (wpAny_load hu ?_)
  simp only [PySem.W.kxs_mw, show (Value.type "method-wrapper" == Value.type "method" || Value.type "method-wrapper" == Value.type "builtin_function_or_method" || Value.type "method-wrapper" == Value.type "method-wrapper") = true by decide, if_true]
  refine PySem.W.KFB.if_so (by decide) ?_
  refine wpAny_bind (PySem.W.check_bound_init PySem.F.excBase_ValueError.toExcCallFacts hC' ho rfl ?_)
  refine wpAny_bind (wpAny_pure (wpAny_pure ?_))
  refine ⟨PySem.plainId_quiet PySem.F.excBase_ValueError.init.plain _, codeAny_builtin PySem.F.excBase_ValueError.initEntry ?_⟩
  refine PySem.W.exc_init_tree (cls := .ref C) (t0 := t1) (dv := none) (c2 := .none) (c3 := .none) (b4 := .bool false) ho hl (fun h' k hx _ => ?_)
  have J := I.write (t' := t) (x := a) (e := a) (o := exo a C none) (by rw [e]; exact True.intro) (.inl rfl) k ⟨_, hx⟩ (exo_ok hx)
  have eu : upd H a (exo a C none) = H := by
    funext b
    by_cases hb : b = a
    · rw [hb, upd_same, e]
    · rw [upd_ne hb]
  rw [eu] at J
  exact h _ J
end

theorem self_look {ps : List Str} {us : List Value} {x : Str} {u : Value} (nd : ps.Nodup) (h1 : ps[0]? = some x) (h2 : us[0]? = some u) : (ps.zip us).reverse.lookup x = some u := zip_look nd h1 h2

theorem exi_of {CX : CXT} {P : Program} {w : World} {K : PySem.W.Frag} {mg : Str → Option Value} {base : Heap} {N ps : List Str} {k : Nat} {sp : Sp} {C f cc cda : Addr} {name qual : Str} {params : Arguments} {body rest : List Stmt} {scope : Scope}
    {ar : Arg} {msg : Str} {p0 p1 p2 p3 p4 p5 : Pos} {j : Nat} (X : ExI P K C f cc cda name qual params body scope) (S : NScope N ps ["__class__"] scope)
    (hb0 : body = .Expr (.Call (.Attribute (.Call (.Name "super" p0) [] [] p1) "__init__" p2) [.Constant (.str msg) j p3] [] p4) p5 :: rest)
    {pl : Sem Bool} (he : ∀ env : Env, eval (.Call (.Attribute (.Call (.Name "super" p0) [] [] p1) "__init__" p2) [.Constant (.str msg) j p3] [] p4) env = (do
      let ov ← attributeBase (.Call (.Name "super" p0) [] [] p1) "__init__" env (eval (.Call (.Name "super" p0) [] [] p1) env)
      standAt p2.atName
      let (f, first) ← holding [ov] (getMethod ov "__init__" pl)
      callWith p4 f first (backTo p4 (starEach [.Constant (.str msg) j p3] env)) []))
    (hsw : ∀ env : Env, swapsWith (.Call (.Attribute (.Call (.Name "super" p0) [] [] p1) "__init__" p2) [.Constant (.str msg) j p3] [] p4) none p5.line env = pure false)
    (hp : (params.posonlyargs ++ params.args).head? = some ar) (hps : ps[0]? = some ar.arg) (hks : scope.names.lookup ("super" : Str) = some .globalImplicit)
    (len : ∀ vs H Q E, sp vs H Q E → vs.length = ps.length) (hself : ∀ vs H Q E, sp vs H Q E → ∃ a ws, vs = .ref a :: ws ∧ H a = some (exo a C none))
    (hbody : ∀ (A : Around) (outer : List Env) (s : Shared) (H : Hp) (vs : List V) (Q : VK) (E : XK), sp vs H Q E →
      ∃ t, PSs (ncx CX P w K mg base N ⟨name, qual, params, body, scope, [("__class__", cc)], cda⟩ f A outer s H E) rest t ∧ t { nx := fun _ H' => Q .non H', rt := Q } (startF N vs [some (.ref C)]) H) :
    FnOk P w K mg base CX (k + 1) f (fdOf K f) ps sp := by
  refine ⟨len, fun A outer s H args us vs Q E hr e0 hb r hsp => ?_⟩
  obtain ⟨oc, od, doc, pm, ctv, osl, lk⟩ := X.lk
  have efd : fdOf K f = (⟨name, qual, params, body, scope, [("__class__", cc)], cda⟩ : NF).fd doc pm ctv := by unfold fdOf; rw [lk]
  rw [efd] at hb
  have KX : K.In s.heap := e0.mod.kin.keeps fun b o e => (e0.bs b o e).1
  have hl := len _ _ _ _ hsp
  have lim : s.heap.NoLimit := e0.mod.nolimit.keeps fun b o e => (e0.bs b o e).1
  obtain ⟨a, ws, evs, ea⟩ := hself _ _ _ _ hsp
  obtain ⟨coc, cod, cosl, hcell⟩ := X.cell
  have cbase : base.get? cc = some ⟨coc, cod, .cell (some (.ref C)), cosl⟩ := e0.mod.kin _ _ hcell
  have CA : CellsAt [(("__class__" : Str), cc)] ["__class__"] [some (V.ref C)] s.heap H := by
    refine ⟨rfl, fun y c e => ?_, fun x y c e1 e2 => ?_, fun i y e => ?_⟩
    · have : c = cc := by
        simp only [List.lookup] at e
        split at e
        · exact (Option.some.inj e).symm
        · cases e
      subst this
      exact ⟨(e0.bs _ _ cbase).2, _, _, (e0.bs _ _ cbase).1, rfl⟩
    · simp only [List.lookup] at e1 e2
      split at e1
      · rename_i h1
        split at e2
        · rename_i h2
          exact (beq_iff_eq.mp h1).trans (beq_iff_eq.mp h2).symm
        · cases e2
      · cases e1
    · cases i with
      | zero =>
        simp only [List.getElem?_cons_zero, Option.some.injEq] at e
        subst e
        refine ⟨cc, rfl, fun v e => ?_⟩
        simp only [List.getElem?_cons_zero, Option.some.injEq] at e
        subst e
        exact ⟨.ref C, rfl, _, (e0.bs _ _ cbase).1, rfl⟩
      | succ i => simp at e
  refine codeAny_call_function hr.depth (KX _ _ lk) rfl S.co S.gen rfl (PySem.W.codeRec_of KX X.code) (hb _ _ _ _ ?_)
  refine wpAny_newFunctionEnv S.nocell (fun ⟨n, _⟩ hy => S.par n (List.of_mem_zip hy).1) (fun h₁ hns hsb => ⟨lim.fresh _ hsb, ?_⟩) S.kind
  refine PySem.ks_codeAny_funcAt ?_
  have kp : ∀ b o, s.heap.get? b = some o → h₁.get? b = some o := fun b o e => hsb.extBut b o (Nat.ne_of_lt (Heap.lt_size e)) (Heap.get?_push_of_some _ e)
  obtain ⟨t, ht, hq⟩ := hbody A outer s H vs Q E hsp
  have I : Inv (ncx CX P w K mg base N ⟨name, qual, params, body, scope, [("__class__", cc)], cda⟩ f A outer s H E) [] (startF N vs [some (V.ref C)]) H { s with heap := h₁, toks := s.toks + (ps.zip us).length } := inv_startN S hr.hd e0 hl r CA hns kp
  have us0 : us[0]? = some (.ref a) := by
    subst evs
    cases r with
    | cons ra rw' => exact congrArg some (show _ = Value.ref a from ra)
  have ndP : ps.Nodup := by
    have q := S.nd.sublist (List.take_sublist (ps.length + 1) N)
    have q2 := S.pre
    rw [show ps.length + (["__class__"] : List Str).length = ps.length + 1 from rfl] at q2
    rw [q2] at q
    exact (List.nodup_append.mp q).1
  have hv := self_look ndP hps us0
  obtain ⟨coF, codF, vsF, oslF, file, tf, hcode, hvs, hfile⟩ := X.file
  obtain ⟨nm, qn, NN, bs, bm, sn, sub, ab, col, dd, k0, k1, k2, k3, k5, hC, hbm⟩ := X.T.cls
  have hC1 : K.In h₁ := KX.keeps kp
  obtain ⟨t1, ho⟩ := exo_at I.hok ea
  show PySem.wpAt (model P w) (A.deeper (envF ⟨name, qual, params, body, scope, [("__class__", cc)], cda⟩ f s.heap.objs.size)) (.func body (envF ⟨name, qual, params, body, scope, [("__class__", cc)], cda⟩ f s.heap.objs.size)) (execs body (envF ⟨name, qual, params, body, scope, [("__class__", cc)], cda⟩ f s.heap.objs.size)) _ _ _
  have fin : PySem.wpAt (model P w) (A.deeper (envF ⟨name, qual, params, body, scope, [("__class__", cc)], cda⟩ f s.heap.objs.size)) (.func body (envF ⟨name, qual, params, body, scope, [("__class__", cc)], cda⟩ f s.heap.objs.size)) (execs (.Expr (.Call (.Attribute (.Call (.Name "super" p0) [] [] p1) "__init__" p2) [.Constant (.str msg) j p3] [] p4) p5 :: rest) (envF ⟨name, qual, params, body, scope, [("__class__", cc)], cda⟩ f s.heap.objs.size))
      (SP (ncx CX P w K mg base N ⟨name, qual, params, body, scope, [("__class__", cc)], cda⟩ f A outer s H E) [] { nx := fun _ H' => Q .non H', rt := Q }) (ncx CX P w K mg base N ⟨name, qual, params, body, scope, [("__class__", cc)], cda⟩ f A outer s H E).xe { s with heap := h₁, toks := s.toks + (ps.zip us).length } := by
    refine PySem.ks_wpAt_execs_cons (PySem.ks_wpAt_Expr_any (PySem.ks_wpAt_MethodCall (pl := pl) ?_ (he _)) (by unfold interactive; rw [show (envF ⟨name, qual, params, body, scope, [("__class__", cc)], cda⟩ f s.heap.objs.size).scope.kind = .function from S.kind]; rfl) (hsw _))
    refine PySem.ks_wpAt_super_base (env := envF ⟨name, qual, params, body, scope, [("__class__", cc)], cda⟩ f s.heap.objs.size) hks (S.frk _ (List.mem_singleton.mpr rfl)) (by decide) rfl (hC1 _ _ lk) rfl hp rfl (hC1 _ _ hcode) rfl hvs hfile X.top ?_
    obtain ⟨mb, hbl, hbx⟩ := e0.mod.blt
    have bk := I.bk
    refine PySem.W.ks_loadName_global S.kind hks (PySem.Calls.loadGlobal_builtin (env := envF ⟨name, qual, params, body, scope, [("__class__", cc)], cda⟩ f s.heap.objs.size) (e0.mod.glob.keeps bk) (PySem.W.mg_none_of e0.mod.kin e0.mod.glob X.sup) (hbl.keeps bk) ((hbx "super" (by decide)).trans (show bootBuiltins "super" = some (.type "super") by decide +kernel)) ⟨rfl, ?_⟩)
    refine wpAny_loadName_free S.kind (S.frk _ (List.mem_singleton.mpr rfl)) rfl ⟨_, hC1 _ _ hcell, rfl⟩ ?_
    refine wpAny_loadName_local S.kind (S.par _ (List.mem_of_getElem? hps)) hns hv ?_
    refine PySem.ks_wpAny_isType_cls (hC1 _ _ hC) rfl ⟨rfl, ?_⟩
    refine PySem.ks_wpAny_call_super (hC1 _ _ hC) rfl ho rfl (fun c e => ?_) (PySem.W.looks_mroIn hC1 X.self) (fun h' hso k => ?_)
    · cases e
    have I2 := I.kept (h' := h') (t' := s.toks + (ps.zip us).length) k
    have hC2 : K.In h' := hC1.keeps k
    have hcl : PySem.W.clsIn K C = some { name := nm, bases := bs, mro := .ref C :: bm, ns := NN, qualname := qn, hasDict := true, slotNames := sn, subclasses := sub, abstract := ab, collection := col, hasDel := false } := by unfold PySem.W.clsIn; rw [hC] <;> rfl
    have hm := X.ini
    unfold PySem.W.ks_superIn at hm
    rw [hcl] at hm
    have IA : PySem.W.InstAt h' a ({ cls := .ref C, dict := none, data := .fields #[.ref t1, .none, .none, .none, .bool false, .none] } : Obj) C none := ⟨k _ _ ho, rfl, rfl, trivial⟩
    have hI : PySem.W.Looks (model P w) h' (isInstance (.ref a) (.type "ValueError")) true := IA.type.andThen (PySem.W.looks_subIn hC2 X.ve)
    refine PySem.W.kxs_getMethod PySem.W.kxs_ValueError hso (PySem.W.looks_opaque hC2 X.st) (l₀ := .ref C :: bm) ?_ rfl hC2 hm hI (PySem.W.ks_ne hC2 IA hcl) (by decide) ?_
    · exact fun A Q E s k q => wpAny_bind ((PySem.W.looks_clsIn hC2 hcl) A _ E s k (wpAny_pure q))
    have hu : (h'.push (PySem.W.kxs_mw "ValueError.__init__" a)).get? h'.objs.size = some (PySem.W.kxs_mw "ValueError.__init__" a) := Heap.get?_push_at rfl rfl
    have I3 := I2.kept (h' := h'.push (PySem.W.kxs_mw "ValueError.__init__" a)) (t' := s.toks + (ps.zip us).length + 1) (fun b o e => Heap.get?_push_of_some _ e)
    have I4 := I3.pins_of (pins' := [(h'.objs.size, PySem.W.kxs_mw "ValueError.__init__" a)]) (fun p hp => by
      obtain rfl := List.mem_singleton.mp hp
      refine ⟨hu, I2.hok.fresh (Nat.le_refl _), fun z => ?_, I2.nofs (Nat.le_refl _), fun v z => by cases z⟩
      exact absurd I2.lt (by show ¬ _ < h'.objs.size; rw [← (show h'.objs.size = _ from z)]; exact Nat.lt_irrefl _))
    show wpAny _ _ (callWith p4 (Value.ref h'.objs.size) [] (backTo p4 (starEach [.Constant (.str msg) j p3] (envF ⟨name, qual, params, body, scope, [("__class__", cc)], cda⟩ f s.heap.objs.size))) []) _ _ _
    rw [show starEach [.Constant (.str msg) j p3] (envF ⟨name, qual, params, body, scope, [("__class__", cc)], cda⟩ f s.heap.objs.size) = (false, eval (.Constant (.str msg) j p3) (envF ⟨name, qual, params, body, scope, [("__class__", cc)], cda⟩ f s.heap.objs.size)) :: starEach [] (envF ⟨name, qual, params, body, scope, [("__class__", cc)], cda⟩ f s.heap.objs.size) from rfl]
    refine PySem.W.kxs_callWith (i := "ValueError.__init__") (x := a) (by rfl) ?_
    refine PySem.Calls.evalArgs_plain ?_
    have ha := (pa_cons (X := ncx CX P w K mg base N ⟨name, qual, params, body, scope, [("__class__", cc)], cda⟩ f A outer s H E) (pe_str (x := msg) (j := j) (pos := p3)) pa_nil).run p4 _ _ _ _ (fun vs H1 => H1 = H ∧ vs.length = 1) I4 ⟨rfl, rfl⟩
    refine thn ha fun us1 s1 ⟨vs1, H1, I5, r1, e1, e2⟩ => ?_
    subst e1
    have P1 := I5.pin _ (List.mem_append_right _ (List.mem_singleton.mpr rfl))
    refine ⟨P1.1, ?_⟩
    refine bound_init (X := ncx CX P w K mg base N ⟨name, qual, params, body, scope, [("__class__", cc)], cda⟩ f A outer s H1 E) X.T I5 ea P1.1 (by show us1.length ≤ _; rw [← Paired.length r1, e2]; decide) (fun s2 J => ?_)
    show PySem.wpAt _ _ _ (execs rest _) _ _ _
    exact wpAt_of_wpAny (ht.run [] s2 _ H1 _ (J.pins_of fun p hp => absurd hp (by simp)) hq)
  rw [← hb0] at fin
  refine PySem.wpAt_mono fin (fun fl s' hs => ?_) fun e s' hs => hs
  have fin2 : ∀ {σ' : L2.St} {H' : Hp} {v : V} {u : Value}, Inv (ncx CX P w K mg base N ⟨name, qual, params, body, scope, [("__class__", cc)], cda⟩ f A outer s H E) [] σ' H' s' → L2.RelV v u → Q v H' → CE outer P w H s Q u s' :=
    fun {σ' H' v u} J rv q => ⟨v, H', J.os, J.bare, J.base, J.hok, rv, q⟩
  cases fl with
  | ret u =>
    obtain ⟨v, σ', H', J, rv, q⟩ := hs
    exact fin2 J rv q
  | next =>
    obtain ⟨σ', H', J, q⟩ := hs
    exact fin2 (v := V.non) (u := Value.none) J rfl q
  | brk =>
    obtain ⟨_, _, _, q⟩ := hs
    exact False.elim q
  | cont =>
    obtain ⟨_, _, _, q⟩ := hs
    exact False.elim q
end LP

set_option Elab.async false
set_option linter.all false
set_option maxRecDepth 100000
set_option maxHeartbeats 4000000
/-! Own exceptions: their facts out of the written part, raising them, asking them in an except suite. -/
namespace LP
open PySem PySem.Spec PyProof.Rows L2
/-! ### Bools of the written part -/
def veB (K : PySem.W.Frag) (C : Addr) : Bool := match K.lookup C with
  | some ⟨.type "type", _, .cls cd, sl⟩ => (match cd.mro, sl.toList with
    | .ref C' :: bm, [_, _, _, _, some (.builtin n), _] => C' == C && n == "ValueError.__new__" && !cd.hasDel && cd.hasDict && PySem.HandSPX.refsVE bm
    | _, _ => false)
  | _ => false
theorem veB_ok {K : PySem.W.Frag} {C : Addr} (q : veB K C = true) : ∃ nm qn N bs bm sn sub ab col dd k0 k1 k2 k3 k5, K.lookup C = some (excClassObj nm qn C N bs bm true sn sub ab col dd k0 k1 k2 k3 k5 "ValueError.__new__") ∧ PySem.HandSPX.refsVE bm = true := by
  unfold veB at q
  split at q
  · rename_i dd cd sl ho
    split at q
    · rename_i C' bm k0 k1 k2 k3 n k5 hm hs
      simp only [Bool.and_eq_true, beq_iff_eq, Bool.not_eq_true'] at q
      obtain ⟨⟨⟨⟨rfl, rfl⟩, hdel⟩, hdct⟩, ht⟩ := q
      obtain ⟨nm, bs, mro, ns, qn, hd, sn, sub, ab, col, del⟩ := cd
      dsimp only at hm hdel hdct
      subst hm hdel hdct
      have hsl : sl = #[k0, k1, k2, k3, some (.builtin "ValueError.__new__"), k5] := by
        obtain ⟨l⟩ := sl
        simp only at hs
        rw [hs]
      subst hsl
      exact ⟨nm, qn, ns, bs, bm, sn, sub, ab, col, dd, k0, k1, k2, k3, k5, ho, ht⟩
    · cases q
  · cases q
/-- C is an own class over ValueError, made by ValueError.__new__ -/
def oexB (K : PySem.W.Frag) (C : Addr) : Bool := veB K C && (He.eqO (PySem.W.findIn K (.ref C) "__setattr__") (some (some (.builtin "object.__setattr__"))) && (decide (PySem.W.subIn K (.ref C) (.type "BaseException") = some true) && (decide (PySem.W.typeIn K (.ref C) = some (.type "type")) && PySem.W.keepIn K (.ref C))))
theorem oexB_ok {K : PySem.W.Frag} {C : Addr} (h : oexB K C = true) : OexC K C := by
  obtain ⟨h1, h⟩ := He.ba h
  obtain ⟨h2, h⟩ := He.ba h
  obtain ⟨h3, h⟩ := He.ba h
  obtain ⟨h4, h5⟩ := He.ba h
  exact ⟨veB_ok h1, He.eqO_ok h2, of_decide_eq_true h3, of_decide_eq_true h4, h5⟩
/-- isinstance may be asked, attributes may be read -/
def excB (K : PySem.W.Frag) (C : Addr) : Bool := He.eqO (PySem.W.findIn K (.ref C) "__getattribute__") (some (some (.builtin "BaseException.__getattribute__"))) && (He.eqO (PySem.W.findIn K (.ref C) "__getattr__") (some none) && (decide (PySem.W.subIn K (.ref C) (.type "BaseException") = some true) && (PySem.W.hasDictIn K C &&
  (He.eqO (PySem.W.findIn K (.ref C) "__class__") (some (some (.builtin "object.__class__"))) && (He.eqO (PySem.W.specialIn K (.builtin "object.__class__") "__get__") (some (some (.builtin "getset_descriptor.__get__"))) && (decide (PySem.W.takesIn K (.builtin "object.__class__") = some true) && decide (PySem.W.mroIn K C (.type "object") = some true)))))))
theorem excB_ok {K : PySem.W.Frag} {C : Addr} (h : excB K C = true) : ExcC K C := by
  obtain ⟨h1, h⟩ := He.ba h
  obtain ⟨h2, h⟩ := He.ba h
  obtain ⟨h3, h⟩ := He.ba h
  obtain ⟨h4, h⟩ := He.ba h
  obtain ⟨h5, h⟩ := He.ba h
  obtain ⟨h6, h⟩ := He.ba h
  obtain ⟨h7, h8⟩ := He.ba h
  exact ⟨He.eqO_ok h1, He.eqO_ok h2, of_decide_eq_true h3, h4, He.eqO_ok h5, He.eqO_ok h6, of_decide_eq_true h7, of_decide_eq_true h8⟩
theorem ExcC.xf {K : PySem.W.Frag} {C : Addr} (E : ExcC K C) : XfC K C := ⟨E.hg, E.hk, E.hs, E.hd⟩
/-- the class's own __init__ is the function at f; isinstance(self, C), super() are as they should be -/
def clB (K : PySem.W.Frag) (f : Addr) : Addr := match K.lookup f with
  | some ⟨_, _, .func fd, _⟩ => (match fd.closure with | [(_, c)] => c | _ => 0)
  | _ => 0
def cdB (K : PySem.W.Frag) (f : Addr) : Addr := match K.lookup f with
  | some ⟨_, _, .func fd, _⟩ => (match fd.code with | .ref c => c | _ => 0)
  | _ => 0
def fdB (K : PySem.W.Frag) (f : Addr) : Bool := match K.lookup f with
  | some ⟨_, _, .func fd, _⟩ => decide (fd.closure = [(("__class__" : Str), clB K f)]) && (decide (fd.code = .ref (cdB K f)) && (decide (fd.defaults = .none) && (decide (fd.kwdefaults = .none) && decide (fd.annotations = none))))
  | _ => false
def cellB (K : PySem.W.Frag) (c C : Addr) : Bool := match K.lookup c with
  | some ⟨_, _, .cell (some (.ref D)), _⟩ => decide (D = C)
  | _ => false
def fileB (K : PySem.W.Frag) (c : Addr) (file : Str) : Bool := match K.lookup c with
  | some ⟨_, _, .fields vs, _⟩ => (match (vs[2]? : Option Value) with | some (.str z _) => decide (z = file) | _ => false)
  | _ => false
def exiB (C f : PySem.W.Frag → Addr) (qual file : Str) : Bf := fun K => oexB K (C K) && (fdB K (f K) && (cellB K (clB K (f K)) (C K) && (PySem.W.codeIn K (.ref (cdB K (f K))) qual && (fileB K (cdB K (f K)) file && (decide (PySem.W.mroIn K (C K) (.ref (C K)) = some true) &&
  (He.eqO (PySem.W.nsIn K mainGlobals "super") (some none) && (He.eqO (PySem.W.nsIn K cStatics "thirdparty.any") (some none) && (He.eqO (PySem.W.ks_superIn K (C K) (C K) "__init__") (some (some (.builtin "ValueError.__init__"))) && (decide (PySem.W.subIn K (.ref (C K)) (.type "ValueError") = some true) &&
  (He.eqO (PySem.W.findIn K (.ref (C K)) "__init__") (some (some (.ref (f K)))) && decide (PySem.W.typeIn K (.ref (f K)) = some (.type "function"))))))))))))
structure Exi (P : Program) (K : PySem.W.Frag) (C f : Addr) (name qual : Str) (params : Arguments) (body : List Stmt) (scope : Scope) : Prop where
  I : ExI P K C f (clB K f) (cdB K f) name qual params body scope
  iC : PySem.W.findIn K (.ref C) "__init__" = some (some (.ref f))
  tI : PySem.W.typeIn K (.ref f) = some (.type "function")
theorem exiB_ok {P : Program} {K : PySem.W.Frag} {C f : PySem.W.Frag → Addr} {d : He5.DefA} {file : Str} (h : exiB C f d.qual file K = true) (e : fnC K (f K) = d.val) (hf : P.main.file = file) (ht : (P.main.scope.names.lookup ("super" : Str)).isSome = false) : Exi P K (C K) (f K) d.name d.qual d.params d.body d.scope := by
  obtain ⟨h1, h⟩ := He.ba h
  obtain ⟨h2, h⟩ := He.ba h
  obtain ⟨h3, h⟩ := He.ba h
  obtain ⟨h4, h⟩ := He.ba h
  obtain ⟨h5, h⟩ := He.ba h
  obtain ⟨h6, h⟩ := He.ba h
  obtain ⟨h7, h⟩ := He.ba h
  obtain ⟨h8, h⟩ := He.ba h
  obtain ⟨h9, h⟩ := He.ba h
  obtain ⟨h10, h⟩ := He.ba h
  obtain ⟨h11, h12⟩ := He.ba h
  refine ⟨⟨oexB_ok h1, ?_, ?_, h4, ?_, ht, of_decide_eq_true h6, He.eqO_ok h7, He.eqO_ok h8, He.eqO_ok h9, of_decide_eq_true h10⟩, He.eqO_ok h11, of_decide_eq_true h12⟩
  · unfold fdB at h2
    unfold fnC at e
    split at h2
    · rename_i oc od fd osl hl
      rw [hl] at e
      obtain ⟨q1, h2⟩ := He.ba h2
      obtain ⟨q2, h2⟩ := He.ba h2
      obtain ⟨q3, h2⟩ := He.ba h2
      obtain ⟨q4, q5⟩ := He.ba h2
      have r1 := of_decide_eq_true q1
      clear q1
      have r2 := of_decide_eq_true q2
      clear q2
      have r3 := of_decide_eq_true q3
      clear q3
      have r4 := of_decide_eq_true q4
      clear q4
      have r5 := of_decide_eq_true q5
      clear q5
      generalize clB K (f K) = cc at *
      generalize cdB K (f K) = cd at *
      obtain ⟨n1, n2, n3, n4, n5, n6, n7, n8, n9, n10, n11, n12, n13, n14, n15⟩ := fd
      simp only [He5.DefA.val, Option.some.injEq, Prod.mk.injEq] at e
      obtain ⟨e1, e2, e3, e4, e5, e6, _, e8⟩ := e
      dsimp only at r1 r2 r3 r4 r5
      subst e1 e2 e3 e4 e5 e6 e8 r1 r2 r3 r4 r5
      exact ⟨oc, od, n10, n11, n14, osl, hl⟩
    · cases h2
  · unfold cellB at h3
    split at h3
    · rename_i oc od D osl hl
      have := of_decide_eq_true h3
      subst this
      exact ⟨oc, od, osl, hl⟩
    · cases h3
  · unfold fileB at h5
    split at h5
    · rename_i oc od vs osl hl
      split at h5
      · rename_i z tf hv
        have := of_decide_eq_true h5
        subst this
        exact ⟨oc, od, vs, osl, _, tf, hl, hv, by rw [hf]; exact beq_self_eq_true _⟩
      · cases h5
    · cases h5
end LP

set_option Elab.async false
set_option linter.all false
set_option maxRecDepth 100000
set_option maxHeartbeats 4000000
namespace LP
open PySem PySem.Spec PyProof.Rows L2 LamX NdefX
/-! ### __init__ with one field, with two -/
def spI1 (C : Addr) (f : Str) : Sp := fun vs H Q E => ∃ a y, vs = [.ref a, y] ∧ H a = some (exo a C none) ∧ ∀ d, H d = none → d ≠ a → Q .non (upd (upd H d (exd d [(f, y)])) a (exo a C (some d)))
def spI2 (C : Addr) (f g : Str) : Sp := fun vs H Q E => ∃ a y z, vs = [.ref a, y, z] ∧ H a = some (exo a C none) ∧ ∀ d, H d = none → d ≠ a → Q .non (upd (upd (upd H d (exd d [(f, y)])) a (exo a C (some d))) d (exd d [(g, z), (f, y)]))
section
variable {CX : CXT} {P : Program} {w : World} {K : PySem.W.Frag} {mg : Str → Option Value} {base : Heap} {k : Nat} {C fA : Addr} {name qual s f y g z msg : Str} {params : Arguments} {body : List Stmt} {scope : Scope}
    {ar : Arg} {p0 p1 p2 p3 p4 p5 q1 q2 q3 q4 r1 r2 r3 r4 : Pos} {j : Nat} {pl : Sem Bool}
theorem ini1_of (X : Exi P K C fA name qual params body scope) (S : NScope [s, y, "__class__"] [s, y] ["__class__"] scope)
    (hb0 : body = [.Expr (.Call (.Attribute (.Call (.Name "super" p0) [] [] p1) "__init__" p2) [.Constant (.str msg) j p3] [] p4) p5, .Assign [.Attribute (.Name s q1) f q2] (.Name y q3) q4])
    (he : ∀ env : Env, eval (.Call (.Attribute (.Call (.Name "super" p0) [] [] p1) "__init__" p2) [.Constant (.str msg) j p3] [] p4) env = (do
      let ov ← attributeBase (.Call (.Name "super" p0) [] [] p1) "__init__" env (eval (.Call (.Name "super" p0) [] [] p1) env)
      standAt p2.atName
      let (f, first) ← holding [ov] (getMethod ov "__init__" pl)
      callWith p4 f first (backTo p4 (starEach [.Constant (.str msg) j p3] env)) []))
    (hsw : ∀ env : Env, swapsWith (.Call (.Attribute (.Call (.Name "super" p0) [] [] p1) "__init__" p2) [.Constant (.str msg) j p3] [] p4) none p5.line env = pure false)
    (hp : (params.posonlyargs ++ params.args).head? = some ar) (hps : s = ar.arg) (hks : scope.names.lookup ("super" : Str) = some .globalImplicit)
    (h1 : scope.names.lookup s = some .local) (h2 : scope.names.lookup y = some .local) (d1 : (s == ("__debug__" : Str)) = false) (d2 : (y == ("__debug__" : Str)) = false) (c1 : (s == ("__classdict__" : Str)) = false) (c2 : (y == ("__classdict__" : Str)) = false)
    (hno : PySem.W.findIn K (.ref C) f = some none) : FnOk P w K mg base CX (k + 1) fA (fdOf K fA) [s, y] (spI1 C f) := by
  refine exi_of X.I S hb0 he hsw hp (by rw [hps]; rfl) hks (fun vs H Q E h => ?_) (fun vs H Q E h => ?_) fun A outer st H vs Q E h => ?_
  · obtain ⟨a, y, rfl, _⟩ := h
    rfl
  · obtain ⟨a, y, rfl, ea, _⟩ := h
    exact ⟨a, _, rfl, ea⟩
  · obtain ⟨a, v, rfl, ea, q⟩ := h
    refine ⟨_, pss_one (ps_ost (pe_var (i := 0) rfl (.inl h1) d1 c1) (pe_var (i := 1) rfl (.inl h2) d2 c2)), ?_⟩
    exact ⟨_, rfl, _, rfl, a, C, rfl, X.I.T, hno, .inl ⟨ea, q⟩⟩
theorem ini2_of (X : Exi P K C fA name qual params body scope) (S : NScope [s, y, z, "__class__"] [s, y, z] ["__class__"] scope)
    (hb0 : body = [.Expr (.Call (.Attribute (.Call (.Name "super" p0) [] [] p1) "__init__" p2) [.Constant (.str msg) j p3] [] p4) p5, .Assign [.Attribute (.Name s q1) f q2] (.Name y q3) q4, .Assign [.Attribute (.Name s r1) g r2] (.Name z r3) r4])
    (he : ∀ env : Env, eval (.Call (.Attribute (.Call (.Name "super" p0) [] [] p1) "__init__" p2) [.Constant (.str msg) j p3] [] p4) env = (do
      let ov ← attributeBase (.Call (.Name "super" p0) [] [] p1) "__init__" env (eval (.Call (.Name "super" p0) [] [] p1) env)
      standAt p2.atName
      let (f, first) ← holding [ov] (getMethod ov "__init__" pl)
      callWith p4 f first (backTo p4 (starEach [.Constant (.str msg) j p3] env)) []))
    (hsw : ∀ env : Env, swapsWith (.Call (.Attribute (.Call (.Name "super" p0) [] [] p1) "__init__" p2) [.Constant (.str msg) j p3] [] p4) none p5.line env = pure false)
    (hp : (params.posonlyargs ++ params.args).head? = some ar) (hps : s = ar.arg) (hks : scope.names.lookup ("super" : Str) = some .globalImplicit)
    (h1 : scope.names.lookup s = some .local) (h2 : scope.names.lookup y = some .local) (h3 : scope.names.lookup z = some .local) (d1 : (s == ("__debug__" : Str)) = false) (d2 : (y == ("__debug__" : Str)) = false) (d3 : (z == ("__debug__" : Str)) = false) (c1 : (s == ("__classdict__" : Str)) = false) (c2 : (y == ("__classdict__" : Str)) = false) (c3 : (z == ("__classdict__" : Str)) = false)
    (hno : PySem.W.findIn K (.ref C) f = some none) (hno2 : PySem.W.findIn K (.ref C) g = some none) : FnOk P w K mg base CX (k + 1) fA (fdOf K fA) [s, y, z] (spI2 C f g) := by
  refine exi_of X.I S hb0 he hsw hp (by rw [hps]; rfl) hks (fun vs H Q E h => ?_) (fun vs H Q E h => ?_) fun A outer st H vs Q E h => ?_
  · obtain ⟨a, y, z, rfl, _⟩ := h
    rfl
  · obtain ⟨a, y, z, rfl, ea, _⟩ := h
    exact ⟨a, _, rfl, ea⟩
  · obtain ⟨a, v, v2, rfl, ea, q⟩ := h
    refine ⟨_, pss_cons (ps_ost (pe_var (i := 0) rfl (.inl h1) d1 c1) (pe_var (i := 1) rfl (.inl h2) d2 c2)) (pss_one (ps_ost (pe_var (i := 0) rfl (.inl h1) d1 c1) (pe_var (i := 2) rfl (.inl h3) d3 c3))), ?_⟩
    refine ⟨_, rfl, _, rfl, a, C, rfl, X.I.T, hno, .inl ⟨ea, fun d hd ne => ?_⟩⟩
    exact ⟨_, rfl, _, rfl, a, C, rfl, X.I.T, hno2, .inr ⟨d, [(f, v)], upd_same, by rw [upd_ne ne]; exact upd_same, by show 1 ≤ 900; decide, q d hd ne⟩⟩
end

/-! ### making and raising -/
theorem pmk5_oex {X : Cx} {CX : CXT} {x : Str} {e : Expr} {es : List Expr} {ta : TA} {p pos : Pos} {C fI : Addr} {k : Nat} {fd : FuncData} {ps : List Str} {sp : Sp} (T : OexC X.K C) (iC : PySem.W.findIn X.K (.ref C) "__init__" = some (some (.ref fI))) (tI : PySem.W.typeIn X.K (.ref fI) = some (.type "function"))
    (F1 : FnOk X.prog X.w X.K X.mg X.base CX k fI fd ps sp) (hr : Room (k + 1) X.A) (hb : Binds X.K fd ps []) (hx : Passes CX X (fun _ _ _ => False)) (hg : Gl X x) (hm : X.mg x = some (.ref C)) (ha : PA X (e :: es) ta)
    (hdb : (x == ("__debug__" : Str)) = false := by decide) (he : starEach (e :: es) X.env = (false, eval e X.env) :: starEach es X.env := by rfl) (hpl : (backTo pos (starEach es X.env)).any (·.1) = false := by rfl) :
    L2H.PMk5 X (.Call (.Name x p) (e :: es) [] pos) (tMkO C sp [] ta) := by
  intro pins s σ H Q I h
  obtain ⟨nm, q, N, bs, bm, sn, sub, ab, col, dd, k0, k1, k2, k3, k5, hC, hbm⟩ := T.cls
  refine wpAny_Call_Name_kw (ld_glob I hg hm ?_ hdb)
  refine PySem.W.callWith_K (h₀ := X.base) I.ok.mod.kin T.kC (thn (ha.run pos pins s σ H _ I h) fun us s1 ⟨vs, H1, I1, r1, hz, q1⟩ => ⟨I1.kIn, ?_⟩) he hpl
  show wpAny _ _ (call (.ref C) us) _ _ _
  obtain ⟨hp, g, dr, tk, os⟩ := s1
  have hsz : hp.objs.size ≤ hp.objs.size + 1 := Nat.le_succ _
  have hn : H1 (hp.objs.size + 1) = none := I1.hok.fresh hsz
  have hq := q1 (hp.objs.size + 1) hn
  rw [List.append_nil] at hq
  have kk : ∀ b o, hp.get? b = some o → ((hp.push (PySem.W.kdv_tup us)).push (PySem.HandSPX.excO C hp.objs.size)).get? b = some o := fun b o e => Heap.get?_push_of_some _ (Heap.get?_push_of_some _ e)
  have hget : ((hp.push (PySem.W.kdv_tup us)).push (PySem.HandSPX.excO C hp.objs.size)).get? (hp.objs.size + 1) = some (PySem.HandSPX.excO C hp.objs.size) := by heap_get
  have I2 : Inv X pins σ (upd H1 (hp.objs.size + 1) (exo (hp.objs.size + 1) C none)) ⟨(hp.push (PySem.W.kdv_tup us)).push (PySem.HandSPX.excO C hp.objs.size), g, dr, tk, os⟩ :=
    I1.laid (t' := tk) (a := hp.objs.size + 1) (o := exo (hp.objs.size + 1) C none) (h' := (hp.push (PySem.W.kdv_tup us)).push (PySem.HandSPX.excO C hp.objs.size)) kk hsz (exo_ok hget)
  have r2 : Vals (V.ref (hp.objs.size + 1) :: vs) (Value.ref (hp.objs.size + 1) :: us) := .cons rfl r1
  have hl : (Value.ref (hp.objs.size + 1) :: us ++ []).length = ps.length := by
    have e := r2.length
    rw [F1.len _ _ _ _ hq] at e
    rw [List.append_nil]
    exact e.symm
  have hus : us.length ≤ sizeLine := by
    rw [← Paired.length r1, sizeLine_eq]
    omega
  have b2 := hb _ (Value.ref (hp.objs.size + 1) :: us) I2.kIn hl
  rw [List.append_nil] at b2
  refine wpAny_call (PySem.HandSPX.call_own F.excBase_ValueError (fun Y => PySem.HandSPX.refsVE_contains Y bm hbm) (I1.kIn _ _ hC) (PySem.W.looks_findIn I1.kIn iC) (fun self => PySem.W.bind_fn I1.kIn self tI) hus
    (codeAny_mono (F1.run _ X.stack _ _ ⟨Value.ref (hp.objs.size + 1) :: us, []⟩ (Value.ref (hp.objs.size + 1) :: us) _ _ (fun _ _ _ => False) (hr.make C us []) (I2.env0.make C us []) b2 r2 hq) fun r s' hq' => ?_))
  cases r with
  | error er => exact hx pins σ _ _ er s' I2 hq'
  | ok fl =>
    cases fl with
    | ret u =>
      obtain ⟨v, H2, os2, bare2, un2, hok2, rv, ev, d, fs, ea, ed, hd1, q2⟩ := hq'
      subst ev
      obtain ⟨h2, g2, d2, t2, os'⟩ := s'
      obtain ⟨t0, G, J, kG, ge, hoe, na⟩ := mk_end0 (d2 := d2) (t2 := t2) I1 hsz kk un2 hok2 os2 bare2 ea ed hd1
      refine ⟨rv, ⟨hp.objs.size + 1, _, _, ⟨G, g2, d2, t2, os'⟩, _, .ref C, some d, rfl, J, kG, ge, hoe, ⟨rfl, rfl, fun vs hv => ?_⟩, rfl, rfl, na, rfl, bare2, raises_own T.exC T.tyC, q2⟩, fun a oe vs ea2 hg2 hd2 => ?_⟩
      · cases hv
        rfl
      · cases ea2
        have hg3 : h2.get? (hp.objs.size + 1) = some oe := hg2
        rw [hoe] at hg3
        cases hg3
        cases hd2
        show (4 : Nat) < 6
        decide
    | next => exact False.elim hq'
    | brk => exact False.elim hq'
    | cont => exact False.elim hq'

/-! ### asking in an except suite -/
section
open PySem.W
variable {K : Frag} {D x : Addr}
theorem kitx_excD (E : ExcC K D) : KitX K (.ref x) (.ref D) (fun h => ∃ ox od, InstAt h x ox D od) where
  ty := fun _ _ _ I => by
    obtain ⟨ox, od, I⟩ := I
    exact I.type
  it := fun _ _ X _ => by
    obtain ⟨cdD, hcD, _⟩ := any_some E.hd
    unfold clsIn at hcD
    split at hcD
    · rename_i c' d' cd' sl' ho
      intro A' Q' E' s' k q
      unfold isType loadHead
      exact wpAny_bind (wpAny_loadPart (k _ _ (X _ _ ho)) (wpAny_pure q))
    · cases hcD
  ne := fun h tp dd its n sl X htp => by
    obtain ⟨cdD, hcD, _⟩ := any_some E.hd
    refine Bool.eq_false_iff.mpr fun q => ?_
    have e : D = tp := Value.ref.inj (beq_iff_eq.mp q)
    subst e
    unfold clsIn at hcD
    split at hcD
    · rename_i c' d' cd' sl' ho
      have z := (X _ _ ho).symm.trans htp
      cases z
    · cases hcD
  ca := fun X I k => by
    obtain ⟨ox, od, I⟩ := I
    exact kx_classE X I E.hg E.hk E.hs (findObj_dataE (by obtain ⟨cd, hc, _⟩ := any_some E.hd; rw [hc]; rfl) E.ha E.hn E.ht) E.hm k
end
/-- isinstance(e, c), e the exception that the suite holds (cls its class, d its dict) -/
def rIsD (K : PySem.W.Frag) (cls : Value) (d : Option Addr) (a : Addr) : List V → Hp → VK → Prop := fun xs H Q => ∃ (D : Addr) (c : V) (cv : Value) (b : Bool), cls = .ref D ∧ ExcC K D ∧ xs = [.ref a, c] ∧ (∀ u, RelV c u → u = cv) ∧ PySem.W.kitOne K (.ref D) cv = some b ∧ (∀ dd, d = some dd → ∃ fs, H dd = some (.xd fs)) ∧ Q (.bl b) H
theorem call_isD {X : Cx} {a : Addr} {cls : Value} {d : Option Addr} {oe : Obj} {pn : List (Addr × Obj)} (hz : Zc cls d oe) (hf : ∃ vs, oe.data = .fields vs) : CallR (X.suite a ((a, oe) :: pn)) (.builtin "isinstance") (rIsD X.K cls d a) := by
  intro pins s σ H xs us Q I r h
  obtain ⟨D, c, cv, b, ecl, C, rfl, hcv, e, hdd, q⟩ := h
  subst ecl
  cases r with
  | cons rx rr =>
    cases rr with
    | cons rt rr =>
      cases rr
      cases rx
      have ec := hcv _ rt
      subst ec
      obtain ⟨hget, _⟩ := I.pin (a, oe) (List.mem_append.mpr (.inl List.mem_cons_self))
      obtain ⟨vs, hv⟩ := hf
      have J : ∃ ox od, PySem.W.InstAt s.heap a ox D od := by
        cases d with
        | none =>
          refine ⟨oe, none, hget, hz.1, by unfold PySem.W.notCls; rw [hv] <;> rfl, ?_⟩
          rw [hz.2]
          trivial
        | some dd =>
          obtain ⟨fs, hx0⟩ := hdd dd rfl
          have hx : ObjOk X.prog X.w H s.heap dd (.xd fs) := I.hok dd _ hx0
          obtain ⟨mA, hns, hr⟩ := hx
          obtain ⟨od, ho, hl⟩ := lookIn_ns hns
          exact ⟨oe, some od, hget, hz.1, by unfold PySem.W.notCls; rw [hv] <;> rfl, by rw [hz.2]; exact ho⟩
      exact PySem.W.kia_one (kitx_excD C) I.kIn J e (fun z => nomatch z) fun tk => ⟨.bl b, H, I.kept (t' := tk) fun _ _ z => z, rfl, q⟩
/-- e.n -/
def tXd (K : PySem.W.Frag) (a : Addr) (cls : Value) (d : Option Addr) (n : Str) (te : TE) : TE := fun σ H Q => te σ H fun x H1 => x = .ref a ∧ ∃ (C dd : Addr) (fs : List (Str × V)) (v : V), cls = .ref C ∧ ExcC K C ∧ PySem.W.findIn K (.ref C) n = some none ∧ d = some dd ∧ H1 dd = some (.xd fs) ∧ fs.lookup n = some v ∧ Q v H1
theorem pe_xd {X : Cx} {a : Addr} {oe : Obj} {cls : Value} {d : Option Addr} {pn : List (Addr × Obj)} {e : Expr} {te : TE} {pos : Pos} {n : Str}
    (hz : Zc cls d oe) (hf : ∃ vs, oe.data = .fields vs) (he : PE (X.suite a ((a, oe) :: pn)) e te) (hb : attributeBase e n X.env (eval e X.env) = eval e X.env := by rfl) :
    PE (X.suite a ((a, oe) :: pn)) (.Attribute e n pos) (tXd X.K a cls d n te) := by
  refine ⟨fun pins s σ H Q I h => ?_⟩
  refine attr_of hb (thn (he.run pins s σ H _ I h) fun u s1 hh => ?_)
  obtain ⟨x, H1, I1, rx, ex, C, dd, fs, v, ec, T, hno, ed, ea, l, q⟩ := hh
  subst ex
  obtain rfl : u = Value.ref a := rx
  subst ec
  subst ed
  obtain ⟨ha, _⟩ := I1.pin (a, oe) (List.mem_append_left _ List.mem_cons_self)
  obtain ⟨vs, hd⟩ := hf
  have hx : ObjOk X.prog X.w H1 s1.heap dd (.xd fs) := I1.hok dd _ ea
  obtain ⟨mA, hns, hr⟩ := hx
  obtain ⟨od, ho, hl⟩ := lookIn_ns hns
  obtain ⟨u, hu, ru⟩ := RelO.some_of (v := v) (o := mA n) (by rw [← l]; exact hr n)
  have J : PySem.W.InstAt s1.heap a oe C (some od) := ⟨ha, hz.1, by unfold PySem.W.notCls; rw [hd] <;> rfl, by rw [hz.2]; exact ho⟩
  exact HandSPX.exc_get I1.kIn J T.hg T.hk T.hs (PySem.W.findObj_own T.hd hno rfl (by rw [hl, hu])) (handed_of ru) ⟨v, H1, I1.tok _, ru, q⟩
/-- the suite's handled exception is known -/
theorem hot_suite {X : Cx} {a : Addr} {oe : Obj} {cls : Value} {d : Option Addr} {pn : List (Addr × Obj)} (hz : L2N.Zn cls d oe) (hf : ∃ vs, oe.data = .fields vs) : L2H.HotC (X.suite a ((a, oe) :: pn)) := by
  obtain ⟨vs, hv⟩ := hf
  exact ⟨(a, oe), ⟨rfl, vs, hv, hz.2.2 vs hv⟩, List.mem_cons_self⟩

theorem Exi.binds {P : Program} {K : PySem.W.Frag} {C fA : Addr} {name qual : Str} {params : Arguments} {body : List Stmt} {scope : Scope} {ps : List Str} (X : Exi P K C fA name qual params body scope)
    (h : ∀ (cc cda : Addr) (doc pm ctv : Value) (us : List Value), us.length = ps.length → bindArgs ((⟨name, qual, params, body, scope, [("__class__", cc)], cda⟩ : NF).fd doc pm ctv) ⟨us, []⟩ = pure (ps.zip us)) : Binds K (fdOf K fA) ps [] := by
  obtain ⟨oc, od, doc, pm, ctv, osl, lk⟩ := X.I.lk
  have efd : fdOf K fA = (⟨name, qual, params, body, scope, [("__class__", clB K fA)], cdB K fA⟩ : NF).fd doc pm ctv := by unfold fdOf; rw [lk]
  rw [efd]
  exact .all (h _ _ doc pm ctv)
theorem del_upd {H : Hp} {a d : Addr} {o1 o2 o3 o4 : HO} (ha : H a = none) (hd : d ≠ a) : upd (del (upd (upd (upd H a o1) d o2) a o3) a) d o4 = upd H d o4 := by
  funext b
  by_cases h1 : b = d
  · subst h1; rw [upd_same, upd_same]
  · rw [upd_ne h1, upd_ne h1]
    by_cases h2 : b = a
    · subst h2; rw [del_same, ha]
    · rw [del_ne h2, upd_ne h2, upd_ne h1, upd_ne h2]
theorem del_upd2 {H : Hp} {a d : Addr} {o1 o2 o3 o4 o5 : HO} (ha : H a = none) (hd : d ≠ a) : upd (del (upd (upd (upd (upd H a o1) d o2) a o3) d o5) a) d o4 = upd H d o4 := by
  funext b
  by_cases h1 : b = d
  · subst h1; rw [upd_same, upd_same]
  · rw [upd_ne h1, upd_ne h1]
    by_cases h2 : b = a
    · subst h2; rw [del_same, ha]
    · rw [del_ne h2, upd_ne h1, upd_ne h2, upd_ne h1, upd_ne h2]
theorem mk1 {H1 : Hp} {C : Addr} {f : Str} {y : V} {Q : XK} (h : ∀ d, H1 d = none → Q (.ref C) (some d) (upd H1 d (.xd [(f, y)]))) : ∀ a, H1 a = none → spI1 C f (.ref a :: ([y] ++ [])) (upd H1 a (exo a C none))
    (fun v H2 => v = .non ∧ ∃ (d : Addr) (fs : List (Str × V)), H2 a = some (exo a C (some d)) ∧ H2 d = some (exd d fs) ∧ H1 d = none ∧ Q (.ref C) (some d) (upd (del H2 a) d (.xd fs))) (fun _ _ _ => False) := by
  intro a ha
  refine ⟨a, y, rfl, upd_same, fun d hd ne => ⟨rfl, d, [(f, y)], upd_same, by rw [upd_ne ne]; exact upd_same, by rw [upd_ne ne] at hd; exact hd, ?_⟩⟩
  rw [del_upd ha ne]
  rw [upd_ne ne] at hd
  exact h d hd
theorem mk2 {H1 : Hp} {C : Addr} {f g : Str} {y z : V} {Q : XK} (h : ∀ d, H1 d = none → Q (.ref C) (some d) (upd H1 d (.xd [(g, z), (f, y)]))) : ∀ a, H1 a = none → spI2 C f g (.ref a :: ([y, z] ++ [])) (upd H1 a (exo a C none))
    (fun v H2 => v = .non ∧ ∃ (d : Addr) (fs : List (Str × V)), H2 a = some (exo a C (some d)) ∧ H2 d = some (exd d fs) ∧ H1 d = none ∧ Q (.ref C) (some d) (upd (del H2 a) d (.xd fs))) (fun _ _ _ => False) := by
  intro a ha
  refine ⟨a, y, z, rfl, upd_same, fun d hd ne => ⟨rfl, d, [(g, z), (f, y)], by rw [upd_ne (Ne.symm ne)]; exact upd_same, upd_same, by rw [upd_ne ne] at hd; exact hd, ?_⟩⟩
  rw [del_upd2 ha ne]
  rw [upd_ne ne] at hd
  exact h d hd
theorem takesN0 {X : Cx} : L2N.Takes X (fun _ _ _ _ => False) := fun _ _ x => by
  obtain ⟨_, _, _, _, _, _, _, _, _, _, _, _, _, _, _, _, z⟩ := x
  exact z.elim
theorem passAt0 {X : Cx} {σ : L2.St} : PassesAt CX0 X σ E0 := fun _ _ _ _ _ _ h => h.elim
/-- a def called in an except suite -/
theorem okH {CX : CXT} {P : Program} {w : World} {K : PySem.W.Frag} {mg : Str → Option Value} {base : Heap} {x qual : Str} {params : Arguments} {body : List Stmt} {scope : Scope} {dvs : List V} {kws : List (Str × V)} {f : Addr} {fd : FuncData} {N ps : List Str} {k : Nat} {sp : Sp}
    (F : FunD K x qual params body scope dvs kws f fd) (S : FnScope N ps scope) (len : ∀ vs H Q E, sp vs H Q E → vs.length = ps.length)
    (hbody : ∀ (cdv : Value) (A : Around) (outer : List Env) (s : Shared) (H : Hp) (vs : List V) (Q : VK) (E : XK) (p : Addr × Obj), L2H.HotC (L2H.cxH CX P w K mg base N qual scope f cdv A outer s H E p) → L2H.RoomH k (A.deeper (envOfC qual scope s.heap.objs.size f cdv)) → sp vs H Q E →
      ∃ t, PSs (L2H.cxH CX P w K mg base N qual scope f cdv A outer s H E p) body t ∧ t { nx := fun _ H' => Q .non H', rt := Q } (start N vs) H) : L2H.FnH P w K mg base CX (k + 1) f fd ps sp := by
  obtain ⟨oc, od, dV, kV, doc, pm, an, cdv, ct, osl, rfl, lk, hcd, _, _⟩ := F.ex
  exact L2H.fn_ofH lk hcd S len fun A outer s H vs Q E p hot hr hsp => hbody cdv A outer s H vs Q E p ⟨p, ⟨hot.1, hot.2⟩, List.mem_singleton.mpr rfl⟩ hr hsp
end LP

set_option Elab.async false
set_option linter.all false
set_option maxRecDepth 100000
set_option maxHeartbeats 4000000
namespace LP
open PySem PySem.Spec PyProof.Rows L2
/-! ### defs that want a token -/
theorem PSsT.nox {X : Cx} {st : List Stmt} {t : TS} (h : PSsT X.nox st t) : PSsT X st t := fun pins s σ H D h0 I hw =>
  wpAny_mono (h pins s σ H D h0 (I.wish _) hw) (fun _ _ q => q.unwish) fun _ _ z => False.elim z
theorem okT {CX : CXT} {P : Program} {w : World} {K : PySem.W.Frag} {mg : Str → Option Value} {base : Heap} {x qual : Str} {params : Arguments} {body : List Stmt} {scope : Scope} {dvs : List V} {kws : List (Str × V)} {f : Addr} {fd : FuncData} {N ps : List Str} {k : Nat} {sp : Sp}
    (F : FunD K x qual params body scope dvs kws f fd) (S : FnScope N ps scope) (hnc : ∀ y ∈ scope.names, y.2 ≠ .cell) (hps : 1 ≤ ps.length) (len : ∀ vs H Q E, sp vs H Q E → vs.length = ps.length)
    (hbody : ∀ (cdv : Value) (A : Around) (outer : List Env) (s : Shared) (H : Hp) (vs : List V) (Q : VK) (E : XK), Room k (A.deeper (envOfC qual scope s.heap.objs.size f cdv)) → sp vs H Q E →
      ∃ t, PSsT (cxOf CX P w K mg base N qual scope f cdv A outer s H E) body t ∧ t { nx := fun _ H' => Q .non H', rt := Q } (start N vs) H) : FnOk P w K mg base CX (k + 1) f fd ps sp := by
  obtain ⟨oc, od, dV, kV, doc, pm, an, cdv, ct, osl, rfl, lk, hcd, _, _⟩ := F.ex
  exact fn_ofT lk hcd S hnc hps len fun A outer s H vs Q E hr hsp => hbody cdv A outer s H vs Q E hr hsp
end LP
namespace LX
open PySem L2 LP
/-! ### texts near the modes -/
theorem mode_all {P : Str → Int → Prop} (h : ∀ m ∈ modesL, ∀ i ∈ List.range 13, i < m.length → P m (i : Int)) {m : Str} (hm : m ∈ modesL) {i : Int} (h0 : 0 ≤ i) (h1 : i < (m.length : Int)) : P m i := by
  obtain ⟨n, rfl⟩ := Int.eq_ofNat_of_zero_le h0
  have hl : ∀ m ∈ modesL, m.length ≤ 12 := by decide +kernel
  have := hl m hm
  exact h m hm n (List.mem_range.mpr (by omega)) (by omega)
theorem mode_len {m : Str} (hm : m ∈ modesL) : 0 < m.length ∧ m.length ≤ 12 := by
  have hl : ∀ m ∈ modesL, 0 < m.length ∧ m.length ≤ 12 := by decide +kernel
  exact hl m hm
theorem mode_len1 {m : Str} (hm : m ∈ modesL) : m.length ≤ sizeLine := Nat.le_trans (mode_len hm).2 (by decide)
theorem mode_many {m : Str} (hm : m ∈ modesL) : 0 < (m.length : Int) := by have := mode_len hm; omega
theorem mode_many2 {m : Str} (hm : m ∈ modesL) : (m.length : Int) < 2 ^ 200 := by have := mode_len hm; omega
theorem cut_le {m : Str} (hm : m ∈ modesL) (lo hi : Option Int) : (cutS m lo hi).length ≤ 12 := Nat.le_trans (cutS_length _ _ _) (mode_len hm).2
theorem upc_le {m : Str} (hm : m ∈ modesL) {i : Int} (h0 : 0 ≤ i) (h1 : i < (m.length : Int)) : (Txt.upper (cutS m (some i) (some (i + 1)))).length ≤ 12 :=
  mode_all (P := fun m i => (Txt.upper (cutS m (some i) (some (i + 1)))).length ≤ 12) (by decide +kernel) hm h0 h1
theorem upr_le {m : Str} (hm : m ∈ modesL) {i : Int} (h0 : 0 ≤ i) (h1 : i < (m.length : Int)) : (Txt.replace (Txt.upper (cutS m (some i) (some (i + 1)))) "-" "_").length ≤ 12 :=
  mode_all (P := fun m i => (Txt.replace (Txt.upper (cutS m (some i) (some (i + 1)))) "-" "_").length ≤ 12) (by decide +kernel) hm h0 h1
theorem app_le {a b : Str} {n k : Nat} (ha : a.length ≤ n) (hb : b.length ≤ k) : (a ++ b).length ≤ n + k := by
  have : (a ++ b).length = a.length + b.length := by show (a.cps ++ b.cps).size = _; rw [Array.size_append]; rfl
  omega
theorem len2 {a b : Str} (ha : a.length ≤ 30) (hb : b.length ≤ 30) : a.length + b.length ≤ sizeLine := Nat.le_trans (Nat.add_le_add ha hb) (by decide)
theorem repl_b {a : Str} (ha : a.length ≤ 30) : a.length + (a.length + 1) * ("_" : Str).length ≤ 16777216 := by
  show a.length + (a.length + 1) * 1 ≤ 16777216
  omega
theorem odd0 {m : Str} (hm : m ∈ modesL) {i : Int} (h0 : 0 ≤ i) (h1 : i < (m.length : Int)) : ¬ cutS m none (some i) ∈ modesL :=
  mode_all (P := fun m i => ¬ cutS m none (some i) ∈ modesL) (by decide +kernel) hm h0 h1
theorem odd1 {m : Str} (hm : m ∈ modesL) {i : Int} (h0 : 0 ≤ i) (h1 : i < (m.length : Int)) : ¬ (cutS m none (some i) ++ cutS m (some (i + 1)) none) ∈ modesL :=
  mode_all (P := fun m i => ¬ (cutS m none (some i) ++ cutS m (some (i + 1)) none) ∈ modesL) (by decide +kernel) hm h0 h1
theorem odd2 {m : Str} (hm : m ∈ modesL) {i : Int} (h0 : 0 ≤ i) (h1 : i < (m.length : Int)) : ¬ (cutS m none (some i) ++ Txt.replace (Txt.upper (cutS m (some i) (some (i + 1)))) "-" "_" ++ cutS m (some (i + 1)) none) ∈ modesL :=
  mode_all (P := fun m i => ¬ (cutS m none (some i) ++ Txt.replace (Txt.upper (cutS m (some i) (some (i + 1)))) "-" "_" ++ cutS m (some (i + 1)) none) ∈ modesL) (by decide +kernel) hm h0 h1
theorem odd3 {m : Str} (hm : m ∈ modesL) : ¬ (m ++ (" " : Str)) ∈ modesL := by
  have hl : ∀ m ∈ modesL, ¬ (m ++ (" " : Str)) ∈ modesL := by decide +kernel
  exact hl m hm
theorem odd4 {m : Str} (hm : m ∈ modesL) : ¬ ((" " : Str) ++ m) ∈ modesL := by
  have hl : ∀ m ∈ modesL, ¬ ((" " : Str) ++ m) ∈ modesL := by decide +kernel
  exact hl m hm
theorem odd5 {m : Str} (hm : m ∈ modesL) {i : Int} (h0 : 0 ≤ i) (h1 : i < (m.length : Int)) : ¬ (cutS m none (some (i + 1)) ++ cutS m (some i) none) ∈ modesL :=
  mode_all (P := fun m i => ¬ (cutS m none (some (i + 1)) ++ cutS m (some i) none) ∈ modesL) (by decide +kernel) hm h0 h1
def wordsL : List Str := ["nearest", "even", "up", "down", "in", "out", "near", "none"]
theorem odd6 {m : Str} (hm : m ∈ wordsL) : ¬ m ∈ modesL := by
  have hl : ∀ m ∈ wordsL, ¬ m ∈ modesL := by decide +kernel
  exact hl m hm
/-! ### what rounding chose -/
def chosenF (n d : Int) (m : Str) (res : Int) : Bool :=
  if d ≤ (if res * d - n < 0 then -(res * d - n) else res * d - n) then false
  else if res * d - n = 0 then true
  else if m = "inward" ∨ m = "outward" then decide (0 < (res * d - n) * n) == decide (m = "outward")
  else if m = "upward" ∨ m = "downward" then decide (0 < res * d - n) == decide (m = "upward")
  else if ¬ 2 * (if res * d - n < 0 then -(res * d - n) else res * d - n) = d then decide (2 * (if res * d - n < 0 then -(res * d - n) else res * d - n) < d)
  else if m = "nearest-even" then decide (res % 2 = 0)
  else if m = "nearest-out" ∨ m = "nearest-in" then decide (0 < (res * d - n) * n) == decide (m = "nearest-out")
  else decide (0 < res * d - n) == decide (m = "nearest-up")
theorem pos_mul {x n q : Int} {d : Int} (hd : 0 < d) (h : (0 < x ∧ 0 ≤ q ∧ 0 < n) ∨ (0 < x ∧ q < 0 ∧ n < 0) ∨ (x < 0 ∧ 0 ≤ q ∧ 0 < n) ∨ (x < 0 ∧ q < 0 ∧ n < 0)) : (0 < x * n) = (0 < x ↔ 0 ≤ q) := by
  rcases h with ⟨h1, h2, h3⟩ | ⟨h1, h2, h3⟩ | ⟨h1, h2, h3⟩ | ⟨h1, h2, h3⟩
  · have := Int.mul_pos h1 h3
    simp [this, h1, h2]
  · have := Int.mul_neg_of_pos_of_neg h1 h3
    have : ¬ 0 < x * n := by omega
    simp [this, h1]; omega
  · have := Int.mul_neg_of_neg_of_pos h1 h3
    have : ¬ 0 < x * n := by omega
    simp [this, h2]; omega
  · have := Int.mul_pos_of_neg_of_neg h1 h3
    simp [this]; omega
theorem rq_chosen {n d : Int} {m : Str} (hm : m ∈ modesL) (hd : 0 < d) : chosenF n d m (rq n d m) = true := by
  rw [rq_eq hm hd]
  have h1 := Int.emod_nonneg n (show d ≠ 0 by omega)
  have h2 := Int.emod_lt_of_pos n hd
  have e := Int.mul_ediv_add_emod n d
  have ec : d * (n / d) = n / d * d := Int.mul_comm _ _
  by_cases hr : n % d = 0
  · rw [if_pos hr]
    have z : n / d * d - n = 0 := by omega
    unfold chosenF
    rw [z]
    simp; omega
  · rw [if_neg hr]
    have hs : (0 ≤ n / d ∧ 0 < n) ∨ (n / d < 0 ∧ n < 0) := by
      by_cases h : 0 ≤ n / d
      · have : 0 ≤ d * (n / d) := Int.mul_nonneg (by omega) h
        exact .inl ⟨h, by omega⟩
      · have h3 : d * (n / d) ≤ d * (-1) := Int.mul_le_mul_of_nonneg_left (by omega) (by omega)
        exact .inr ⟨by omega, by omega⟩
    have off : ∀ u : Bool, (if u then n / d + 1 else n / d) * d - n = if u then d - n % d else -(n % d) := by
      intro u
      cases u
      · show n / d * d - n = _
        simp; omega
      · show (n / d + 1) * d - n = _
        rw [Int.add_mul]
        simp; omega
    unfold chosenF
    simp only [off]
    have pm : ∀ u : Bool, (0 < (if u then d - n % d else -(n % d)) * n) = (0 < (if u then d - n % d else -(n % d)) ↔ 0 ≤ n / d) := by
      intro u
      refine pos_mul hd ?_
      cases u
      · simp; omega
      · simp; omega
    simp only [pm]
    clear off pm ec e hs
    generalize n / d = q at *
    generalize n % d = r at *
    rcases mode_cases hm with h | h | h | h | h | h | h | h | h <;> subst h <;> simp +decide [upM]
    all_goals (repeat' split)
    all_goals (try (first | omega | (simp_all; done)))
theorem sz_zero {k : Nat} : Sz k 0 := Nat.pos_of_ne_zero (by simp)
theorem sz_neg0 {n : Int} {k l : Nat} (h : Sz k n) (hl : k ≤ l) : Sz l (0 - n) := by
  refine Sz.mono (n := k) ?_ hl
  unfold Sz at *
  omega
theorem rq_sz {n d : Int} {m : Str} {k : Nat} (hm : m ∈ modesL) (hd : 0 < d) (h : Sz k n) : Sz (k + 1) (rq n d m) := by
  obtain ⟨b1, b2⟩ := rq_bounds (n := n) (d := d) (m := m)
  unfold Sz at *
  have hp : (2 : Nat) ^ (k + 1) = 2 ^ k + 2 ^ k := by rw [Nat.pow_succ]; omega
  have h1 : n / d ≤ (if 0 ≤ n then n else 0) ∧ (if 0 ≤ n then 0 else n) ≤ n / d := by
    by_cases h0 : 0 ≤ n
    · rw [if_pos h0, if_pos h0]
      exact ⟨Int.ediv_le_self _ h0, Int.ediv_nonneg h0 (by omega)⟩
    · rw [if_neg h0, if_neg h0]
      refine ⟨?_, ?_⟩
      · exact Int.ediv_le_of_le_mul (by omega) (by omega)
      · exact (Int.le_ediv_iff_mul_le hd).mpr (by
          have : n * d ≤ n * 1 := Int.mul_le_mul_of_nonpos_left (by omega) (by omega)
          omega)
  split at b2 <;> split at h1 <;> omega
end LX

set_option Elab.async false
set_option linter.all false
set_option maxRecDepth 100000
set_option maxHeartbeats 4000000
namespace LX
open PySem PySem.Spec PyProof.Rows L2 LP
open NdefX (NScope nscope_by)

def top (i : Nat) : Stmt := PySem.Challenge.pw_lostpart_k07_round_quotient.main.body.getD i (.Pass ⟨0, 0, 0, 0⟩)
abbrev s_law_source : Stmt := top 12
def a_law_source (K : PySem.W.Frag) : Addr := He.ga K "_law_source"
abbrev s_law_draw : Stmt := top 13
def a_law_draw (K : PySem.W.Frag) : Addr := He.ga K "_law_draw"
abbrev s_goes_up : Stmt := top 8
def a_goes_up (K : PySem.W.Frag) : Addr := He.ga K "goes_up"
abbrev s_tie_goes_up : Stmt := top 9
def a_tie_goes_up (K : PySem.W.Frag) : Addr := He.ga K "tie_goes_up"
abbrev s_round_quotient : Stmt := top 10
def a_round_quotient (K : PySem.W.Frag) : Addr := He.ga K "round_quotient"
abbrev s_check_mode : Stmt := top 7
def a_check_mode (K : PySem.W.Frag) : Addr := He.ga K "check_mode"
abbrev s_law_modes : Stmt := top 14
def a_law_modes (K : PySem.W.Frag) : Addr := He.ga K "_law_modes"
abbrev s_law_power : Stmt := top 16
def a_law_power (K : PySem.W.Frag) : Addr := He.ga K "_law_power"
abbrev s_law_big : Stmt := top 18
def a_law_big (K : PySem.W.Frag) : Addr := He.ga K "_law_big"
abbrev s_law_equal : Stmt := top 17
def a_law_equal (K : PySem.W.Frag) : Addr := He.ga K "_law_equal"
abbrev s_law_divisor : Stmt := top 19
def a_law_divisor (K : PySem.W.Frag) : Addr := He.ga K "_law_divisor"
abbrev s_law_numerator : Stmt := top 20
def a_law_numerator (K : PySem.W.Frag) : Addr := He.ga K "_law_numerator"
abbrev s_law_mode : Stmt := top 15
def a_law_mode (K : PySem.W.Frag) : Addr := He.ga K "_law_mode"
abbrev s_law_odd_mode : Stmt := top 21
def a_law_odd_mode (K : PySem.W.Frag) : Addr := He.ga K "_law_odd_mode"
abbrev s_law_chosen : Stmt := top 22
def a_law_chosen (K : PySem.W.Frag) : Addr := He.ga K "_law_chosen"
abbrev s_law_refused : Stmt := top 23
def a_law_refused (K : PySem.W.Frag) : Addr := He.ga K "_law_refused"
abbrev s_law : Stmt := top 24
def a_law (K : PySem.W.Frag) : Addr := He.ga K "law"
abbrev s_BadMode_init : Stmt := inClass (top 3) 0
def a_BadMode_init (K : PySem.W.Frag) : Addr := He.ma K (He.ga K "BadMode") "__init__"
structure Txt (P : Program) (K : PySem.W.Frag) (mg : Str → Option Value) (w : World) : Prop where
  f_law_source : FunD K "_law_source" "_law_source" (defArgs s_law_source) (defBody s_law_source) (defScope s_law_source) [] [] (a_law_source K) (fdOf K (a_law_source K))
  g_law_source : mg "_law_source" = some (.ref (a_law_source K))
  f_law_draw : FunD K "_law_draw" "_law_draw" (defArgs s_law_draw) (defBody s_law_draw) (defScope s_law_draw) [] [] (a_law_draw K) (fdOf K (a_law_draw K))
  g_law_draw : mg "_law_draw" = some (.ref (a_law_draw K))
  f_goes_up : FunD K "goes_up" "goes_up" (defArgs s_goes_up) (defBody s_goes_up) (defScope s_goes_up) [] [] (a_goes_up K) (fdOf K (a_goes_up K))
  g_goes_up : mg "goes_up" = some (.ref (a_goes_up K))
  f_tie_goes_up : FunD K "tie_goes_up" "tie_goes_up" (defArgs s_tie_goes_up) (defBody s_tie_goes_up) (defScope s_tie_goes_up) [] [] (a_tie_goes_up K) (fdOf K (a_tie_goes_up K))
  g_tie_goes_up : mg "tie_goes_up" = some (.ref (a_tie_goes_up K))
  f_round_quotient : FunD K "round_quotient" "round_quotient" (defArgs s_round_quotient) (defBody s_round_quotient) (defScope s_round_quotient) [] [] (a_round_quotient K) (fdOf K (a_round_quotient K))
  g_round_quotient : mg "round_quotient" = some (.ref (a_round_quotient K))
  f_check_mode : FunD K "check_mode" "check_mode" (defArgs s_check_mode) (defBody s_check_mode) (defScope s_check_mode) [] [] (a_check_mode K) (fdOf K (a_check_mode K))
  g_check_mode : mg "check_mode" = some (.ref (a_check_mode K))
  f_law_modes : FunD K "_law_modes" "_law_modes" (defArgs s_law_modes) (defBody s_law_modes) (defScope s_law_modes) [] [] (a_law_modes K) (fdOf K (a_law_modes K))
  g_law_modes : mg "_law_modes" = some (.ref (a_law_modes K))
  f_law_power : FunD K "_law_power" "_law_power" (defArgs s_law_power) (defBody s_law_power) (defScope s_law_power) [] [] (a_law_power K) (fdOf K (a_law_power K))
  g_law_power : mg "_law_power" = some (.ref (a_law_power K))
  f_law_big : FunD K "_law_big" "_law_big" (defArgs s_law_big) (defBody s_law_big) (defScope s_law_big) [] [] (a_law_big K) (fdOf K (a_law_big K))
  g_law_big : mg "_law_big" = some (.ref (a_law_big K))
  f_law_equal : FunD K "_law_equal" "_law_equal" (defArgs s_law_equal) (defBody s_law_equal) (defScope s_law_equal) [] [] (a_law_equal K) (fdOf K (a_law_equal K))
  g_law_equal : mg "_law_equal" = some (.ref (a_law_equal K))
  f_law_divisor : FunD K "_law_divisor" "_law_divisor" (defArgs s_law_divisor) (defBody s_law_divisor) (defScope s_law_divisor) [] [] (a_law_divisor K) (fdOf K (a_law_divisor K))
  g_law_divisor : mg "_law_divisor" = some (.ref (a_law_divisor K))
  f_law_numerator : FunD K "_law_numerator" "_law_numerator" (defArgs s_law_numerator) (defBody s_law_numerator) (defScope s_law_numerator) [] [] (a_law_numerator K) (fdOf K (a_law_numerator K))
  g_law_numerator : mg "_law_numerator" = some (.ref (a_law_numerator K))
  f_law_mode : FunD K "_law_mode" "_law_mode" (defArgs s_law_mode) (defBody s_law_mode) (defScope s_law_mode) [] [] (a_law_mode K) (fdOf K (a_law_mode K))
  g_law_mode : mg "_law_mode" = some (.ref (a_law_mode K))
  f_law_odd_mode : FunD K "_law_odd_mode" "_law_odd_mode" (defArgs s_law_odd_mode) (defBody s_law_odd_mode) (defScope s_law_odd_mode) [] [] (a_law_odd_mode K) (fdOf K (a_law_odd_mode K))
  g_law_odd_mode : mg "_law_odd_mode" = some (.ref (a_law_odd_mode K))
  f_law_chosen : FunD K "_law_chosen" "_law_chosen" (defArgs s_law_chosen) (defBody s_law_chosen) (defScope s_law_chosen) [] [] (a_law_chosen K) (fdOf K (a_law_chosen K))
  g_law_chosen : mg "_law_chosen" = some (.ref (a_law_chosen K))
  f_law_refused : FunD K "_law_refused" "_law_refused" (defArgs s_law_refused) (defBody s_law_refused) (defScope s_law_refused) [] [] (a_law_refused K) (fdOf K (a_law_refused K))
  g_law_refused : mg "_law_refused" = some (.ref (a_law_refused K))
  f_law : FunD K "law" "law" (defArgs s_law) (defBody s_law) (defScope s_law) [] [] (a_law K) (fdOf K (a_law K))
  g_law : mg "law" = some (.ref (a_law K))
  n_ValueError : mg "ValueError" = none
  n_abs : mg "abs" = none
  n_bool : mg "bool" = none
  n_divmod : mg "divmod" = none
  n_int : mg "int" = none
  n_isinstance : mg "isinstance" = none
  n_len : mg "len" = none
  n_range : mg "range" = none
  n_str : mg "str" = none
  g_MODES : mg "MODES" = some (.ref (He.ga K "MODES"))
  t_MODES : ∀ H, SqT K H (He.ga K "MODES") (modesL.map V.str)
  g_NEAREST : mg "NEAREST" = some (.ref (He.ga K "NEAREST"))
  t_NEAREST : ∀ H, SqT K H (He.ga K "NEAREST") (nearL.map V.str)
  g_BadMode : mg "BadMode" = some (.ref (He.ga K "BadMode"))
  c_BadMode : ExcC K (He.ga K "BadMode")
  no_BadMode_mode : PySem.W.findIn K (.ref (He.ga K "BadMode")) "mode" = some none
  g_LostError : mg "LostError" = some (.ref (He.ga K "LostError"))
  c_LostError : ExcC K (He.ga K "LostError")
  xm_BadMode_LostError : PySem.W.exmOne K (.ref (He.ga K "BadMode")) (.ref (He.ga K "LostError")) = some true
  ki_BadMode_BadMode : PySem.W.kitOne K (.ref (He.ga K "BadMode")) (.ref (He.ga K "BadMode")) = some true
  ki_BadMode_ValueError : PySem.W.kitOne K (.ref (He.ga K "BadMode")) (.type "ValueError") = some true
  g_BadBase : mg "BadBase" = some (.ref (He.ga K "BadBase"))
  ki_BadMode_BadBase : PySem.W.kitOne K (.ref (He.ga K "BadMode")) (.ref (He.ga K "BadBase")) = some false
  x_BadMode : Exi P K (He.ga K "BadMode") (a_BadMode_init K) "__init__" "BadMode.__init__" (defArgs s_BadMode_init) (defBody s_BadMode_init) (defScope s_BadMode_init)
section
variable {P : Program} {w : World} {K : PySem.W.Frag} {mg : Str → Option Value} {base : Heap}

theorem in_BadMode (T : Txt P K mg w) : FnOk P w K mg base CX0 1 (a_BadMode_init K) (fdOf K (a_BadMode_init K)) ["self", "mode"] (spI1 (He.ga K "BadMode") "mode") := ini1_of T.x_BadMode (nscope_by (by decide +kernel)) rfl (fun _ => rfl) (fun _ => rfl) rfl rfl rfl rfl rfl (by decide) (by decide) (by decide) (by decide) T.no_BadMode_mode
theorem bi_BadMode (T : Txt P K mg w) : Binds K (fdOf K (a_BadMode_init K)) ["self", "mode"] [] := T.x_BadMode.binds fun _ _ _ _ _ us hl => match us, hl with | [_, _], _ => rfl
end
def sp_goes_up (K : PySem.W.Frag) : Sp := fun vs H Q E => ∃ (mode : Str) (positive : Bool), vs = [.str mode, .bl positive] ∧ (∀ (r : Bool), r = goesUp mode positive → Q (.bl r) H)
section
variable {P : Program} {w : World} {K : PySem.W.Frag} {mg : Str → Option Value} {base : Heap}
theorem sc_goes_up : FnScope ["mode", "positive"] ["mode", "positive"] (defScope s_goes_up) := ⟨rfl, rfl, rfl, by decide +kernel, rfl, by decide +kernel, by decide +kernel⟩
theorem b_goes_up (T : Txt P K mg w) : Binds K (fdOf K (a_goes_up K)) ["mode", "positive"] [] := T.f_goes_up.bindsN fun _ _ _ _ _ _ us hl => match us, hl with | [_, _], _ => rfl
theorem ok_goes_up (T : Txt P K mg w) : FnOk P w K mg base CX0 1 (a_goes_up K) (fdOf K (a_goes_up K)) ["mode", "positive"] (sp_goes_up K) := by
  refine T.f_goes_up.ok sc_goes_up (fun vs H Q E h => ?_) (fun cdv A outer s H vs Q E hr h => ?_)
  · obtain ⟨_, _, rfl, _⟩ := h
    rfl
  · obtain ⟨mode, positive, rfl, k⟩ := h
    refine ⟨_, PSs.nox (pss_cons (ps_if (pt_cmpR op_eq (pv 0) (pe_str) (nomark _)) (pss_one (ps_ret (pe_not (pv 1)))) (pss_nil)) (pss_cons (ps_if (pt_cmpR op_eq (pv 0) (pe_str) (nomark _)) (pss_one (ps_ret (pv 1))) (pss_nil)) (pss_one (ps_ret (pe_cmpR op_eq (pv 0) (pe_str) (nomark _)))))), ?_⟩
    refine ⟨_, rfl, rfl, _, rfl, ?_⟩
    refine iEqS (fun h1 => ?_) (fun h1 => ?_)
    · refine ⟨_, rfl, _, rfl, ?_⟩
      exact k (!positive) (by simp +decide [goesUp, *])
    · refine ⟨_, rfl, rfl, _, rfl, ?_⟩
      refine iEqS (fun h2 => ?_) (fun h2 => ?_)
      · refine ⟨_, rfl, ?_⟩
        exact k positive (by simp +decide [goesUp, *])
      · refine ⟨_, rfl, rfl, ?_⟩
        exact k (decide ((V.str mode) = (V.str ("upward" : Str)))) (by simp +decide [goesUp, *])
end
def sp_tie_goes_up (K : PySem.W.Frag) : Sp := fun vs H Q E => ∃ (mode : Str) (low : Int) (positive : Bool), vs = [.str mode, .int low, .bl positive] ∧ (∀ (r : Bool), r = tieUp mode low positive → Q (.bl r) H)
section
variable {P : Program} {w : World} {K : PySem.W.Frag} {mg : Str → Option Value} {base : Heap}
theorem sc_tie_goes_up : FnScope ["mode", "low", "positive"] ["mode", "low", "positive"] (defScope s_tie_goes_up) := ⟨rfl, rfl, rfl, by decide +kernel, rfl, by decide +kernel, by decide +kernel⟩
theorem b_tie_goes_up (T : Txt P K mg w) : Binds K (fdOf K (a_tie_goes_up K)) ["mode", "low", "positive"] [] := T.f_tie_goes_up.bindsN fun _ _ _ _ _ _ us hl => match us, hl with | [_, _, _], _ => rfl
theorem ok_tie_goes_up (T : Txt P K mg w) : FnOk P w K mg base CX0 1 (a_tie_goes_up K) (fdOf K (a_tie_goes_up K)) ["mode", "low", "positive"] (sp_tie_goes_up K) := by
  refine T.f_tie_goes_up.ok sc_tie_goes_up (fun vs H Q E h => ?_) (fun cdv A outer s H vs Q E hr h => ?_)
  · obtain ⟨_, _, _, rfl, _⟩ := h
    rfl
  · obtain ⟨mode, low, positive, rfl, k⟩ := h
    refine ⟨_, PSs.nox (pss_cons (ps_if (pt_cmpR op_eq (pv 0) (pe_str) (nomark _)) (pss_one (ps_ret (pe_cmpR op_eq (pe_op op_mod (pe_callTy call_int1 (by rfl) T.n_int (by decide +kernel) (pa_cons (pv 1) (pa_nil))) (pe_int)) (pe_int) (nomark _)))) (pss_nil)) (pss_cons (ps_if (pt_cmpR op_eq (pv 0) (pe_str) (nomark _)) (pss_one (ps_ret (pv 2))) (pss_nil)) (pss_cons (ps_if (pt_cmpR op_eq (pv 0) (pe_str) (nomark _)) (pss_one (ps_ret (pe_not (pv 2)))) (pss_nil)) (pss_one (ps_ret (pe_cmpR op_eq (pv 0) (pe_str) (nomark _))))))), ?_⟩
    refine ⟨_, rfl, rfl, _, rfl, ?_⟩
    refine iEqS (fun h1 => ?_) (fun h1 => ?_)
    · refine ⟨_, rfl, .inl ⟨_, rfl, ?_⟩⟩
      refine ⟨_, _, rfl, rfl, (by show (0 : Int) < 2; omega), rfl, ?_⟩
      exact k (decide ((V.int (low % 2)) = (V.int 1))) (by simp +decide [tieUp, *])
    · refine ⟨_, rfl, rfl, _, rfl, ?_⟩
      refine iEqS (fun h2 => ?_) (fun h2 => ?_)
      · refine ⟨_, rfl, ?_⟩
        exact k positive (by simp +decide [tieUp, *])
      · refine ⟨_, rfl, rfl, _, rfl, ?_⟩
        refine iEqS (fun h3 => ?_) (fun h3 => ?_)
        · refine ⟨_, rfl, _, rfl, ?_⟩
          exact k (!positive) (by simp +decide [tieUp, *])
        · refine ⟨_, rfl, rfl, ?_⟩
          exact k (decide ((V.str mode) = (V.str ("nearest-up" : Str)))) (by simp +decide [tieUp, *])
end
def sp_check_mode (K : PySem.W.Frag) : Sp := fun vs H Q E => ∃ (mode : Str), vs = [.str mode] ∧ mode ∈ modesL ∧ Q (.non) H
section
variable {P : Program} {w : World} {K : PySem.W.Frag} {mg : Str → Option Value} {base : Heap}
theorem sc_check_mode : FnScope ["mode"] ["mode"] (defScope s_check_mode) := ⟨rfl, rfl, rfl, by decide +kernel, rfl, by decide +kernel, by decide +kernel⟩
theorem b_check_mode (T : Txt P K mg w) : Binds K (fdOf K (a_check_mode K)) ["mode"] [] := T.f_check_mode.bindsN fun _ _ _ _ _ _ us hl => match us, hl with | [_], _ => rfl
theorem ok_check_mode (T : Txt P K mg w) : FnOk P w K mg base CX0 1 (a_check_mode K) (fdOf K (a_check_mode K)) ["mode"] (sp_check_mode K) := by
  refine T.f_check_mode.ok sc_check_mode (fun vs H Q E h => ?_) (fun cdv A outer s H vs Q E hr h => ?_)
  · obtain ⟨_, rfl, _, _⟩ := h
    rfl
  · obtain ⟨mode, rfl, e1, k⟩ := h
    refine ⟨_, PSs.nox (pss_one (ps_if (pt_cmpR op_notIn_seq (pv 0) (pe_glob (v := .ref (He.ga K "MODES")) (by rfl) T.g_MODES rfl) (by rfl)) (pss_one (ps_never)) (pss_nil))), ?_⟩
    refine ⟨_, rfl, _, _, rfl, .inr (T.t_MODES _), rfl, rfl, _, rfl, ?_⟩
    refine iNInS (l := modesL) (fun h1 => (by exact absurd e1 h1)) (fun h1 => ?_)
    exact k
end
def sp_check_mode_bad (K : PySem.W.Frag) : Sp := fun vs H Q E => ∃ (I : Hp) (O : List (Addr × HO)) (mode : Str), vs = [.str mode] ∧ Wd I (O) H ∧ ¬ mode ∈ modesL ∧ (∀ (d : Addr) (H' : Hp), Wd I ((d, .xd [("mode", .str mode)]) :: O) H' → E (.ref (He.ga K "BadMode")) (some d) H')
section
variable {P : Program} {w : World} {K : PySem.W.Frag} {mg : Str → Option Value} {base : Heap}
theorem sc_check_mode_bad : FnScope ["mode"] ["mode"] (defScope s_check_mode) := ⟨rfl, rfl, rfl, by decide +kernel, rfl, by decide +kernel, by decide +kernel⟩
theorem b_check_mode_bad (T : Txt P K mg w) : Binds K (fdOf K (a_check_mode K)) ["mode"] [] := T.f_check_mode.bindsN fun _ _ _ _ _ _ us hl => match us, hl with | [_], _ => rfl
theorem ok_check_mode_bad (T : Txt P K mg w) : FnOk P w K mg base (L2N.CX P w) 3 (a_check_mode K) (fdOf K (a_check_mode K)) ["mode"] (sp_check_mode_bad K) := by
  refine T.f_check_mode.ok sc_check_mode_bad (fun vs H Q E h => ?_) (fun cdv A outer s H vs Q E hr h => ?_)
  · obtain ⟨_, _, _, rfl, _, _, _⟩ := h
    rfl
  · obtain ⟨I, O, mode, rfl, w, e1, kx0⟩ := h
    refine ⟨_, pss_one (ps_if (pt_cmpR op_notIn_seq (pv 0) (pe_glob (v := .ref (He.ga K "MODES")) (by rfl) T.g_MODES rfl) (by rfl)) (pss_one (L2N.ps_raise rfl (L2N.takes_of rfl rfl rfl rfl) (L2H.PMk5.pmk (pmk5_oex T.x_BadMode.I.T T.x_BadMode.iC T.x_BadMode.tI (in_BadMode T) (hr.mono (by decide)) (bi_BadMode T) pass0 (by rfl) T.g_BadMode (pa_cons (pv 0) (pa_nil)))))) (pss_nil)), ?_⟩
    refine ⟨_, rfl, _, _, rfl, .inr (T.t_MODES _), rfl, rfl, _, rfl, ?_⟩
    refine iNInS (l := modesL) (fun h1 => ?_) (fun h1 => (by exact absurd h1 e1))
    refine ⟨_, rfl, (by show 1 ≤ 1000; decide), mk1 fun d2 hd3 => ?_⟩
    have w4 := w.newO (o := .xd [("mode", (V.str mode))]) hd3
    exact kx0 _ _ w4
end
def sp_round_quotient (K : PySem.W.Frag) : Sp := fun vs H Q E => ∃ (I : Hp) (O : List (Addr × HO)) (numerator : Int) (divisor : Int) (mode : Str), vs = [.int numerator, .int divisor, .str mode] ∧ Wd I (O) H ∧ 0 < divisor ∧ Sz 8000 divisor ∧ mode ∈ modesL ∧ (∀ (r : Int) (I' : Hp) (H' : Hp), Same I I' → Wd I' (O) H' → r = rq numerator divisor mode → Q (.int r) H')
section
variable {P : Program} {w : World} {K : PySem.W.Frag} {mg : Str → Option Value} {base : Heap}
theorem sc_round_quotient : FnScope ["numerator", "divisor", "mode", "positive", "low", "rest", "up"] ["numerator", "divisor", "mode"] (defScope s_round_quotient) := ⟨rfl, rfl, rfl, by decide +kernel, rfl, by decide +kernel, by decide +kernel⟩
theorem b_round_quotient (T : Txt P K mg w) : Binds K (fdOf K (a_round_quotient K)) ["numerator", "divisor", "mode"] [] := T.f_round_quotient.bindsN fun _ _ _ _ _ _ us hl => match us, hl with | [_, _, _], _ => rfl
theorem ok_round_quotient (T : Txt P K mg w) : FnOk P w K mg base CX0 2 (a_round_quotient K) (fdOf K (a_round_quotient K)) ["numerator", "divisor", "mode"] (sp_round_quotient K) := by
  refine T.f_round_quotient.ok sc_round_quotient (fun vs H Q E h => ?_) (fun cdv A outer s H vs Q E hr h => ?_)
  · obtain ⟨_, _, _, _, _, rfl, _, _, _, _, _⟩ := h
    rfl
  · obtain ⟨I, O, numerator, divisor, mode, rfl, w, e1, e2, e3, k⟩ := h
    refine ⟨_, PSs.nox (pss_cons (ps_expr (pe_call (ok_check_mode T) (hr.mono (by decide)) (by rfl) T.g_check_mode T.f_check_mode.kp (b_check_mode T) .nil pass0 (pa_cons (pv 2) (pa_nil)))) (pss_cons (ps_asg (pe_callB call_divmodW (by rfl) T.n_divmod (by decide +kernel) (pa_cons (pv 0) (pa_cons (pv 1) (pa_nil)))) (pg_tup rfl (pgs_cons (pg_name (i := 4) sc_round_quotient.nd rfl (Or.inl rfl)) (pgs_cons (pg_name (i := 5) sc_round_quotient.nd rfl (Or.inl rfl)) (pgs_nil))))) (pss_cons (ps_if (pt_cmpR op_eq (pv 5) (pe_int) (nomark _)) (pss_one (ps_ret (pv 4))) (pss_nil)) (pss_cons (ps_set (i := 3) sc_round_quotient.nd rfl (Or.inl rfl) (pe_cmpR op_gt (pv 0) (pe_int) (nomark _))) (pss_cons (ps_if (pt_cmpR op_notIn_seq (pv 2) (pe_glob (v := .ref (He.ga K "NEAREST")) (by rfl) T.g_NEAREST rfl) (by rfl)) (pss_one (ps_set (i := 6) sc_round_quotient.nd rfl (Or.inl rfl) (pe_call (ok_goes_up T) (hr.mono (by decide)) (by rfl) T.g_goes_up T.f_goes_up.kp (b_goes_up T) .nil pass0 (pa_cons (pv 2) (pa_cons (pv 3) (pa_nil)))))) (pss_one (ps_if (pt_cmpR op_eq (pe_op op_mul (pe_int) (pv 5)) (pv 1) (nomark _)) (pss_one (ps_set (i := 6) sc_round_quotient.nd rfl (Or.inl rfl) (pe_call (ok_tie_goes_up T) (hr.mono (by decide)) (by rfl) T.g_tie_goes_up T.f_tie_goes_up.kp (b_tie_goes_up T) .nil pass0 (pa_cons (pv 2) (pa_cons (pv 4) (pa_cons (pv 3) (pa_nil))))))) (pss_one (ps_set (i := 6) sc_round_quotient.nd rfl (Or.inl rfl) (pe_cmpR op_gt (pe_op op_mul (pe_int) (pv 5)) (pv 1) (nomark _))))))) (pss_cons (ps_if (pt_val (pv 6)) (pss_one (ps_ret (pe_op op_add (pv 4) (pe_int)))) (pss_nil)) (pss_one (ps_ret (pv 4))))))))), ?_⟩
    refine ⟨_, rfl, mode, rfl, (by assumption), ?_⟩
    refine ⟨_, rfl, _, rfl, _, _, rfl, (Sz.cdivP (by assumption) (by assumption)), fun p2 hp3 => ?_⟩
    have s4 := w.newS (o := .tup [(V.int (numerator / divisor)), (V.int (numerator % divisor))]) hp3
    have w5 := w.new (o := .tup [(V.int (numerator / divisor)), (V.int (numerator % divisor))]) hp3
    refine ⟨_, _, rfl, (SqT.of (w5.get upd_same)), rfl, _, _, rfl, _, _, rfl, rfl, _, rfl, rfl, _, rfl, ?_⟩
    refine iEqI (fun h6 => ?_) (fun h6 => ?_)
    · refine ⟨_, rfl, ?_⟩
      exact k (numerator / divisor) _ _ (s4) w5 (by subst_vars; simp +decide [rq, rqUp, *])
    · refine ⟨_, rfl, _, _, rfl, rfl, _, rfl, _, _, rfl, .inr (T.t_NEAREST _), rfl, rfl, _, rfl, ?_⟩
      refine iNInS (l := nearL) (fun h7 => ?_) (fun h7 => ?_)
      · refine ⟨_, rfl, _, rfl, mode, (decide (0 < numerator)), rfl, fun r8 q9 => ?_⟩
        subst q9
        refine ⟨_, rfl, _, rfl, ?_⟩
        refine iB (fun h10 => ?_) (fun h10 => ?_)
        · refine ⟨_, rfl, _, _, rfl, rfl, ?_⟩
          exact k ((numerator / divisor) + 1) _ _ (s4) w5 (by subst_vars; simp +decide [rq, rqUp, *])
        · refine ⟨_, rfl, ?_⟩
          exact k (numerator / divisor) _ _ (s4) w5 (by subst_vars; simp +decide [rq, rqUp, *])
      · refine ⟨_, rfl, _, _, rfl, rfl, .inl ⟨by decide, by decide⟩, _, rfl, rfl, _, rfl, ?_⟩
        refine iEqI (fun h11 => ?_) (fun h11 => ?_)
        · refine ⟨_, rfl, _, rfl, _, rfl, mode, (numerator / divisor), (decide (0 < numerator)), rfl, fun r12 q13 => ?_⟩
          subst q13
          refine ⟨_, rfl, _, rfl, ?_⟩
          refine iB (fun h14 => ?_) (fun h14 => ?_)
          · refine ⟨_, rfl, _, _, rfl, rfl, ?_⟩
            exact k ((numerator / divisor) + 1) _ _ (s4) w5 (by subst_vars; simp +decide [rq, rqUp, *])
          · refine ⟨_, rfl, ?_⟩
            exact k (numerator / divisor) _ _ (s4) w5 (by subst_vars; simp +decide [rq, rqUp, *])
        · refine ⟨_, rfl, _, _, rfl, rfl, .inl ⟨by decide, by decide⟩, _, rfl, _, _, rfl, rfl, _, rfl, _, rfl, ?_⟩
          refine iD (fun h15 => ?_) (fun h15 => ?_)
          · refine ⟨_, rfl, _, _, rfl, rfl, ?_⟩
            exact k ((numerator / divisor) + 1) _ _ (s4) w5 (by subst_vars; simp +decide [rq, rqUp, *])
          · refine ⟨_, rfl, ?_⟩
            exact k (numerator / divisor) _ _ (s4) w5 (by subst_vars; simp +decide [rq, rqUp, *])
end
def sp_round_quotient_bad (K : PySem.W.Frag) : Sp := fun vs H Q E => ∃ (I : Hp) (O : List (Addr × HO)) (numerator : Int) (divisor : Int) (mode : Str), vs = [.int numerator, .int divisor, .str mode] ∧ Wd I (O) H ∧ ¬ mode ∈ modesL ∧ (∀ (d : Addr) (H' : Hp), Wd I ((d, .xd [("mode", .str mode)]) :: O) H' → E (.ref (He.ga K "BadMode")) (some d) H')
section
variable {P : Program} {w : World} {K : PySem.W.Frag} {mg : Str → Option Value} {base : Heap}
theorem sc_round_quotient_bad : FnScope ["numerator", "divisor", "mode", "positive", "low", "rest", "up"] ["numerator", "divisor", "mode"] (defScope s_round_quotient) := ⟨rfl, rfl, rfl, by decide +kernel, rfl, by decide +kernel, by decide +kernel⟩
theorem b_round_quotient_bad (T : Txt P K mg w) : Binds K (fdOf K (a_round_quotient K)) ["numerator", "divisor", "mode"] [] := T.f_round_quotient.bindsN fun _ _ _ _ _ _ us hl => match us, hl with | [_, _, _], _ => rfl
theorem ok_round_quotient_bad (T : Txt P K mg w) : FnOk P w K mg base (L2N.CX P w) 4 (a_round_quotient K) (fdOf K (a_round_quotient K)) ["numerator", "divisor", "mode"] (sp_round_quotient_bad K) := by
  refine T.f_round_quotient.ok sc_round_quotient_bad (fun vs H Q E h => ?_) (fun cdv A outer s H vs Q E hr h => ?_)
  · obtain ⟨_, _, _, _, _, rfl, _, _, _⟩ := h
    rfl
  · obtain ⟨I, O, numerator, divisor, mode, rfl, w, e1, kx0⟩ := h
    refine ⟨_, pss_cons (ps_expr (pe_callS (ok_check_mode_bad T) (hr.mono (by decide)) (by rfl) T.g_check_mode T.f_check_mode.kp (b_check_mode_bad T) (fun σ => L2N.passAt (L2N.takes_of rfl rfl rfl rfl) σ) (pa_cons (pv 2) (pa_nil)))) (pss_cons (ps_never) (pss_cons (ps_never) (pss_cons (ps_never) (pss_cons (ps_never) (pss_cons (ps_never) (pss_one (ps_never))))))), ?_⟩
    refine ⟨_, rfl, I, (O), mode, rfl, w, (by first | assumption | omega), fun d2 H3 w4 => ?_⟩
    exact kx0 _ _ w4
end
def sp_law_source (K : PySem.W.Frag) : Sp := fun vs H Q E => ∃ (I : Hp) (O : List (Addr × HO)) (script : Addr) (script_l : List Int), vs = [.ref script] ∧ Wd I (O) H ∧ SqL K I script (script_l.map V.int) ∧ script_l.length ≤ 63 ∧ (∀ (r : Addr) (r_s : List V) (I' : Hp) (H' : Hp), Same I I' → Wd I' ((r, .lst r_s) :: O) H' → SrcOk I' r_s → Q (.ref r) H')
section
variable {P : Program} {w : World} {K : PySem.W.Frag} {mg : Str → Option Value} {base : Heap}
theorem sc_law_source : FnScope ["script", "cell"] ["script"] (defScope s_law_source) := ⟨rfl, rfl, rfl, by decide +kernel, rfl, by decide +kernel, by decide +kernel⟩
theorem b_law_source (T : Txt P K mg w) : Binds K (fdOf K (a_law_source K)) ["script"] [] := T.f_law_source.bindsN fun _ _ _ _ _ _ us hl => match us, hl with | [_], _ => rfl
theorem ok_law_source (T : Txt P K mg w) : FnOk P w K mg base CX0 1 (a_law_source K) (fdOf K (a_law_source K)) ["script"] (sp_law_source K) := by
  refine T.f_law_source.ok sc_law_source (fun vs H Q E h => ?_) (fun cdv A outer s H vs Q E hr h => ?_)
  · obtain ⟨_, _, _, _, rfl, _, _, _, _⟩ := h
    rfl
  · obtain ⟨I, O, script, script_l, rfl, w, f_script, f_script1, k⟩ := h
    refine ⟨_, PSs.nox (pss_one (ps_ret (pe_lst (pa_cons (pe_int) (pa_cons (pe_int) (pa_cons (pe_int) (pa_cons (pe_int) (pa_cons (pe_lc (own := [("cell", 1)]) (g := gName 1) (tt := tYes) (by rfl) sc_law_source.nd (pi_list (pv 0)) (blkOk_by (own := [("cell", 1)]) (N := ["script", "cell"]) (sc := defScope s_law_source) (by decide +kernel)) (fun _ _ _ _ _ => pg_name (i := 1) sc_law_source.nd rfl (Or.inl rfl)) (fun _ _ _ _ _ => pts_nil) (fun _ _ _ _ _ => pe_callTy call_int1 (by rfl) T.n_int (by decide +kernel) (pa_cons (pv 1) (pa_nil)))) (pa_nil))))))))), ?_⟩
    refine ⟨_, rfl, _, rfl, ⟨_, (w.seq f_script)⟩, fun p1 hp2 => ?_⟩
    have w3 := w.newO (o := .lst []) hp2
    refine lc_list (K := K) (a := script) (xs := (script_l.map V.int)) (fun i4 H' => Wd I ((p1, .lst ((script_l.take i4).map V.int)) :: O) H') (w3) ?_ ?_ ?_
    · rintro _ H6 _ w5
      exact (w5.seq f_script)
    · rintro i8 x9 H7 hi10 w5
      obtain ⟨m, hm, rfl⟩ := get_map hi10
      refine ⟨rfl, _, rfl, .inl ⟨_, rfl, ?_⟩⟩
      refine ⟨_, w5.own, (by refine small1000 ?_; simp; omega), ?_⟩
      have ea : ((script_l.take (i8 + 1)).map V.int) = ((script_l.take i8).map V.int) ++ [(V.int m)] := by exact take_map hm
      have w11 := w5.set (u := .lst (((script_l.take i8).map V.int) ++ [(V.int m)]))
      rw [← ea] at w11 ⊢
      exact w11
    rintro H12 w5
    have eb : ((script_l.take ((script_l.map V.int)).length).map V.int) = script_l.map V.int := by simp
    rw [eb] at w5
    have s14 := w5.freezeS
    have w15 := w5.freeze
    refine ⟨(by show 5 ≤ sizeLine; decide), fun p16 hp17 => ?_⟩
    have w18 := w15.newO (o := .lst [(V.int 0), (V.int 0), (V.int 0), (V.int 0), (V.ref p1)]) hp17
    exact k p16 _ _ _ (s14) w18 ⟨⟨_, _, _, _, _, _, rfl, by omega, upd_same, ‹_›⟩⟩
end
def sp_law_draw (K : PySem.W.Frag) : Sp := fun vs H Q E => ∃ (I : Hp) (O : List (Addr × HO)) (source : Addr) (source_s : List V) (many : Int), vs = [.ref source, .int many] ∧ Wd I ((source, .lst source_s) :: O) H ∧ SrcOk I source_s ∧ 0 < many ∧ many < 2 ^ 200 ∧ (∀ (r : Int) (source_s' : List V) (H' : Hp), Wd I ((source, .lst source_s') :: O) H' → SrcOk I source_s' → 0 ≤ r → r < many → Q (.int r) H')
section
variable {P : Program} {w : World} {K : PySem.W.Frag} {mg : Str → Option Value} {base : Heap}
theorem sc_law_draw : FnScope ["source", "many", "mixed", "cell", "size", "value"] ["source", "many"] (defScope s_law_draw) := ⟨rfl, rfl, rfl, by decide +kernel, rfl, by decide +kernel, by decide +kernel⟩
theorem b_law_draw (T : Txt P K mg w) : Binds K (fdOf K (a_law_draw K)) ["source", "many"] [] := T.f_law_draw.bindsN fun _ _ _ _ _ _ us hl => match us, hl with | [_, _], _ => rfl
theorem ok_law_draw (T : Txt P K mg w) : FnOk P w K mg base CX0 1 (a_law_draw K) (fdOf K (a_law_draw K)) ["source", "many"] (sp_law_draw K) := by
  refine T.f_law_draw.ok sc_law_draw (fun vs H Q E h => ?_) (fun cdv A outer s H vs Q E hr h => ?_)
  · obtain ⟨_, _, _, _, _, rfl, _, _, _, _, _⟩ := h
    rfl
  · obtain ⟨I, O, source, source_s, many, rfl, w, f_source, e1, e2, k⟩ := h
    obtain ⟨i0, i1, i2, i3, c, ns, rfl, z0, hc, hn⟩ := f_source.ex
    refine ⟨_, PSs.nox (pss_cons (ps_if (PW.pt (pw_and (pt_cmpR op_eq (pe_ix ix_list (pv 0) (pe_int) (fun _ _ => rfl)) (pe_int) (nomark _)) (pw_and1 (pt_cmpR op_eq (pe_ix ix_list (pv 0) (pe_int) (fun _ _ => rfl)) (pe_int) (nomark _))))) (pss_cons (ps_if (pt_cmpR op_ge (pe_ix ix_list (pv 0) (pe_int) (fun _ _ => rfl)) (pe_callB call_len_seq (by rfl) T.n_len (by decide +kernel) (pa_cons (pe_ix ix_list (pv 0) (pe_int) (fun _ _ => rfl)) (pa_nil))) (nomark _)) (pss_one (ps_ret (pe_int))) (pss_nil)) (pss_cons (ps_set (i := 3) sc_law_draw.nd rfl (Or.inl rfl) (pe_ix ix_list (pe_ix ix_list (pv 0) (pe_int) (fun _ _ => rfl)) (pe_ix ix_list (pv 0) (pe_int) (fun _ _ => rfl)) (fun _ _ => rfl))) (pss_cons (ps_asg (pe_op op_add (pe_ix ix_list (pv 0) (pe_int) (fun _ _ => rfl)) (pe_int)) (pg_sub (pv 0) (pe_int) set_list)) (pss_cons (ps_set (i := 4) sc_law_draw.nd rfl (Or.inl rfl) (pe_op op_mul (pe_int) (pv 3))) (Evl.pss_cut (ps_if (pt_cmpR op_lt (pv 3) (pe_int) (nomark _)) (pss_one (ps_set (i := 4) sc_law_draw.nd rfl (Or.inl rfl) (pe_op op_sub (pe_op op_sub (pe_int) (pe_op op_mul (pe_int) (pv 3))) (pe_int)))) (pss_nil)) (pss_one (ps_if (pt_cmpR op_ge (pe_callB call_abs (by rfl) T.n_abs (by decide +kernel) (pa_cons (pv 3) (pa_nil))) (pe_op op_pow (pe_int) (pe_int)) (nomark _)) (pss_one (ps_asg (pv 4) (pg_sub (pv 0) (pe_int) set_list))) (pss_cons (ps_asg (pv 4) (pg_sub (pv 0) (pe_int) set_list)) (pss_one (ps_asg (pe_int) (pg_sub (pv 0) (pe_int) set_list))))))))))) (pss_nil)) (pss_cons (ps_if (pt_cmpR op_gt (pe_ix ix_list (pv 0) (pe_int) (fun _ _ => rfl)) (pe_int) (nomark _)) (pss_cons (ps_set (i := 5) sc_law_draw.nd rfl (Or.inl rfl) (pe_op op_mod (pe_callTy call_int1 (by rfl) T.n_int (by decide +kernel) (pa_cons (pe_ix ix_list (pv 0) (pe_int) (fun _ _ => rfl)) (pa_nil))) (pv 1))) (pss_cons (ps_asg (pe_op op_fdivW (pe_ix ix_list (pv 0) (pe_int) (fun _ _ => rfl)) (pv 1)) (pg_sub (pv 0) (pe_int) set_list)) (pss_one (ps_ret (pv 5))))) (pss_nil)) (pss_cons (ps_asg (pe_op op_sub (pe_ix ix_list (pv 0) (pe_int) (fun _ _ => rfl)) (pe_int)) (pg_sub (pv 0) (pe_int) set_list)) (pss_cons (ps_set (i := 2) sc_law_draw.nd rfl (Or.inl rfl) (pe_op op_mod (pe_callTy call_int1 (by rfl) T.n_int (by decide +kernel) (pa_cons (pe_op op_add (pe_op op_add (pe_op op_mul (pe_ix ix_list (pv 0) (pe_int) (fun _ _ => rfl)) (pe_int)) (pe_op op_mul (pe_ix ix_list (pv 0) (pe_int) (fun _ _ => rfl)) (pe_int))) (pe_int)) (pa_nil))) (pe_int))) (pss_one (ps_ret (pe_op op_mod (pe_op op_mod (pe_callTy call_int1 (by rfl) T.n_int (by decide +kernel) (pa_cons (pe_op op_add (pe_op op_mul (pv 2) (pe_int)) (pe_op op_mul (pe_ix ix_list (pv 0) (pe_int) (fun _ _ => rfl)) (pe_int))) (pa_nil))) (pe_int)) (pv 1)))))))), ?_⟩
    refine ⟨_, rfl, _, _, _, _, rfl, rfl, (SqL.of w.own), rfl, rfl, _, rfl, ?_⟩
    refine iEqI (fun h1 => ?_) (fun h1 => ?_)
    · refine ⟨_, rfl, _, _, _, _, rfl, rfl, (SqL.of w.own), rfl, rfl, _, rfl, ?_⟩
      refine iEqI (fun h2 => ?_) (fun h2 => ?_)
      · refine ⟨_, rfl, _, _, _, _, rfl, rfl, (SqL.of w.own), rfl, _, rfl, _, _, _, _, rfl, rfl, (SqL.of w.own), rfl, _, _, rfl, .inl (SqL.of (w.get hc)), _, _, rfl, rfl, _, rfl, ?_⟩
        refine iD (fun h3 => ?_) (fun h3 => ?_)
        · exact k 0 _ _ w ⟨⟨_, _, _, _, _, _, rfl, by omega, hc, hn⟩⟩ (by first | omega | exact Int.emod_nonneg _ (by omega) | exact Int.emod_lt_of_pos _ (by omega) | exact Int.ediv_nonneg (by omega) (by omega)) (by first | omega | exact Int.emod_nonneg _ (by omega) | exact Int.emod_lt_of_pos _ (by omega) | exact Int.ediv_nonneg (by omega) (by omega))
        · obtain ⟨cell, _, hcell0, hcell⟩ := at_map (f := V.int) (l := ns) (i := i0) (by omega) (by simp at *; omega)
          refine ⟨_, rfl, _, _, _, _, rfl, rfl, (SqL.of w.own), rfl, _, rfl, _, _, _, _, rfl, rfl, (SqL.of w.own), rfl, _, _, _, _, rfl, rfl, (SqL.of (w.get hc)), hcell, _, rfl, _, _, _, _, rfl, rfl, (SqL.of w.own), rfl, _, _, rfl, rfl, _, rfl, _, _, _, _, rfl, rfl, w.own, rfl, ?_⟩
          have w4 := w.set (u := .lst [(V.int (i0 + 1)), (V.int i1), (V.int i2), (V.int i3), (V.ref c)])
          refine ⟨_, rfl, _, _, rfl, rfl, .inl ⟨by decide, by decide⟩, ?_⟩
          refine ⟨fun σ' H' => ∃ size5 : Int, ((cell < 0 ∧ size5 = ((0 - (2 * cell)) - 1)) ∨ (¬ (cell < 0) ∧ size5 = (2 * cell))) ∧ σ' = [some (V.ref source), some (V.int many), none, some (V.int cell), some (V.int size5), none] ∧ (upd H source (.lst [(V.int (i0 + 1)), (V.int i1), (V.int i2), (V.int i3), (V.ref c)])) = H', ?_, ?_⟩
          · refine ⟨_, rfl, _, _, rfl, rfl, _, rfl, ?_⟩
            refine iD (fun h7 => ?_) (fun h7 => ?_)
            · refine ⟨_, rfl, _, _, rfl, rfl, .inl ⟨by decide, by decide⟩, _, _, rfl, rfl, _, _, rfl, rfl, ?_⟩
              exact ⟨_, .inl ⟨h7, rfl⟩, rfl, rfl⟩
            · exact ⟨_, .inr ⟨h7, rfl⟩, rfl, rfl⟩
          · rintro σ' H' ⟨size5, j6, rfl, rfl⟩
            refine ⟨_, rfl, _, rfl, _, _, rfl, rfl, ⟨by decide, by decide, by decide⟩, _, _, rfl, rfl, _, rfl, ?_⟩
            refine iD (fun h8 => ?_) (fun h8 => ?_)
            · refine ⟨_, rfl, _, rfl, _, _, _, _, rfl, rfl, w4.own, rfl, ?_⟩
              have w9 := w4.set (u := .lst [(V.int (i0 + 1)), (V.int size5), (V.int i2), (V.int i3), (V.ref c)])
              refine ⟨_, rfl, _, _, _, _, rfl, rfl, (SqL.of w9.own), rfl, _, _, rfl, rfl, _, rfl, ?_⟩
              refine iD (fun h10 => ?_) (fun h10 => ?_)
              · refine ⟨_, rfl, _, _, _, _, rfl, rfl, (SqL.of w9.own), rfl, .inl ⟨_, rfl, ?_⟩⟩
                refine ⟨_, rfl, _, _, rfl, rfl, (by show (0 : Int) < many; omega), _, rfl, _, _, _, _, rfl, rfl, (SqL.of w9.own), rfl, _, rfl, _, _, rfl, rfl, (⟨by omega, draw_many (by omega) (by omega)⟩), _, rfl, _, _, _, _, rfl, rfl, w9.own, rfl, ?_⟩
                have w11 := w9.set (u := .lst [(V.int (i0 + 1)), (V.int (size5 / many)), (V.int i2), (V.int i3), (V.ref c)])
                refine ⟨_, rfl, ?_⟩
                exact k (size5 % many) _ _ w11 ⟨⟨_, _, _, _, _, _, rfl, by omega, hc, hn⟩⟩ (by first | omega | exact Int.emod_nonneg _ (by omega) | exact Int.emod_lt_of_pos _ (by omega) | exact Int.ediv_nonneg (by omega) (by omega)) (by first | omega | exact Int.emod_nonneg _ (by omega) | exact Int.emod_lt_of_pos _ (by omega) | exact Int.ediv_nonneg (by omega) (by omega))
              · refine ⟨_, rfl, _, _, _, _, rfl, rfl, (SqL.of w9.own), rfl, _, _, rfl, rfl, _, rfl, _, _, _, _, rfl, rfl, w9.own, rfl, ?_⟩
                have w12 := w9.set (u := .lst [(V.int (i0 + 1)), (V.int size5), (V.int i2), (V.int (i3 - 1)), (V.ref c)])
                refine ⟨_, rfl, _, _, _, _, rfl, rfl, (SqL.of w12.own), rfl, _, _, rfl, rfl, .inr ⟨by decide, by decide⟩, _, rfl, _, _, _, _, rfl, rfl, (SqL.of w12.own), rfl, _, _, rfl, rfl, .inr ⟨by decide, by decide⟩, _, _, rfl, rfl, _, _, rfl, rfl, .inl ⟨_, rfl, ?_⟩⟩
                refine ⟨_, _, rfl, rfl, (by show (0 : Int) < 2147483647; omega), _, rfl, _, _, rfl, rfl, .inr ⟨by decide, by decide⟩, _, rfl, _, _, _, _, rfl, rfl, (SqL.of w12.own), rfl, _, _, rfl, rfl, .inr ⟨by decide, by decide⟩, _, _, rfl, rfl, .inl ⟨_, rfl, ?_⟩⟩
                refine ⟨_, _, rfl, rfl, (by show (0 : Int) < 998244353; omega), _, rfl, _, _, rfl, rfl, (by show (0 : Int) < many; omega), ?_⟩
                exact k ((((((((i2 * 48271) + ((i3 - 1) * 69621)) + 12345) % 2147483647) * 16807) + (i2 * 9301)) % 998244353) % many) _ _ w12 ⟨⟨_, _, _, _, _, _, rfl, by omega, hc, hn⟩⟩ (by first | omega | exact Int.emod_nonneg _ (by omega) | exact Int.emod_lt_of_pos _ (by omega) | exact Int.ediv_nonneg (by omega) (by omega)) (by first | omega | exact Int.emod_nonneg _ (by omega) | exact Int.emod_lt_of_pos _ (by omega) | exact Int.ediv_nonneg (by omega) (by omega))
            · refine ⟨_, rfl, _, rfl, _, _, _, _, rfl, rfl, w4.own, rfl, ?_⟩
              have w13 := w4.set (u := .lst [(V.int (i0 + 1)), (V.int i1), (V.int size5), (V.int i3), (V.ref c)])
              refine ⟨_, rfl, _, _, _, _, rfl, rfl, w13.own, rfl, ?_⟩
              have w14 := w13.set (u := .lst [(V.int (i0 + 1)), (V.int i1), (V.int size5), (V.int 3), (V.ref c)])
              refine ⟨_, rfl, _, _, _, _, rfl, rfl, (SqL.of w14.own), rfl, _, _, rfl, rfl, _, rfl, ?_⟩
              refine iD (fun h15 => ?_) (fun h15 => ?_)
              · refine ⟨_, rfl, _, _, _, _, rfl, rfl, (SqL.of w14.own), rfl, .inl ⟨_, rfl, ?_⟩⟩
                refine ⟨_, rfl, _, _, rfl, rfl, (by show (0 : Int) < many; omega), _, rfl, _, _, _, _, rfl, rfl, (SqL.of w14.own), rfl, _, rfl, _, _, rfl, rfl, (⟨by omega, draw_many (by omega) (by omega)⟩), _, rfl, _, _, _, _, rfl, rfl, w14.own, rfl, ?_⟩
                have w16 := w14.set (u := .lst [(V.int (i0 + 1)), (V.int (i1 / many)), (V.int size5), (V.int 3), (V.ref c)])
                refine ⟨_, rfl, ?_⟩
                exact k (i1 % many) _ _ w16 ⟨⟨_, _, _, _, _, _, rfl, by omega, hc, hn⟩⟩ (by first | omega | exact Int.emod_nonneg _ (by omega) | exact Int.emod_lt_of_pos _ (by omega) | exact Int.ediv_nonneg (by omega) (by omega)) (by first | omega | exact Int.emod_nonneg _ (by omega) | exact Int.emod_lt_of_pos _ (by omega) | exact Int.ediv_nonneg (by omega) (by omega))
              · refine ⟨_, rfl, _, _, _, _, rfl, rfl, (SqL.of w14.own), rfl, _, _, rfl, rfl, _, rfl, _, _, _, _, rfl, rfl, w14.own, rfl, ?_⟩
                have w17 := w14.set (u := .lst [(V.int (i0 + 1)), (V.int i1), (V.int size5), (V.int (3 - 1)), (V.ref c)])
                refine ⟨_, rfl, _, _, _, _, rfl, rfl, (SqL.of w17.own), rfl, _, _, rfl, rfl, .inr ⟨by decide, by decide⟩, _, rfl, _, _, _, _, rfl, rfl, (SqL.of w17.own), rfl, _, _, rfl, rfl, .inr ⟨by decide, by decide⟩, _, _, rfl, rfl, _, _, rfl, rfl, .inl ⟨_, rfl, ?_⟩⟩
                refine ⟨_, _, rfl, rfl, (by show (0 : Int) < 2147483647; omega), _, rfl, _, _, rfl, rfl, .inr ⟨by decide, by decide⟩, _, rfl, _, _, _, _, rfl, rfl, (SqL.of w17.own), rfl, _, _, rfl, rfl, .inr ⟨by decide, by decide⟩, _, _, rfl, rfl, .inl ⟨_, rfl, ?_⟩⟩
                refine ⟨_, _, rfl, rfl, (by show (0 : Int) < 998244353; omega), _, rfl, _, _, rfl, rfl, (by show (0 : Int) < many; omega), ?_⟩
                exact k ((((((((size5 * 48271) + ((3 - 1) * 69621)) + 12345) % 2147483647) * 16807) + (size5 * 9301)) % 998244353) % many) _ _ w17 ⟨⟨_, _, _, _, _, _, rfl, by omega, hc, hn⟩⟩ (by first | omega | exact Int.emod_nonneg _ (by omega) | exact Int.emod_lt_of_pos _ (by omega) | exact Int.ediv_nonneg (by omega) (by omega)) (by first | omega | exact Int.emod_nonneg _ (by omega) | exact Int.emod_lt_of_pos _ (by omega) | exact Int.ediv_nonneg (by omega) (by omega))
      · refine ⟨_, rfl, _, _, _, _, rfl, rfl, (SqL.of w.own), rfl, _, _, rfl, rfl, _, rfl, ?_⟩
        refine iD (fun h18 => ?_) (fun h18 => ?_)
        · refine ⟨_, rfl, _, _, _, _, rfl, rfl, (SqL.of w.own), rfl, .inl ⟨_, rfl, ?_⟩⟩
          refine ⟨_, rfl, _, _, rfl, rfl, (by show (0 : Int) < many; omega), _, rfl, _, _, _, _, rfl, rfl, (SqL.of w.own), rfl, _, rfl, _, _, rfl, rfl, (⟨by omega, draw_many (by omega) (by omega)⟩), _, rfl, _, _, _, _, rfl, rfl, w.own, rfl, ?_⟩
          have w19 := w.set (u := .lst [(V.int i0), (V.int (i1 / many)), (V.int i2), (V.int i3), (V.ref c)])
          refine ⟨_, rfl, ?_⟩
          exact k (i1 % many) _ _ w19 ⟨⟨_, _, _, _, _, _, rfl, by omega, hc, hn⟩⟩ (by first | omega | exact Int.emod_nonneg _ (by omega) | exact Int.emod_lt_of_pos _ (by omega) | exact Int.ediv_nonneg (by omega) (by omega)) (by first | omega | exact Int.emod_nonneg _ (by omega) | exact Int.emod_lt_of_pos _ (by omega) | exact Int.ediv_nonneg (by omega) (by omega))
        · refine ⟨_, rfl, _, _, _, _, rfl, rfl, (SqL.of w.own), rfl, _, _, rfl, rfl, _, rfl, _, _, _, _, rfl, rfl, w.own, rfl, ?_⟩
          have w20 := w.set (u := .lst [(V.int i0), (V.int i1), (V.int i2), (V.int (i3 - 1)), (V.ref c)])
          refine ⟨_, rfl, _, _, _, _, rfl, rfl, (SqL.of w20.own), rfl, _, _, rfl, rfl, .inr ⟨by decide, by decide⟩, _, rfl, _, _, _, _, rfl, rfl, (SqL.of w20.own), rfl, _, _, rfl, rfl, .inr ⟨by decide, by decide⟩, _, _, rfl, rfl, _, _, rfl, rfl, .inl ⟨_, rfl, ?_⟩⟩
          refine ⟨_, _, rfl, rfl, (by show (0 : Int) < 2147483647; omega), _, rfl, _, _, rfl, rfl, .inr ⟨by decide, by decide⟩, _, rfl, _, _, _, _, rfl, rfl, (SqL.of w20.own), rfl, _, _, rfl, rfl, .inr ⟨by decide, by decide⟩, _, _, rfl, rfl, .inl ⟨_, rfl, ?_⟩⟩
          refine ⟨_, _, rfl, rfl, (by show (0 : Int) < 998244353; omega), _, rfl, _, _, rfl, rfl, (by show (0 : Int) < many; omega), ?_⟩
          exact k ((((((((i2 * 48271) + ((i3 - 1) * 69621)) + 12345) % 2147483647) * 16807) + (i2 * 9301)) % 998244353) % many) _ _ w20 ⟨⟨_, _, _, _, _, _, rfl, by omega, hc, hn⟩⟩ (by first | omega | exact Int.emod_nonneg _ (by omega) | exact Int.emod_lt_of_pos _ (by omega) | exact Int.ediv_nonneg (by omega) (by omega)) (by first | omega | exact Int.emod_nonneg _ (by omega) | exact Int.emod_lt_of_pos _ (by omega) | exact Int.ediv_nonneg (by omega) (by omega))
    · refine ⟨_, rfl, _, _, _, _, rfl, rfl, (SqL.of w.own), rfl, _, _, rfl, rfl, _, rfl, ?_⟩
      refine iD (fun h21 => ?_) (fun h21 => ?_)
      · refine ⟨_, rfl, _, _, _, _, rfl, rfl, (SqL.of w.own), rfl, .inl ⟨_, rfl, ?_⟩⟩
        refine ⟨_, rfl, _, _, rfl, rfl, (by show (0 : Int) < many; omega), _, rfl, _, _, _, _, rfl, rfl, (SqL.of w.own), rfl, _, rfl, _, _, rfl, rfl, (⟨by omega, draw_many (by omega) (by omega)⟩), _, rfl, _, _, _, _, rfl, rfl, w.own, rfl, ?_⟩
        have w22 := w.set (u := .lst [(V.int i0), (V.int (i1 / many)), (V.int i2), (V.int i3), (V.ref c)])
        refine ⟨_, rfl, ?_⟩
        exact k (i1 % many) _ _ w22 ⟨⟨_, _, _, _, _, _, rfl, by omega, hc, hn⟩⟩ (by first | omega | exact Int.emod_nonneg _ (by omega) | exact Int.emod_lt_of_pos _ (by omega) | exact Int.ediv_nonneg (by omega) (by omega)) (by first | omega | exact Int.emod_nonneg _ (by omega) | exact Int.emod_lt_of_pos _ (by omega) | exact Int.ediv_nonneg (by omega) (by omega))
      · refine ⟨_, rfl, _, _, _, _, rfl, rfl, (SqL.of w.own), rfl, _, _, rfl, rfl, _, rfl, _, _, _, _, rfl, rfl, w.own, rfl, ?_⟩
        have w23 := w.set (u := .lst [(V.int i0), (V.int i1), (V.int i2), (V.int (i3 - 1)), (V.ref c)])
        refine ⟨_, rfl, _, _, _, _, rfl, rfl, (SqL.of w23.own), rfl, _, _, rfl, rfl, .inr ⟨by decide, by decide⟩, _, rfl, _, _, _, _, rfl, rfl, (SqL.of w23.own), rfl, _, _, rfl, rfl, .inr ⟨by decide, by decide⟩, _, _, rfl, rfl, _, _, rfl, rfl, .inl ⟨_, rfl, ?_⟩⟩
        refine ⟨_, _, rfl, rfl, (by show (0 : Int) < 2147483647; omega), _, rfl, _, _, rfl, rfl, .inr ⟨by decide, by decide⟩, _, rfl, _, _, _, _, rfl, rfl, (SqL.of w23.own), rfl, _, _, rfl, rfl, .inr ⟨by decide, by decide⟩, _, _, rfl, rfl, .inl ⟨_, rfl, ?_⟩⟩
        refine ⟨_, _, rfl, rfl, (by show (0 : Int) < 998244353; omega), _, rfl, _, _, rfl, rfl, (by show (0 : Int) < many; omega), ?_⟩
        exact k ((((((((i2 * 48271) + ((i3 - 1) * 69621)) + 12345) % 2147483647) * 16807) + (i2 * 9301)) % 998244353) % many) _ _ w23 ⟨⟨_, _, _, _, _, _, rfl, by omega, hc, hn⟩⟩ (by first | omega | exact Int.emod_nonneg _ (by omega) | exact Int.emod_lt_of_pos _ (by omega) | exact Int.ediv_nonneg (by omega) (by omega)) (by first | omega | exact Int.emod_nonneg _ (by omega) | exact Int.emod_lt_of_pos _ (by omega) | exact Int.ediv_nonneg (by omega) (by omega))
end
def sp_law_modes (K : PySem.W.Frag) : Sp := fun vs H Q E => ∃ (I : Hp) (O : List (Addr × HO)), vs = [] ∧ Wd I (O) H ∧ (∀ (r : Addr) (I' : Hp) (H' : Hp), Same I I' → Wd I' (O) H' → I' r = some (.lst (modesL.map V.str)) → Q (.ref r) H')
section
variable {P : Program} {w : World} {K : PySem.W.Frag} {mg : Str → Option Value} {base : Heap}
theorem sc_law_modes : FnScope ["near"] [] (defScope s_law_modes) := ⟨rfl, rfl, rfl, by decide +kernel, rfl, by decide +kernel, by decide +kernel⟩
theorem b_law_modes (T : Txt P K mg w) : Binds K (fdOf K (a_law_modes K)) [] [] := T.f_law_modes.bindsN fun _ _ _ _ _ _ us hl => match us, hl with | [], _ => rfl
theorem ok_law_modes (T : Txt P K mg w) : FnOk P w K mg base CX0 1 (a_law_modes K) (fdOf K (a_law_modes K)) [] (sp_law_modes K) := by
  refine T.f_law_modes.ok sc_law_modes (fun vs H Q E h => ?_) (fun cdv A outer s H vs Q E hr h => ?_)
  · obtain ⟨_, _, rfl, _, _⟩ := h
    rfl
  · obtain ⟨I, O, rfl, w, k⟩ := h
    refine ⟨_, PSs.nox (pss_cons (ps_set (i := 0) sc_law_modes.nd rfl (Or.inl rfl) (pe_lst (pa_cons (pe_str) (pa_cons (pe_str) (pa_cons (pe_str) (pa_cons (pe_str) (pa_cons (pe_str) (pa_nil)))))))) (pss_one (ps_ret (pe_op op_cat (pv 0) (pe_lst (pa_cons (pe_str) (pa_cons (pe_str) (pa_cons (pe_str) (pa_cons (pe_str) (pa_nil)))))))))), ?_⟩
    refine ⟨(by show 5 ≤ sizeLine; decide), fun p1 hp2 => ?_⟩
    have s3 := w.newS (o := .lst [(V.str ("nearest-even" : Str)), (V.str ("nearest-out" : Str)), (V.str ("nearest-in" : Str)), (V.str ("nearest-up" : Str)), (V.str ("nearest-down" : Str))]) hp2
    have w4 := w.new (o := .lst [(V.str ("nearest-even" : Str)), (V.str ("nearest-out" : Str)), (V.str ("nearest-in" : Str)), (V.str ("nearest-up" : Str)), (V.str ("nearest-down" : Str))]) hp2
    refine ⟨_, rfl, (by show 4 ≤ sizeLine; decide), fun p5 hp6 => ?_⟩
    have s7 := w4.newS (o := .lst [(V.str ("inward" : Str)), (V.str ("outward" : Str)), (V.str ("upward" : Str)), (V.str ("downward" : Str))]) hp6
    have w8 := w4.new (o := .lst [(V.str ("inward" : Str)), (V.str ("outward" : Str)), (V.str ("upward" : Str)), (V.str ("downward" : Str))]) hp6
    refine ⟨_, _, _, _, rfl, rfl, (w8.get (s7 _ _ upd_same)), (w8.get upd_same), (by show _ ≤ sizeLine; decide), fun p9 hp10 => ?_⟩
    have s11 := w8.newS (o := .lst ([(V.str ("nearest-even" : Str)), (V.str ("nearest-out" : Str)), (V.str ("nearest-in" : Str)), (V.str ("nearest-up" : Str)), (V.str ("nearest-down" : Str))] ++ [(V.str ("inward" : Str)), (V.str ("outward" : Str)), (V.str ("upward" : Str)), (V.str ("downward" : Str))])) hp10
    have w12 := w8.new (o := .lst ([(V.str ("nearest-even" : Str)), (V.str ("nearest-out" : Str)), (V.str ("nearest-in" : Str)), (V.str ("nearest-up" : Str)), (V.str ("nearest-down" : Str))] ++ [(V.str ("inward" : Str)), (V.str ("outward" : Str)), (V.str ("upward" : Str)), (V.str ("downward" : Str))])) hp10
    exact k p9 _ _ ((Same.trans (Same.trans s3 s7) s11)) w12 upd_same
end
def sp_law_mode (K : PySem.W.Frag) : Sp := fun vs H Q E => ∃ (I : Hp) (O : List (Addr × HO)) (source : Addr) (source_s : List V), vs = [.ref source] ∧ Wd I ((source, .lst source_s) :: O) H ∧ SrcOk I source_s ∧ (∀ (r : Str) (source_s' : List V) (I' : Hp) (H' : Hp), Same I I' → Wd I' ((source, .lst source_s') :: O) H' → SrcOk I' source_s' → r ∈ modesL → Q (.str r) H')
section
variable {P : Program} {w : World} {K : PySem.W.Frag} {mg : Str → Option Value} {base : Heap}
theorem sc_law_mode : FnScope ["source"] ["source"] (defScope s_law_mode) := ⟨rfl, rfl, rfl, by decide +kernel, rfl, by decide +kernel, by decide +kernel⟩
theorem b_law_mode (T : Txt P K mg w) : Binds K (fdOf K (a_law_mode K)) ["source"] [] := T.f_law_mode.bindsN fun _ _ _ _ _ _ us hl => match us, hl with | [_], _ => rfl
theorem ok_law_mode (T : Txt P K mg w) : FnOk P w K mg base CX0 2 (a_law_mode K) (fdOf K (a_law_mode K)) ["source"] (sp_law_mode K) := by
  refine T.f_law_mode.ok sc_law_mode (fun vs H Q E h => ?_) (fun cdv A outer s H vs Q E hr h => ?_)
  · obtain ⟨_, _, _, _, rfl, _, _, _⟩ := h
    rfl
  · obtain ⟨I, O, source, source_s, rfl, w, f_source, k⟩ := h
    refine ⟨_, PSs.nox (pss_one (ps_ret (pe_ix ix_list (pe_call0 (ok_law_modes T) (hr.mono (by decide)) (by rfl) T.g_law_modes T.f_law_modes.kp (b_law_modes T) .nil pass0) (pe_call (ok_law_draw T) (hr.mono (by decide)) (by rfl) T.g_law_draw T.f_law_draw.kp (b_law_draw T) .nil pass0 (pa_cons (pv 0) (pa_cons (pe_int) (pa_nil)))) (fun _ _ => rfl)))), ?_⟩
    refine ⟨I, ((source, .lst source_s) :: O), rfl, w, fun r1 I2 H4 s3 w5 f6 => ?_⟩
    refine ⟨_, rfl, I2, (O), source, (source_s), 9, rfl, w5, (SrcOk.mono s3 f_source), (by first | assumption | omega), (by first | assumption | omega), fun r7 xs8 H9 w10 f11 q12 q13 => ?_⟩
    obtain ⟨m14, hm15, _, he16⟩ := at_map (f := V.str) (l := modesL) (i := r7) (by omega) (by simp [modesL]; omega)
    refine ⟨_, _, _, _, rfl, rfl, (SqL.of (w10.get f6)), he16, ?_⟩
    exact k m14 _ _ _ (s3) w10 f11 (by first | assumption | omega)
end
def sp_law_power (K : PySem.W.Frag) : Sp := fun vs H Q E => ∃ (base : Int) (count : Int), vs = [.int base, .int count] ∧ 2 ≤ base ∧ base ≤ 36 ∧ 0 ≤ count ∧ count ≤ 1000 ∧ (∀ (r : Int), r = base ^ count.toNat → 0 < r → Sz (6 * count.toNat + 1) r → Q (.int r) H)
section
variable {P : Program} {w : World} {K : PySem.W.Frag} {mg : Str → Option Value} {base : Heap}
theorem sc_law_power : FnScope ["base", "count", "result", "k"] ["base", "count"] (defScope s_law_power) := ⟨rfl, rfl, rfl, by decide +kernel, rfl, by decide +kernel, by decide +kernel⟩
theorem b_law_power (T : Txt P K mg w) : Binds K (fdOf K (a_law_power K)) ["base", "count"] [] := T.f_law_power.bindsN fun _ _ _ _ _ _ us hl => match us, hl with | [_, _], _ => rfl
theorem ok_law_power (T : Txt P K mg w) : FnOk P w K mg base CX0 1 (a_law_power K) (fdOf K (a_law_power K)) ["base", "count"] (sp_law_power K) := by
  refine T.f_law_power.ok sc_law_power (fun vs H Q E h => ?_) (fun cdv A outer s H vs Q E hr h => ?_)
  · obtain ⟨_, _, rfl, _, _, _, _, _⟩ := h
    rfl
  · obtain ⟨base, count, rfl, e1, e2, e3, e4, k⟩ := h
    refine ⟨_, PSs.nox (pss_cons (ps_set (i := 2) sc_law_power.nd rfl (Or.inl rfl) (pe_int)) (pss_cons (ps_for PassesOwn.never rfl (pi_range1 (by rfl) T.n_range (pa_cons (pv 1) (pa_nil))) (pg_name (i := 3) sc_law_power.nd rfl (Or.inl rfl)) (pss_one (ps_set (i := 2) sc_law_power.nd rfl (Or.inl rfl) (pe_op op_mulW (pv 2) (pv 0))))) (pss_one (ps_ret (pv 2))))), ?_⟩
    refine ⟨_, rfl, _, rfl, (by first | omega | (subst_vars; first | rfl | simp [Int.pow_succ] | omega)), (by first | omega | (subst_vars; first | rfl | simp [Int.pow_succ] | omega)), for_range (lo := 0) (n := (count).toNat) (fun i3 σ' H' => ∃ (result1 : Int) (o2 : Option V), σ' = [some (V.int base), some (V.int count), some (V.int result1), o2] ∧ H = H' ∧ result1 = base ^ i3) ⟨1, _, rfl, rfl, (by first | omega | (subst_vars; first | rfl | simp [Int.pow_succ] | omega))⟩ ?_ ?_⟩
    · rintro i7 _ H5 hi6 ⟨result1, o2, rfl, rfl, hp⟩
      refine ⟨_, rfl, _, rfl, _, _, rfl, rfl, (lp_mul_pow (by omega) (by omega) (by omega) hp), ?_⟩
      exact ⟨(result1 * base), _, rfl, rfl, (by first | omega | (subst_vars; first | rfl | simp [Int.pow_succ] | omega))⟩
    · rintro _ H8 ⟨result1, o2, rfl, rfl, hp⟩
      refine ⟨_, rfl, ?_⟩
      exact k result1 (by first | (subst_vars; rfl) | exact lp_pow_pos (by omega) hp | exact lp_pow_sz (by omega) (by omega) hp) (by first | (subst_vars; rfl) | exact lp_pow_pos (by omega) hp | exact lp_pow_sz (by omega) (by omega) hp) (by first | (subst_vars; rfl) | exact lp_pow_pos (by omega) hp | exact lp_pow_sz (by omega) (by omega) hp)
end
def sp_law_equal_int (K : PySem.W.Frag) : Sp := fun vs H Q E => ∃ (actual : Int) (expected : Int), vs = [.int actual, .int expected] ∧ (∀ (r : Bool), r = decide (actual = expected) → Q (.bl r) H)
section
variable {P : Program} {w : World} {K : PySem.W.Frag} {mg : Str → Option Value} {base : Heap}
theorem sc_law_equal_int : FnScope ["actual", "expected", "k"] ["actual", "expected"] (defScope s_law_equal) := ⟨rfl, rfl, rfl, by decide +kernel, rfl, by decide +kernel, by decide +kernel⟩
theorem b_law_equal_int (T : Txt P K mg w) : Binds K (fdOf K (a_law_equal K)) ["actual", "expected"] [] := T.f_law_equal.bindsN fun _ _ _ _ _ _ us hl => match us, hl with | [_, _], _ => rfl
theorem ok_law_equal_int (T : Txt P K mg w) : FnOk P w K mg base CX0 1 (a_law_equal K) (fdOf K (a_law_equal K)) ["actual", "expected"] (sp_law_equal_int K) := by
  refine T.f_law_equal.ok sc_law_equal_int (fun vs H Q E h => ?_) (fun cdv A outer s H vs Q E hr h => ?_)
  · obtain ⟨_, _, rfl, _⟩ := h
    rfl
  · obtain ⟨actual, expected, rfl, k⟩ := h
    refine ⟨_, PSs.nox (pss_cons (ps_if (pt_cmpR op_isN (pv 1) (pe_non) (nomark _)) (pss_one (ps_never)) (pss_nil)) (pss_cons (ps_if (pt_val (pe_callB call_isi (by rfl) T.n_isinstance (by decide +kernel) (pa_cons (pv 1) (pa_cons (pe_bltn (v := .ty "bool") (by rfl) T.n_bool (by decide +kernel) rfl) (pa_nil))))) (pss_one (ps_never)) (pss_nil)) (pss_cons (ps_if (pt_val (pe_callB call_isi (by rfl) T.n_isinstance (by decide +kernel) (pa_cons (pv 1) (pa_cons (pe_bltn (v := .ty "int") (by rfl) T.n_int (by decide +kernel) rfl) (pa_nil))))) (pss_one (ps_ret (pe_and (pe_callB call_isi (by rfl) T.n_isinstance (by decide +kernel) (pa_cons (pv 0) (pa_cons (pe_bltn (v := .ty "int") (by rfl) T.n_int (by decide +kernel) rfl) (pa_nil)))) (pe_and (pe_not (pe_callB call_isi (by rfl) T.n_isinstance (by decide +kernel) (pa_cons (pv 0) (pa_cons (pe_bltn (v := .ty "bool") (by rfl) T.n_bool (by decide +kernel) rfl) (pa_nil))))) (pe_one (pe_cmpR op_eq (pv 0) (pv 1) (nomark _))))))) (pss_nil)) (pss_cons (ps_never) (pss_cons (ps_never) (pss_cons (ps_never) (pss_cons (ps_never) (pss_cons (ps_never) (pss_cons (ps_never) (pss_one (ps_never))))))))))), ?_⟩
    refine ⟨_, rfl, rfl, _, rfl, ?_⟩
    refine iFd (by intro z; cases z) ?_
    refine ⟨_, rfl, _, _, .type "int", .type "bool", false, rfl, .ty _, .base (TyOf.int _), kit_ty (by decide +kernel), _, rfl, ?_⟩
    refine ⟨_, rfl, _, _, .type "int", .type "int", true, rfl, .ty _, .base (TyOf.int _), kit_ty (by decide +kernel), _, rfl, ?_⟩
    refine ⟨_, rfl, _, _, .type "int", .type "int", true, rfl, .ty _, .base (TyOf.int _), kit_ty (by decide +kernel), _, rfl, ?_⟩
    refine ⟨_, rfl, _, _, .type "int", .type "bool", false, rfl, .ty _, .base (TyOf.int _), kit_ty (by decide +kernel), _, rfl, _, rfl, ?_⟩
    refine ⟨_, rfl, _, rfl, rfl, ?_⟩
    exact k (decide ((V.int actual) = (V.int expected))) (by first | rfl | simp_all)
theorem okh_law_equal_int (T : Txt P K mg w) : L2H.FnH P w K mg base CX0 1 (a_law_equal K) (fdOf K (a_law_equal K)) ["actual", "expected"] (sp_law_equal_int K) := by
  refine okH T.f_law_equal sc_law_equal_int (fun vs H Q E h => ?_) (fun cdv A outer s H vs Q E p hc hr h => ?_)
  · obtain ⟨_, _, rfl, _⟩ := h
    rfl
  · obtain ⟨actual, expected, rfl, k⟩ := h
    refine ⟨_, PSs.nox (pss_cons (ps_if (pt_cmpR op_isN (pv 1) (pe_non) (nomark _)) (pss_one (ps_never)) (pss_nil)) (pss_cons (ps_if (pt_val (pe_callB call_isi (by rfl) T.n_isinstance (by decide +kernel) (pa_cons (pv 1) (pa_cons (pe_bltn (v := .ty "bool") (by rfl) T.n_bool (by decide +kernel) rfl) (pa_nil))))) (pss_one (ps_never)) (pss_nil)) (pss_cons (ps_if (pt_val (pe_callB call_isi (by rfl) T.n_isinstance (by decide +kernel) (pa_cons (pv 1) (pa_cons (pe_bltn (v := .ty "int") (by rfl) T.n_int (by decide +kernel) rfl) (pa_nil))))) (pss_one (ps_ret (pe_and (pe_callB call_isi (by rfl) T.n_isinstance (by decide +kernel) (pa_cons (pv 0) (pa_cons (pe_bltn (v := .ty "int") (by rfl) T.n_int (by decide +kernel) rfl) (pa_nil)))) (pe_and (pe_not (pe_callB call_isi (by rfl) T.n_isinstance (by decide +kernel) (pa_cons (pv 0) (pa_cons (pe_bltn (v := .ty "bool") (by rfl) T.n_bool (by decide +kernel) rfl) (pa_nil))))) (pe_one (pe_cmpR op_eq (pv 0) (pv 1) (nomark _))))))) (pss_nil)) (pss_cons (ps_never) (pss_cons (ps_never) (pss_cons (ps_never) (pss_cons (ps_never) (pss_cons (ps_never) (pss_cons (ps_never) (pss_one (ps_never))))))))))), ?_⟩
    refine ⟨_, rfl, rfl, _, rfl, ?_⟩
    refine iFd (by intro z; cases z) ?_
    refine ⟨_, rfl, _, _, .type "int", .type "bool", false, rfl, .ty _, .base (TyOf.int _), kit_ty (by decide +kernel), _, rfl, ?_⟩
    refine ⟨_, rfl, _, _, .type "int", .type "int", true, rfl, .ty _, .base (TyOf.int _), kit_ty (by decide +kernel), _, rfl, ?_⟩
    refine ⟨_, rfl, _, _, .type "int", .type "int", true, rfl, .ty _, .base (TyOf.int _), kit_ty (by decide +kernel), _, rfl, ?_⟩
    refine ⟨_, rfl, _, _, .type "int", .type "bool", false, rfl, .ty _, .base (TyOf.int _), kit_ty (by decide +kernel), _, rfl, _, rfl, ?_⟩
    refine ⟨_, rfl, _, rfl, rfl, ?_⟩
    exact k (decide ((V.int actual) = (V.int expected))) (by first | rfl | simp_all)
end
def sp_law_equal_str (K : PySem.W.Frag) : Sp := fun vs H Q E => ∃ (actual : Str) (expected : Str), vs = [.str actual, .str expected] ∧ (∀ (r : Bool), r = decide (actual = expected) → Q (.bl r) H)
section
variable {P : Program} {w : World} {K : PySem.W.Frag} {mg : Str → Option Value} {base : Heap}
theorem sc_law_equal_str : FnScope ["actual", "expected", "k"] ["actual", "expected"] (defScope s_law_equal) := ⟨rfl, rfl, rfl, by decide +kernel, rfl, by decide +kernel, by decide +kernel⟩
theorem b_law_equal_str (T : Txt P K mg w) : Binds K (fdOf K (a_law_equal K)) ["actual", "expected"] [] := T.f_law_equal.bindsN fun _ _ _ _ _ _ us hl => match us, hl with | [_, _], _ => rfl
theorem ok_law_equal_str (T : Txt P K mg w) : FnOk P w K mg base CX0 1 (a_law_equal K) (fdOf K (a_law_equal K)) ["actual", "expected"] (sp_law_equal_str K) := by
  refine T.f_law_equal.ok sc_law_equal_str (fun vs H Q E h => ?_) (fun cdv A outer s H vs Q E hr h => ?_)
  · obtain ⟨_, _, rfl, _⟩ := h
    rfl
  · obtain ⟨actual, expected, rfl, k⟩ := h
    refine ⟨_, PSs.nox (pss_cons (ps_if (pt_cmpR op_isN (pv 1) (pe_non) (nomark _)) (pss_one (ps_never)) (pss_nil)) (pss_cons (ps_if (pt_val (pe_callB call_isi (by rfl) T.n_isinstance (by decide +kernel) (pa_cons (pv 1) (pa_cons (pe_bltn (v := .ty "bool") (by rfl) T.n_bool (by decide +kernel) rfl) (pa_nil))))) (pss_one (ps_never)) (pss_nil)) (pss_cons (ps_if (pt_val (pe_callB call_isi (by rfl) T.n_isinstance (by decide +kernel) (pa_cons (pv 1) (pa_cons (pe_bltn (v := .ty "int") (by rfl) T.n_int (by decide +kernel) rfl) (pa_nil))))) (pss_one (ps_never)) (pss_nil)) (pss_cons (ps_if (pt_val (pe_callB call_isi (by rfl) T.n_isinstance (by decide +kernel) (pa_cons (pv 1) (pa_cons (pe_bltn (v := .ty "str") (by rfl) T.n_str (by decide +kernel) rfl) (pa_nil))))) (pss_one (ps_ret (pe_and (pe_callB call_isi (by rfl) T.n_isinstance (by decide +kernel) (pa_cons (pv 0) (pa_cons (pe_bltn (v := .ty "str") (by rfl) T.n_str (by decide +kernel) rfl) (pa_nil)))) (pe_one (pe_cmpR op_eq (pv 0) (pv 1) (nomark _)))))) (pss_nil)) (pss_cons (ps_never) (pss_cons (ps_never) (pss_cons (ps_never) (pss_cons (ps_never) (pss_cons (ps_never) (pss_one (ps_never))))))))))), ?_⟩
    refine ⟨_, rfl, rfl, _, rfl, ?_⟩
    refine iFd (by intro z; cases z) ?_
    refine ⟨_, rfl, _, _, .type "str", .type "bool", false, rfl, .ty _, .base (TyOf.str _), kit_ty (by decide +kernel), _, rfl, ?_⟩
    refine ⟨_, rfl, _, _, .type "str", .type "int", false, rfl, .ty _, .base (TyOf.str _), kit_ty (by decide +kernel), _, rfl, ?_⟩
    refine ⟨_, rfl, _, _, .type "str", .type "str", true, rfl, .ty _, .base (TyOf.str _), kit_ty (by decide +kernel), _, rfl, ?_⟩
    refine ⟨_, rfl, _, _, .type "str", .type "str", true, rfl, .ty _, .base (TyOf.str _), kit_ty (by decide +kernel), _, rfl, ?_⟩
    refine ⟨_, rfl, _, rfl, rfl, ?_⟩
    exact k (decide ((V.str actual) = (V.str expected))) (by first | rfl | simp_all)
theorem okh_law_equal_str (T : Txt P K mg w) : L2H.FnH P w K mg base CX0 1 (a_law_equal K) (fdOf K (a_law_equal K)) ["actual", "expected"] (sp_law_equal_str K) := by
  refine okH T.f_law_equal sc_law_equal_str (fun vs H Q E h => ?_) (fun cdv A outer s H vs Q E p hc hr h => ?_)
  · obtain ⟨_, _, rfl, _⟩ := h
    rfl
  · obtain ⟨actual, expected, rfl, k⟩ := h
    refine ⟨_, PSs.nox (pss_cons (ps_if (pt_cmpR op_isN (pv 1) (pe_non) (nomark _)) (pss_one (ps_never)) (pss_nil)) (pss_cons (ps_if (pt_val (pe_callB call_isi (by rfl) T.n_isinstance (by decide +kernel) (pa_cons (pv 1) (pa_cons (pe_bltn (v := .ty "bool") (by rfl) T.n_bool (by decide +kernel) rfl) (pa_nil))))) (pss_one (ps_never)) (pss_nil)) (pss_cons (ps_if (pt_val (pe_callB call_isi (by rfl) T.n_isinstance (by decide +kernel) (pa_cons (pv 1) (pa_cons (pe_bltn (v := .ty "int") (by rfl) T.n_int (by decide +kernel) rfl) (pa_nil))))) (pss_one (ps_never)) (pss_nil)) (pss_cons (ps_if (pt_val (pe_callB call_isi (by rfl) T.n_isinstance (by decide +kernel) (pa_cons (pv 1) (pa_cons (pe_bltn (v := .ty "str") (by rfl) T.n_str (by decide +kernel) rfl) (pa_nil))))) (pss_one (ps_ret (pe_and (pe_callB call_isi (by rfl) T.n_isinstance (by decide +kernel) (pa_cons (pv 0) (pa_cons (pe_bltn (v := .ty "str") (by rfl) T.n_str (by decide +kernel) rfl) (pa_nil)))) (pe_one (pe_cmpR op_eq (pv 0) (pv 1) (nomark _)))))) (pss_nil)) (pss_cons (ps_never) (pss_cons (ps_never) (pss_cons (ps_never) (pss_cons (ps_never) (pss_cons (ps_never) (pss_one (ps_never))))))))))), ?_⟩
    refine ⟨_, rfl, rfl, _, rfl, ?_⟩
    refine iFd (by intro z; cases z) ?_
    refine ⟨_, rfl, _, _, .type "str", .type "bool", false, rfl, .ty _, .base (TyOf.str _), kit_ty (by decide +kernel), _, rfl, ?_⟩
    refine ⟨_, rfl, _, _, .type "str", .type "int", false, rfl, .ty _, .base (TyOf.str _), kit_ty (by decide +kernel), _, rfl, ?_⟩
    refine ⟨_, rfl, _, _, .type "str", .type "str", true, rfl, .ty _, .base (TyOf.str _), kit_ty (by decide +kernel), _, rfl, ?_⟩
    refine ⟨_, rfl, _, _, .type "str", .type "str", true, rfl, .ty _, .base (TyOf.str _), kit_ty (by decide +kernel), _, rfl, ?_⟩
    refine ⟨_, rfl, _, rfl, rfl, ?_⟩
    exact k (decide ((V.str actual) = (V.str expected))) (by first | rfl | simp_all)
end
def sp_law_big (K : PySem.W.Frag) : Sp := fun vs H Q E => ∃ (I : Hp) (O : List (Addr × HO)) (source : Addr) (source_s : List V), vs = [.ref source] ∧ Wd I ((source, .lst source_s) :: O) H ∧ SrcOk I source_s ∧ (∀ (r : Int) (source_s' : List V) (H' : Hp), Wd I ((source, .lst source_s') :: O) H' → SrcOk I source_s' → 0 ≤ r → r < 10 ^ 30 → Q (.int r) H')
section
variable {P : Program} {w : World} {K : PySem.W.Frag} {mg : Str → Option Value} {base : Heap}
theorem sc_law_big : FnScope ["source", "value", "k"] ["source"] (defScope s_law_big) := ⟨rfl, rfl, rfl, by decide +kernel, rfl, by decide +kernel, by decide +kernel⟩
theorem b_law_big (T : Txt P K mg w) : Binds K (fdOf K (a_law_big K)) ["source"] [] := T.f_law_big.bindsN fun _ _ _ _ _ _ us hl => match us, hl with | [_], _ => rfl
theorem ok_law_big (T : Txt P K mg w) : FnOk P w K mg base CX0 2 (a_law_big K) (fdOf K (a_law_big K)) ["source"] (sp_law_big K) := by
  refine T.f_law_big.ok sc_law_big (fun vs H Q E h => ?_) (fun cdv A outer s H vs Q E hr h => ?_)
  · obtain ⟨_, _, _, _, rfl, _, _, _⟩ := h
    rfl
  · obtain ⟨I, O, source, source_s, rfl, w, f_source, k⟩ := h
    refine ⟨_, PSs.nox (pss_cons (ps_set (i := 1) sc_law_big.nd rfl (Or.inl rfl) (pe_int)) (pss_cons (ps_for PassesOwn.never rfl (pi_range1 (by rfl) T.n_range (pa_cons (pe_call (ok_law_draw T) (hr.mono (by decide)) (by rfl) T.g_law_draw T.f_law_draw.kp (b_law_draw T) .nil pass0 (pa_cons (pv 0) (pa_cons (pe_int) (pa_nil)))) (pa_nil))) (pg_name (i := 2) sc_law_big.nd rfl (Or.inl rfl)) (pss_one (ps_set (i := 1) sc_law_big.nd rfl (Or.inl rfl) (pe_op op_add (pe_op op_mul (pv 1) (pe_int)) (pe_call (ok_law_draw T) (hr.mono (by decide)) (by rfl) T.g_law_draw T.f_law_draw.kp (b_law_draw T) .nil pass0 (pa_cons (pv 0) (pa_cons (pe_int) (pa_nil)))))))) (pss_one (ps_ret (pv 1))))), ?_⟩
    refine ⟨_, rfl, I, (O), source, (source_s), 31, rfl, w, f_source, (by omega), (by omega), fun r1 xs2 H3 w4 f5 q6 q7 => ?_⟩
    refine ⟨_, rfl, (by first | omega | simp | exact bigstep (by assumption) (by omega) (by omega)), (by first | omega | simp | exact bigstep (by assumption) (by omega) (by omega)), for_range (lo := 0) (n := (r1).toNat) (fun i12 σ' H' => ∃ (value8 : Int) (o9 : Option V) (xs10 : List V), σ' = [some (V.ref source), some (V.int value8), o9] ∧ Wd I ((source, .lst xs10) :: O) H' ∧ SrcOk I xs10 ∧ 0 ≤ value8 ∧ value8 < 10 ^ i12) ⟨0, _, _, rfl, w4, f5, (by first | omega | simp | exact bigstep (by assumption) (by omega) (by omega)), (by first | omega | simp | exact bigstep (by assumption) (by omega) (by omega))⟩ ?_ ?_⟩
    · rintro i18 _ H16 hi17 ⟨value8, o9, xs10, rfl, w13, f11, q14, q15⟩
      refine ⟨_, rfl, _, _, rfl, rfl, .inr ⟨by decide, by decide⟩, _, rfl, I, (O), source, (xs10), 10, rfl, w13, f11, (by omega), (by omega), fun r19 xs20 H21 w22 f23 q24 q25 => ?_⟩
      refine ⟨_, _, rfl, rfl, ?_⟩
      exact ⟨((value8 * 10) + r19), _, _, rfl, w22, f23, (by first | omega | simp | exact bigstep (by assumption) (by omega) (by omega)), (by first | omega | simp | exact bigstep (by assumption) (by omega) (by omega))⟩
    · rintro _ H26 ⟨value8, o9, xs10, rfl, w13, f11, q14, q15⟩
      refine ⟨_, rfl, ?_⟩
      exact k value8 _ _ w13 f11 (by first | assumption | exact big_end (by assumption) (by omega)) (by first | assumption | exact big_end (by assumption) (by omega))
end
def sp_law_divisor (K : PySem.W.Frag) : Sp := fun vs H Q E => ∃ (I : Hp) (O : List (Addr × HO)) (source : Addr) (source_s : List V), vs = [.ref source] ∧ Wd I ((source, .lst source_s) :: O) H ∧ SrcOk I source_s ∧ (∀ (r : Int) (source_s' : List V) (H' : Hp), Wd I ((source, .lst source_s') :: O) H' → SrcOk I source_s' → 0 < r → Sz 160 r → Q (.int r) H')
section
variable {P : Program} {w : World} {K : PySem.W.Frag} {mg : Str → Option Value} {base : Heap}
theorem sc_law_divisor : FnScope ["source", "kind", "value"] ["source"] (defScope s_law_divisor) := ⟨rfl, rfl, rfl, by decide +kernel, rfl, by decide +kernel, by decide +kernel⟩
theorem b_law_divisor (T : Txt P K mg w) : Binds K (fdOf K (a_law_divisor K)) ["source"] [] := T.f_law_divisor.bindsN fun _ _ _ _ _ _ us hl => match us, hl with | [_], _ => rfl
theorem ok_law_divisor (T : Txt P K mg w) : FnOk P w K mg base CX0 3 (a_law_divisor K) (fdOf K (a_law_divisor K)) ["source"] (sp_law_divisor K) := by
  refine T.f_law_divisor.ok sc_law_divisor (fun vs H Q E h => ?_) (fun cdv A outer s H vs Q E hr h => ?_)
  · obtain ⟨_, _, _, _, rfl, _, _, _⟩ := h
    rfl
  · obtain ⟨I, O, source, source_s, rfl, w, f_source, k⟩ := h
    refine ⟨_, PSs.nox (pss_cons (ps_set (i := 1) sc_law_divisor.nd rfl (Or.inl rfl) (pe_call (ok_law_draw T) (hr.mono (by decide)) (by rfl) T.g_law_draw T.f_law_draw.kp (b_law_draw T) .nil pass0 (pa_cons (pv 0) (pa_cons (pe_int) (pa_nil))))) (pss_cons (ps_set (i := 2) sc_law_divisor.nd rfl (Or.inl rfl) (pe_op op_add (pe_int) (pe_call (ok_law_draw T) (hr.mono (by decide)) (by rfl) T.g_law_draw T.f_law_draw.kp (b_law_draw T) .nil pass0 (pa_cons (pv 0) (pa_cons (pe_int) (pa_nil)))))) (Evl.pss_cut (ps_if (pt_cmpR op_eq (pv 1) (pe_int) (nomark _)) (pss_one (ps_set (i := 2) sc_law_divisor.nd rfl (Or.inl rfl) (pe_op op_add (pv 2) (pe_call (ok_law_big T) (hr.mono (by decide)) (by rfl) T.g_law_big T.f_law_big.kp (b_law_big T) .nil pass0 (pa_cons (pv 0) (pa_nil)))))) (pss_nil)) (Evl.pss_cut (ps_if (pt_cmpR op_eq (pv 1) (pe_int) (nomark _)) (pss_one (ps_set (i := 2) sc_law_divisor.nd rfl (Or.inl rfl) (pe_call (ok_law_power T) (hr.mono (by decide)) (by rfl) T.g_law_power T.f_law_power.kp (b_law_power T) .nil pass0 (pa_cons (pe_op op_add (pe_int) (pe_call (ok_law_draw T) (hr.mono (by decide)) (by rfl) T.g_law_draw T.f_law_draw.kp (b_law_draw T) .nil pass0 (pa_cons (pv 0) (pa_cons (pe_int) (pa_nil))))) (pa_cons (pe_call (ok_law_draw T) (hr.mono (by decide)) (by rfl) T.g_law_draw T.f_law_draw.kp (b_law_draw T) .nil pass0 (pa_cons (pv 0) (pa_cons (pe_int) (pa_nil)))) (pa_nil)))))) (pss_nil)) (pss_cons (ps_if (pt_cmpR op_eq (pe_call (ok_law_draw T) (hr.mono (by decide)) (by rfl) T.g_law_draw T.f_law_draw.kp (b_law_draw T) .nil pass0 (pa_cons (pv 0) (pa_cons (pe_int) (pa_nil)))) (pe_int) (nomark _)) (pss_one (ps_set (i := 2) sc_law_divisor.nd rfl (Or.inl rfl) (pe_op op_mul (pe_int) (pv 2)))) (pss_nil)) (pss_one (ps_ret (pv 2)))))))), ?_⟩
    refine ⟨_, rfl, I, (O), source, (source_s), 4, rfl, w, f_source, (by first | omega | assumption | exact Sz.of (by omega) (by omega) | exact Sz.mono (by assumption) (by omega)), (by first | omega | assumption | exact Sz.of (by omega) (by omega) | exact Sz.mono (by assumption) (by omega)), fun r1 xs2 H3 w4 f5 q6 q7 => ?_⟩
    refine ⟨_, rfl, I, (O), source, (xs2), 12, rfl, w4, f5, (by first | omega | assumption | exact Sz.of (by omega) (by omega) | exact Sz.mono (by assumption) (by omega)), (by first | omega | assumption | exact Sz.of (by omega) (by omega) | exact Sz.mono (by assumption) (by omega)), fun r8 xs9 H10 w11 f12 q13 q14 => ?_⟩
    refine ⟨_, _, rfl, rfl, ?_⟩
    refine ⟨fun σ' H' => ∃ (value15 : Int) (xs16 : List V), σ' = [some (V.ref source), some (V.int r1), some (V.int value15)] ∧ Wd I ((source, .lst xs16) :: O) H' ∧ SrcOk I xs16 ∧ 0 < value15 ∧ Sz 150 value15, ?_, ?_⟩
    · refine ⟨_, rfl, rfl, _, rfl, ?_⟩
      refine iEqI (fun h21 => ?_) (fun h21 => ?_)
      · refine ⟨_, rfl, _, rfl, I, (O), source, (xs9), rfl, w11, f12, fun r22 xs23 H24 w25 f26 q27 q28 => ?_⟩
        refine ⟨_, _, rfl, rfl, ?_⟩
        exact ⟨((1 + r8) + r22), _, rfl, w25, f26, (by first | omega | assumption | exact Sz.of (by omega) (by omega) | exact Sz.mono (by assumption) (by omega)), (by first | omega | assumption | exact Sz.of (by omega) (by omega) | exact Sz.mono (by assumption) (by omega))⟩
      · exact ⟨(1 + r8), _, rfl, w11, f12, (by first | omega | assumption | exact Sz.of (by omega) (by omega) | exact Sz.mono (by assumption) (by omega)), (by first | omega | assumption | exact Sz.of (by omega) (by omega) | exact Sz.mono (by assumption) (by omega))⟩
    · rintro σ' H29 ⟨value15, xs16, rfl, w20, f17, q18, q19⟩
      refine ⟨fun σ' H' => ∃ (value30 : Int) (xs31 : List V), σ' = [some (V.ref source), some (V.int r1), some (V.int value30)] ∧ Wd I ((source, .lst xs31) :: O) H' ∧ SrcOk I xs31 ∧ 0 < value30 ∧ Sz 150 value30, ?_, ?_⟩
      · refine ⟨_, rfl, rfl, _, rfl, ?_⟩
        refine iEqI (fun h35 => ?_) (fun h35 => ?_)
        · refine ⟨_, rfl, I, (O), source, (xs16), 35, rfl, w20, f17, (by first | omega | assumption | exact Sz.of (by omega) (by omega) | exact Sz.mono (by assumption) (by omega)), (by first | omega | assumption | exact Sz.of (by omega) (by omega) | exact Sz.mono (by assumption) (by omega)), fun r36 xs37 H38 w39 f40 q41 q42 => ?_⟩
          refine ⟨_, _, rfl, rfl, _, rfl, I, (O), source, (xs37), 25, rfl, w39, f40, (by first | omega | assumption | exact Sz.of (by omega) (by omega) | exact Sz.mono (by assumption) (by omega)), (by first | omega | assumption | exact Sz.of (by omega) (by omega) | exact Sz.mono (by assumption) (by omega)), fun r43 xs44 H45 w46 f47 q48 q49 => ?_⟩
          refine ⟨(2 + r36), r43, rfl, (by first | omega | assumption | exact Sz.of (by omega) (by omega) | exact Sz.mono (by assumption) (by omega)), (by first | omega | assumption | exact Sz.of (by omega) (by omega) | exact Sz.mono (by assumption) (by omega)), (by first | omega | assumption | exact Sz.of (by omega) (by omega) | exact Sz.mono (by assumption) (by omega)), (by first | omega | assumption | exact Sz.of (by omega) (by omega) | exact Sz.mono (by assumption) (by omega)), fun r50 q51 q52 q53 => ?_⟩
          subst q51
          exact ⟨((2 + r36) ^ r43.toNat), _, rfl, w46, f47, (by first | omega | assumption | exact Sz.of (by omega) (by omega) | exact Sz.mono (by assumption) (by omega)), (by first | omega | assumption | exact Sz.of (by omega) (by omega) | exact Sz.mono (by assumption) (by omega))⟩
        · exact ⟨value15, _, rfl, w20, f17, (by first | omega | assumption | exact Sz.of (by omega) (by omega) | exact Sz.mono (by assumption) (by omega)), (by first | omega | assumption | exact Sz.of (by omega) (by omega) | exact Sz.mono (by assumption) (by omega))⟩
      · rintro σ' H54 ⟨value30, xs31, rfl, w34, f32, q33, hz⟩
        refine ⟨_, rfl, I, (O), source, (xs31), 2, rfl, w34, f32, (by first | omega | assumption | exact Sz.of (by omega) (by omega) | exact Sz.mono (by assumption) (by omega)), (by first | omega | assumption | exact Sz.of (by omega) (by omega) | exact Sz.mono (by assumption) (by omega)), fun r55 xs56 H57 w58 f59 q60 q61 => ?_⟩
        refine ⟨rfl, _, rfl, ?_⟩
        refine iEqI (fun h62 => ?_) (fun h62 => ?_)
        · refine ⟨_, rfl, _, _, rfl, rfl, .inl ⟨by decide, by decide⟩, _, rfl, ?_⟩
          exact k (2 * value30) _ _ w58 f59 (by first | omega | exact Sz.mono hz (by omega) | exact Sz.mono (Sz.mul (n := 2) (by decide) hz) (by omega)) (by first | omega | exact Sz.mono hz (by omega) | exact Sz.mono (Sz.mul (n := 2) (by decide) hz) (by omega))
        · refine ⟨_, rfl, ?_⟩
          exact k value30 _ _ w58 f59 (by first | omega | exact Sz.mono hz (by omega) | exact Sz.mono (Sz.mul (n := 2) (by decide) hz) (by omega)) (by first | omega | exact Sz.mono hz (by omega) | exact Sz.mono (Sz.mul (n := 2) (by decide) hz) (by omega))
end
def sp_law_numerator (K : PySem.W.Frag) : Sp := fun vs H Q E => ∃ (I : Hp) (O : List (Addr × HO)) (source : Addr) (source_s : List V) (divisor : Int), vs = [.ref source, .int divisor] ∧ Wd I ((source, .lst source_s) :: O) H ∧ SrcOk I source_s ∧ 0 < divisor ∧ Sz 160 divisor ∧ (∀ (r : Int) (source_s' : List V) (H' : Hp), Wd I ((source, .lst source_s') :: O) H' → SrcOk I source_s' → Sz 400 r → Q (.int r) H')
section
variable {P : Program} {w : World} {K : PySem.W.Frag} {mg : Str → Option Value} {base : Heap}
theorem sc_law_numerator : FnScope ["source", "divisor", "kind", "part", "whole"] ["source", "divisor"] (defScope s_law_numerator) := ⟨rfl, rfl, rfl, by decide +kernel, rfl, by decide +kernel, by decide +kernel⟩
theorem b_law_numerator (T : Txt P K mg w) : Binds K (fdOf K (a_law_numerator K)) ["source", "divisor"] [] := T.f_law_numerator.bindsN fun _ _ _ _ _ _ us hl => match us, hl with | [_, _], _ => rfl
theorem ok_law_numerator (T : Txt P K mg w) : FnOk P w K mg base CX0 3 (a_law_numerator K) (fdOf K (a_law_numerator K)) ["source", "divisor"] (sp_law_numerator K) := by
  refine T.f_law_numerator.ok sc_law_numerator (fun vs H Q E h => ?_) (fun cdv A outer s H vs Q E hr h => ?_)
  · obtain ⟨_, _, _, _, _, rfl, _, _, _, _, _⟩ := h
    rfl
  · obtain ⟨I, O, source, source_s, divisor, rfl, w, f_source, e1, e2, k⟩ := h
    refine ⟨_, PSs.nox (pss_cons (ps_set (i := 2) sc_law_numerator.nd rfl (Or.inl rfl) (pe_call (ok_law_draw T) (hr.mono (by decide)) (by rfl) T.g_law_draw T.f_law_draw.kp (b_law_draw T) .nil pass0 (pa_cons (pv 0) (pa_cons (pe_int) (pa_nil))))) (pss_cons (ps_set (i := 3) sc_law_numerator.nd rfl (Or.inl rfl) (pe_op op_fdiv (pv 1) (pe_int))) (Evl.pss_cut (ps_if (pt_cmpR op_eq (pv 2) (pe_int) (nomark _)) (pss_one (ps_set (i := 3) sc_law_numerator.nd rfl (Or.inl rfl) (pe_op op_add (pv 3) (pe_int)))) (pss_nil)) (Evl.pss_cut (ps_if (pt_cmpR op_eq (pv 2) (pe_int) (nomark _)) (pss_one (ps_set (i := 3) sc_law_numerator.nd rfl (Or.inl rfl) (pe_op op_sub (pv 3) (pe_int)))) (pss_nil)) (Evl.pss_cut (ps_if (pt_cmpR op_eq (pv 2) (pe_int) (nomark _)) (pss_one (ps_set (i := 3) sc_law_numerator.nd rfl (Or.inl rfl) (pe_int))) (pss_nil)) (Evl.pss_cut (ps_if (pt_cmpR op_eq (pv 2) (pe_int) (nomark _)) (pss_one (ps_set (i := 3) sc_law_numerator.nd rfl (Or.inl rfl) (pe_int))) (pss_nil)) (Evl.pss_cut (ps_if (pt_cmpR op_eq (pv 2) (pe_int) (nomark _)) (pss_one (ps_set (i := 3) sc_law_numerator.nd rfl (Or.inl rfl) (pe_op op_sub (pv 1) (pe_int)))) (pss_nil)) (Evl.pss_cut (ps_if (pt_cmpR op_eq (pv 2) (pe_int) (nomark _)) (pss_one (ps_set (i := 3) sc_law_numerator.nd rfl (Or.inl rfl) (pe_op op_mod (pe_callTy call_int1 (by rfl) T.n_int (by decide +kernel) (pa_cons (pe_call (ok_law_big T) (hr.mono (by decide)) (by rfl) T.g_law_big T.f_law_big.kp (b_law_big T) .nil pass0 (pa_cons (pv 0) (pa_nil))) (pa_nil))) (pv 1)))) (pss_nil)) (pss_cons (ps_set (i := 4) sc_law_numerator.nd rfl (Or.inl rfl) (pe_call (ok_law_draw T) (hr.mono (by decide)) (by rfl) T.g_law_draw T.f_law_draw.kp (b_law_draw T) .nil pass0 (pa_cons (pv 0) (pa_cons (pe_int) (pa_nil))))) (Evl.pss_cut (ps_if (pt_cmpR op_eq (pe_call (ok_law_draw T) (hr.mono (by decide)) (by rfl) T.g_law_draw T.f_law_draw.kp (b_law_draw T) .nil pass0 (pa_cons (pv 0) (pa_cons (pe_int) (pa_nil)))) (pe_int) (nomark _)) (pss_one (ps_set (i := 4) sc_law_numerator.nd rfl (Or.inl rfl) (pe_op op_add (pv 4) (pe_call (ok_law_big T) (hr.mono (by decide)) (by rfl) T.g_law_big T.f_law_big.kp (b_law_big T) .nil pass0 (pa_cons (pv 0) (pa_nil)))))) (pss_nil)) (pss_one (ps_ret (pe_op op_mulW (pe_op op_add (pe_op op_mulW (pv 4) (pv 1)) (pv 3)) (pe_op op_sub (pe_int) (pe_op op_mul (pe_int) (pe_call (ok_law_draw T) (hr.mono (by decide)) (by rfl) T.g_law_draw T.f_law_draw.kp (b_law_draw T) .nil pass0 (pa_cons (pv 0) (pa_cons (pe_int) (pa_nil))))))))))))))))))), ?_⟩
    refine ⟨_, rfl, I, (O), source, (source_s), 7, rfl, w, f_source, (by first | omega | assumption | exact Sz.of (by omega) (by omega) | exact Sz.mono (by assumption) (by omega)), (by first | omega | assumption | exact Sz.of (by omega) (by omega) | exact Sz.mono (by assumption) (by omega)), fun r1 xs2 H3 w4 f5 q6 q7 => ?_⟩
    refine ⟨_, rfl, _, _, rfl, rfl, ⟨by decide, by decide⟩, ?_⟩
    refine ⟨fun σ' H' => ∃ part8 : Int, ((r1 = 1 ∧ part8 = ((divisor / 2) + 1)) ∨ (¬ (r1 = 1) ∧ part8 = (divisor / 2))) ∧ σ' = [some (V.ref source), some (V.int divisor), some (V.int r1), some (V.int part8), none] ∧ H3 = H', ?_, ?_⟩
    · refine ⟨_, rfl, rfl, _, rfl, ?_⟩
      refine iEqI (fun h10 => ?_) (fun h10 => ?_)
      · refine ⟨_, rfl, _, _, rfl, rfl, ?_⟩
        exact ⟨_, .inl ⟨h10, rfl⟩, rfl, rfl⟩
      · exact ⟨_, .inr ⟨h10, rfl⟩, rfl, rfl⟩
    · rintro σ' H' ⟨part8, j9, rfl, rfl⟩
      refine ⟨fun σ' H' => ∃ part11 : Int, ((r1 = 2 ∧ part11 = (part8 - 1)) ∨ (¬ (r1 = 2) ∧ part11 = part8)) ∧ σ' = [some (V.ref source), some (V.int divisor), some (V.int r1), some (V.int part11), none] ∧ H3 = H', ?_, ?_⟩
      · refine ⟨_, rfl, rfl, _, rfl, ?_⟩
        refine iEqI (fun h13 => ?_) (fun h13 => ?_)
        · refine ⟨_, rfl, _, _, rfl, rfl, ?_⟩
          exact ⟨_, .inl ⟨h13, rfl⟩, rfl, rfl⟩
        · exact ⟨_, .inr ⟨h13, rfl⟩, rfl, rfl⟩
      · rintro σ' H' ⟨part11, j12, rfl, rfl⟩
        refine ⟨fun σ' H' => ∃ part14 : Int, ((r1 = 3 ∧ part14 = 0) ∨ (¬ (r1 = 3) ∧ part14 = part11)) ∧ σ' = [some (V.ref source), some (V.int divisor), some (V.int r1), some (V.int part14), none] ∧ H3 = H', ?_, ?_⟩
        · refine ⟨_, rfl, rfl, _, rfl, ?_⟩
          refine iEqI (fun h16 => ?_) (fun h16 => ?_)
          · exact ⟨_, .inl ⟨h16, rfl⟩, rfl, rfl⟩
          · exact ⟨_, .inr ⟨h16, rfl⟩, rfl, rfl⟩
        · rintro σ' H' ⟨part14, j15, rfl, rfl⟩
          refine ⟨fun σ' H' => ∃ part17 : Int, ((r1 = 4 ∧ part17 = 1) ∨ (¬ (r1 = 4) ∧ part17 = part14)) ∧ σ' = [some (V.ref source), some (V.int divisor), some (V.int r1), some (V.int part17), none] ∧ H3 = H', ?_, ?_⟩
          · refine ⟨_, rfl, rfl, _, rfl, ?_⟩
            refine iEqI (fun h19 => ?_) (fun h19 => ?_)
            · exact ⟨_, .inl ⟨h19, rfl⟩, rfl, rfl⟩
            · exact ⟨_, .inr ⟨h19, rfl⟩, rfl, rfl⟩
          · rintro σ' H' ⟨part17, j18, rfl, rfl⟩
            refine ⟨fun σ' H' => ∃ part20 : Int, ((r1 = 5 ∧ part20 = (divisor - 1)) ∨ (¬ (r1 = 5) ∧ part20 = part17)) ∧ σ' = [some (V.ref source), some (V.int divisor), some (V.int r1), some (V.int part20), none] ∧ H3 = H', ?_, ?_⟩
            · refine ⟨_, rfl, rfl, _, rfl, ?_⟩
              refine iEqI (fun h22 => ?_) (fun h22 => ?_)
              · refine ⟨_, rfl, _, _, rfl, rfl, ?_⟩
                exact ⟨_, .inl ⟨h22, rfl⟩, rfl, rfl⟩
              · exact ⟨_, .inr ⟨h22, rfl⟩, rfl, rfl⟩
            · rintro σ' H' ⟨part20, j21, rfl, rfl⟩
              refine ⟨fun σ' H' => ∃ (part23 : Int) (xs24 : List V), σ' = [some (V.ref source), some (V.int divisor), some (V.int r1), some (V.int part23), none] ∧ Wd I ((source, .lst xs24) :: O) H' ∧ SrcOk I xs24 ∧ -1 ≤ part23 ∧ part23 ≤ divisor, ?_, ?_⟩
              · refine ⟨_, rfl, rfl, _, rfl, ?_⟩
                refine iEqI (fun h27 => ?_) (fun h27 => ?_)
                · refine ⟨_, rfl, I, (O), source, (xs2), rfl, w4, f5, fun r28 xs29 H30 w31 f32 q33 q34 => ?_⟩
                  refine .inl ⟨_, rfl, ?_⟩
                  refine ⟨_, rfl, _, _, rfl, rfl, (by show (0 : Int) < divisor; omega), ?_⟩
                  exact ⟨(r28 % divisor), _, rfl, w31, f32, (by first | omega | exact Int.le_trans (by decide) (Int.emod_nonneg _ (by omega)) | exact Int.le_of_lt (Int.emod_lt_of_pos _ (by omega))), (by first | omega | exact Int.le_trans (by decide) (Int.emod_nonneg _ (by omega)) | exact Int.le_of_lt (Int.emod_lt_of_pos _ (by omega)))⟩
                · exact ⟨part20, _, rfl, w4, f5, (by first | omega | exact Int.le_trans (by decide) (Int.emod_nonneg _ (by omega)) | exact Int.le_of_lt (Int.emod_lt_of_pos _ (by omega))), (by first | omega | exact Int.le_trans (by decide) (Int.emod_nonneg _ (by omega)) | exact Int.le_of_lt (Int.emod_lt_of_pos _ (by omega)))⟩
              · rintro σ' H35 ⟨part23, xs24, rfl, w26, f25, hp0, hp1⟩
                refine ⟨_, rfl, I, (O), source, (xs24), 6, rfl, w26, f25, (by first | omega | assumption | exact Sz.of (by omega) (by omega) | exact Sz.mono (by assumption) (by omega)), (by first | omega | assumption | exact Sz.of (by omega) (by omega) | exact Sz.mono (by assumption) (by omega)), fun r36 xs37 H38 w39 f40 q41 q42 => ?_⟩
                refine ⟨fun σ' H' => ∃ (whole43 : Int) (xs44 : List V), σ' = [some (V.ref source), some (V.int divisor), some (V.int r1), some (V.int part23), some (V.int whole43)] ∧ Wd I ((source, .lst xs44) :: O) H' ∧ SrcOk I xs44 ∧ 0 ≤ whole43 ∧ Sz 110 whole43, ?_, ?_⟩
                · refine ⟨_, rfl, I, (O), source, (xs37), 3, rfl, w39, f40, (by first | omega | assumption | exact Sz.of (by omega) (by omega) | exact Sz.mono (by assumption) (by omega)), (by first | omega | assumption | exact Sz.of (by omega) (by omega) | exact Sz.mono (by assumption) (by omega)), fun r47 xs48 H49 w50 f51 q52 q53 => ?_⟩
                  refine ⟨rfl, _, rfl, ?_⟩
                  refine iEqI (fun h54 => ?_) (fun h54 => ?_)
                  · refine ⟨_, rfl, _, rfl, I, (O), source, (xs48), rfl, w50, f51, fun r55 xs56 H57 w58 f59 q60 q61 => ?_⟩
                    refine ⟨_, _, rfl, rfl, ?_⟩
                    exact ⟨(r36 + r55), _, rfl, w58, f59, (by first | omega | assumption | exact Sz.of (by omega) (by omega) | exact Sz.mono (by assumption) (by omega)), (by first | omega | assumption | exact Sz.of (by omega) (by omega) | exact Sz.mono (by assumption) (by omega))⟩
                  · exact ⟨r36, _, rfl, w50, f51, (by first | omega | assumption | exact Sz.of (by omega) (by omega) | exact Sz.mono (by assumption) (by omega)), (by first | omega | assumption | exact Sz.of (by omega) (by omega) | exact Sz.mono (by assumption) (by omega))⟩
                · rintro σ' H62 ⟨whole43, xs44, rfl, w46, f45, hw0, hw⟩
                  refine ⟨_, rfl, _, rfl, _, _, rfl, rfl, (Sz.cmul hw e2), _, rfl, _, _, rfl, rfl, _, rfl, I, (O), source, (xs44), 2, rfl, w46, f45, (by first | omega | assumption | exact Sz.of (by omega) (by omega) | exact Sz.mono (by assumption) (by omega)), (by first | omega | assumption | exact Sz.of (by omega) (by omega) | exact Sz.mono (by assumption) (by omega)), fun r63 xs64 H65 w66 f67 q68 q69 => ?_⟩
                  refine ⟨_, _, rfl, rfl, .inl ⟨by decide, by decide⟩, _, _, rfl, rfl, _, _, rfl, rfl, (Sz.cmul (num_sz hw e2 hp0 hp1 (by omega)) (Sz.of (n := 2) (by omega) (by omega))), ?_⟩
                  exact k (((whole43 * divisor) + part23) * (1 - (2 * r63))) _ _ w66 f67 (by exact Sz.mono (Sz.mul (num_sz hw e2 hp0 hp1 (by omega)) (Sz.of (n := 2) (by omega) (by omega))) (by decide))
end
def sp_law_odd_mode (K : PySem.W.Frag) : Sp := fun vs H Q E => ∃ (I : Hp) (O : List (Addr × HO)) (source : Addr) (source_s : List V), vs = [.ref source] ∧ Wd I ((source, .lst source_s) :: O) H ∧ SrcOk I source_s ∧ (∀ (r : Str) (source_s' : List V) (I' : Hp) (H' : Hp), Same I I' → Wd I' ((source, .lst source_s') :: O) H' → SrcOk I' source_s' → ¬ r ∈ modesL → Q (.str r) H')
section
variable {P : Program} {w : World} {K : PySem.W.Frag} {mg : Str → Option Value} {base : Heap}
theorem sc_law_odd_mode : FnScope ["source", "mode", "at", "kind"] ["source"] (defScope s_law_odd_mode) := ⟨rfl, rfl, rfl, by decide +kernel, rfl, by decide +kernel, by decide +kernel⟩
theorem b_law_odd_mode (T : Txt P K mg w) : Binds K (fdOf K (a_law_odd_mode K)) ["source"] [] := T.f_law_odd_mode.bindsN fun _ _ _ _ _ _ us hl => match us, hl with | [_], _ => rfl
theorem ok_law_odd_mode (T : Txt P K mg w) : FnOk P w K mg base CX0 3 (a_law_odd_mode K) (fdOf K (a_law_odd_mode K)) ["source"] (sp_law_odd_mode K) := by
  refine okT T.f_law_odd_mode sc_law_odd_mode (by decide +kernel) (by decide) (fun vs H Q E h => ?_) (fun cdv A outer s H vs Q E hr h => ?_)
  · obtain ⟨_, _, _, _, rfl, _, _, _⟩ := h
    rfl
  · obtain ⟨I, O, source, source_s, rfl, w, f_source, k⟩ := h
    refine ⟨_, PSsT.nox (psst_cons (PST.of (ps_set (i := 1) sc_law_odd_mode.nd rfl (Or.inl rfl) (pe_call (ok_law_mode T) (hr.mono (by decide)) (by rfl) T.g_law_mode T.f_law_mode.kp (b_law_mode T) .nil pass0 (pa_cons (pv 0) (pa_nil))))) (psst_cons (PST.of (ps_set (i := 2) sc_law_odd_mode.nd rfl (Or.inl rfl) (pe_call (ok_law_draw T) (hr.mono (by decide)) (by rfl) T.g_law_draw T.f_law_draw.kp (b_law_draw T) .nil pass0 (pa_cons (pv 0) (pa_cons (pe_callB call_len_str (by rfl) T.n_len (by decide +kernel) (pa_cons (pv 1) (pa_nil))) (pa_nil)))))) (psst_cons (PST.of (ps_set (i := 3) sc_law_odd_mode.nd rfl (Or.inl rfl) (pe_call (ok_law_draw T) (hr.mono (by decide)) (by rfl) T.g_law_draw T.f_law_draw.kp (b_law_draw T) .nil pass0 (pa_cons (pv 0) (pa_cons (pe_int) (pa_nil)))))) (psst_cons (PST.of (ps_if (pt_cmpR op_eq (pv 3) (pe_int) (nomark _)) (pss_one (ps_ret (pe_slice sl_str (pv 1) po_none (po_some (pv 2))))) (pss_nil))) (psst_cons (PST.of (ps_if (pt_cmpR op_eq (pv 3) (pe_int) (nomark _)) (pss_one (ps_ret (pe_op op_add_str (pe_slice sl_str (pv 1) po_none (po_some (pv 2))) (pe_slice sl_str (pv 1) (po_some (pe_op op_add (pv 2) (pe_int))) po_none)))) (pss_nil))) (psst_cons (CwR.pst_if (pt_cmpR op_eq (pv 3) (pe_int) (nomark _)) (psst_cons (CwR.pst_ret (CwR.pet_op op_add_str (CwR.pet_op op_add_str (CwR.PET.of (pe_slice sl_str (pv 1) po_none (po_some (pv 2)))) (CwR.pet_replC (pe_upper (pe_slice sl_str (pv 1) (po_some (pv 2)) (po_some (pe_op op_add (pv 2) (pe_int))))))) (CwR.PET.of (pe_slice sl_str (pv 1) (po_some (pe_op op_add (pv 2) (pe_int))) po_none)))) (PSsT.of (pss_nil))) (PSsT.of (pss_nil))) (PSsT.of (pss_cons (ps_if (pt_cmpR op_eq (pv 3) (pe_int) (nomark _)) (pss_one (ps_ret (pe_op op_add_str (pv 1) (pe_str)))) (pss_nil)) (pss_cons (ps_if (pt_cmpR op_eq (pv 3) (pe_int) (nomark _)) (pss_one (ps_ret (pe_op op_add_str (pe_str) (pv 1)))) (pss_nil)) (pss_cons (ps_if (pt_cmpR op_eq (pv 3) (pe_int) (nomark _)) (pss_one (ps_ret (pe_op op_add_str (pe_slice sl_str (pv 1) po_none (po_some (pe_op op_add (pv 2) (pe_int)))) (pe_slice sl_str (pv 1) (po_some (pv 2)) po_none)))) (pss_nil)) (pss_one (ps_ret (pe_ix ix_list (pe_lst (pa_cons (pe_str) (pa_cons (pe_str) (pa_cons (pe_str) (pa_cons (pe_str) (pa_cons (pe_str) (pa_cons (pe_str) (pa_cons (pe_str) (pa_cons (pe_str) (pa_nil)))))))))) (pe_call (ok_law_draw T) (hr.mono (by decide)) (by rfl) T.g_law_draw T.f_law_draw.kp (b_law_draw T) .nil pass0 (pa_cons (pv 0) (pa_cons (pe_int) (pa_nil)))) (fun _ _ => rfl)))))))))))))), ?_⟩
    refine ⟨_, rfl, I, (O), source, (source_s), rfl, w, f_source, fun r1 xs2 I3 H5 s4 w6 f7 q8 => ?_⟩
    refine ⟨_, rfl, _, rfl, _, rfl, (mode_len1 (by assumption)), I3, (O), source, (xs2), (r1.length : Int), rfl, w6, f7, (by have c := mode_len ‹_ ∈ modesL›; omega), (by have c := mode_len ‹_ ∈ modesL›; omega), fun r9 xs10 H11 w12 f13 q14 q15 => ?_⟩
    refine ⟨_, rfl, I3, (O), source, (xs10), 7, rfl, w12, f13, (by first | assumption | omega), (by first | assumption | omega), fun r16 xs17 H18 w19 f20 q21 q22 => ?_⟩
    refine ⟨_, rfl, rfl, _, rfl, ?_⟩
    refine iEqI (fun h23 => ?_) (fun h23 => ?_)
    · refine ⟨_, rfl, _, rfl, _, rfl, _, rfl, (mode_len1 (by assumption)), ?_⟩
      exact k (cutS r1 none (some r9)) _ _ _ (s4) w19 f20 (by exact odd0 (by assumption) (by assumption) (by assumption))
    · refine ⟨_, rfl, rfl, _, rfl, ?_⟩
      refine iEqI (fun h24 => ?_) (fun h24 => ?_)
      · refine ⟨_, rfl, _, rfl, _, rfl, _, rfl, (mode_len1 (by assumption)), _, rfl, _, rfl, _, _, rfl, rfl, _, rfl, _, rfl, (mode_len1 (by assumption)), _, _, rfl, rfl, (len2 (Nat.le_trans (cut_le (by assumption) _ _) (by decide)) (Nat.le_trans (cut_le (by assumption) _ _) (by decide))), ?_⟩
        exact k ((cutS r1 none (some r9)) ++ (cutS r1 (some (r9 + 1)) none)) _ _ _ (s4) w19 f20 (by exact odd1 (by assumption) (by assumption) (by assumption))
      · refine ⟨_, rfl, rfl, _, rfl, ?_⟩
        refine iEqI (fun h25 => ?_) (fun h25 => ?_)
        · refine ⟨_, rfl, _, rfl, _, rfl, _, rfl, (mode_len1 (by assumption)), _, rfl, _, rfl, _, rfl, _, rfl, _, _, rfl, rfl, _, rfl, _, rfl, (mode_len1 (by assumption)), ⟨_, rfl⟩, _, rfl, rfl, ((Nat.le_trans (cut_le (by assumption) _ _) (by decide))), _, rfl, (repl_b (Nat.le_trans (upc_le (by assumption) (by assumption) (by assumption)) (by decide))), _, _, rfl, rfl, (len2 (Nat.le_trans (cut_le (by assumption) _ _) (by decide)) (Nat.le_trans (upr_le (by assumption) (by assumption) (by assumption)) (by decide))), _, rfl, _, rfl, _, _, rfl, rfl, _, rfl, _, rfl, (mode_len1 (by assumption)), _, _, rfl, rfl, (len2 (Nat.le_trans (app_le (n := 12) (k := 12) (cut_le (by assumption) _ _) (upr_le (by assumption) (by assumption) (by assumption))) (by decide)) (Nat.le_trans (cut_le (by assumption) _ _) (by decide))), ?_⟩
          exact k (((cutS r1 none (some r9)) ++ (Txt.replace (Txt.upper (cutS r1 (some r9) (some (r9 + 1)))) "-" "_")) ++ (cutS r1 (some (r9 + 1)) none)) _ _ _ (s4) w19 f20 (by exact odd2 (by assumption) (by assumption) (by assumption))
        · refine ⟨_, rfl, rfl, _, rfl, ?_⟩
          refine iEqI (fun h26 => ?_) (fun h26 => ?_)
          · refine ⟨_, rfl, _, _, rfl, rfl, (len2 (Nat.le_trans (mode_len (by assumption)).2 (by decide)) (by decide)), ?_⟩
            exact k (r1 ++ (" " : Str)) _ _ _ (s4) w19 f20 (by exact odd3 (by assumption))
          · refine ⟨_, rfl, rfl, _, rfl, ?_⟩
            refine iEqI (fun h27 => ?_) (fun h27 => ?_)
            · refine ⟨_, rfl, _, _, rfl, rfl, (len2 (by decide) (Nat.le_trans (mode_len (by assumption)).2 (by decide))), ?_⟩
              exact k ((" " : Str) ++ r1) _ _ _ (s4) w19 f20 (by exact odd4 (by assumption))
            · refine ⟨_, rfl, rfl, _, rfl, ?_⟩
              refine iEqI (fun h28 => ?_) (fun h28 => ?_)
              · refine ⟨_, rfl, _, rfl, _, _, rfl, rfl, _, rfl, _, rfl, (mode_len1 (by assumption)), _, rfl, _, rfl, _, rfl, _, rfl, (mode_len1 (by assumption)), _, _, rfl, rfl, (len2 (Nat.le_trans (cut_le (by assumption) _ _) (by decide)) (Nat.le_trans (cut_le (by assumption) _ _) (by decide))), ?_⟩
                exact k ((cutS r1 none (some (r9 + 1))) ++ (cutS r1 (some r9) none)) _ _ _ (s4) w19 f20 (by exact odd5 (by assumption) (by assumption) (by assumption))
              · refine ⟨(by show 8 ≤ sizeLine; decide), fun p29 hp30 => ?_⟩
                have s31 := w19.newS (o := .lst [(V.str ("nearest" : Str)), (V.str ("even" : Str)), (V.str ("up" : Str)), (V.str ("down" : Str)), (V.str ("in" : Str)), (V.str ("out" : Str)), (V.str ("near" : Str)), (V.str ("none" : Str))]) hp30
                have w32 := w19.new (o := .lst [(V.str ("nearest" : Str)), (V.str ("even" : Str)), (V.str ("up" : Str)), (V.str ("down" : Str)), (V.str ("in" : Str)), (V.str ("out" : Str)), (V.str ("near" : Str)), (V.str ("none" : Str))]) hp30
                refine ⟨_, rfl, (upd I3 p29 (.lst [(V.str ("nearest" : Str)), (V.str ("even" : Str)), (V.str ("up" : Str)), (V.str ("down" : Str)), (V.str ("in" : Str)), (V.str ("out" : Str)), (V.str ("near" : Str)), (V.str ("none" : Str))])), (O), source, (xs17), 8, rfl, w32, (SrcOk.mono s31 f20), (by first | assumption | omega), (by first | assumption | omega), fun r33 xs34 H35 w36 f37 q38 q39 => ?_⟩
                obtain ⟨m40, hm41, _, he42⟩ := at_map (f := V.str) (l := wordsL) (i := r33) (by omega) (by show r33 < 8; omega)
                refine ⟨_, _, _, _, rfl, rfl, (SqL.of (w36.get upd_same)), he42, ?_⟩
                exact k m40 _ _ _ ((Same.trans s4 s31)) w36 f37 (by exact odd6 (List.mem_of_getElem? (by assumption)))
end
def sp_law_chosen (K : PySem.W.Frag) : Sp := fun vs H Q E => ∃ (numerator : Int) (divisor : Int) (mode : Str) (result : Int), vs = [.int numerator, .int divisor, .str mode, .int result] ∧ 0 < divisor ∧ Sz 170 divisor ∧ Sz 420 numerator ∧ Sz 430 result ∧ (∀ (r : Bool), r = chosenF numerator divisor mode result → Q (.bl r) H)
section
variable {P : Program} {w : World} {K : PySem.W.Frag} {mg : Str → Option Value} {base : Heap}
theorem sc_law_chosen : FnScope ["numerator", "divisor", "mode", "result", "off", "out"] ["numerator", "divisor", "mode", "result"] (defScope s_law_chosen) := ⟨rfl, rfl, rfl, by decide +kernel, rfl, by decide +kernel, by decide +kernel⟩
theorem b_law_chosen (T : Txt P K mg w) : Binds K (fdOf K (a_law_chosen K)) ["numerator", "divisor", "mode", "result"] [] := T.f_law_chosen.bindsN fun _ _ _ _ _ _ us hl => match us, hl with | [_, _, _, _], _ => rfl
theorem ok_law_chosen (T : Txt P K mg w) : FnOk P w K mg base CX0 1 (a_law_chosen K) (fdOf K (a_law_chosen K)) ["numerator", "divisor", "mode", "result"] (sp_law_chosen K) := by
  refine T.f_law_chosen.ok sc_law_chosen (fun vs H Q E h => ?_) (fun cdv A outer s H vs Q E hr h => ?_)
  · obtain ⟨_, _, _, _, rfl, _, _, _, _, _⟩ := h
    rfl
  · obtain ⟨numerator, divisor, mode, result, rfl, e1, e2, e3, e4, k⟩ := h
    refine ⟨_, PSs.nox (pss_cons (ps_if (PW.pt (pw_or (pt_not (pt_val (pe_callB call_isi (by rfl) T.n_isinstance (by decide +kernel) (pa_cons (pv 3) (pa_cons (pe_bltn (v := .ty "int") (by rfl) T.n_int (by decide +kernel) rfl) (pa_nil)))))) (pw_or1 (pt_val (pe_callB call_isi (by rfl) T.n_isinstance (by decide +kernel) (pa_cons (pv 3) (pa_cons (pe_bltn (v := .ty "bool") (by rfl) T.n_bool (by decide +kernel) rfl) (pa_nil)))))))) (pss_one (ps_never)) (pss_nil)) (pss_cons (ps_set (i := 4) sc_law_chosen.nd rfl (Or.inl rfl) (pe_op op_sub (pe_op op_mulW (pv 3) (pv 1)) (pv 0))) (pss_cons (ps_if (pt_cmpR op_ge (pe_callB call_abs (by rfl) T.n_abs (by decide +kernel) (pa_cons (pv 4) (pa_nil))) (pv 1) (nomark _)) (pss_one (ps_ret (pe_bl))) (pss_nil)) (pss_cons (ps_if (pt_cmpR op_eq (pv 4) (pe_int) (nomark _)) (pss_one (ps_ret (pe_bl))) (pss_nil)) (pss_cons (ps_set (i := 5) sc_law_chosen.nd rfl (Or.inl rfl) (pe_cmpR op_gt (pe_op op_mulW (pv 4) (pv 0)) (pe_int) (nomark _))) (pss_cons (ps_if (PW.pt (pw_or (pt_cmpR op_eq (pv 2) (pe_str) (nomark _)) (pw_or1 (pt_cmpR op_eq (pv 2) (pe_str) (nomark _))))) (pss_one (ps_ret (pe_cmpR op_eq (pv 5) (pe_cmpR op_eq (pv 2) (pe_str) (nomark _)) (nomark _)))) (pss_nil)) (pss_cons (ps_if (PW.pt (pw_or (pt_cmpR op_eq (pv 2) (pe_str) (nomark _)) (pw_or1 (pt_cmpR op_eq (pv 2) (pe_str) (nomark _))))) (pss_one (ps_ret (pe_cmpR op_eq (pe_cmpR op_gt (pv 4) (pe_int) (nomark _)) (pe_cmpR op_eq (pv 2) (pe_str) (nomark _)) (nomark _)))) (pss_nil)) (pss_cons (ps_if (pt_cmpR op_ne (pe_op op_mul (pe_int) (pe_callB call_abs (by rfl) T.n_abs (by decide +kernel) (pa_cons (pv 4) (pa_nil)))) (pv 1) (nomark _)) (pss_one (ps_ret (pe_cmpR op_lt (pe_op op_mul (pe_int) (pe_callB call_abs (by rfl) T.n_abs (by decide +kernel) (pa_cons (pv 4) (pa_nil)))) (pv 1) (nomark _)))) (pss_nil)) (pss_cons (ps_if (pt_cmpR op_eq (pv 2) (pe_str) (nomark _)) (pss_one (ps_ret (pe_cmpR op_eq (pe_op op_mod (pe_callTy call_int1 (by rfl) T.n_int (by decide +kernel) (pa_cons (pv 3) (pa_nil))) (pe_int)) (pe_int) (nomark _)))) (pss_nil)) (pss_cons (ps_if (PW.pt (pw_or (pt_cmpR op_eq (pv 2) (pe_str) (nomark _)) (pw_or1 (pt_cmpR op_eq (pv 2) (pe_str) (nomark _))))) (pss_one (ps_ret (pe_cmpR op_eq (pv 5) (pe_cmpR op_eq (pv 2) (pe_str) (nomark _)) (nomark _)))) (pss_nil)) (pss_one (ps_ret (pe_cmpR op_eq (pe_cmpR op_gt (pv 4) (pe_int) (nomark _)) (pe_cmpR op_eq (pv 2) (pe_str) (nomark _)) (nomark _)))))))))))))), ?_⟩
    refine ⟨_, rfl, _, _, .type "int", .type "int", true, rfl, .ty _, .base (TyOf.int _), kit_ty (by decide +kernel), _, rfl, ?_⟩
    refine ⟨_, rfl, _, _, .type "int", .type "bool", false, rfl, .ty _, .base (TyOf.int _), kit_ty (by decide +kernel), _, rfl, ?_⟩
    refine ⟨_, rfl, _, rfl, _, _, rfl, rfl, (Sz.cmul e4 e2), _, rfl, _, _, rfl, rfl, _, rfl, _, rfl, _, rfl, _, _, rfl, rfl, _, rfl, ?_⟩
    refine iD (fun h3 => ?_) (fun h3 => ?_)
    · exact k false (by first | (simp +decide [chosenF, *]; done) | (simp +decide [chosenF, *] <;> (rw [Bool.eq_iff_iff]; simp <;> omega)))
    · refine ⟨_, rfl, rfl, _, rfl, ?_⟩
      refine iEqI (fun h4 => ?_) (fun h4 => ?_)
      · exact k true (by first | (simp +decide [chosenF, *]; done) | (simp +decide [chosenF, *] <;> (rw [Bool.eq_iff_iff]; simp <;> omega)))
      · refine ⟨_, rfl, _, rfl, _, _, rfl, rfl, (Sz.cmul (Sz.addm (n := 610) (Sz.mono (Sz.mul e4 e2) (by decide)) (Sz.neg (Sz.mono e3 (by decide)))) e3), _, _, rfl, rfl, _, rfl, rfl, _, rfl, ?_⟩
        refine iEqS (fun h5 => ?_) (fun h5 => ?_)
        · refine ⟨_, rfl, _, rfl, rfl, rfl, ?_⟩
          exact k (decide ((V.bl (decide (0 < (((result * divisor) - numerator) * numerator)))) = (V.bl (decide ((V.str mode) = (V.str ("outward" : Str))))))) (by first | (simp +decide [chosenF, *]; done) | (simp +decide [chosenF, *] <;> (rw [Bool.eq_iff_iff]; simp <;> omega)))
        · refine ⟨_, rfl, rfl, _, rfl, ?_⟩
          refine iEqS (fun h6 => ?_) (fun h6 => ?_)
          · refine ⟨_, rfl, _, rfl, rfl, rfl, ?_⟩
            exact k (decide ((V.bl (decide (0 < (((result * divisor) - numerator) * numerator)))) = (V.bl (decide ((V.str mode) = (V.str ("outward" : Str))))))) (by first | (simp +decide [chosenF, *]; done) | (simp +decide [chosenF, *] <;> (rw [Bool.eq_iff_iff]; simp <;> omega)))
          · refine ⟨_, rfl, rfl, _, rfl, ?_⟩
            refine iEqS (fun h7 => ?_) (fun h7 => ?_)
            · refine ⟨_, rfl, _, _, rfl, rfl, _, rfl, rfl, rfl, ?_⟩
              exact k (decide ((V.bl (decide (0 < ((result * divisor) - numerator)))) = (V.bl (decide ((V.str mode) = (V.str ("upward" : Str))))))) (by first | (simp +decide [chosenF, *]; done) | (simp +decide [chosenF, *] <;> (rw [Bool.eq_iff_iff]; simp <;> omega)))
            · refine ⟨_, rfl, rfl, _, rfl, ?_⟩
              refine iEqS (fun h8 => ?_) (fun h8 => ?_)
              · refine ⟨_, rfl, _, _, rfl, rfl, _, rfl, rfl, rfl, ?_⟩
                exact k (decide ((V.bl (decide (0 < ((result * divisor) - numerator)))) = (V.bl (decide ((V.str mode) = (V.str ("upward" : Str))))))) (by first | (simp +decide [chosenF, *]; done) | (simp +decide [chosenF, *] <;> (rw [Bool.eq_iff_iff]; simp <;> omega)))
              · refine ⟨_, rfl, _, rfl, _, _, rfl, rfl, .inl ⟨by decide, by decide⟩, _, rfl, rfl, _, rfl, ?_⟩
                refine iNeI (fun h9 => ?_) (fun h9 => ?_)
                · refine ⟨_, rfl, _, rfl, _, _, rfl, rfl, .inl ⟨by decide, by decide⟩, _, rfl, _, _, rfl, rfl, ?_⟩
                  exact k (decide ((2 * (if ((result * divisor) - numerator) < 0 then -((result * divisor) - numerator) else ((result * divisor) - numerator))) < divisor)) (by first | (simp +decide [chosenF, *]; done) | (simp +decide [chosenF, *] <;> (rw [Bool.eq_iff_iff]; simp <;> omega)))
                · refine ⟨_, rfl, rfl, _, rfl, ?_⟩
                  refine iEqS (fun h10 => ?_) (fun h10 => ?_)
                  · refine ⟨_, rfl, .inl ⟨_, rfl, ?_⟩⟩
                    refine ⟨_, _, rfl, rfl, (by show (0 : Int) < 2; omega), rfl, ?_⟩
                    exact k (decide ((V.int (result % 2)) = (V.int 0))) (by first | (simp +decide [chosenF, *]; done) | (simp +decide [chosenF, *] <;> (rw [Bool.eq_iff_iff]; simp <;> omega)))
                  · refine ⟨_, rfl, rfl, _, rfl, ?_⟩
                    refine iEqS (fun h11 => ?_) (fun h11 => ?_)
                    · refine ⟨_, rfl, _, rfl, rfl, rfl, ?_⟩
                      exact k (decide ((V.bl (decide (0 < (((result * divisor) - numerator) * numerator)))) = (V.bl (decide ((V.str mode) = (V.str ("nearest-out" : Str))))))) (by first | (simp +decide [chosenF, *]; done) | (simp +decide [chosenF, *] <;> (rw [Bool.eq_iff_iff]; simp <;> omega)))
                    · refine ⟨_, rfl, rfl, _, rfl, ?_⟩
                      refine iEqS (fun h12 => ?_) (fun h12 => ?_)
                      · refine ⟨_, rfl, _, rfl, rfl, rfl, ?_⟩
                        exact k (decide ((V.bl (decide (0 < (((result * divisor) - numerator) * numerator)))) = (V.bl (decide ((V.str mode) = (V.str ("nearest-out" : Str))))))) (by first | (simp +decide [chosenF, *]; done) | (simp +decide [chosenF, *] <;> (rw [Bool.eq_iff_iff]; simp <;> omega)))
                      · refine ⟨_, rfl, _, _, rfl, rfl, _, rfl, rfl, rfl, ?_⟩
                        exact k (decide ((V.bl (decide (0 < ((result * divisor) - numerator)))) = (V.bl (decide ((V.str mode) = (V.str ("nearest-up" : Str))))))) (by first | (simp +decide [chosenF, *]; done) | (simp +decide [chosenF, *] <;> (rw [Bool.eq_iff_iff]; simp <;> omega)))
end
def sp_law_refused (K : PySem.W.Frag) : Sp := fun vs H Q E => ∃ (I : Hp) (O : List (Addr × HO)) (numerator : Int) (divisor : Int) (text : Str), vs = [.int numerator, .int divisor, .str text] ∧ Wd I (O) H ∧ ¬ text ∈ modesL ∧ (∀ (r : Bool) (I' : Hp) (H' : Hp), Same I I' → Wd I' (O) H' → r = true → Q (.bl r) H')
section
variable {P : Program} {w : World} {K : PySem.W.Frag} {mg : Str → Option Value} {base : Heap}
theorem sc_law_refused : FnScope ["numerator", "divisor", "text", "e"] ["numerator", "divisor", "text"] (defScope s_law_refused) := ⟨rfl, rfl, rfl, by decide +kernel, rfl, by decide +kernel, by decide +kernel⟩
theorem b_law_refused (T : Txt P K mg w) : Binds K (fdOf K (a_law_refused K)) ["numerator", "divisor", "text"] [] := T.f_law_refused.bindsN fun _ _ _ _ _ _ us hl => match us, hl with | [_, _, _], _ => rfl
theorem ok_law_refused (T : Txt P K mg w) : FnOk P w K mg base CX0 5 (a_law_refused K) (fdOf K (a_law_refused K)) ["numerator", "divisor", "text"] (sp_law_refused K) := by
  refine T.f_law_refused.ok sc_law_refused (fun vs H Q E h => ?_) (fun cdv A outer s H vs Q E hr h => ?_)
  · obtain ⟨_, _, _, _, _, rfl, _, _, _⟩ := h
    rfl
  · obtain ⟨I, O, numerator, divisor, text, rfl, w, e1, k⟩ := h
    refine ⟨_, PSs.nox (pss_cons (L2N.ps_try_as rfl rfl sc_law_refused.nd (i := 3) rfl rfl (⟨by rfl, by decide, .inl T.g_LostError⟩) takesN0 (fun _ _ _ tk1 px2 => pss_one (ps_expr (pe_callS (ok_round_quotient_bad T) (hr.mono (by decide)) (by rfl) T.g_round_quotient T.f_round_quotient.kp (b_round_quotient_bad T) (fun σ => L2N.passAt tk1 σ) (pa_cons (pv 0) (pa_cons (pv 1) (pa_cons (pv 2) (pa_nil))))))) (fun _ oe4 _ _ _ hz5 hf6 => pss_cons (ps_if (PW.pt (pw_or (pt_not (pt_val (pe_callB (call_isD hz5.zc hf6) (by rfl) T.n_isinstance (by decide +kernel) (pa_cons (pv 3) (pa_cons (pe_glob (v := .ref (He.ga K "BadMode")) (by rfl) T.g_BadMode rfl) (pa_nil)))))) (pw_or (pt_not (pt_val (pe_callB (call_isD hz5.zc hf6) (by rfl) T.n_isinstance (by decide +kernel) (pa_cons (pv 3) (pa_cons (pe_bltn (v := .ty "ValueError") (by rfl) T.n_ValueError (by decide +kernel) rfl) (pa_nil)))))) (pw_or1 (pt_val (pe_callB (call_isD hz5.zc hf6) (by rfl) T.n_isinstance (by decide +kernel) (pa_cons (pv 3) (pa_cons (pe_glob (v := .ref (He.ga K "BadBase")) (by rfl) T.g_BadBase rfl) (pa_nil))))))))) (pss_one (ps_never)) (pss_nil)) (pss_one (ps_ret (L2H.pe_callH (okh_law_equal_str T) (L2H.roomH_mark (hr.mono (by decide)) _) (hot_suite hz5 hf6) (by rfl) T.g_law_equal T.f_law_equal.kp (b_law_equal_str T) (fun _ => passAt0) (pa_cons (pe_xd hz5.zc hf6 (pv 3)) (pa_cons (pv 2) (pa_nil)))))))) (pss_one (ps_never))), ?_⟩
    refine ⟨_, rfl, _, rfl, _, rfl, I, (O), numerator, divisor, text, rfl, w, (by first | rfl | assumption | simp), fun d8 H9 w10 => ?_⟩
    refine ⟨true, T.xm_BadMode_LostError, fun _ a12 na11 => ?_, fun z => nomatch z⟩
    refine ⟨_, rfl, _, _, .ref (He.ga K "BadMode"), true, rfl, T.c_BadMode, rfl, (fun _ h => h), T.ki_BadMode_BadMode, (fun _ e => by cases e; exact ⟨_, w10.own⟩), _, rfl, ?_⟩
    refine ⟨_, rfl, _, _, .type "ValueError", true, rfl, T.c_BadMode, rfl, (fun _ h => h), T.ki_BadMode_ValueError, (fun _ e => by cases e; exact ⟨_, w10.own⟩), _, rfl, ?_⟩
    refine ⟨_, rfl, _, _, .ref (He.ga K "BadBase"), false, rfl, T.c_BadMode, rfl, (fun _ h => h), T.ki_BadMode_BadBase, (fun _ e => by cases e; exact ⟨_, w10.own⟩), _, rfl, ?_⟩
    refine ⟨_, rfl, rfl, _, _, _, _, rfl, T.c_BadMode, T.no_BadMode_mode, rfl, w10.own, rfl, _, rfl, text, text, rfl, fun r16 q17 => ?_⟩
    subst q17
    exact k (decide (text = text)) _ _ (Same.refl _) w10.rest (by first | rfl | assumption | simp)
end
def sp_law (K : PySem.W.Frag) : Sp := fun vs H Q E => ∃ (I : Hp) (O : List (Addr × HO)) (script : Addr) (script_l : List Int), vs = [.ref script] ∧ Wd I (O) H ∧ SqL K I script (script_l.map V.int) ∧ script_l.length ≤ 63 ∧ (∀ (r : Bool) (I' : Hp) (H' : Hp), Same I I' → Wd I' (O) H' → r = true → Q (.bl r) H')
section
variable {P : Program} {w : World} {K : PySem.W.Frag} {mg : Str → Option Value} {base : Heap}
theorem sc_law : FnScope ["script", "source", "k", "divisor", "numerator", "odd", "value", "mode"] ["script"] (defScope s_law) := ⟨rfl, rfl, rfl, by decide +kernel, rfl, by decide +kernel, by decide +kernel⟩
theorem b_law (T : Txt P K mg w) : Binds K (fdOf K (a_law K)) ["script"] [] := T.f_law.bindsN fun _ _ _ _ _ _ us hl => match us, hl with | [_], _ => rfl
theorem ok_law (T : Txt P K mg w) : FnOk P w K mg base CX0 6 (a_law K) (fdOf K (a_law K)) ["script"] (sp_law K) := by
  refine T.f_law.ok sc_law (fun vs H Q E h => ?_) (fun cdv A outer s H vs Q E hr h => ?_)
  · obtain ⟨_, _, _, _, rfl, _, _, _, _⟩ := h
    rfl
  · obtain ⟨I, O, script, script_l, rfl, w, f_script, f_script1, k⟩ := h
    refine ⟨_, PSs.nox (pss_cons (ps_set (i := 1) sc_law.nd rfl (Or.inl rfl) (pe_call (ok_law_source T) (hr.mono (by decide)) (by rfl) T.g_law_source T.f_law_source.kp (b_law_source T) .nil pass0 (pa_cons (pv 0) (pa_nil)))) (pss_cons (ps_for PassesOwn.never rfl (pi_range1 (by rfl) T.n_range (pa_cons (pe_op op_add (pe_int) (pe_call (ok_law_draw T) (hr.mono (by decide)) (by rfl) T.g_law_draw T.f_law_draw.kp (b_law_draw T) .nil pass0 (pa_cons (pv 1) (pa_cons (pe_int) (pa_nil))))) (pa_nil))) (pg_name (i := 2) sc_law.nd rfl (Or.inl rfl)) (pss_cons (ps_set (i := 3) sc_law.nd rfl (Or.inl rfl) (pe_call (ok_law_divisor T) (hr.mono (by decide)) (by rfl) T.g_law_divisor T.f_law_divisor.kp (b_law_divisor T) .nil pass0 (pa_cons (pv 1) (pa_nil)))) (pss_cons (ps_set (i := 4) sc_law.nd rfl (Or.inl rfl) (pe_call (ok_law_numerator T) (hr.mono (by decide)) (by rfl) T.g_law_numerator T.f_law_numerator.kp (b_law_numerator T) .nil pass0 (pa_cons (pv 1) (pa_cons (pv 3) (pa_nil))))) (pss_cons (ps_set (i := 5) sc_law.nd rfl (Or.inl rfl) (pe_call (ok_law_odd_mode T) (hr.mono (by decide)) (by rfl) T.g_law_odd_mode T.f_law_odd_mode.kp (b_law_odd_mode T) .nil pass0 (pa_cons (pv 1) (pa_nil)))) (pss_cons (ps_for PassesOwn.never rfl (pi_list (pe_lst (pa_cons (pv 4) (pa_cons (pe_op op_mul (pe_int) (pv 3)) (pa_cons (pe_int) (pa_nil)))))) (pg_name (i := 6) sc_law.nd rfl (Or.inl rfl)) (pss_one (ps_if (pt_not (pt_val (pe_call (ok_law_refused T) (hr.mono (by decide)) (by rfl) T.g_law_refused T.f_law_refused.kp (b_law_refused T) .nil pass0 (pa_cons (pv 6) (pa_cons (pv 3) (pa_cons (pv 5) (pa_nil))))))) (pss_one (ps_never)) (pss_nil)))) (pss_one (ps_for PassesOwn.never rfl (pi_list (pe_call0 (ok_law_modes T) (hr.mono (by decide)) (by rfl) T.g_law_modes T.f_law_modes.kp (b_law_modes T) .nil pass0)) (pg_name (i := 7) sc_law.nd rfl (Or.inl rfl)) (pss_one (ps_for PassesOwn.never rfl (pi_list (pe_lst (pa_cons (pv 4) (pa_cons (pe_op op_sub (pe_int) (pv 4)) (pa_cons (pe_op op_mul (pe_int) (pv 3)) (pa_cons (pe_int) (pa_nil))))))) (pg_name (i := 6) sc_law.nd rfl (Or.inl rfl)) (pss_one (ps_if (pt_not (pt_val (pe_call (ok_law_chosen T) (hr.mono (by decide)) (by rfl) T.g_law_chosen T.f_law_chosen.kp (b_law_chosen T) .nil pass0 (pa_cons (pv 6) (pa_cons (pv 3) (pa_cons (pv 7) (pa_cons (pe_call (ok_round_quotient T) (hr.mono (by decide)) (by rfl) T.g_round_quotient T.f_round_quotient.kp (b_round_quotient T) .nil pass0 (pa_cons (pv 6) (pa_cons (pv 3) (pa_cons (pv 7) (pa_nil))))) (pa_nil)))))))) (pss_one (ps_never)) (pss_nil)))))))))))) (pss_one (ps_ret (pe_bl))))), ?_⟩
    refine ⟨_, rfl, I, (O), script, _, rfl, w, f_script, ‹_›, fun r1 r1_s I2 H4 s3 w5 f6 => ?_⟩
    refine ⟨_, rfl, I2, (O), r1, (r1_s), 3, rfl, w5, f6, (by first | rfl | assumption | omega), (by first | rfl | assumption | omega), fun r7 xs8 H9 w10 f11 q12 q13 => ?_⟩
    refine ⟨_, _, rfl, rfl, _, rfl, (by omega), (by omega), for_range (lo := 0) (n := ((1 + r7)).toNat) (fun i24 σ' H' => ∃ (o14 : Option V) (o15 : Option V) (o16 : Option V) (o17 : Option V) (o18 : Option V) (o19 : Option V) (I20 : Hp) (xs22 : List V), σ' = [some (V.ref script), some (V.ref r1), o14, o15, o16, o17, o18, o19] ∧ Same I2 I20 ∧ Wd I20 ((r1, .lst xs22) :: O) H' ∧ SrcOk I20 xs22) ⟨_, _, _, _, _, _, _, _, rfl, (Same.refl _), w10, f11⟩ ?_ ?_⟩
    · rintro i28 _ H26 hi27 ⟨o14, o15, o16, o17, o18, o19, I20, xs22, rfl, s21, w25, f23⟩
      refine ⟨_, rfl, I20, (O), r1, (xs22), rfl, w25, f23, fun r29 xs30 H31 w32 f33 q34 q35 => ?_⟩
      refine ⟨_, rfl, _, rfl, I20, (O), r1, (xs30), r29, rfl, w32, f33, (by first | rfl | assumption | omega), (by first | rfl | assumption | omega), fun r36 xs37 H38 w39 f40 q41 => ?_⟩
      refine ⟨_, rfl, I20, (O), r1, (xs37), rfl, w39, f40, fun r42 xs43 I44 H46 s45 w47 f48 q49 => ?_⟩
      refine ⟨_, rfl, _, rfl, _, _, rfl, rfl, .inl ⟨by decide, by decide⟩, (by show 3 ≤ sizeLine; decide), fun p50 hp51 => ?_⟩
      have s52 := w47.newS (o := .lst [(V.int r36), (V.int (2 * r29)), (V.int 0)]) hp51
      have w53 := w47.new (o := .lst [(V.int r36), (V.int (2 * r29)), (V.int 0)]) hp51
      refine ⟨_, rfl, ⟨_, (SqL.of (w53.get upd_same))⟩, for_list (K := K) (a := p50) (xs := [(V.int r36), (V.int (2 * r29)), (V.int 0)]) (fun i57 σ' H' => ∃ (o54 : Option V) (I55 : Hp), σ' = [some (V.ref script), some (V.ref r1), some (V.int (0 + (i28 : Int))), some (V.int r29), some (V.int r36), some (V.str r42), o54, o19] ∧ Same (upd I44 p50 (.lst [(V.int r36), (V.int (2 * r29)), (V.int 0)])) I55 ∧ Wd I55 ((r1, .lst xs43) :: O) H') ⟨_, _, rfl, (Same.refl _), w53⟩ (?_) ?_ ?_⟩
      · rintro _ _ H59 _ ⟨o54, I55, rfl, s56, w58⟩
        exact (SqL.of (w58.get (s56 _ _ upd_same)))
      · rintro i62 x63 _ H60 hi61 ⟨o54, I55, rfl, s56, w58⟩
        obtain ⟨v64, rfl, hv65⟩ : ∃ v : Int, x63 = V.int v ∧ Sz 420 v := by
          have q := List.mem_of_getElem? hi61
          simp only [List.mem_cons, List.not_mem_nil, or_false] at q
          rcases q with q | q | q <;> exact ⟨_, by assumption, by first | exact Sz.mono ‹Sz 400 _› (by decide) | exact Sz.mono (Sz.mul (n := 2) (by decide) ‹Sz 160 _›) (by decide) | exact sz_zero | exact sz_neg0 (by assumption : Sz 400 _) (by decide) | exact Sz.mono (Sz.mul (Sz.of (n := 3) (by decide) (by decide)) ‹Sz 160 _›) (by decide)⟩
        refine ⟨_, rfl, _, rfl, _, rfl, I55, ((r1, .lst xs43) :: O), v64, r29, r42, rfl, w58, (by first | rfl | assumption | omega), fun r69 I70 H72 s71 w73 q74 => ?_⟩
        subst q74
        refine ⟨_, rfl, ?_⟩
        exact ⟨_, _, rfl, (Same.trans s56 s71), w73⟩
      · rintro _ H76 ⟨o54, I55, rfl, s56, w58⟩
        refine ⟨I55, ((r1, .lst xs43) :: O), rfl, w58, fun r77 I78 H80 s79 w81 f82 => ?_⟩
        refine ⟨_, rfl, ⟨_, (SqL.of (w81.get f82))⟩, for_list (K := K) (a := r77) (xs := (modesL.map V.str)) (fun i87 σ' H' => ∃ (o83 : Option V) (o84 : Option V) (I85 : Hp), σ' = [some (V.ref script), some (V.ref r1), some (V.int (0 + (i28 : Int))), some (V.int r29), some (V.int r36), some (V.str r42), o83, o84] ∧ Same I78 I85 ∧ Wd I85 ((r1, .lst xs43) :: O) H') ⟨_, _, _, rfl, (Same.refl _), w81⟩ (?_) ?_ ?_⟩
        · rintro _ _ H89 _ ⟨o83, o84, I85, rfl, s86, w88⟩
          exact (SqL.of (w88.get (s86 _ _ f82)))
        · rintro i92 x93 _ H90 hi91 ⟨o83, o84, I85, rfl, s86, w88⟩
          obtain ⟨m94, hm95, rfl⟩ := get_map hi91
          have hm95m := List.mem_of_getElem? hm95
          refine ⟨_, rfl, _, rfl, _, _, rfl, rfl, _, rfl, _, _, rfl, rfl, .inl ⟨by decide, by decide⟩, (by show 4 ≤ sizeLine; decide), fun p96 hp97 => ?_⟩
          have s98 := w88.newS (o := .lst [(V.int r36), (V.int (0 - r36)), (V.int (3 * r29)), (V.int 0)]) hp97
          have w99 := w88.new (o := .lst [(V.int r36), (V.int (0 - r36)), (V.int (3 * r29)), (V.int 0)]) hp97
          refine ⟨_, rfl, ⟨_, (SqL.of (w99.get upd_same))⟩, for_list (K := K) (a := p96) (xs := [(V.int r36), (V.int (0 - r36)), (V.int (3 * r29)), (V.int 0)]) (fun i103 σ' H' => ∃ (o100 : Option V) (I101 : Hp), σ' = [some (V.ref script), some (V.ref r1), some (V.int (0 + (i28 : Int))), some (V.int r29), some (V.int r36), some (V.str r42), o100, some (V.str m94)] ∧ Same (upd I85 p96 (.lst [(V.int r36), (V.int (0 - r36)), (V.int (3 * r29)), (V.int 0)])) I101 ∧ Wd I101 ((r1, .lst xs43) :: O) H') ⟨_, _, rfl, (Same.refl _), w99⟩ (?_) ?_ ?_⟩
          · rintro _ _ H105 _ ⟨o100, I101, rfl, s102, w104⟩
            exact (SqL.of (w104.get (s102 _ _ upd_same)))
          · rintro i108 x109 _ H106 hi107 ⟨o100, I101, rfl, s102, w104⟩
            obtain ⟨v110, rfl, hv111⟩ : ∃ v : Int, x109 = V.int v ∧ Sz 420 v := by
              have q := List.mem_of_getElem? hi107
              simp only [List.mem_cons, List.not_mem_nil, or_false] at q
              rcases q with q | q | q | q <;> exact ⟨_, by assumption, by first | exact Sz.mono ‹Sz 400 _› (by decide) | exact Sz.mono (Sz.mul (n := 2) (by decide) ‹Sz 160 _›) (by decide) | exact sz_zero | exact sz_neg0 (by assumption : Sz 400 _) (by decide) | exact Sz.mono (Sz.mul (Sz.of (n := 3) (by decide) (by decide)) ‹Sz 160 _›) (by decide)⟩
            refine ⟨_, rfl, _, rfl, _, rfl, _, rfl, _, rfl, _, rfl, I101, ((r1, .lst xs43) :: O), v110, r29, m94, rfl, w104, (by first | assumption | exact Sz.mono ‹Sz 160 _› (by decide)), (by first | assumption | exact Sz.mono ‹Sz 160 _› (by decide)), (by first | assumption | exact Sz.mono ‹Sz 160 _› (by decide)), fun r116 I117 H119 s118 w120 q121 => ?_⟩
            subst q121
            refine ⟨v110, r29, m94, (rq v110 r29 m94), rfl, (by first | assumption | exact Sz.mono ‹Sz 160 _› (by decide) | exact Sz.mono (rq_sz (by assumption) (by assumption) (by assumption)) (by decide)), (by first | assumption | exact Sz.mono ‹Sz 160 _› (by decide) | exact Sz.mono (rq_sz (by assumption) (by assumption) (by assumption)) (by decide)), (by first | assumption | exact Sz.mono ‹Sz 160 _› (by decide) | exact Sz.mono (rq_sz (by assumption) (by assumption) (by assumption)) (by decide)), (by first | assumption | exact Sz.mono ‹Sz 160 _› (by decide) | exact Sz.mono (rq_sz (by assumption) (by assumption) (by assumption)) (by decide)), fun r122 q123 => ?_⟩
            subst q123
            refine ⟨_, rfl, ?_⟩
            refine iNB (fun h124 => (by exact Bool.noConfusion ((rq_chosen (by assumption) (by assumption)).symm.trans h124))) (fun h124 => ?_)
            exact ⟨_, _, rfl, (Same.trans s102 s118), w120⟩
          · rintro _ H125 ⟨o100, I101, rfl, s102, w104⟩
            exact ⟨_, _, _, rfl, (Same.trans (Same.trans s86 s98) s102), w104⟩
        · rintro _ H126 ⟨o83, o84, I85, rfl, s86, w88⟩
          exact ⟨_, _, _, _, _, _, _, _, rfl, (Same.trans (Same.trans (Same.trans (Same.trans (Same.trans s21 s45) s52) s56) s79) s86), w88, (SrcOk.mono (Same.trans (Same.trans (Same.trans s52 s56) s79) s86) f48)⟩
    · rintro _ H127 ⟨o14, o15, o16, o17, o18, o19, I20, xs22, rfl, s21, w25, f23⟩
      exact k true _ _ ((Same.trans s3 s21)) w25.rest (by first | rfl | assumption | omega)
end
def fa0 : List Bf := [gB "_law_source", gB "_law_draw", gB "goes_up", gB "tie_goes_up", gB "round_quotient", gB "check_mode", gB "_law_modes", gB "_law_power", gB "_law_big", gB "_law_equal", gB "_law_divisor", gB "_law_numerator", gB "_law_mode", gB "_law_odd_mode", gB "_law_chosen", gB "_law_refused", gB "law", fB "ValueError", fB "abs", fB "bool", fB "divmod", fB "int", fB "isinstance", fB "len", fB "range"]
def fa1 : List Bf := [fB "str", gB "MODES", tB "MODES" [(.str "nearest-even"), (.str "nearest-out"), (.str "nearest-in"), (.str "nearest-up"), (.str "nearest-down"), (.str "inward"), (.str "outward"), (.str "upward"), (.str "downward")], gB "NEAREST", tB "NEAREST" [(.str "nearest-even"), (.str "nearest-out"), (.str "nearest-in"), (.str "nearest-up"), (.str "nearest-down")], gB "BadMode", fun K => excB K (He.ga K "BadMode"), fun K => He.eqO (PySem.W.findIn K (.ref (He.ga K "BadMode")) "mode") (some none), gB "LostError", fun K => excB K (He.ga K "LostError"), fun K => decide (PySem.W.exmOne K (.ref (He.ga K "BadMode")) (.ref (He.ga K "LostError")) = some true), fun K => decide (PySem.W.kitOne K (.ref (He.ga K "BadMode")) (.ref (He.ga K "BadMode")) = some true), fun K => decide (PySem.W.kitOne K (.ref (He.ga K "BadMode")) (.type "ValueError") = some true), gB "BadBase", fun K => decide (PySem.W.kitOne K (.ref (He.ga K "BadMode")) (.ref (He.ga K "BadBase")) = some false), exiB (fun K => He.ga K "BadMode") a_BadMode_init "BadMode.__init__" PySem.Challenge.pw_lostpart_k07_round_quotient.main.file]
def fa : List Bf := fa0 ++ fa1
def d_law_source : He5.DefA := ⟨a_law_source, "_law_source", "_law_source", defArgs s_law_source, defBody s_law_source, defScope s_law_source, [], []⟩
def d_law_draw : He5.DefA := ⟨a_law_draw, "_law_draw", "_law_draw", defArgs s_law_draw, defBody s_law_draw, defScope s_law_draw, [], []⟩
def d_goes_up : He5.DefA := ⟨a_goes_up, "goes_up", "goes_up", defArgs s_goes_up, defBody s_goes_up, defScope s_goes_up, [], []⟩
def d_tie_goes_up : He5.DefA := ⟨a_tie_goes_up, "tie_goes_up", "tie_goes_up", defArgs s_tie_goes_up, defBody s_tie_goes_up, defScope s_tie_goes_up, [], []⟩
def d_round_quotient : He5.DefA := ⟨a_round_quotient, "round_quotient", "round_quotient", defArgs s_round_quotient, defBody s_round_quotient, defScope s_round_quotient, [], []⟩
def d_check_mode : He5.DefA := ⟨a_check_mode, "check_mode", "check_mode", defArgs s_check_mode, defBody s_check_mode, defScope s_check_mode, [], []⟩
def d_law_modes : He5.DefA := ⟨a_law_modes, "_law_modes", "_law_modes", defArgs s_law_modes, defBody s_law_modes, defScope s_law_modes, [], []⟩
def d_law_power : He5.DefA := ⟨a_law_power, "_law_power", "_law_power", defArgs s_law_power, defBody s_law_power, defScope s_law_power, [], []⟩
def d_law_big : He5.DefA := ⟨a_law_big, "_law_big", "_law_big", defArgs s_law_big, defBody s_law_big, defScope s_law_big, [], []⟩
def d_law_equal : He5.DefA := ⟨a_law_equal, "_law_equal", "_law_equal", defArgs s_law_equal, defBody s_law_equal, defScope s_law_equal, [], []⟩
def d_law_divisor : He5.DefA := ⟨a_law_divisor, "_law_divisor", "_law_divisor", defArgs s_law_divisor, defBody s_law_divisor, defScope s_law_divisor, [], []⟩
def d_law_numerator : He5.DefA := ⟨a_law_numerator, "_law_numerator", "_law_numerator", defArgs s_law_numerator, defBody s_law_numerator, defScope s_law_numerator, [], []⟩
def d_law_mode : He5.DefA := ⟨a_law_mode, "_law_mode", "_law_mode", defArgs s_law_mode, defBody s_law_mode, defScope s_law_mode, [], []⟩
def d_law_odd_mode : He5.DefA := ⟨a_law_odd_mode, "_law_odd_mode", "_law_odd_mode", defArgs s_law_odd_mode, defBody s_law_odd_mode, defScope s_law_odd_mode, [], []⟩
def d_law_chosen : He5.DefA := ⟨a_law_chosen, "_law_chosen", "_law_chosen", defArgs s_law_chosen, defBody s_law_chosen, defScope s_law_chosen, [], []⟩
def d_law_refused : He5.DefA := ⟨a_law_refused, "_law_refused", "_law_refused", defArgs s_law_refused, defBody s_law_refused, defScope s_law_refused, [], []⟩
def d_law : He5.DefA := ⟨a_law, "law", "law", defArgs s_law, defBody s_law, defScope s_law, [], []⟩
def fn0 : List He5.DefA := [d_law_source, d_law_draw, d_goes_up, d_tie_goes_up, d_round_quotient, d_check_mode, d_law_modes, d_law_power, d_law_big, d_law_equal, d_law_divisor, d_law_numerator, d_law_mode, d_law_odd_mode, d_law_chosen, d_law_refused, d_law]
def fn : List He5.DefA := fn0
def d_BadMode_init : He5.DefA := ⟨a_BadMode_init, "__init__", "BadMode.__init__", defArgs s_BadMode_init, defBody s_BadMode_init, defScope s_BadMode_init, [], []⟩
def fx0 : List He5.DefA := [d_BadMode_init]
def fx : List He5.DefA := fx0
def loose0 : List Str := ["LostError", "BadBase", "BadMode", "MODES", "NEAREST", "check_mode", "goes_up", "tie_goes_up", "round_quotient", "_law_source", "_law_draw", "_law_modes", "_law_mode", "_law_power", "_law_equal", "_law_big", "_law_divisor", "_law_numerator", "_law_odd_mode", "_law_chosen", "_law_refused"]
def loose : List Str := loose0
def ts0 : List (Tb × List Str) := []
def ts : List (Tb × List Str) := ts0
abbrev R : PySem.W.OpenRow := PySem.W.OpenLaw.row PySem.Challenge.rw_lostpart_k07_round_quotient
abbrev hk : PySem.W.Hook := hookB 5 fa fn fx ts
def ob (s : PySem.W.SharedT) : AlB := obsBG 5 fa fn fx ts (HandSHeadRun.getT s)
theorem ob_eq (s : PySem.W.SharedT) : ob s = hk.obs s.abs := obsBG_eq (HandSHeadRun.getT_eq s)
theorem run_false (w : World) : HandSHeadRun.RunEq R (PySem.W.view R.prog [24]) hk ob 20000 loose (w.withFollow "special-get-raises" false) := by
  intro os
  kernel_rfl
theorem run_true (w : World) : HandSHeadRun.RunEq R (PySem.W.view R.prog [24]) hk ob 20000 loose (w.withFollow "special-get-raises" true) := by
  intro os
  kernel_rfl
theorem run (w : World) : HandSHeadRun.RunEq R (PySem.W.view R.prog [24]) hk ob 20000 loose w := PySem.W.byRow2 "special-get-raises" (P := fun w => HandSHeadRun.RunEq R (PySem.W.view R.prog [24]) hk ob 20000 loose w) run_false run_true w
theorem txt_of {P : Program} {K : PySem.W.Frag} {h : Heap} {mg : Str → Option Value} {w : World} (hf : P.main.file = PySem.Challenge.pw_lostpart_k07_round_quotient.main.file) (ht : (P.main.scope.names.lookup ("super" : Str)).isSome = false) (X : K.In h) (G : h.Ns mainGlobals mg) (c : SaysB fa fn fx ts w K) : Txt P K mg w where
  f_law_source := c.def_ 0 rfl
  f_law_draw := c.def_ 1 rfl
  f_goes_up := c.def_ 2 rfl
  f_tie_goes_up := c.def_ 3 rfl
  f_round_quotient := c.def_ 4 rfl
  f_check_mode := c.def_ 5 rfl
  f_law_modes := c.def_ 6 rfl
  f_law_power := c.def_ 7 rfl
  f_law_big := c.def_ 8 rfl
  f_law_equal := c.def_ 9 rfl
  f_law_divisor := c.def_ 10 rfl
  f_law_numerator := c.def_ 11 rfl
  f_law_mode := c.def_ 12 rfl
  f_law_odd_mode := c.def_ 13 rfl
  f_law_chosen := c.def_ 14 rfl
  f_law_refused := c.def_ 15 rfl
  f_law := c.def_ 16 rfl
  g_law_source := PySem.W.mg_of X G (He.eqO_ok (c.fact 0 rfl))
  g_law_draw := PySem.W.mg_of X G (He.eqO_ok (c.fact 1 rfl))
  g_goes_up := PySem.W.mg_of X G (He.eqO_ok (c.fact 2 rfl))
  g_tie_goes_up := PySem.W.mg_of X G (He.eqO_ok (c.fact 3 rfl))
  g_round_quotient := PySem.W.mg_of X G (He.eqO_ok (c.fact 4 rfl))
  g_check_mode := PySem.W.mg_of X G (He.eqO_ok (c.fact 5 rfl))
  g_law_modes := PySem.W.mg_of X G (He.eqO_ok (c.fact 6 rfl))
  g_law_power := PySem.W.mg_of X G (He.eqO_ok (c.fact 7 rfl))
  g_law_big := PySem.W.mg_of X G (He.eqO_ok (c.fact 8 rfl))
  g_law_equal := PySem.W.mg_of X G (He.eqO_ok (c.fact 9 rfl))
  g_law_divisor := PySem.W.mg_of X G (He.eqO_ok (c.fact 10 rfl))
  g_law_numerator := PySem.W.mg_of X G (He.eqO_ok (c.fact 11 rfl))
  g_law_mode := PySem.W.mg_of X G (He.eqO_ok (c.fact 12 rfl))
  g_law_odd_mode := PySem.W.mg_of X G (He.eqO_ok (c.fact 13 rfl))
  g_law_chosen := PySem.W.mg_of X G (He.eqO_ok (c.fact 14 rfl))
  g_law_refused := PySem.W.mg_of X G (He.eqO_ok (c.fact 15 rfl))
  g_law := PySem.W.mg_of X G (He.eqO_ok (c.fact 16 rfl))
  n_ValueError := PySem.W.mg_none_of X G (He.eqO_ok (c.fact 17 rfl))
  n_abs := PySem.W.mg_none_of X G (He.eqO_ok (c.fact 18 rfl))
  n_bool := PySem.W.mg_none_of X G (He.eqO_ok (c.fact 19 rfl))
  n_divmod := PySem.W.mg_none_of X G (He.eqO_ok (c.fact 20 rfl))
  n_int := PySem.W.mg_none_of X G (He.eqO_ok (c.fact 21 rfl))
  n_isinstance := PySem.W.mg_none_of X G (He.eqO_ok (c.fact 22 rfl))
  n_len := PySem.W.mg_none_of X G (He.eqO_ok (c.fact 23 rfl))
  n_range := PySem.W.mg_none_of X G (He.eqO_ok (c.fact 24 rfl))
  n_str := PySem.W.mg_none_of X G (He.eqO_ok (c.fact 25 rfl))
  g_MODES := PySem.W.mg_of X G (He.eqO_ok (c.fact 26 rfl))
  t_MODES := fun H => He.tupB_ok (vs := [(.str "nearest-even"), (.str "nearest-out"), (.str "nearest-in"), (.str "nearest-up"), (.str "nearest-down"), (.str "inward"), (.str "outward"), (.str "upward"), (.str "downward")]) (c.fact 27 rfl) H
  g_NEAREST := PySem.W.mg_of X G (He.eqO_ok (c.fact 28 rfl))
  t_NEAREST := fun H => He.tupB_ok (vs := [(.str "nearest-even"), (.str "nearest-out"), (.str "nearest-in"), (.str "nearest-up"), (.str "nearest-down")]) (c.fact 29 rfl) H
  g_BadMode := PySem.W.mg_of X G (He.eqO_ok (c.fact 30 rfl))
  c_BadMode := excB_ok (c.fact 31 rfl)
  no_BadMode_mode := He.eqO_ok (c.fact 32 rfl)
  g_LostError := PySem.W.mg_of X G (He.eqO_ok (c.fact 33 rfl))
  c_LostError := excB_ok (c.fact 34 rfl)
  xm_BadMode_LostError := of_decide_eq_true (c.fact 35 rfl)
  ki_BadMode_BadMode := of_decide_eq_true (c.fact 36 rfl)
  ki_BadMode_ValueError := of_decide_eq_true (c.fact 37 rfl)
  g_BadBase := PySem.W.mg_of X G (He.eqO_ok (c.fact 38 rfl))
  ki_BadMode_BadBase := of_decide_eq_true (c.fact 39 rfl)
  x_BadMode := exiB_ok (d := d_BadMode_init) (c.fact 40 rfl) (c.clo 0 rfl) hf ht
theorem law_ok {P : Program} {w : World} {K : PySem.W.Frag} {mg : Str → Option Value} {base : Heap} (KB : K.In base) (GB : base.Ns mainGlobals mg) (T : Txt P K mg w) : FnOk P w K mg base CX0 6 (a_law K) (fdOf K (a_law K)) ["script"] (sp_law K) := ok_law T
theorem law_start (K : PySem.W.Frag) (H : Hp) (a : Addr) (ns : List Int) (hl : ns.length ≤ 63) (hS : SqL K H a (ns.map V.int)) : sp_law K [.ref a] H (fun v _ => v = .bl true) fun _ _ _ => False :=
  ⟨H, [], a, ns, rfl, Wd.start H, hS, hl, fun _ _ _ _ _ e => by rw [e]⟩
end LX
open PySem PySem.W PySem.Calls PyProof.Rows
set_option maxRecDepth 100000 in
set_option maxHeartbeats 0 in
theorem PySem.Challenge.cw_lostpart_k07_round_quotient_holds : PySem.Challenge.rw_lostpart_k07_round_quotient.Holds := by
  w_on; o_law
  refine HandSHeadRun.head_any (r := OpenLaw.row PySem.Challenge.rw_lostpart_k07_round_quotient) (q := view (OpenLaw.row PySem.Challenge.rw_lostpart_k07_round_quotient).prog [24]) (H := LX.hk) (ob := LX.ob) (M := 20000) (loose := LX.loose) (d := HandSHeadRun.topDef (OpenLaw.row PySem.Challenge.rw_lostpart_k07_round_quotient).prog 24) (kwd := []) LX.ob_eq
    (by kernel_rfl) (fun s => by kernel_rfl) LX.run (by kernel_rfl) (by kernel_rfl) (by kernel_rfl) (by rfl) (by first | assumption | decide +kernel) (by decide +kernel) ⟨rfl, rfl, rfl, rfl, rfl, by decide +kernel⟩ ?hw ?hc
  case hw => w_witness2
  case hc =>
    refine L2.walk_ofE (l := PySem.Challenge.rw_lostpart_k07_round_quotient) (n := 63) (k := 6) (x := "script") (CX := L2.CX0) rfl (by decide) (by kernel_rfl) ⟨rfl, by decide, by decide⟩ ?F (fun _ _ _ _ z => z)
    intro w mg fa h Y G hmg0
    obtain ⟨K, KX, c⟩ := Y
    have hmg : mg ("law" : PySem.Str) = some (.ref fa) := by
      have e : (HandSHeadRun.topDef (OpenLaw.row PySem.Challenge.rw_lostpart_k07_round_quotient).prog 24).name = ("law" : PySem.Str) := by kernel_rfl
      rw [← e]
      exact hmg0
    have T := LX.txt_of (P := (PySem.Challenge.rw_lostpart_k07_round_quotient).prog) (by rfl) (by decide +kernel) KX G c
    have e := hmg.symm.trans T.g_law
    cases e
    refine ⟨K, _, LX.sp_law K, KX, fun s v => L2.FunD.bindsA (ps := ["script"]) T.f_law (fun _ _ _ _ _ _ us hl => match us, hl with | [_], _ => rfl) s [v] rfl, ?_, ?_⟩
    · exact fun H a ns hl _ hS => LX.law_start K H a ns hl hS
    · exact fun base KB GB => LX.law_ok KB GB T

namespace LX
end LX
