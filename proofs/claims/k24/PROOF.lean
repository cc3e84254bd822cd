import PyProof.Rows.All
import Wide.All
import OpenK.AllK
import Wide.FinOn
import HandS.ForMost
import HandS.Flow
import HandS.Style
import HandS.Deep
import HandS.DeepEq
import HandS.DictComp
import HandS.Evl
import HandS.Wide
import KE.SortData
import KE.DataEq
import HandS.Walk
import HandS.Strs
import HandS.SetIn
import HandS.IsInst
import HandS.ExcInit
import HandS.ClsMeth
import HandS.WordsExc
import HandS.ExcIs
import KE.KExcIs
import KE.DataFind
import HandS.TryMany
import KE.SortKeyHeap
import HandS.Lambda
import HandS.SortKw
import HandS.More
import HandS.Iter
import HandS.Finally
import HandS.EndOwn
import PyProof.Rows.StrStep
import PyProof.StrBlock2
import KE.KDictKeyed
import PyProof.WalkInts
import KE.KMinKey
import PySem.Challenge.RW_samegoing_k24_whole_plays_part_in_rounds
set_option Elab.async false
set_option linter.all false
set_option maxRecDepth 100000
set_option maxHeartbeats 4000000
/-! rules and short words of my own over the hand layer -/
namespace SG
open PySem PySem.Spec PyProof.Rows L2

/-! ### sorted of data, any length -/
theorem each_of_vals {h : Heap} : ∀ {xs : List V} {us : List Value} {ds : List PyData}, Vals xs us → xs.length = ds.length → PySem.W.EachIs (fun (u : Value) (b : V × PyData) => RelV b.1 u) us (xs.zip ds)
  | [], _, [], .nil, _ => .nil
  | x :: xs, _, d :: ds, .cons r t, hl => .cons r (each_of_vals (h := h) t (by simpa using hl))
theorem each_reads {X : Cx} {pins : List (Addr × Obj)} {σ : L2.St} {H : Hp} {s : Shared} (I : Inv X pins σ H s) : ∀ {xs : List V} {us : List Value} {ds : List PyData}, Vals xs us → DpAll X.K H xs ds →
    PySem.W.EachIs (fun (u : Value) (b : V × PyData) => ∃ as, Reads s.heap u b.2 as) us (xs.zip ds)
  | _, _, _, .nil, .nil => .nil
  | _, _, _, .cons r t, .cons h1 h2 => .cons (Dp.reads I _ _ _ h1 r) (each_reads I t h2)
theorem dpAll_len {K : PySem.W.Frag} {H : Hp} : ∀ {xs : List V} {ds : List PyData}, DpAll K H xs ds → xs.length = ds.length
  | _, _, .nil => rfl
  | _, _, .cons _ t => by rw [List.length_cons, List.length_cons, dpAll_len t]
theorem dpAll_zip {K : PySem.W.Frag} {H : Hp} : ∀ {xs : List V} {ds : List PyData}, DpAll K H xs ds → ∀ p ∈ xs.zip ds, Dp K H p.1 p.2
  | _, _, .nil, p, hp => by simp at hp
  | _, _, .cons h t, p, hp => by
    rw [List.zip_cons_cons] at hp
    rcases List.mem_cons.mp hp with rfl | hp
    · exact h
    · exact dpAll_zip t p hp
theorem dpAll_of_zip {K : PySem.W.Frag} {H : Hp} : ∀ {ps : List (V × PyData)}, (∀ p ∈ ps, Dp K H p.1 p.2) → DpAll K H (ps.map (·.1)) (ps.map (·.2))
  | [], _ => .nil
  | p :: ps, h => .cons (h p (by simp)) (dpAll_of_zip fun q hq => h q (by simp [hq]))
theorem vals_of_each : ∀ {us : List Value} {bs : List (V × PyData)}, PySem.W.EachIs (fun (u : Value) (b : V × PyData) => RelV b.1 u) us bs → Vals (bs.map (·.1)) us
  | _, _, .nil => .nil
  | _, _, .cons r t => .cons r (vals_of_each t)
/-- the sorted data -/
def dsort (ds : List PyData) : List PyData := ds.mergeSort (PySem.W.dataLe false id)
def rSortedX (K : PySem.W.Frag) : List V → Hp → VK → Prop := fun vs H Q => ∃ (a : Addr) (xs : List V) (ds : List PyData), vs = [V.ref a] ∧ SqL K H a xs ∧ DpAll K H xs ds ∧ PySem.W.AllAlike ds ∧ PySem.W.Sortable ds ∧ (∀ d ∈ ds, d.depth ≤ 8) ∧
  ∀ (ys : List V) (p : Addr), DpAll K H ys (dsort ds) → ys.Perm xs → H p = none → Q (.ref p) (upd H p (.lst ys))
theorem cr_sortedX {X : Cx} (hu : X.A.units + 64 < cLine) : CallR X (.builtin "sorted") (rSortedX X.K) := by
  intro pins s σ H vs us Q I r h
  obtain ⟨a, xs, ds, rfl, hs, hd, hal, hso, hdep, q⟩ := h
  obtain ⟨its, rv, hl, hz⟩ := I.list hs
  rw [Vals.ref1 r]
  have hlen := dpAll_len hd
  have hm : (xs.zip ds).map Prod.snd = ds := List.map_snd_zip (by omega)
  have hm1 : (xs.zip ds).map Prod.fst = xs := List.map_fst_zip (by omega)
  refine PySem.W.sorted_data (enc := Prod.snd) hl.isList (each_of_vals (h := s.heap) rv hlen) (each_reads I rv hd) (by rw [hm]; exact hal) (by rw [hm]; exact hso)
    (by rw [List.length_zip]; omega) (fun b hb => ?_) fun out ho hE => ?_
  · have := hdep b.2 (by rw [← hm]; exact List.mem_map_of_mem hb)
    omega
  · obtain ⟨ep, he'⟩ := PyProof.Rows.sortedAll_at s.heap its (List.toArray out)
    have hp := List.mergeSort_perm (xs.zip ds) (PySem.W.dataLe false Prod.snd)
    have e2 : ((xs.zip ds).mergeSort (PySem.W.dataLe false Prod.snd)).map (·.2) = dsort ds := by
      have := PySem.W.sort_maps (r := PySem.W.dataLe false (Prod.snd : V × PyData → PyData)) (s := PySem.W.dataLe false id) (Prod.snd : V × PyData → PyData) (l := xs.zip ds) (fun a _ b _ => rfl)
      rw [hm] at this
      exact this
    have hD : DpAll X.K H (((xs.zip ds).mergeSort (PySem.W.dataLe false Prod.snd)).map (·.1)) (dsort ds) := by
      rw [← e2]
      exact dpAll_of_zip fun p hpp => dpAll_zip hd p (hp.mem_iff.mp hpp)
    have hP : (((xs.zip ds).mergeSort (PySem.W.dataLe false Prod.snd)).map (·.1)).Perm xs := by
      have := hp.map (·.1)
      rw [hm1] at this
      exact this
    have hlenY : (((xs.zip ds).mergeSort (PySem.W.dataLe false Prod.snd)).map (·.1)).length ≤ sizeLine := by rw [hP.length_eq]; exact hz
    exact ⟨.ref _, upd H (s.heap.objs.size + 1) (.lst _), I.laid (t' := s.toks) (fun _ _ => PyProof.Rows.sortedAll_old) (Nat.le_succ _) ⟨hlenY, out, ep, vals_of_each hE, by simpa using he'⟩, rfl, q _ _ hD hP (I.hok.fresh (Nat.le_succ _))⟩

/-! ### == != in, not in of data -/
section
variable {K : PySem.W.Frag} {H : Hp}
mutual
theorem dp_plain : ∀ (d : PyData) (v : V), Dp K H v d → d.plain = true
  | .none, _, _ => by rw [PyData.plain]
  | .bool _, _, _ => by rw [PyData.plain]
  | .int _, _, _ => by rw [PyData.plain]
  | .str _, _, _ => by rw [PyData.plain]
  | .list xs, _, h => by
    cases h with
    | lst _ ha =>
      rw [PyData.plain]
      exact dpAll_plain xs _ ha
  | .tuple xs, _, h => by
    cases h with
    | tup _ ha =>
      rw [PyData.plain]
      exact dpAll_plain xs _ ha
  | .dict _, _, h => by cases h
theorem dpAll_plain : ∀ (ds : List PyData) (vs : List V), DpAll K H vs ds → PyData.plainAll ds = true
  | [], _, _ => by rw [PyData.plainAll]
  | d :: ds, _, h => by
    cases h with
    | cons h1 h2 => rw [PyData.plainAll, dp_plain d _ h1, dpAll_plain ds _ h2]; rfl
end
end
def rEqP (K : PySem.W.Frag) : R2 := fun x y H Q => ∃ d e, Dp K H x d ∧ Dp K H y e ∧ d.depth ≤ 60 ∧ Q (.bl (PyData.eqv d e)) H
def rNeP (K : PySem.W.Frag) : R2 := fun x y H Q => ∃ d e, Dp K H x d ∧ Dp K H y e ∧ d.depth ≤ 60 ∧ Q (.bl (!PyData.eqv d e)) H
theorem op_eqP {X : Cx} (hu : X.A.units + 64 < cLine) : OpR X (compareOp .Eq) (rEqP X.K) := by
  intro pins s σ H x y v u Q I rx ry h
  obtain ⟨d, e, hd, he, sd, q⟩ := h
  obtain ⟨as, r1⟩ := Dp.reads I d x v hd rx
  obtain ⟨bs, r2⟩ := Dp.reads I e y u he ry
  exact SeqAt.eq_plain r1 r2 (dp_plain _ _ hd) (dp_plain _ _ he) (by omega) ⟨.bl _, H, I, rfl, q⟩
theorem op_neP {X : Cx} (hu : X.A.units + 64 < cLine) : OpR X (compareOp .NotEq) (rNeP X.K) := by
  intro pins s σ H x y v u Q I rx ry h
  obtain ⟨d, e, hd, he, sd, q⟩ := h
  obtain ⟨as, r1⟩ := Dp.reads I d x v hd rx
  obtain ⟨bs, r2⟩ := Dp.reads I e y u he ry
  exact SeqAt.ne_plain r1 r2 (dp_plain _ _ hd) (dp_plain _ _ he) (by omega) ⟨.bl _, H, I, rfl, q⟩
/-- x in a list of data | a tuple -/
def rInP (K : PySem.W.Frag) : R2 := fun x y H Q => ∃ d ds, Dp K H x d ∧ (Dp K H y (.list ds) ∨ Dp K H y (.tuple ds)) ∧ d.depth ≤ 60 ∧ Q (.bl (ds.any fun z => PyData.eqv z d)) H
def rNotInP (K : PySem.W.Frag) : R2 := fun x y H Q => ∃ d ds, Dp K H x d ∧ (Dp K H y (.list ds) ∨ Dp K H y (.tuple ds)) ∧ d.depth ≤ 60 ∧ Q (.bl (!ds.any fun z => PyData.eqv z d)) H
theorem op_inP {X : Cx} (hu : X.A.units + 64 < cLine) : OpR X (compareOp .In) (rInP X.K) := by
  intro pins s σ H x y v u Q I rx ry h
  obtain ⟨d, ds, hd, he, sd, q⟩ := h
  obtain ⟨as, r1⟩ := Dp.reads I d x v hd rx
  rcases he with he | he
  · obtain ⟨bs, r2⟩ := Dp.reads I (.list ds) y u he ry
    have hp := dp_plain _ _ he
    rw [PyData.plain] at hp
    exact SeqAt.in_list_data r2 r1 hp (dp_plain _ _ hd) (by omega) ⟨.bl _, H, I, rfl, q⟩
  · obtain ⟨bs, r2⟩ := Dp.reads I (.tuple ds) y u he ry
    have hp := dp_plain _ _ he
    rw [PyData.plain] at hp
    exact SeqAt.in_tuple_data r2 r1 hp (dp_plain _ _ hd) (by omega) ⟨.bl _, H, I, rfl, q⟩
theorem op_notInP {X : Cx} (hu : X.A.units + 64 < cLine) : OpR X (compareOp .NotIn) (rNotInP X.K) := by
  intro pins s σ H x y v u Q I rx ry h
  obtain ⟨d, ds, hd, he, sd, q⟩ := h
  obtain ⟨as, r1⟩ := Dp.reads I d x v hd rx
  rcases he with he | he
  · obtain ⟨bs, r2⟩ := Dp.reads I (.list ds) y u he ry
    have hp := dp_plain _ _ he
    rw [PyData.plain] at hp
    exact SeqAt.notIn_list_data r2 r1 hp (dp_plain _ _ hd) (by omega) ⟨.bl _, H, I, rfl, q⟩
  · obtain ⟨bs, r2⟩ := Dp.reads I (.tuple ds) y u he ry
    have hp := dp_plain _ _ he
    rw [PyData.plain] at hp
    exact SeqAt.notIn_tuple_data r2 r1 hp (dp_plain _ _ hd) (by omega) ⟨.bl _, H, I, rfl, q⟩

/-! ### encodings of plain data: what is equal in Python is equal -/
def Enc {α : Type} [DecidableEq α] (e : α → PyData) : Prop := ∀ a b, PyData.eqv (e a) (e b) = decide (a = b)
theorem enc_str : Enc PyData.str := fun a b => by
  rw [PyData.eqv]
  by_cases h : a = b
  · simp [h]
  · simp [h]
theorem enc_int : Enc PyData.int := fun a b => by
  rw [PyData.eqv]
  by_cases h : a = b
  · simp [h]
  · simp [h]
section
variable {α β γ : Type} [DecidableEq α] [DecidableEq β] [DecidableEq γ] {ea : α → PyData} {eb : β → PyData} {ec : γ → PyData}
def eL {α : Type} (e : α → PyData) (xs : List α) : PyData := .list (xs.map e)
def eT {α : Type} (e : α → PyData) (xs : List α) : PyData := .tuple (xs.map e)
def e2 {α β : Type} (ea : α → PyData) (eb : β → PyData) (p : α × β) : PyData := .tuple [ea p.1, eb p.2]
def e3 {α β γ : Type} (ea : α → PyData) (eb : β → PyData) (ec : γ → PyData) (p : α × β × γ) : PyData := .tuple [ea p.1, eb p.2.1, ec p.2.2]
theorem eqvAll_enc (h : Enc ea) : ∀ xs ys : List α, PyData.eqvAll (xs.map ea) (ys.map ea) = decide (xs = ys)
  | [], [] => by simp [PyData.eqvAll]
  | [], y :: ys => by simp [PyData.eqvAll]
  | x :: xs, [] => by simp [PyData.eqvAll]
  | x :: xs, y :: ys => by
    rw [List.map_cons, List.map_cons, PyData.eqvAll, h x y, eqvAll_enc h xs ys]
    by_cases h1 : x = y <;> by_cases h2 : xs = ys <;> simp [h1, h2]
theorem enc_L (h : Enc ea) : Enc (eL ea) := fun xs ys => by
  unfold eL
  rw [PyData.eqv, eqvAll_enc h]
theorem enc_T (h : Enc ea) : Enc (eT ea) := fun xs ys => by
  unfold eT
  rw [PyData.eqv, eqvAll_enc h]
theorem enc_2 (h : Enc ea) (h' : Enc eb) : Enc (e2 ea eb) := fun x y => by
  unfold e2
  simp only [PyData.eqv, PyData.eqvAll, h x.1 y.1, h' x.2 y.2, Bool.and_true]
  by_cases h1 : x.1 = y.1 <;> by_cases h2 : x.2 = y.2 <;> simp [h1, h2, Prod.ext_iff]
theorem enc_3 (h : Enc ea) (h' : Enc eb) (h'' : Enc ec) : Enc (e3 ea eb ec) := fun x y => by
  unfold e3
  simp only [PyData.eqv, PyData.eqvAll, h x.1 y.1, h' x.2.1 y.2.1, h'' x.2.2 y.2.2, Bool.and_true]
  by_cases h1 : x.1 = y.1 <;> by_cases h2 : x.2.1 = y.2.1 <;> by_cases h3 : x.2.2 = y.2.2 <;> simp [h1, h2, h3, Prod.ext_iff]
theorem any_enc (h : Enc ea) (xs : List α) (a : α) : ((xs.map ea).any fun z => PyData.eqv z (ea a)) = decide (a ∈ xs) := by
  induction xs with
  | nil => rfl
  | cons x r ih =>
    rw [List.map_cons, List.any_cons, ih, h x a]
    by_cases h1 : x = a
    · simp [h1]
    · have h2 : ¬ a = x := fun e => h1 e.symm
      simp [h1, h2]
/-- depths -/
def Dep {α : Type} (e : α → PyData) (n : Nat) : Prop := ∀ a, (e a).depth ≤ n
theorem dep_str : Dep PyData.str 0 := fun a => by rw [PyData.depth]; exact Nat.le_refl _
theorem dep_int : Dep PyData.int 0 := fun a => by rw [PyData.depth]; exact Nat.le_refl _
theorem depAll {n : Nat} (h : Dep ea n) : ∀ xs : List α, PyData.depthAll (xs.map ea) ≤ n
  | [] => by rw [List.map_nil, PyData.depthAll]; exact Nat.zero_le _
  | x :: xs => by rw [List.map_cons, PyData.depthAll]; exact Nat.max_le.mpr ⟨h x, depAll h xs⟩
theorem dep_L {n : Nat} (h : Dep ea n) : Dep (eL ea) (n + 1) := fun xs => by
  unfold eL
  rw [PyData.depth]
  have := depAll h xs
  omega
theorem dep_T {n : Nat} (h : Dep ea n) : Dep (eT ea) (n + 1) := fun xs => by
  unfold eT
  rw [PyData.depth]
  have := depAll h xs
  omega
theorem dep_2 {n m : Nat} (h : Dep ea n) (h' : Dep eb m) : Dep (e2 ea eb) (max n m + 1) := fun p => by
  unfold e2
  simp only [PyData.depth, PyData.depthAll]
  have := h p.1
  have := h' p.2
  omega
theorem dep_3 {n m k : Nat} (h : Dep ea n) (h' : Dep eb m) (h'' : Dep ec k) : Dep (e3 ea eb ec) (max n (max m k) + 1) := fun p => by
  unfold e3
  simp only [PyData.depth, PyData.depthAll]
  have := h p.1
  have := h' p.2.1
  have := h'' p.2.2
  omega
end

/-! ### two dicts of data that are equal -/
def EqEnt (K : PySem.W.Frag) (H : Hp) (ls : List (Key × V)) (p : Key × V) : Prop := ∃ u d e, valV ls p.1 = some u ∧ Dp K H p.2 d ∧ Dp K H u e ∧ d.depth ≤ 60 ∧ PyData.eqv d e = true
theorem hits_data {X : Cx} {pins : List (Addr × Obj)} {σ : L2.St} {H : Hp} {s : Shared} (I : Inv X pins σ H s) (hu : X.A.in1.units + 64 < cLine) {ls : List (Key × V)} {vb : List (Key × Value)} (rb : KV ls vb) :
    ∀ {ks : List (Key × V)} {va : List (Key × Value)}, KV ks va → (∀ p ∈ ks, EqEnt X.K H ls p) → PySem.W.KeqHits X.A.in1 s vb va true := by
  intro ks va ra
  unfold KV at ra
  induction ra with
  | nil => intro _; exact .nil
  | @cons p q ps qs h t k =>
    intro hp
    obtain ⟨h1, h2⟩ := h
    obtain ⟨u, d, e, ev, hd, he, sd, eq⟩ := hp p List.mem_cons_self
    have rr : RelO (some u) (valueAt vb p.1) := by rw [← ev]; exact rb.val p.1
    obtain ⟨y, hy, ry⟩ := rr.some_of
    obtain ⟨key, v⟩ := q
    have h1' : p.1 = key := h1
    rw [h1'] at hy
    obtain ⟨as, r1⟩ := Dp.reads I d _ _ hd h2
    obtain ⟨bs, r2⟩ := Dp.reads I e _ _ he ry
    have ea := SeqAt.eqAt_plain d e X.A.in1 s _ _ _ _ r1 r2 (dp_plain _ _ hd) (dp_plain _ _ he) (by omega)
    rw [eq] at ea
    show PySem.W.KeqHits X.A.in1 s vb ((key, v) :: qs) (true && true)
    exact .hit hy ea (k fun p' hm => hp p' (List.mem_cons_of_mem _ hm))
def rEqW (K : PySem.W.Frag) : R2 := fun x y H Q => ∃ a b ks ls, x = .ref a ∧ y = .ref b ∧ H a = some (.dK ks) ∧ H b = some (.dK ls) ∧ ks.length = ls.length ∧ (∀ p ∈ ks, EqEnt K H ls p) ∧ Q (.bl true) H
def rNeW (K : PySem.W.Frag) : R2 := fun x y H Q => ∃ a b ks ls, x = .ref a ∧ y = .ref b ∧ H a = some (.dK ks) ∧ H b = some (.dK ls) ∧ ks.length = ls.length ∧ (∀ p ∈ ks, EqEnt K H ls p) ∧ Q (.bl false) H
theorem op_eqW {X : Cx} (hu : X.A.units + 65 < cLine) : OpR X (compareOp .Eq) (rEqW X.K) := by
  intro pins s σ H x y v u Q I rx ry h
  obtain ⟨a, b, ks, ls, rfl, rfl, ea, eb, hlen, hp, q⟩ := h
  obtain rfl : v = Value.ref a := rx
  obtain rfl : u = Value.ref b := ry
  obtain ⟨_, ya, va, ra, da⟩ := (show ObjOk X.prog X.w H s.heap a (.dK ks) from I.hok a _ ea)
  obtain ⟨_, yb, vb, rb, db⟩ := (show ObjOk X.prog X.w H s.heap b (.dK ls) from I.hok b _ eb)
  have hl : va.length = vb.length := by rw [← ra.length, ← rb.length]; exact hlen
  have hu1 : X.A.in1.units + 64 < cLine := by show X.A.units + 1 + 64 < cLine; omega
  exact PySem.W.keq_eq (knd := mixKind X.prog X.w) (r := true) ya yb da db (by omega) (fun _ => hits_data I hu1 rb ra hp) ⟨.bl true, H, I, by simp [hl]; rfl, q⟩
theorem op_neW {X : Cx} (hu : X.A.units + 65 < cLine) : OpR X (compareOp .NotEq) (rNeW X.K) := by
  intro pins s σ H x y v u Q I rx ry h
  obtain ⟨a, b, ks, ls, rfl, rfl, ea, eb, hlen, hp, q⟩ := h
  obtain rfl : v = Value.ref a := rx
  obtain rfl : u = Value.ref b := ry
  obtain ⟨_, ya, va, ra, da⟩ := (show ObjOk X.prog X.w H s.heap a (.dK ks) from I.hok a _ ea)
  obtain ⟨_, yb, vb, rb, db⟩ := (show ObjOk X.prog X.w H s.heap b (.dK ls) from I.hok b _ eb)
  have hl : va.length = vb.length := by rw [← ra.length, ← rb.length]; exact hlen
  have hu1 : X.A.in1.units + 64 < cLine := by show X.A.units + 1 + 64 < cLine; omega
  exact PySem.W.keq_ne (knd := mixKind X.prog X.w) (r := true) ya yb da db (by omega) (fun _ => hits_data I hu1 rb ra hp) ⟨.bl false, H, I, by simp [hl]; rfl, q⟩
/-- dict of a list of pairs -/
def rDictP (K : PySem.W.Frag) : List V → Hp → VK → Prop := fun xs H Q => ∃ (a : Addr) (ps : List Addr) (kvs : List (Key × V)), xs = [.ref a] ∧ SqL K H a (ps.map V.ref) ∧ Paired (fun p kv => SqT K H p [kV kv.1, kv.2]) ps kvs ∧
    ∀ p, H p = none → Q (.ref p) (upd H p (.dK (mergeK [] kvs)))
theorem hu64_of {A : Around} {k : Nat} (hr : Room k A) : A.units + 64 < cLine := by have := hr.un; omega
theorem hu65_of {A : Around} {k : Nat} (hr : Room k A) : A.units + 65 < cLine := by have := hr.un; omega
end SG
namespace SG
open PySem PySem.Spec PyProof.Rows L2

/-! ### lists of texts as data -/
section
variable {K : PySem.W.Frag} {H H' : Hp}
theorem dpAll_strs : ∀ xs : List Str, DpAll K H (xs.map V.str) (xs.map PyData.str)
  | [] => .nil
  | x :: r => .cons (.str x) (dpAll_strs r)
theorem of_dpAll_strs : ∀ {ys : List V} {xs : List Str}, DpAll K H ys (xs.map PyData.str) → ys = xs.map V.str
  | _, [], h => by
    cases h
    rfl
  | _, x :: r, h => by
    cases h with
    | cons h1 h2 =>
      cases h1
      rw [of_dpAll_strs h2]
      rfl
theorem dp_strs {a : Addr} {xs : List Str} (h : SqL K H a (xs.map V.str)) : Dp K H (.ref a) (.list (xs.map .str)) := .lst h (dpAll_strs xs)
theorem alike_strs (xs : List Str) : PySem.W.AllAlike (xs.map PyData.str) := PySem.W.AllAlike.of fun _ _ => by rw [PySem.W.alike]
theorem sortable_strs (xs : List Str) : PySem.W.Sortable (xs.map PyData.str) := PySem.W.Sortable.others fun b => ⟨(fun h => by cases h), (fun xs h => by cases h)⟩
/-- texts sorted -/
def ssort (xs : List Str) : List Str := xs.mergeSort fun a b => decide (a.cps.toList ≤ b.cps.toList)
theorem dsort_strs (xs : List Str) : dsort (xs.map .str) = (ssort xs).map .str := by
  unfold dsort ssort
  refine (PySem.W.sort_maps PyData.str fun a _ b _ => ?_).symm
  have e := congrFun (congrFun (PySem.W.dataLe_str (fun x : Str => x)) a) b
  exact e.symm
theorem ssort_perm (xs : List Str) : (ssort xs).Perm xs := List.mergeSort_perm _ _
theorem sle_total : PySem.W.TotalLe (fun a b : Str => decide (a.cps.toList ≤ b.cps.toList)) := by
  have h := PySem.W.sortLe_total (PyProof.Rows.listOrd PyProof.Rows.itemOrd) false fun b : Str => PySem.W.keyToks (.str b)
  have e := PySem.W.dataLe_str (fun x : Str => x)
  unfold PySem.W.dataLe at e
  rw [e] at h
  exact h
theorem ssort_pair (xs : List Str) : (ssort xs).Pairwise fun a b => decide (a.cps.toList ≤ b.cps.toList) = true := PySem.W.sort_pairwise sle_total xs
theorem sle_anti {a b : Str} (h : decide (a.cps.toList ≤ b.cps.toList) = true) (h' : decide (b.cps.toList ≤ a.cps.toList) = true) : a = b :=
  PySem.W.str_of_cps (Std.le_antisymm (of_decide_eq_true h) (of_decide_eq_true h'))
/-- sorted is the same for what is the same but for the order -/
theorem ssort_eq {xs ys : List Str} (h : xs.Perm ys) : ssort xs = ssort ys :=
  ((ssort_perm xs).trans (h.trans (ssort_perm ys).symm)).eq_of_pairwise (fun _ _ _ _ => sle_anti) (ssort_pair xs) (ssort_pair ys)
abbrev eSs : List Str → PyData := eL PyData.str
theorem enc_Ss : Enc eSs := enc_L enc_str
theorem dep_Ss : Dep eSs 1 := dep_L dep_str
theorem dp_Ss {a : Addr} {xs : List Str} (h : H a = some (.lst (xs.map V.str))) : Dp K H (.ref a) (eSs xs) := dp_strs (SqL.of h)
end
/-! ### heaps -/
theorem tyes {σ : L2.St} {H : Hp} {Q : Bool → Hp → Prop} (h : Q true H) : tYes σ H Q := h
/-- a test that says unlike of what is like -/
theorem iteNE {b : Bool} {A B : Prop} (hb : b = true) (h : B) : if (!b) = true then A else B := by
  rw [hb]
  exact iteF h
theorem iteB {b : Bool} {A B : Prop} (h1 : b = true → A) (h2 : b = false → B) : if b = true then A else B := by
  cases b with
  | true => exact iteT (h1 rfl)
  | false => exact iteF (h2 rfl)
theorem lt0 {j : Int} (h : 0 < j := by decide) : 0 < j := h
theorem same_new {H : Hp} {p : Addr} {o : HO} (h : H p = none) : Same H (upd H p o) := fun b x e => by
  rw [upd_ne (ne_of_none e h)]
  exact e
/-- an object that H does not know may change -/
theorem same_mut {H H' : Hp} {p : Addr} {o : HO} (e : Same H H') (h : H p = none) : Same H (upd H' p o) := fun a u ha => by
  rw [upd_ne (ne_of_none ha h)]
  exact e a u ha
theorem sl1 {n : Nat} (h : n ≤ 1000000) : n < sizeLine := by rw [sizeLine_eq]; omega
theorem sl2 {n : Nat} (h : n ≤ 1000000) : n ≤ sizeLine := by rw [sizeLine_eq]; omega
theorem atI_eq {α : Type} {xs : List α} {i : Int} (h0 : 0 ≤ i) (h1 : i < xs.length) : atI xs i = xs[i.toNat]? := by
  obtain ⟨n, rfl⟩ : ∃ n : Nat, i = n := ⟨i.toNat, by omega⟩
  have h : n < xs.length := by omega
  rw [atI_nat (List.getElem?_eq_getElem h)]
  simp [h]
/-- an item at a place within -/
theorem atI_some {α : Type} {xs : List α} {i : Int} (h0 : 0 ≤ i) (h1 : i < xs.length) : ∃ v, atI xs i = some v ∧ v ∈ xs := by
  rw [atI_eq h0 h1]
  have h : i.toNat < xs.length := by omega
  exact ⟨xs[i.toNat], List.getElem?_eq_getElem h, List.getElem_mem h⟩
theorem app_sign (l : List Nat) (c : Nat) : (⟨l.toArray⟩ : Str) ++ (⟨#[c]⟩ : Str) = ⟨(l ++ [c]).toArray⟩ := Str.ext' (by show l.toArray ++ #[c] = _; simp)
theorem dpAll_ints {K : PySem.W.Frag} {H : Hp} : ∀ xs : List Int, DpAll K H (xs.map V.int) (xs.map PyData.int)
  | [] => .nil
  | x :: r => .cons (.int x) (dpAll_ints r)
theorem cut_lt (xs : List V) (n : Nat) : cutV xs none (some (n : Int)) = xs.take n := by
  unfold cutV
  rw [HT.sIx_none, HT.sIx_nat, Nat.sub_zero, List.drop_zero, ← List.take_eq_take_min]
theorem paired_len {α β : Type} {F : α → β → Prop} : ∀ {xs : List α} {ys : List β}, Paired F xs ys → xs.length = ys.length
  | _, _, .nil => rfl
  | _, _, .cons _ t => by rw [List.length_cons, List.length_cons, paired_len t]
theorem lock_same {H H' : Hp} {d : Addr} {u : HO} {od : Obj} (h : H d = some u) (e : Same (upd H d (.frz od u)) H') : Same H (upd H' d u) := fun a o g => by
  by_cases n : a = d
  · subst n
    rw [upd_same, ← h, g]
  · rw [upd_ne n]
    exact e a o (by rw [upd_ne n]; exact g)
theorem find_nd : ∀ {kb : List (Str × List Str)} {i : Nat} {m : Str × List Str}, (kb.map (·.1)).Nodup → kb[i]? = some m → (kb.find? fun x => decide (x.1 = m.1)) = some m
  | [], _, _, _, h => by simp at h
  | x :: r, 0, m, _, h => by
    have e : x = m := Option.some.inj h
    rw [e, List.find?_cons_of_pos (by simp)]
  | x :: r, i + 1, m, nd, h => by
    rw [List.map_cons, List.nodup_cons] at nd
    have hm : m ∈ r := List.mem_of_getElem? h
    rw [List.find?_cons_of_neg, find_nd nd.2 h]
    intro e
    exact nd.1 (by rw [of_decide_eq_true e]; exact List.mem_map_of_mem hm)
theorem mergeK_nd : ∀ {more kvs : List (Key × V)}, (∀ p ∈ more, valV kvs p.1 = none) → (more.map (·.1)).Nodup → mergeK kvs more = kvs ++ more
  | [], kvs, _, _ => by
    rw [List.append_nil]
    rfl
  | p :: more, kvs, h, nd => by
    have e : putK kvs p.1 p.2 = kvs ++ [(p.1, p.2)] := putK_new _ (h p List.mem_cons_self)
    rw [List.map_cons, List.nodup_cons] at nd
    show mergeK (putK kvs p.1 p.2) more = _
    rw [e, mergeK_nd (kvs := kvs ++ [(p.1, p.2)]) (fun q hq => ?_) nd.2, List.append_assoc]
    · rfl
    · rw [valV_snoc _ _ _ _ (h p List.mem_cons_self), if_neg]
      · exact h q (List.mem_cons_of_mem _ hq)
      · intro e
        exact nd.1 (e ▸ List.mem_map_of_mem hq)
/-! ### outs -/
def BaseAt (H : Hp) (kvs : List (Key × V)) (kb : List (Str × List Str)) : Prop := Paired (fun (p : Key × V) (m : Str × List Str) => p.1 = Sum.inr m.1 ∧ ∃ a, p.2 = .ref a ∧ H a = some (.lst (m.2.map V.str))) kvs kb
/-- the making of a name -/
def mk (kb : List (Str × List Str)) (n : Str) : List Str := ((kb.find? fun m => decide (m.1 = n)).map (·.2)).getD [n]
def outs (kb : List (Str × List Str)) (ns : List Str) : List Str := ns.flatMap (mk kb)
theorem baseAt_val {H : Hp} : ∀ {kvs : List (Key × V)} {kb : List (Str × List Str)}, BaseAt H kvs kb → ∀ n : Str,
    (valV kvs (Sum.inr n : Key) = none ∧ (kb.find? fun m => decide (m.1 = n)) = none) ∨ ∃ a ms, valV kvs (Sum.inr n : Key) = some (.ref a) ∧ H a = some (.lst (ms.map V.str)) ∧ ((kb.find? fun m => decide (m.1 = n)).map (·.2)) = some ms ∧ (n, ms) ∈ kb
  | _, _, .nil, n => .inl ⟨rfl, rfl⟩
  | p :: kvs, m :: kb, .cons ⟨h1, a, h2, h3⟩ t, n => by
    by_cases e : m.1 = n
    · refine .inr ⟨a, m.2, ?_, h3, ?_, ?_⟩
      · rw [valV_pos (by rw [h1, e]), h2]
      · rw [List.find?_cons_of_pos (by simpa using e)]
        rfl
      · rw [← e]
        exact List.mem_cons_self
    · rw [valV_neg (by rw [h1]; intro z; exact e (Sum.inr.inj z)), List.find?_cons_of_neg (by simpa using e)]
      rcases baseAt_val t n with h | ⟨b, ms, x1, x2, x3, x4⟩
      · exact .inl h
      · exact .inr ⟨b, ms, x1, x2, x3, List.mem_cons_of_mem _ x4⟩
theorem mk_len {kb : List (Str × List Str)} (h : ∀ m ∈ kb, m.2.length ≤ 4) (n : Str) : (mk kb n).length ≤ 4 := by
  unfold mk
  cases e : kb.find? fun m => decide (m.1 = n) with
  | none => simp
  | some m => simpa using h m (List.mem_of_find?_eq_some e)
theorem outs_len {kb : List (Str × List Str)} (h : ∀ m ∈ kb, m.2.length ≤ 4) : ∀ ns : List Str, (outs kb ns).length ≤ 4 * ns.length
  | [] => Nat.zero_le _
  | n :: r => by
    unfold outs
    rw [List.flatMap_cons, List.length_append]
    have h1 := mk_len h n
    have h2 := outs_len h r
    unfold outs at h2
    rw [List.length_cons]
    omega
theorem outs_snoc (kb : List (Str × List Str)) (ns : List Str) (n : Str) : outs kb (ns ++ [n]) = outs kb ns ++ mk kb n := by
  unfold outs
  simp
theorem take_snoc {α : Type} {xs : List α} {i : Nat} {x : α} (h : xs[i]? = some x) : xs.take (i + 1) = xs.take i ++ [x] := by
  rw [List.take_add_one, h]
  rfl
theorem map_at {α β : Type} {f : α → β} {xs : List α} {i : Nat} {y : β} (h : (xs.map f)[i]? = some y) : ∃ x, xs[i]? = some x ∧ y = f x := by
  rw [List.getElem?_map] at h
  cases e : xs[i]? with
  | none => rw [e] at h; cases h
  | some x => rw [e] at h; exact ⟨x, rfl, (Option.some.inj h).symm⟩
end SG
/-! len(set(texts)), any number of texts -/
namespace SG
open PySem PySem.Spec PyProof.Rows L2
/-- texts, each once -/
def once1 (l : List Str) (x : Str) : List Str := if l.any (· == x) = true then l else l ++ [x]
def once (xs : List Str) : List Str := xs.foldl once1 []
theorem once_snoc (xs : List Str) (x : Str) : once (xs ++ [x]) = once1 (once xs) x := by
  unfold once
  rw [List.foldl_append]
  rfl
theorem once_len : ∀ n (xs : List Str), xs.length = n → (once xs).length ≤ n := by
  intro n
  induction n with
  | zero => intro xs h; rw [List.eq_nil_of_length_eq_zero h]; exact Nat.le_refl _
  | succ n ih =>
    intro xs h
    have hne : xs ≠ [] := by intro e; rw [e] at h; simp at h
    rw [← List.dropLast_concat_getLast hne, once_snoc]
    have h1 := ih xs.dropLast (by rw [List.length_dropLast]; omega)
    unfold once1
    split
    · omega
    · rw [List.length_append, List.length_singleton]; omega
theorem once1_any (l : List Str) (x k : Str) : (once1 l x).any (· == k) = (l.any (· == k) || decide (k = x)) := by
  unfold once1
  by_cases h : l.any (· == x) = true
  · rw [if_pos h]
    by_cases e : k = x
    · subst e; rw [h]; simp
    · simp [e]
  · rw [if_neg h, List.any_append]
    by_cases e : k = x
    · subst e; simp
    · have hb : (x == k) = false := by simpa [beq_iff_eq] using (fun q : x = k => e q.symm)
      simp [hb, e]
theorem once1_len (l : List Str) (x : Str) : (once1 l x).length = if l.any (· == x) then l.length else l.length + 1 := by
  unfold once1; split <;> simp
theorem once_mem : ∀ (xs : List Str) (k : Str), (once xs).any (· == k) = xs.any (· == k) := by
  intro xs k
  have : ∀ (ys l : List Str), (ys.foldl once1 l).any (· == k) = (l.any (· == k) || ys.any (· == k)) := by
    intro ys
    induction ys with
    | nil => intro l; simp
    | cons y r ih =>
      intro l
      rw [List.foldl_cons, ih, once1_any, List.any_cons, Bool.or_assoc]
      congr 2
      by_cases e : k = y
      · subst e; simp
      · have hb : (y == k) = false := by simpa [beq_iff_eq] using (fun q : y = k => e q.symm)
        simp [hb, e]
  rw [show once xs = xs.foldl once1 [] from rfl, this]
  simp
theorem once_nodup : ∀ xs : List Str, (once xs).length = xs.length ↔ xs.Nodup := by
  have key : ∀ n (xs : List Str), xs.length = n → ((once xs).length = xs.length ↔ xs.Nodup) := by
    intro n
    induction n with
    | zero => intro xs h; rw [List.eq_nil_of_length_eq_zero h]; exact ⟨fun _ => List.nodup_nil, fun _ => rfl⟩
    | succ n ih =>
      intro xs h
      have hne : xs ≠ [] := by intro e; rw [e] at h; simp at h
      have hdl : xs.dropLast.length = n := by rw [List.length_dropLast]; omega
      have h1 := ih xs.dropLast hdl
      have h2 := once_len _ xs.dropLast rfl
      generalize hl : xs.dropLast = ys at *
      generalize hg : xs.getLast hne = x at *
      have ex : xs = ys ++ [x] := by rw [← hl, ← hg, List.dropLast_concat_getLast]
      rw [ex, once_snoc, once1_len, once_mem, List.length_append, List.length_singleton]
      by_cases e : ys.any (· == x) = true
      · rw [if_pos e]
        refine ⟨fun q => by omega, fun q => ?_⟩
        obtain ⟨y, hy, ey⟩ := List.any_eq_true.mp e
        rw [eq_of_beq ey] at hy
        rw [List.nodup_append] at q
        exact absurd rfl (q.2.2 x hy x (by simp))
      · rw [if_neg e]
        refine ⟨fun q => ?_, fun q => ?_⟩
        · rw [List.nodup_append]
          refine ⟨h1.mp (by omega), by simp, fun a ha b hb eab => e ?_⟩
          rw [List.mem_singleton.mp hb] at eab
          rw [eab] at ha
          exact List.any_eq_true.mpr ⟨x, ha, by simp⟩
        · rw [List.nodup_append] at q
          have := h1.mpr q.1
          omega
  exact fun xs => key _ xs rfl
section
variable {prog : Program} {w : World} {A : Around} {R : Result → Shared → Prop} {I : Addr} {fp wr : List Addr} {G : Array GenState → Array GenState → Prop} {n : Nat} {P : Nat → Value → Prop} {St : Nat → Shared → Prop}
/-- the loop of set(texts) -/
theorem fill_texts (W : WalksS prog w A.in1 I fp wr G n P St) (S : Addr) (hSf : S ∉ fp) (xs : List Str) (hsz : xs.length = n) (hn : n + 1 < scanBound) (hval : ∀ i v, P i v → ∃ t, v = .str (xs.getD i Str.empty) t) :
    ∀ (m i : Nat) (s : Shared), n - i = m → i ≤ n → St i s → s.heap.SetOf (strKind prog w) S (fun k => (once (xs.take i)).any (· == k)) (once (xs.take i)).length →
      (∀ s', Moved (S :: wr) G s s' → s'.heap.SetOf (strKind prog w) S (fun k => (once (xs.take n)).any (· == k)) (once (xs.take n)).length → R (.ok (.ret .none)) s') →
      codeAny (model prog w) A (.builtin "set.update.loop" ⟨[.ref S, .ref I], []⟩) R s := by
  have hSw : S ∉ wr := fun h => hSf (W.sub _ h)
  have hsub : ∀ b ∈ wr, b ∈ S :: wr := fun b hb => List.mem_cons_of_mem _ hb
  have carry : ∀ {s s' : Shared} {f : Str → Bool} {c : Nat}, Moved wr G s s' → s.heap.SetOf (strKind prog w) S f c → s'.heap.SetOf (strKind prog w) S f c := fun hm ⟨o, es, ep, t, ho, rest⟩ => ⟨o, es, ep, t, hm.heap S _ hSw ho, rest⟩
  intro m
  induction m with
  | zero =>
    intro i s hk hi hst hS hR
    have hin : i = n := by omega
    subst hin
    refine codeAny_builtin PyProof.Rows.F.entry_set_update_loop ?_
    rw [Around.under_plainId PyProof.Rows.F.plain_set_update_loop _]
    show wpAny _ A.in1 (pyNext (.ref I) >>= _) _ _ s
    refine wpAny_bind (W.done s _ _ hst fun s' hm => ?_)
    show wpAny _ A.in1 (ret Value.none) _ _ s'
    exact wpAny_pure (hR s' (hm.mono hsub) (carry hm hS))
  | succ m ih =>
    intro i s hk hi hst hS hR
    have hlt : i < n := by omega
    refine codeAny_builtin PyProof.Rows.F.entry_set_update_loop ?_
    rw [Around.under_plainId PyProof.Rows.F.plain_set_update_loop _]
    show wpAny _ A.in1 (pyNext (.ref I) >>= _) _ _ s
    refine wpAny_bind (W.item i s _ _ hlt hst fun v s' hP hst' hm => ?_)
    obtain ⟨t, rfl⟩ := hval i v hP
    have hS' := carry hm hS
    have hget : xs[i]? = some (xs.getD i Str.empty) := by
      rw [List.getD_eq_getElem?_getD, List.getElem?_eq_getElem (show i < xs.length by omega)]
      rfl
    have hlen : (once (xs.take i)).length ≤ i := Nat.le_trans (once_len _ _ rfl) (by rw [List.length_take]; omega)
    show wpAny _ A.in1 (holding [Value.str (xs.getD i Str.empty) t] (setAdd S (.str (xs.getD i Str.empty) t)) >>= _) _ _ s'
    refine wpAny_bind (wpAny_holding ?_)
    unfold setAdd
    refine wpAny_holding ?_
    refine wpAny_bind ((strKind prog w).pyHash (k := xs.getD i Str.empty) (strKind_is _ _ _ _) ?_)
    refine wpAny_setAddHashed_of (knd := strKind prog w) (s := { s' with toks := s'.toks + 1 }) (strKind_is _ _ _ _) rfl hS' (by omega) fun h' hsb hS2 => ?_
    have hSi : h'.SetOf (strKind prog w) S (fun k => (once (xs.take (i + 1))).any (· == k)) (once (xs.take (i + 1))).length :=
      SetOf_congr hS2 (fun k => by rw [take_snoc hget, once_snoc, once1_any]) (by rw [take_snoc hget, once_snoc, once1_len])
    refine wpAny_pure ⟨plainId_quiet PyProof.Rows.F.plain_set_update_loop _, ih (i + 1) _ (by omega) hlt (W.frame _ s' _ _ hst' (Nat.le_succ _) fun b hb o e => ?_) hSi fun s'' hm'' hS'' => ?_⟩
    · rw [hsb.2 b (fun h : b = S => hSf (by rw [← h]; exact hb))]; exact e
    · refine hR s'' (Moved.trans W.gtrans ((hm.mono hsub).then_heap (Nat.le_succ _) fun b o hb e => ?_) hm'') hS''
      rw [hsb.2 b (fun h : b = S => hb (by rw [h]; exact List.mem_cons_self))]; exact e
end
section
variable {prog : Program} {w : World} {A : Around} {E : Value → Shared → Prop} {s : Shared}
theorem call_set_texts {l : Addr} {items : Array Value} {xs : List Str} {Q : Value → Shared → Prop} (hh : A.handled = none) (hl : s.heap.IsList l items) (hi : PyProof.Rows.StrsAre items.toList xs) (hn1 : items.size + 1 < scanBound)
    (h : ∀ (h' : Heap) (tk : Nat), h'.SetOf (strKind prog w) s.heap.objs.size (fun k => (once xs).any (· == k)) (once xs).length → (∀ b o, b < s.heap.objs.size → s.heap.get? b = some o → h'.get? b = some o) → Q (.ref s.heap.objs.size) { s with heap := h', toks := tk }) :
    wpAny (model prog w) A (call (.type "set") [.ref l]) Q E s := by
  obtain ⟨c, tl, hmro⟩ := PySem.F.called_set.mro
  have hmade := PySem.F.called_set.made
  have hsub := PySem.F.called_set.sub
  have hsz : xs.length = items.size := by rw [← StrsAre.len_eq hi, Array.length_toList]
  have htk : xs.take items.size = xs := List.take_of_length_le (by omega)
  refine wpAny_call (codeAny_of_tree ?_)
  show wpAny _ _ (callAny (.type "set") _) _ _ _
  refine wpAny_pure ⟨Code.quiet_builtin _ (by decide +kernel), codeAny_builtin PySem.F.entry_type_call ?_⟩
  rw [Around.under_plain (weight_type_call_type "set" [.ref l] []) rfl]
  have h1 := PySem.F.called_set.notType
  have h2 := PySem.F.called_set.canCreate
  have hct := PySem.F.typeCall_set_1 (.ref l)
  repeat (any_goals (first | assumption | wp_step))
  refine codeAny_mono (code_set_new_1 (.ref l) (E := E) (Q₁ := fun obj s₁ => ∃ led : Bool, obj = .ref s.heap.objs.size ∧ s₁ = { s with heap := s.heap.push { cls := .type "set", dict := none, data := .set #[] 0 (.fresh 0 0 led) } }) fun led => ⟨led, rfl, rfl⟩) fun r s₁ hr => ?_
  cases r with
  | error e => exact hr
  | ok fl =>
    cases fl with
    | ret obj =>
      obtain ⟨led, rfl, rfl⟩ := hr
      have hS : (s.heap.push { cls := .type "set", dict := none, data := .set #[] 0 (.fresh 0 0 led) }).get? s.heap.objs.size = some { cls := .type "set", dict := none, data := .set #[] 0 (.fresh 0 0 led) } := Heap.get?_push_size _ rfl
      have hT : Shared.TypeIs { s with heap := s.heap.push { cls := .type "set", dict := none, data := .set #[] 0 (.fresh 0 0 led) } } (.ref s.heap.objs.size) "set" := ⟨_, hS, rfl⟩
      have hli := PySem.F.called_set.init.lookup
      have hbi := PySem.F.called_set.init.bind (.ref s.heap.objs.size)
      repeat (any_goals (first | assumption | wp_step))
      refine codeAny_mono (codeAny_call_builtin (R := wants (fun r s₂ => r = .none ∧ ∃ h' tk, s₂ = { s with heap := h', toks := tk } ∧
          h'.SetOf (strKind prog w) s.heap.objs.size (fun k => (once xs).any (· == k)) (once xs).length ∧
          (∀ b o, b < s.heap.objs.size → s.heap.get? b = some o → h'.get? b = some o)) E) PySem.F.called_set.init.plain PySem.F.entry_set_init (check_set_init_1 hT ?_)) fun r₂ s₂ hr₂ => ?_
      · obtain ⟨ol, hol, hcl, nl, hdl⟩ := hl
        obtain ⟨ocls, odict, odata, oslots⟩ := ol
        simp only at hcl hdl
        subst hcl; subst hdl
        have hol' : (s.heap.push { cls := .type "set", dict := none, data := .set #[] 0 (.fresh 0 0 led) }).get? l = some { cls := .type "list", dict := odict, data := .seq items nl, slots := oslots } := Heap.get?_push_of_some _ hol
        have hsls := PySem.F.sub_list_set
        have hslf := PySem.F.sub_list_frozenset
        have hne : (Value.type "list" == Value.type "dict") = false := by decide
        have hl1 : (s.heap.push { cls := .type "set", dict := none, data := .set #[] 0 (.fresh 0 0 led) }).IsList l items := ⟨_, hol', rfl, nl, rfl⟩
        unfold Builtin.«set.__init__» noKeywords Builtin.Frozenset.updateFrom
        generalize hPI : pyIter = PI
        wp_walk
        subst hPI
        refine wpAny_pyIter_list hl1 ?_
        refine wpAny_bind (wpAny_runValue ?_)
        have hlS : l < s.heap.objs.size := Heap.lt_size hol
        have hh3 : A.in1.in1.in1.handled = none := by simp [hh]
        have hneI : l ≠ (s.heap.push { cls := .type "set", dict := none, data := .set #[] 0 (.fresh 0 0 led) }).objs.size := by
          rw [Heap.size_push]; exact Nat.ne_of_lt (Nat.lt_succ_of_lt hlS)
        have hSf : s.heap.objs.size ∉ [(s.heap.push { cls := .type "set", dict := none, data := .set #[] 0 (.fresh 0 0 led) }).objs.size, l] := by
          rw [Heap.size_push]; simp only [List.mem_cons, List.mem_singleton, List.not_mem_nil, or_false, not_or]
          exact ⟨Nat.ne_of_lt (Nat.lt_succ_self _), Nat.ne_of_gt hlS⟩
        have hval : ∀ (i : Nat) (v : Value), items[i]? = some v → ∃ t, v = .str (xs.getD i Str.empty) t := fun i v hv => SS.strs_at hi i v (by rw [Array.getElem?_toList]; exact hv)
        refine fill_texts ((Walks.list hh3 _ l hneI items).toS) s.heap.objs.size hSf xs hsz hn1 hval (items.size - 0) 0 _ (by omega) (Nat.zero_le _) ⟨⟨_, Heap.get?_push_size _ rfl, rfl, rfl⟩, (hl1.push _)⟩ ?hS0 ?hR
        case hS0 =>
          have hget : ((s.heap.push { cls := .type "set", dict := none, data := .set #[] 0 (.fresh 0 0 led) }).push { cls := .type "list_iterator", data := .fields #[.ref l, .int 0 0] }).get? s.heap.objs.size
              = some { cls := .type "set", dict := none, data := .set #[] 0 (.fresh 0 0 led) } := Heap.get?_push_of_some _ hS
          exact PyProof.Rows.SetOf_congr ((PyProof.Rows.setObjOf_fresh (knd := strKind prog w) led).setOf hget (by unfold scanBound; omega)) (fun _ => rfl) rfl
        case hR =>
          intro s' hm hS'
          rw [htk] at hS'
          obtain ⟨h', g', d', tk', os'⟩ := s'
          have eg : g' = s.gens := hm.gens
          have ed : d' = s.drawn := hm.drawn
          have eo : os' = s.os := hm.os
          subst eg; subst ed; subst eo
          show wpAny _ _ _ _ _ _
          refine wpAny_pure ?_
          show wpAny _ _ (ret Value.none) _ _ _
          refine wpAny_pure ⟨rfl, h', tk', rfl, hS', fun b o hb e => ?_⟩
          have hb1 : b ≠ s.heap.objs.size := Nat.ne_of_lt hb
          have hb2 : b ≠ (s.heap.push { cls := .type "set", dict := none, data := .set #[] 0 (.fresh 0 0 led) }).objs.size := by
            rw [Heap.size_push]; exact Nat.ne_of_lt (Nat.lt_succ_of_lt hb)
          exact hm.heap b o (by simp only [List.mem_cons, List.mem_singleton, List.not_mem_nil, or_false, not_or]; exact ⟨hb1, hb2⟩) (Heap.get?_push_of_some _ (Heap.get?_push_of_some _ e))
      · cases r₂ with
        | error e => exact hr₂
        | ok fl₂ =>
          cases fl₂ with
          | ret r =>
            obtain ⟨rfl, h', tk, rfl, hS', hk'⟩ := hr₂
            repeat (any_goals (first | assumption | wp_step))
            exact h _ _ hS' hk'
          | _ => exact hr₂.elim
    | _ => exact hr.elim
end
section
variable {X : Cx}
def tLenSetS (K : PySem.W.Frag) (ta : TE) : TE := fun σ H Q => ta σ H fun x H1 => ∃ (l : Addr) (xs : List Str), x = .ref l ∧ SqL K H1 l (xs.map V.str) ∧ xs.length ≤ 1000 ∧ Q (.int ((once xs).length : Nat)) H1
theorem pe_lenSetS {a : Expr} {ta : TE} {p p2 q pos : Pos} (hg : Gl X "len") (hm : X.mg "len" = none) (hg2 : Gl X "set") (hm2 : X.mg "set" = none) (ha : PE X a ta) (hc : X.calm = true := by rfl)
    (na : starEach [a] X.env = (false, eval a X.env) :: starEach [] X.env := by rfl) : PE X (.Call (.Name "len" p) [.Call (.Name "set" p2) [a] [] q] [] pos) (tLenSetS X.K ta) := by
  refine ⟨fun pins s σ H Q I h => ?_⟩
  refine Call_ (ld_blt I hg hm boot_len ?_)
  refine PyProof.Rows.callWith_builtin1 (PyProof.Rows.args_cons ?_ rfl) rfl rfl
  refine Call_ (ld_blt I hg2 hm2 boot_set ?_)
  refine PyProof.Rows.callWith_type1 (PyProof.Rows.args_cons (thn (ha.run pins s σ H _ I h) fun v s1 ⟨x, H1, I1, r1, q1⟩ => PyProof.Rows.args_nil ?_) na) na rfl
  obtain ⟨l, xs, rfl, hq, h1, q1⟩ := q1
  cases r1
  obtain ⟨its, r, pl, hz⟩ := I1.list hq
  have hlen : its.toArray.size = xs.length := by rw [List.size_toArray, ← r.length, List.length_map]
  have h2 := once_len _ xs rfl
  refine call_set_texts (I1.ok.hd hc) pl.isList (by simpa using r.strs) (by rw [hlen]; unfold scanBound; omega) fun h' tk hS hk => ?_
  refine PyProof.Rows.args_nil ?_
  obtain ⟨o, es, ep, t, ho, hex, hd, _, _, _, hf, hn⟩ := hS
  have I2 : Inv X pins σ H1 { s1 with heap := h', toks := tk } := I1.kept fun b o e => hk b o (Heap.lt_size e) e
  exact PySem.call_len_set ho hex hd hf (by rw [hn] <;> omega) ⟨.int (once xs).length, H1, I2.tok _, ⟨_, by rw [hn]⟩, q1⟩
end
end SG
/-! grammars: data, and how an instance bears it -/
namespace SG
open PySem PySem.Spec PyProof.Rows L2
/-! ### comprehensions of scalars -/
theorem lc_scal {K : PySem.W.Frag} {a D : Addr} {xs ys : List V} {j : Nat} {te : TE} {vs : List Nat} {σ : L2.St} {H : Hp} {Qd : Hp → Prop} (hx : SqL K H a xs) (hD : H D = none) (hl : ys.length = xs.length) (hz : xs.length ≤ 1000000) (hw : ∀ x, wipe ((wipe σ vs).set j (some x)) vs = wipe σ vs)
    (he : ∀ (i : Nat) (x y : V) (H' : Hp) (Q' : VK), xs[i]? = some x → ys[i]? = some y → Same H H' → (∀ H'', Same H' H'' → Q' y H'') → te ((wipe σ vs).set j (some x)) H' Q')
    (hd : ∀ H', Same H H' → H' D = some (.lst ys) → Qd H') :
    ∃ W : Nat → Nat → Hp → Prop, (∃ m, W 0 m (upd H D (.lst []))) ∧ ∀ i m H, W i m H →
      ((Itl K a).stop i H ∧ Qd H) ∨ ((Itl K a).go i H ∧ ∃ Nx : Hp → Prop, (∀ H', Nx H' → ∃ m', m' < m ∧ W (i + 1) m' H') ∧ ∀ x H', (Itl K a).yld i H x H' → gName j x (wipe σ vs) H' fun σ2 H2 => wipe σ2 vs = wipe σ vs ∧ tYes σ2 H2 fun b H3 =>
        if b = true then te σ2 H3 fun y H4 => ∃ acc, H4 D = some (.lst acc) ∧ acc.length < sizeLine ∧ Nx (upd H4 D (.lst (acc ++ [y]))) else Nx H3) := by
  refine lc_list (xs := xs) (fun i H' => Same H H' ∧ H' D = some (.lst (ys.take i))) ⟨same_new hD, upd_same⟩ (fun i H' _ p => p.1.seq hx) (fun i x H' hi p => ?_) (fun H' p => hd H' p.1 (by rw [p.2, List.take_of_length_le (by omega)]))
  have hlt := (List.getElem?_eq_some_iff.mp hi).1
  have hy : ys[i]? = some (ys[i]'(by omega)) := List.getElem?_eq_getElem (by omega)
  refine ⟨hw x, tyes (iteT ?_)⟩
  refine he i x _ H' _ hi hy p.1 fun H'' e => ⟨_, e _ _ p.2, sl1 (by rw [List.length_take]; omega), same_mut (p.1.trans e) hD, ?_⟩
  rw [upd_same, take_snoc hy]
/-- the same over a text's signs -/
theorem lc_scalS {D : Addr} {z : Str} {ys : List V} {j : Nat} {te : TE} {vs : List Nat} {σ : L2.St} {H : Hp} {Qd : Hp → Prop} (hD : H D = none) (hl : ys.length = z.length) (hz : z.length ≤ 1000000) (hw : ∀ x, wipe ((wipe σ vs).set j (some x)) vs = wipe σ vs)
    (he : ∀ (i : Nat) (c : Nat) (y : V) (H' : Hp) (Q' : VK), z.cps.toList[i]? = some c → ys[i]? = some y → Same H H' → (∀ H'', Same H' H'' → Q' y H'') → te ((wipe σ vs).set j (some (.str ⟨#[c]⟩))) H' Q')
    (hd : ∀ H', Same H H' → H' D = some (.lst ys) → Qd H') :
    ∃ W : Nat → Nat → Hp → Prop, (∃ m, W 0 m (upd H D (.lst []))) ∧ ∀ i m H, W i m H →
      ((Its z).stop i H ∧ Qd H) ∨ ((Its z).go i H ∧ ∃ Nx : Hp → Prop, (∀ H', Nx H' → ∃ m', m' < m ∧ W (i + 1) m' H') ∧ ∀ x H', (Its z).yld i H x H' → gName j x (wipe σ vs) H' fun σ2 H2 => wipe σ2 vs = wipe σ vs ∧ tYes σ2 H2 fun b H3 =>
        if b = true then te σ2 H3 fun y H4 => ∃ acc, H4 D = some (.lst acc) ∧ acc.length < sizeLine ∧ Nx (upd H4 D (.lst (acc ++ [y]))) else Nx H3) := by
  refine lc_it walk_str (fun i H' => Same H H' ∧ H' D = some (.lst (ys.take i))) ⟨same_new hD, upd_same⟩ (fun i H' _ p => trivial) (fun i x H' H2 hi p hy => ?_) (fun H' p => hd H' p.1 (by rw [p.2, List.take_of_length_le (by rw [hl]; exact Nat.le_refl _)]))
  obtain ⟨rfl, c, hc, rfl⟩ := hy
  have hlt : i < z.length := hi
  have hy : ys[i]? = some (ys[i]'(by omega)) := List.getElem?_eq_getElem (by omega)
  refine ⟨hw _, tyes (iteT ?_)⟩
  refine he i c _ H2 _ (by rw [Array.getElem?_toList]; exact hc) hy p.1 fun H'' e => ⟨_, e _ _ p.2, sl1 (by rw [List.length_take]; omega), same_mut (p.1.trans e) hD, ?_⟩
  rw [upd_same, take_snoc hy]
theorem map_get {α β : Type} {f : α → β} {xs : List α} {i : Nat} {x : α} {y : β} (h : xs[i]? = some x) (h' : (xs.map f)[i]? = some y) : y = f x := by
  rw [List.getElem?_map, h] at h'
  exact (Option.some.inj h').symm

theorem paired_app {α β : Type} {F : α → β → Prop} {y : α} {z : β} (h : F y z) : ∀ {xs : List α} {ys : List β}, Paired F xs ys → Paired F (xs ++ [y]) (ys ++ [z])
  | _, _, .nil => .cons h .nil
  | _, _, .cons h1 t => .cons h1 (paired_app h t)
theorem putK_le (kvs : List (Key × V)) (k : Key) (v : V) : (putK kvs k v).length ≤ kvs.length + 1 := by
  unfold putK
  split
  · rw [List.length_map]; omega
  · rw [List.length_append]; exact Nat.le_refl _

/-! ### names, letters -/
abbrev abcS : Str := "abcdefghijklmnopqrstuvwxyz"
theorem abcL : abcS.cps.toList = (List.range 26).map (97 + ·) := by decide +kernel
def isSmall (x : Str) : Bool := x.cps.toList.all fun c => decide (c ∈ abcS.cps.toList)
def isName (x : Str) : Bool := decide (1 ≤ x.length) && decide (x.length ≤ 8) && isSmall x && decide (x ≠ ("names" : Str))
def isLetter (x : Str) : Bool := decide (x.length = 1) && isSmall x
def areNames (xs : List Str) : Bool := decide (1 ≤ xs.length) && decide (xs.length ≤ 6) && decide (xs.Nodup) && xs.all isName
abbrev Rule := Str × Str × List Str
/-- the rules of a name, in their order -/
def rulesOf (rs : List Rule) (n : Str) : List (Str × List Str) := (rs.filter fun r => decide (r.1 = n)).map (·.2)
def letsBy (names : List Str) (rs : List Rule) (r : Rule) : Bool :=
  decide (r.1 ∈ names) && isLetter r.2.1 && decide (r.2.2.length ≤ 3) && r.2.2.all (fun x => decide (x ∈ names)) && decide ((rulesOf rs r.1).length < 4) && decide (r.2 ∉ rulesOf rs r.1)
/-- all rules are let by, one behind the other -/
def rulesOk (names : List Str) (rs : List Rule) : Prop := ∀ i r, rs[i]? = some r → letsBy names (rs.take i) r = true
theorem rulesOf_snoc (rs : List Rule) (r : Rule) (n : Str) : rulesOf (rs ++ [r]) n = if r.1 = n then rulesOf rs n ++ [r.2] else rulesOf rs n := by
  unfold rulesOf
  rw [List.filter_append, List.map_append]
  by_cases e : r.1 = n
  · rw [if_pos e]; simp [e]
  · rw [if_neg e]; simp [e]

/-! ### how an instance bears it -/
def RuleAt (H : Hp) (t : Addr) (p : Str × List Str) : Prop := ∃ w, H t = some (.tup [.str p.1, .ref w]) ∧ H w = some (.lst (p.2.map V.str))
def ListAt (H : Hp) (l : Addr) (ps : List (Str × List Str)) : Prop := ∃ ts : List Addr, H l = some (.lst (ts.map V.ref)) ∧ Paired (RuleAt H) ts ps
def zipK (names : List Str) (ls : List Addr) : List (Key × V) := List.zipWith (fun n l => ((Sum.inr n : Key), V.ref l)) names ls
def StoredAt (H : Hp) (st : Addr) (names : List Str) (ls : List Addr) (f : Str → List (Str × List Str)) : Prop := H st = some (.dK (zipK names ls)) ∧ Paired (fun n l => ListAt H l (f n)) names ls ∧ ls.Nodup
def gfs (kn st od : Addr) : List (Str × V) := putF "order" (.ref od) (putF "stored" (.ref st) (putF "known" (.ref kn) []))
structure GramAt (C : Addr) (H : Hp) (g : Addr) (names : List Str) (rs : List Rule) : Prop where
  ex : ∃ dx kn st od ls, H g = some (.ins C dx (gfs kn st od)) ∧ H kn = some (.lst (names.map V.str)) ∧ StoredAt H st names ls (rulesOf rs) ∧ H od = some (.lst ((rs.map (·.1)).map V.str))
theorem k_so : ¬ (("stored" : Str) = "order") := by decide +kernel
theorem k_ko : ¬ (("known" : Str) = "order") := by decide +kernel
theorem k_ks : ¬ (("known" : Str) = "stored") := by decide +kernel
theorem gfs_known (kn st od : Addr) : (gfs kn st od).lookup ("known" : Str) = some (.ref kn) := by
  unfold gfs
  rw [lookup_putF, if_neg k_ko, lookup_putF, if_neg k_ks, lookup_putF, if_pos rfl]
theorem gfs_stored (kn st od : Addr) : (gfs kn st od).lookup ("stored" : Str) = some (.ref st) := by
  unfold gfs
  rw [lookup_putF, if_neg k_so, lookup_putF, if_pos rfl]
theorem gfs_order (kn st od : Addr) : (gfs kn st od).lookup ("order" : Str) = some (.ref od) := by
  unfold gfs
  rw [lookup_putF, if_pos rfl]
theorem gfs_no (kn st od : Addr) {m : Str} (h1 : ¬ m = "known") (h2 : ¬ m = "stored") (h3 : ¬ m = "order") : (gfs kn st od).lookup m = none := by
  unfold gfs
  rw [lookup_putF, if_neg h3, lookup_putF, if_neg h2, lookup_putF, if_neg h1]
  rfl
theorem RuleAt.same {H H' : Hp} (e : Same H H') {t : Addr} {p : Str × List Str} (h : RuleAt H t p) : RuleAt H' t p := by
  obtain ⟨w, h1, h2⟩ := h
  exact ⟨w, e _ _ h1, e _ _ h2⟩
theorem ListAt.same {H H' : Hp} (e : Same H H') {l : Addr} {ps : List (Str × List Str)} (h : ListAt H l ps) : ListAt H' l ps := by
  obtain ⟨ts, h1, h2⟩ := h
  exact ⟨ts, e _ _ h1, Paired.mapP h2 fun _ _ => RuleAt.same e⟩
theorem StoredAt.same {H H' : Hp} (e : Same H H') {st : Addr} {names : List Str} {ls : List Addr} {f : Str → List (Str × List Str)} (h : StoredAt H st names ls f) : StoredAt H' st names ls f :=
  ⟨e _ _ h.1, Paired.mapP h.2.1 fun _ _ => ListAt.same e, h.2.2⟩
theorem GramAt.same {C : Addr} {H H' : Hp} (e : Same H H') {g : Addr} {names : List Str} {rs : List Rule} (h : GramAt C H g names rs) : GramAt C H' g names rs := by
  obtain ⟨dx, kn, st, od, ls, h1, h2, h3, h4⟩ := h.ex
  exact ⟨dx, kn, st, od, ls, e _ _ h1, e _ _ h2, h3.same e, e _ _ h4⟩
/-- looking a name up -/
theorem zipK_val : ∀ {names : List Str} {ls : List Addr}, names.length = ls.length → ∀ n : Str, (valV (zipK names ls) (Sum.inr n : Key) = none ∧ n ∉ names) ∨ ∃ (i : Nat) (l : Addr), names[i]? = some n ∧ ls[i]? = some l ∧ valV (zipK names ls) (Sum.inr n : Key) = some (.ref l) ∧ n ∈ names
  | [], [], _, n => .inl ⟨rfl, by simp⟩
  | x :: names, l :: ls, h, n => by
    unfold zipK
    rw [List.zipWith_cons_cons]
    by_cases e : x = n
    · exact .inr ⟨0, l, by rw [e]; rfl, rfl, valV_pos (by rw [e]), by rw [e]; exact List.mem_cons_self⟩
    · have ne : ¬ ((Sum.inr x : Key) = Sum.inr n) := fun z => e (Sum.inr.inj z)
      rw [valV_neg ne]
      rcases zipK_val (names := names) (ls := ls) (by simpa using h) n with ⟨h1, h2⟩ | ⟨i, l', h1, h2, h3, h4⟩
      · exact .inl ⟨h1, by rw [List.mem_cons, not_or]; exact ⟨fun q => e q.symm, h2⟩⟩
      · exact .inr ⟨i + 1, l', h1, h2, h3, List.mem_cons_of_mem _ h4⟩
theorem paired_ix {α β : Type} {F : α → β → Prop} : ∀ {xs : List α} {ys : List β}, Paired F xs ys → ∀ {i : Nat} {x : α} {y : β}, xs[i]? = some x → ys[i]? = some y → F x y
  | _, _, .nil, i, x, y, h, _ => by simp at h
  | _, _, .cons h t, 0, x, y, h1, h2 => by
    have e1 := Option.some.inj h1
    have e2 := Option.some.inj h2
    subst e1 e2
    exact h
  | _, _, .cons h t, i + 1, x, y, h1, h2 => paired_ix t h1 h2
theorem StoredAt.look {H : Hp} {st : Addr} {names : List Str} {ls : List Addr} {f : Str → List (Str × List Str)} (h : StoredAt H st names ls f) (n : Str) :
    (valV (zipK names ls) (Sum.inr n : Key) = none ∧ n ∉ names) ∨ ∃ (i : Nat) (l : Addr), names[i]? = some n ∧ ls[i]? = some l ∧ valV (zipK names ls) (Sum.inr n : Key) = some (.ref l) ∧ n ∈ names ∧ ListAt H l (f n) := by
  rcases zipK_val (paired_len h.2.1) n with h1 | ⟨i, l, h1, h2, h3, h4⟩
  · exact .inl h1
  · exact .inr ⟨i, l, h1, h2, h3, h4, paired_ix h.2.1 h1 h2⟩
/-- a list of rules as it is handed in -/
def TrioAt (H : Hp) (t : Addr) (r : Rule) : Prop := ∃ w, H t = some (.tup [.str r.1, .str r.2.1, .ref w]) ∧ H w = some (.lst (r.2.2.map V.str))
def TriosAt (H : Hp) (l : Addr) (rs : List Rule) : Prop := ∃ ts : List Addr, H l = some (.lst (ts.map V.ref)) ∧ Paired (TrioAt H) ts rs
theorem TrioAt.same {H H' : Hp} (e : Same H H') {t : Addr} {p : Rule} (h : TrioAt H t p) : TrioAt H' t p := by
  obtain ⟨w, h1, h2⟩ := h
  exact ⟨w, e _ _ h1, e _ _ h2⟩
theorem TriosAt.same {H H' : Hp} (e : Same H H') {l : Addr} {ps : List Rule} (h : TriosAt H l ps) : TriosAt H' l ps := by
  obtain ⟨ts, h1, h2⟩ := h
  exact ⟨ts, e _ _ h1, Paired.mapP h2 fun _ _ => TrioAt.same e⟩
abbrev eRow : (Str × List Str) → PyData := e2 PyData.str eSs
abbrev eTrio : Rule → PyData := e3 PyData.str PyData.str eSs
theorem enc_Row : Enc eRow := enc_2 enc_str enc_Ss
theorem enc_Trio : Enc eTrio := enc_3 enc_str enc_str enc_Ss
theorem dep_Row : Dep eRow 2 := dep_2 dep_str dep_Ss
theorem dep_Trio : Dep eTrio 2 := dep_3 dep_str dep_str dep_Ss
theorem dp_row {K : PySem.W.Frag} {H : Hp} {t : Addr} {p : Str × List Str} (h : RuleAt H t p) : Dp K H (.ref t) (eRow p) := by
  obtain ⟨w, h1, h2⟩ := h
  exact .tup (SqT.of h1) (.cons (.str _) (.cons (dp_Ss h2) .nil))
theorem dp_trio {K : PySem.W.Frag} {H : Hp} {t : Addr} {p : Rule} (h : TrioAt H t p) : Dp K H (.ref t) (eTrio p) := by
  obtain ⟨w, h1, h2⟩ := h
  exact .tup (SqT.of h1) (.cons (.str _) (.cons (.str _) (.cons (dp_Ss h2) .nil)))
theorem dpAll_paired {α : Type} {K : PySem.W.Frag} {H : Hp} {F : Addr → α → Prop} {e : α → PyData} (k : ∀ t p, F t p → Dp K H (.ref t) (e p)) : ∀ {ts : List Addr} {ps : List α}, Paired F ts ps → DpAll K H (ts.map V.ref) (ps.map e)
  | _, _, .nil => .nil
  | _, _, .cons h t => .cons (k _ _ h) (dpAll_paired k t)
theorem dp_rows {K : PySem.W.Frag} {H : Hp} {l : Addr} {ps : List (Str × List Str)} (h : ListAt H l ps) : Dp K H (.ref l) (eL eRow ps) := by
  obtain ⟨ts, h1, h2⟩ := h
  exact .lst (SqL.of h1) (dpAll_paired (e := eRow) (fun _ _ => dp_row) h2)
theorem dp_trios {K : PySem.W.Frag} {H : Hp} {l : Addr} {ps : List Rule} (h : TriosAt H l ps) : Dp K H (.ref l) (eL eTrio ps) := by
  obtain ⟨ts, h1, h2⟩ := h
  exact .lst (SqL.of h1) (dpAll_paired (e := eTrio) (fun _ _ => dp_trio) h2)
/-- a new list of new rows -/
def NewRows (H H' : Hp) (p : Addr) (ps : List (Str × List Str)) : Prop := H p = none ∧ Same H H' ∧ ∃ ts : List Addr, H' p = some (.lst (ts.map V.ref)) ∧ Paired (fun t (r : Str × List Str) => H t = none ∧ ∃ w, H w = none ∧ H' t = some (.tup [.str r.1, .ref w]) ∧ H' w = some (.lst (r.2.map V.str))) ts ps
theorem NewRows.at_ {H H' : Hp} {p : Addr} {ps : List (Str × List Str)} (h : NewRows H H' p ps) : ListAt H' p ps := by
  obtain ⟨_, _, ts, h1, h2⟩ := h
  exact ⟨ts, h1, Paired.mapP h2 fun _ _ ⟨_, w, _, h3, h4⟩ => ⟨w, h3, h4⟩⟩
/-- a new list of new trios -/
def NewTrios (H H' : Hp) (p : Addr) (rs : List Rule) : Prop := H p = none ∧ Same H H' ∧ ∃ ts : List Addr, H' p = some (.lst (ts.map V.ref)) ∧ Paired (fun t (r : Rule) => H t = none ∧ ∃ w, H w = none ∧ H' t = some (.tup [.str r.1, .str r.2.1, .ref w]) ∧ H' w = some (.lst (r.2.2.map V.str))) ts rs
theorem NewTrios.at_ {H H' : Hp} {p : Addr} {ps : List Rule} (h : NewTrios H H' p ps) : TriosAt H' p ps := by
  obtain ⟨_, _, ts, h1, h2⟩ := h
  exact ⟨ts, h1, Paired.mapP h2 fun _ _ ⟨_, w, _, h3, h4⟩ => ⟨w, h3, h4⟩⟩
end SG
/-! what the laws' own helpers speak of: digits, states, called names -/
namespace SG
open PySem PySem.Spec PyProof.Rows L2
/-- digits of the law's: from 0 to 1008 -/
def Digs (ns : List Int) : Prop := ∀ x ∈ ns, 0 ≤ x ∧ x < 1009
def sp_digits : Sp := fun vs H Q _ => ∃ c n : Int, vs = [.int c, .int n] ∧ 0 < n ∧ n ≤ 1000 ∧ ∀ p H' (ns : List Int), Same H H' → H p = none → H' p = some (.lst (ns.map V.int)) → (ns.length : Int) = n → Digs ns → Q (.ref p) H'
theorem Digs.snoc {ns : List Int} {x : Int} (h : Digs ns) (h0 : 0 ≤ x) (h1 : x < 1009) : Digs (ns ++ [x]) := fun y hy => by
  rcases List.mem_append.mp hy with hy | hy
  · exact h y hy
  · rw [List.mem_singleton.mp hy]; exact ⟨h0, h1⟩
/-! ### the law's state: its digits, its place -/
def StAt (H : Hp) (s d : Addr) : Prop := d ≠ s ∧ (∃ k : Int, H s = some (.lst [.ref d, .int k])) ∧ ∃ ns : List Int, H d = some (.lst (ns.map V.int)) ∧ ns ≠ [] ∧ ns.length ≤ 1000 ∧ Digs ns
/-- all but s is kept -/
def But (s : Addr) (H H' : Hp) : Prop := ∀ a o, a ≠ s → H a = some o → H' a = some o
theorem But.refl (s : Addr) (H : Hp) : But s H H := fun _ _ _ h => h
theorem But.trans {s : Addr} {H H1 H2 : Hp} (a : But s H H1) (b : But s H1 H2) : But s H H2 := fun x o n h => b x o n (a x o n h)
theorem But.same {s : Addr} {H H1 H2 : Hp} (a : But s H H1) (b : Same H1 H2) : But s H H2 := fun x o n h => b x o (a x o n h)
theorem but_of_same {s : Addr} {H H1 : Hp} (b : Same H H1) : But s H H1 := fun x o _ h => b x o h
/-- a cell that H does not know may change -/
theorem But.cell {s p : Addr} {H H1 : Hp} (a : But s H H1) (hp : H p = none) (o : HO) : But s H (upd H1 p o) := fun x u n h => by rw [upd_ne (ne_of_none h hp)]; exact a x u n h
theorem But.own {s : Addr} {H H1 : Hp} (a : But s H H1) (o : HO) : But s H (upd H1 s o) := fun x u n h => by rw [upd_ne n]; exact a x u n h
theorem StAt.s_some {H : Hp} {s d : Addr} (h : StAt H s d) : ∃ o, H s = some o := let ⟨_, ⟨_, h⟩, _⟩ := h; ⟨_, h⟩
theorem StAt.d_some {H : Hp} {s d : Addr} (h : StAt H s d) : ∃ o, H d = some o := let ⟨_, _, _, h, _⟩ := h; ⟨_, h⟩
theorem But.free {s d : Addr} {H H' : Hp} (a : But s H H') (h : StAt H' s d) {p : Addr} (hp : H' p = none) : H p = none := by
  cases e : H p with
  | none => rfl
  | some o =>
    by_cases n : p = s
    · obtain ⟨o', h⟩ := h.s_some
      rw [n, h] at hp
      cases hp
    · rw [a p o n e] at hp
      cases hp
theorem StAt.same {H H' : Hp} {s d : Addr} (h : StAt H s d) (e : Same H H') : StAt H' s d := by
  obtain ⟨n, ⟨k, h1⟩, ns, h2, r⟩ := h
  exact ⟨n, ⟨k, e _ _ h1⟩, ns, e _ _ h2, r⟩
theorem StAt.cell {H H0 : Hp} {s d p : Addr} (h : StAt H s d) {o : HO} (h0 : StAt H0 s d) (hp : H0 p = Option.none) : StAt (upd H p o) s d := by
  obtain ⟨n, ⟨k, h1⟩, ns, h2, r⟩ := h
  obtain ⟨os, g1⟩ := h0.s_some
  obtain ⟨od, g2⟩ := h0.d_some
  exact ⟨n, ⟨k, by rw [upd_ne (ne_of_none g1 hp)]; exact h1⟩, ns, by rw [upd_ne (ne_of_none g2 hp)]; exact h2, r⟩
def sp_next : Sp := fun vs H Q _ => ∃ s d : Addr, vs = [.ref s] ∧ StAt H s d ∧ ∀ (j : Int) H', 0 ≤ j → j < 1009 → But s H H' → StAt H' s d → Q (.int j) H'
/-- small letters -/
def Smalls (l : List Nat) : Prop := ∀ c ∈ l, 97 ≤ c ∧ c < 123
theorem abc : (("abcdefghijklmnopqrstuvwxyz" : Str)).cps.toList = (List.range 26).map (97 + ·) := by decide +kernel
theorem abc6 : (("abcdef" : Str)).cps.toList = (List.range 6).map (97 + ·) := by decide +kernel
/-- the i-th name: a word of at most seven letters and the i-th letter -/
def CalledAt (i : Nat) (x : Str) : Prop := ∃ l : List Nat, x = ⟨(l ++ [97 + i]).toArray⟩ ∧ l.length ≤ 7 ∧ Smalls l
def Called (n : Nat) (xs : List Str) : Prop := xs.length = n ∧ ∀ i x, xs[i]? = some x → CalledAt i x
def sp_called : Sp := fun vs H Q _ => ∃ (s d : Addr) (n : Nat), vs = [.ref s, .int n] ∧ n ≤ 6 ∧ StAt H s d ∧ ∀ p H' (xs : List Str), H p = none → But s H H' → StAt H' s d → H' p = some (.lst (xs.map V.str)) → Called n xs → Q (.ref p) H'
theorem letter_at {i : Int} (h0 : 0 ≤ i) (h1 : i < 26) : atI (("abcdefghijklmnopqrstuvwxyz" : Str)).cps.toList i = some (97 + i.toNat) := by
  rw [atI_eq h0 (by rw [abc]; simpa using h1), abc, List.getElem?_map, List.getElem?_range (by omega)]
  rfl
theorem letter6_at {i : Int} (h0 : 0 ≤ i) (h1 : i < 6) : atI (("abcdef" : Str)).cps.toList i = some (97 + i.toNat) := by
  rw [atI_eq h0 (by rw [abc6]; simpa using h1), abc6, List.getElem?_map, List.getElem?_range (by omega)]
  rfl
theorem StAt.ne_strs {H : Hp} {s d a : Addr} {ms : List Str} (h : StAt H s d) (e : H a = some (.lst (ms.map V.str))) : a ≠ s := fun q => by
  obtain ⟨_, ⟨k, h1⟩, _⟩ := h
  rw [q, h1] at e
  cases ms with
  | nil => cases e
  | cons x r => cases e
theorem StAt.ne_dk {H : Hp} {s d a : Addr} {kvs : List (Key × V)} (h : StAt H s d) (e : H a = some (.dK kvs)) : a ≠ s := fun q => by
  obtain ⟨_, ⟨k, h1⟩, _⟩ := h
  rw [q, h1] at e
  cases e
theorem But.under {s : Addr} {H H' H1 : Hp} (a : But s H H') (h : H1 s = none) (e : Same H1 H) : Same H1 H' := fun x o g => a x o (ne_of_none g h) (e x o g)

def sp_drawn : Sp := fun vs H Q _ => ∃ (s d a : Addr) (xs : List Str) (m : Nat), vs = [.ref s, .ref a, .int m] ∧ m ≤ 1000 ∧ xs.length ≤ 1000 ∧ StAt H s d ∧ H a = some (.lst (xs.map V.str)) ∧ ∀ p H' (row : List Str), H p = none → But s H H' → StAt H' s d → H' p = some (.lst (row.map V.str)) → row.length ≤ m → (∀ x ∈ row, x ∈ xs) → Q (.ref p) H'
/-! ### drawn grammars -/
/-- the rules of a drawn grammar -/
structure GoodR (names : List Str) (rs : List Rule) : Prop where
  nd : rs.Nodup
  ok : ∀ r ∈ rs, r.1 ∈ names ∧ isLetter r.2.1 = true ∧ r.2.2.length ≤ 3 ∧ ∀ x ∈ r.2.2, x ∈ names
  few : ∀ n, (rulesOf rs n).length ≤ 4
theorem rulesOf_perm {rs qs : List Rule} (h : rs.Perm qs) (n : Str) : (rulesOf rs n).Perm (rulesOf qs n) := (h.filter _).map _
theorem GoodR.perm {names ns : List Str} {rs qs : List Rule} (g : GoodR names rs) (hn : ∀ x, x ∈ names → x ∈ ns) (h : rs.Perm qs) : GoodR ns qs where
  nd := h.nodup_iff.mp g.nd
  ok := fun r hr => let ⟨a, b, c, d⟩ := g.ok r (h.mem_iff.mpr hr); ⟨hn _ a, b, c, fun x hx => hn _ (d x hx)⟩
  few := fun n => by rw [← (rulesOf_perm h n).length_eq]; exact g.few n
theorem mem_rulesOf {rs : List Rule} {n : Str} {p : Str × List Str} : p ∈ rulesOf rs n ↔ (n, p) ∈ rs := by
  unfold rulesOf
  rw [List.mem_map]
  constructor
  · rintro ⟨r, hr, rfl⟩
    rw [List.mem_filter, decide_eq_true_eq] at hr
    rw [← hr.2]
    exact hr.1
  · intro h
    exact ⟨(n, p), List.mem_filter.mpr ⟨h, decide_eq_true rfl⟩, rfl⟩
theorem rulesOf_take_lt : ∀ {rs : List Rule} {i : Nat} {r : Rule}, rs[i]? = some r → (rulesOf (rs.take i) r.1).length < (rulesOf rs r.1).length
  | [], i, r, h => by simp at h
  | x :: rs, 0, r, h => by
    have e : x = r := Option.some.inj h
    subst e
    unfold rulesOf
    simp
  | x :: rs, i + 1, r, h => by
    have ih := rulesOf_take_lt (rs := rs) (i := i) (r := r) (by simpa using h)
    rw [List.take_succ_cons]
    unfold rulesOf at *
    by_cases e : x.1 = r.1
    · simp only [List.filter_cons, e, decide_true, if_true, List.map_cons, List.length_cons]
      omega
    · simp only [List.filter_cons, e, decide_false, Bool.false_eq_true, if_false]
      exact ih
theorem not_mem_take_nd {α : Type} {xs : List α} {i : Nat} {x : α} (h : xs.Nodup) (e : xs[i]? = some x) : x ∉ xs.take i := fun m => by
  have hd := List.take_append_drop i xs
  have hx : x ∈ xs.drop i := by
    obtain ⟨hl, hx⟩ := List.getElem?_eq_some_iff.mp e
    rw [List.drop_eq_getElem_cons hl, hx]
    exact List.mem_cons_self
  rw [← hd, List.nodup_append] at h
  exact h.2.2 x m x hx rfl
theorem GoodR.rulesOk {names : List Str} {rs : List Rule} (g : GoodR names rs) : rulesOk names rs := fun i r h => by
  have hm := List.mem_of_getElem? h
  obtain ⟨a, b, c, d⟩ := g.ok r hm
  have h4 := rulesOf_take_lt h
  have h5 := g.few r.1
  have h6 : r.2 ∉ rulesOf (rs.take i) r.1 := fun z => not_mem_take_nd g.nd h (by rw [mem_rulesOf] at z; exact z)
  unfold letsBy
  simp only [Bool.and_eq_true, decide_eq_true_eq, List.all_eq_true]
  exact ⟨⟨⟨⟨⟨a, b⟩, c⟩, d⟩, by omega⟩, h6⟩
/-- names up to the k-th have four rules at most, the k-th has c, those behind have one -/
def FewR (names : List Str) (rs : List Rule) (k c : Nat) : Prop := ∀ (i : Nat) n, names[i]? = some n → (rulesOf rs n).length ≤ if i < k then 4 else if i = k then c else 1
theorem FewR.put {names : List Str} {rs : List Rule} {k c : Nat} {r : Rule} (h : FewR names rs k c) (nd : names.Nodup) (e : names[k]? = some r.1) : FewR names (rs ++ [r]) k (c + 1) := fun i n hi => by
  have := h i n hi
  rw [rulesOf_snoc]
  by_cases c1 : r.1 = n
  · have e2 : i = k := nd_ix nd hi (c1 ▸ e)
    subst e2
    rw [if_pos c1, List.length_append]
    simp only [Nat.lt_irrefl, if_false, if_true, List.length_cons, List.length_nil] at this ⊢
    omega
  · rw [if_neg c1]
    split <;> rename_i h1
    · rw [if_pos h1] at this; exact this
    · rw [if_neg h1] at this
      split <;> rename_i h2
      · rw [if_pos h2] at this; omega
      · rw [if_neg h2] at this; exact this
theorem FewR.up {names : List Str} {rs : List Rule} {k c : Nat} (h : FewR names rs k c) : FewR names rs k (c + 1) := fun i n hi => by
  have := h i n hi
  split <;> rename_i h1
  · rw [if_pos h1] at this; exact this
  · rw [if_neg h1] at this
    split <;> rename_i h2
    · rw [if_pos h2] at this; omega
    · rw [if_neg h2] at this; exact this
theorem FewR.next {names : List Str} {rs : List Rule} {k c : Nat} (h : FewR names rs k c) (hc : c ≤ 4) : FewR names rs (k + 1) 1 := fun i n hi => by
  have := h i n hi
  split <;> rename_i h1
  · split at this
    · exact this
    · split at this
      · omega
      · omega
  · have h2 : ¬ i < k := by omega
    have h3 : ¬ i = k := by omega
    rw [if_neg h2, if_neg h3] at this
    split <;> exact this
theorem GoodR.of {names : List Str} {rs : List Rule} {k : Nat} (nd : rs.Nodup) (ok : ∀ r ∈ rs, r.1 ∈ names ∧ isLetter r.2.1 = true ∧ r.2.2.length ≤ 3 ∧ ∀ x ∈ r.2.2, x ∈ names) (h : FewR names rs k 1) : GoodR names rs := ⟨nd, ok, fun n => by
  by_cases hn : n ∈ names
  · obtain ⟨i, hi⟩ := List.mem_iff_getElem?.mp hn
    have := h i n hi
    split at this
    · exact this
    · split at this <;> omega
  · have e : rulesOf rs n = [] := by
      rw [List.eq_nil_iff_forall_not_mem]
      intro p hp
      exact hn (ok _ (mem_rulesOf.mp hp)).1
    rw [e]
    exact Nat.zero_le _⟩
theorem FewR.first {names : List Str} {rs : List Rule} (nd : names.Nodup) (e : rs.map (·.1) = names) : FewR names rs 0 1 := fun i n hi => by
  have h1 : (rulesOf rs n).length ≤ 1 := by
    have h2 : (rulesOf rs n).length = ((rs.map (·.1)).filter fun x => decide (x = n)).length := by
      unfold rulesOf
      rw [List.length_map, List.filter_map, List.length_map]
      rfl
    rw [h2, e]
    have h3 := nd.filter fun x => decide (x = n)
    have h4 : ∀ x ∈ names.filter (fun x => decide (x = n)), x = n := fun x hx => by simpa using (List.mem_filter.mp hx).2
    match h5 : names.filter (fun x => decide (x = n)) with
    | [] => exact Nat.zero_le _
    | [x] => exact Nat.le_refl _
    | x :: y :: t =>
      rw [h5] at h3 h4
      have e1 := h4 x List.mem_cons_self
      have e2 := h4 y (List.mem_cons_of_mem _ List.mem_cons_self)
      exact absurd (e1.trans e2.symm) ((List.pairwise_cons.mp h3).1 y List.mem_cons_self)
  split
  · omega
  · split <;> exact h1
/-! called names are names -/
theorem small_list {l : List Nat} (h : Smalls l) : isSmall ⟨l.toArray⟩ = true := by
  unfold isSmall
  rw [List.all_eq_true]
  intro c hc
  have h2 := h c (by simpa using hc)
  rw [decide_eq_true_eq, abcL, List.mem_map]
  exact ⟨c - 97, by rw [List.mem_range]; omega, by omega⟩
theorem CalledAt.name {i : Nat} {x : Str} (hi : i < 6) (h : CalledAt i x) : isName x = true := by
  obtain ⟨l, rfl, hl, hs⟩ := h
  have h1 : (⟨(l ++ [97 + i]).toArray⟩ : Str).length = l.length + 1 := by
    show (l ++ [97 + i]).toArray.size = _
    simp
  have hs2 : Smalls (l ++ [97 + i]) := fun c hc => by
    rcases List.mem_append.mp hc with hc | hc
    · exact hs c hc
    · rw [List.mem_singleton.mp hc]; omega
  have hne : (⟨(l ++ [97 + i]).toArray⟩ : Str) ≠ ("names" : Str) := fun e => by
    have e2 : l ++ [97 + i] = ("names" : Str).cps.toList := by rw [← e]
    have e3 : ("names" : Str).cps.toList = [110, 97, 109, 101] ++ [115] := by decide +kernel
    rw [e3] at e2
    have e4 := (List.append_inj' e2 rfl).2
    simp at e4
    omega
  unfold isName
  simp only [Bool.and_eq_true, decide_eq_true_eq]
  exact ⟨⟨⟨by omega, by omega⟩, small_list hs2⟩, hne⟩
theorem CalledAt.inj {i j : Nat} {x : Str} (h : CalledAt i x) (h' : CalledAt j x) : i = j := by
  obtain ⟨l, rfl, _, _⟩ := h
  obtain ⟨m, e, _, _⟩ := h'
  have e2 : l ++ [97 + i] = m ++ [97 + j] := by
    have := congrArg (fun z : Str => z.cps.toList) e
    simpa using this
  have e4 := (List.append_inj' e2 rfl).2
  simp at e4
  omega
theorem Called.nd {n : Nat} {xs : List Str} (h : Called n xs) : xs.Nodup := by
  refine List.pairwise_iff_getElem.mpr fun i j hi hj hij e => ?_
  have h1 : xs[i]? = some xs[j] := by rw [← e]; exact List.getElem?_eq_getElem hi
  have := (h.2 i _ h1).inj (h.2 j _ (List.getElem?_eq_getElem hj))
  omega
theorem Called.names {n : Nat} {xs : List Str} (h : Called n xs) (h0 : 1 ≤ n) (h6 : n ≤ 6) : areNames xs = true := by
  have h1 := h.1
  unfold areNames
  simp only [Bool.and_eq_true, decide_eq_true_eq, List.all_eq_true]
  refine ⟨⟨⟨by omega, by omega⟩, h.nd⟩, fun x hx => ?_⟩
  obtain ⟨i, hi⟩ := List.mem_iff_getElem?.mp hx
  have := (List.getElem?_eq_some_iff.mp hi).1
  exact (h.2 i x hi).name (by omega)
theorem Called.mem_at {n : Nat} {xs : List Str} (h : Called n xs) (h6 : n ≤ 6) {x : Str} (hx : x ∈ xs) : ∃ i, i < 6 ∧ CalledAt i x := by
  obtain ⟨i, hi⟩ := List.mem_iff_getElem?.mp hx
  have := (List.getElem?_eq_some_iff.mp hi).1
  have := h.1
  exact ⟨i, by omega, h.2 i x hi⟩
theorem areNames_perm {xs ys : List Str} (h : xs.Perm ys) (e : areNames xs = true) : areNames ys = true := by
  unfold areNames at *
  simp only [Bool.and_eq_true, decide_eq_true_eq, List.all_eq_true] at *
  obtain ⟨⟨⟨a, b⟩, c⟩, d⟩ := e
  rw [← h.length_eq]
  exact ⟨⟨⟨a, b⟩, h.nodup_iff.mp c⟩, fun x hx => d x (h.mem_iff.mpr hx)⟩
theorem isName_len {x : Str} (h : isName x = true) : x.length ≤ 8 := by
  unfold isName at h
  simp only [Bool.and_eq_true, decide_eq_true_eq] at h
  exact h.1.1.2
theorem areNames_len {xs : List Str} (e : areNames xs = true) : ∀ x ∈ xs, x.length ≤ 8 := fun x hx => by
  unfold areNames at e
  simp only [Bool.and_eq_true, List.all_eq_true] at e
  exact isName_len (e.2 x hx)
theorem isLetter_len {x : Str} (e : isLetter x = true) : x.length = 1 := by
  unfold isLetter at e
  simp only [Bool.and_eq_true, decide_eq_true_eq] at e
  exact e.1
theorem letters_ok : ∀ z ∈ ([("a" : Str), "ab", "xyz", "ab"]), z.length ≤ 3 ∧ 0 < z.cps.toList.length ∧ ∀ c ∈ z.cps.toList, isLetter ⟨#[c]⟩ = true := by
  decide +kernel
theorem turned_perm {α : Type} (xs : List α) (i : Nat) : xs.Perm (xs.drop i ++ xs.take i) := by
  have h := List.perm_append_comm (l₁ := xs.take i) (l₂ := xs.drop i)
  rw [List.take_append_drop] at h
  exact h
/-- a list of texts is no list of cells -/
theorem strs_refs {xs : List Str} {ts : List Addr} (e : (HO.lst (xs.map V.str)) = .lst (ts.map V.ref)) : ts = [] := by
  cases ts with
  | nil => rfl
  | cons t r => cases xs with
    | nil => cases e
    | cons x q => cases e

/-! ### a grammar in the drawing -/
theorem StAt.ne_refs {H : Hp} {s d a : Addr} {ts : List Addr} (h : StAt H s d) (e : H a = some (.lst (ts.map V.ref))) : a ≠ s := fun q => by
  obtain ⟨_, ⟨k, h1⟩, _⟩ := h
  rw [q, h1] at e
  match ts with
  | [] => cases e
  | [x] => cases e
  | x :: y :: t => cases e
theorem StAt.ne_tup {H : Hp} {s d a : Addr} {vs : List V} (h : StAt H s d) (e : H a = some (.tup vs)) : a ≠ s := fun q => by
  obtain ⟨_, ⟨k, h1⟩, _⟩ := h
  rw [q, h1] at e
  cases e
/-- a trio in new cells -/
def TrioF (H H' : Hp) (t : Addr) (r : Rule) : Prop := H t = none ∧ ∃ w, H w = none ∧ H' t = some (.tup [.str r.1, .str r.2.1, .ref w]) ∧ H' w = some (.lst (r.2.2.map V.str))
structure BuiltSt (H H' : Hp) (s d nl ru : Addr) (names : List Str) (rs : List Rule) : Prop where
  sm : Same H H'
  st : StAt H' s d
  nm : H' nl = some (.lst (names.map V.str))
  tr : ∃ ts : List Addr, H' ru = some (.lst (ts.map V.ref)) ∧ Paired (TrioF H H') ts rs
variable {H H' H2 : Hp} {s d nl ru : Addr} {names : List Str} {rs : List Rule}
theorem BuiltSt.same (b : BuiltSt H H' s d nl ru names rs) (e : Same H' H2) : BuiltSt H H2 s d nl ru names rs := by
  obtain ⟨ts, h1, h2⟩ := b.tr
  exact ⟨b.sm.trans e, b.st.same e, e _ _ b.nm, ts, e _ _ h1, Paired.mapP h2 fun _ _ ⟨a, w, c, h3, h4⟩ => ⟨a, w, c, e _ _ h3, e _ _ h4⟩⟩
theorem BuiltSt.but (b : BuiltSt H H' s d nl ru names rs) (hs : H s = none) (e : But s H' H2) (st : StAt H2 s d) : BuiltSt H H2 s d nl ru names rs := by
  obtain ⟨ts, h1, h2⟩ := b.tr
  exact ⟨fun a o h => e a o (ne_of_none h hs) (b.sm a o h), st, e _ _ (b.st.ne_strs b.nm) b.nm, ts, e _ _ (b.st.ne_refs h1) h1, Paired.mapP h2 fun _ _ ⟨a, w, c, h3, h4⟩ => ⟨a, w, c, e _ _ (b.st.ne_tup h3) h3, e _ _ (b.st.ne_strs h4) h4⟩⟩
/-- a dict of the drawing's changes -/
theorem BuiltSt.dict (b : BuiltSt H H' s d nl ru names rs) {x : Addr} {kvs kvs2 : List (Key × V)} (hx : H' x = some (.dK kvs)) (h0 : H x = none) : BuiltSt H (upd H' x (.dK kvs2)) s d nl ru names rs := by
  obtain ⟨ts, h1, h2⟩ := b.tr
  obtain ⟨n, ⟨k, g1⟩, ns, g2, r⟩ := b.st
  have kp : ∀ (a : Addr) (o : HO), H' a = some o → (∀ q, o ≠ .dK q) → upd H' x (.dK kvs2) a = some o := fun a o h n => by
    rw [upd_ne (fun z => by rw [z, hx] at h; exact n _ (Option.some.inj h).symm)]; exact h
  exact ⟨same_mut b.sm h0, ⟨n, ⟨k, kp _ _ g1 fun q z => by cases z⟩, ns, kp _ _ g2 fun q z => (by cases z), r⟩, kp _ _ b.nm fun q z => (by cases z), ts, kp _ _ h1 fun q z => (by cases z), Paired.mapP h2 fun _ _ ⟨a, w, c, h3, h4⟩ => ⟨a, w, c, kp _ _ h3 fun q z => (by cases z), kp _ _ h4 fun q z => (by cases z)⟩⟩
/-- a rule is put behind -/
theorem BuiltSt.put (b : BuiltSt H H' s d nl ru names rs) (hru : H ru = none) (hn : names ≠ []) {ts : List Addr} (hts : H' ru = some (.lst (ts.map V.ref))) {t w : Addr} {r : Rule} (nw : w ≠ ru) (h : TrioF H H' t r) (hw : H' t = some (.tup [.str r.1, .str r.2.1, .ref w])) :
    BuiltSt H (upd H' ru (.lst (ts.map V.ref ++ [.ref t]))) s d nl ru names (rs ++ [r]) := by
  obtain ⟨ts', h1, h2⟩ := b.tr
  have ets : ts' = ts := by
    rw [h1] at hts
    exact List.map_inj_right (fun x y q => V.ref.inj q) |>.mp (HO.lst.inj (Option.some.inj hts))
  subst ets
  obtain ⟨n, ⟨k, g1⟩, ns, g2, ne, r2⟩ := b.st
  have nnl : nl ≠ ru := fun z => by
    have h3 := b.nm
    rw [z, h1] at h3
    cases names with
    | nil => exact hn rfl
    | cons x q => cases ts' with
      | nil => cases h3
      | cons t r => cases h3
  have nd : d ≠ ru := fun z => by
    rw [z, h1] at g2
    cases ns with
    | nil => exact ne rfl
    | cons x q => cases ts' with
      | nil => cases g2
      | cons t r => cases g2
  have tp : ∀ (a : Addr) (vs : List V), H' a = some (.tup vs) → upd H' ru (.lst (ts'.map V.ref ++ [.ref t])) a = some (.tup vs) := fun a vs h => by
    rw [upd_ne (fun z => by rw [z, h1] at h; cases h)]; exact h
  have h3 : Paired (TrioF H (upd H' ru (.lst (ts'.map V.ref ++ [.ref t])))) ts' rs := by
    by_cases ce : ts' = []
    · rw [ce] at h2
      rw [ce]
      cases h2
      exact .nil
    · refine Paired.mapP h2 fun t' r' ⟨a, w', c, h3, h4⟩ => ⟨a, w', c, tp _ _ h3, ?_⟩
      rw [upd_ne]
      · exact h4
      · intro z
        rw [z, h1] at h4
        exact ce (strs_refs (Option.some.inj h4).symm)
  obtain ⟨a, w', c, h4, h5⟩ := h
  have ew : w' = w := by
    rw [hw] at h4
    have := HO.tup.inj (Option.some.inj h4)
    simp at this
    exact this.symm
  subst ew
  refine ⟨same_mut b.sm hru, ⟨n, ⟨k, by rw [upd_ne (fun z => by rw [← z] at h1; exact b.st.ne_refs h1 rfl)]; exact g1⟩, ns, by rw [upd_ne nd]; exact g2, ne, r2⟩, by rw [upd_ne nnl]; exact b.nm, ts' ++ [t], by rw [upd_same, List.map_append]; rfl, ?_⟩
  exact paired_app (F := TrioF H _) ⟨a, w', c, tp _ _ h4, by rw [upd_ne nw]; exact h5⟩ h3

def intOf (kvs : List (Key × V)) (n : Str) : Int := match valV kvs (Sum.inr n : Key) with
  | some (.int z) => z
  | _ => 0
theorem intOf_eq {kvs : List (Key × V)} {n : Str} (h : ∃ z : Int, valV kvs (Sum.inr n : Key) = some (.int z)) : valV kvs (Sum.inr n : Key) = some (.int (intOf kvs n)) := by
  obtain ⟨z, hz⟩ := h
  unfold intOf
  rw [hz]
theorem letter_ix {z : Str} (h : 0 < z.cps.toList.length) (j : Int) : ∃ c, atI z.cps.toList (j % (z.length : Int)) = some c ∧ c ∈ z.cps.toList := by
  have e : (z.length : Int) = (z.cps.toList.length : Int) := by show ((z.cps.size : Nat) : Int) = _; simp
  rw [e]
  exact atI_some (Int.emod_nonneg _ (by omega)) (Int.emod_lt_of_pos _ (by omega))
def sp_built : Sp := fun vs H Q _ => ∃ (c : Int) (n : Nat), vs = [.int c, .int n] ∧ 1 ≤ n ∧ n ≤ 6 ∧ ∀ p na ru H' (names : List Str) (rs : List Rule), Same H H' → H p = none → H na = none → H ru = none → na ≠ ru → H' p = some (.tup [.ref na, .ref ru]) → H' na = some (.lst (names.map V.str)) →
  (∃ ts : List Addr, H' ru = some (.lst (ts.map V.ref)) ∧ Paired (TrioF H H') ts rs) → areNames names = true → (∀ x ∈ names, ∃ i, i < 6 ∧ CalledAt i x) → GoodR names rs → rs ≠ [] → rs.length ≤ 24 → names.length = n → Q (.ref p) H'

theorem cut_ge (xs : List V) (n : Nat) : cutV xs (some (n : Int)) none = xs.drop n := by
  unfold cutV
  rw [HT.sIx_none, HT.sIx_nat]
  by_cases h : n ≤ xs.length
  · rw [Nat.min_eq_left h, List.take_of_length_le (by rw [List.length_drop]; exact Nat.le_refl _)]
  · rw [Nat.min_eq_right (by omega), Nat.sub_self, List.take_zero, List.drop_eq_nil_of_le (by omega)]
theorem paired_append {α β : Type} {F : α → β → Prop} : ∀ {xs : List α} {ys : List β} {xs2 : List α} {ys2 : List β}, Paired F xs ys → Paired F xs2 ys2 → Paired F (xs ++ xs2) (ys ++ ys2)
  | _, _, _, _, .nil, h => h
  | _, _, _, _, .cons a t, h => .cons a (paired_append t h)
theorem paired_take {α β : Type} {F : α → β → Prop} : ∀ {xs : List α} {ys : List β}, Paired F xs ys → ∀ i, Paired F (xs.take i) (ys.take i)
  | _, _, _, 0 => .nil
  | _, _, .nil, i + 1 => .nil
  | _, _, .cons a t, i + 1 => .cons a (paired_take t i)
theorem paired_drop {α β : Type} {F : α → β → Prop} : ∀ {xs : List α} {ys : List β}, Paired F xs ys → ∀ i, Paired F (xs.drop i) (ys.drop i)
  | _, _, h, 0 => h
  | _, _, .nil, i + 1 => .nil
  | _, _, .cons a t, i + 1 => paired_drop t i
theorem paired_turn {α β : Type} {F : α → β → Prop} {xs : List α} {ys : List β} (h : Paired F xs ys) (i : Nat) : Paired F (xs.drop i ++ xs.take i) (ys.drop i ++ ys.take i) := paired_append (paired_drop h i) (paired_take h i)

/-! ### rows that are spoilt -/
/-- tuples of m texts and a row in a new cell, of n texts at most -/
def RowsM (m : Nat) (H0 H' : Hp) (ts : List Addr) (n : Nat) : Prop := ∀ t ∈ ts, ∃ (ks : List Str) (w : Addr) (xs : List Str), ks.length = m ∧ H0 w = none ∧ H' t = some (.tup (ks.map V.str ++ [.ref w])) ∧ H' w = some (.lst (xs.map V.str)) ∧ xs.length ≤ n
theorem RowsM.mut {m : Nat} {H0 H' : Hp} {ts : List Addr} {n : Nat} (h : RowsM m H0 H' ts n) {w : Addr} {xs : List Str} (hw : H' w = some (.lst (xs.map V.str))) (hl : xs.length ≤ n) (y : Str) : RowsM m H0 (upd H' w (.lst (xs.map V.str ++ [.str y]))) ts (n + 1) := fun t ht => by
  obtain ⟨ks, w', zs, h1, h2, h3, h4, h5⟩ := h t ht
  have e3 : upd H' w (.lst (xs.map V.str ++ [.str y])) t = some (.tup (ks.map V.str ++ [.ref w'])) := by
    rw [upd_ne (ne_of h3 hw (by intro z; cases z))]; exact h3
  by_cases e : w' = w
  · subst e
    exact ⟨ks, w', xs ++ [y], h1, h2, e3, by rw [upd_same, List.map_append]; rfl, by rw [List.length_append]; exact Nat.succ_le_succ hl⟩
  · exact ⟨ks, w', zs, h1, h2, e3, by rw [upd_ne e]; exact h4, by omega⟩
theorem RowsM.same {m : Nat} {H0 H' H2 : Hp} {ts : List Addr} {n : Nat} (h : RowsM m H0 H' ts n) (e : Same H' H2) : RowsM m H0 H2 ts n := fun t ht => by
  obtain ⟨ks, w', zs, h1, h2, h3, h4, h5⟩ := h t ht
  exact ⟨ks, w', zs, h1, h2, e _ _ h3, e _ _ h4, h5⟩
/-- the list of the tuples stands while rows are spoilt -/
theorem refs_kept {H' : Hp} {p w : Addr} {ts : List Addr} {xs : List Str} {t : Addr} {o : HO} (hp : H' p = some (.lst (ts.map V.ref))) (ht : t ∈ ts) (hw : H' w = some (.lst (xs.map V.str))) : upd H' w o p = some (.lst (ts.map V.ref)) := by
  rw [upd_ne]
  · exact hp
  · intro z
    rw [z, hw] at hp
    have := strs_refs (Option.some.inj hp)
    rw [this] at ht
    cases ht
/-! two lists beside one another -/
variable {α β : Type} [DecidableEq α] [DecidableEq β] {ea : α → PyData} {eb : β → PyData}
def eLL (ea : α → PyData) (eb : β → PyData) (p : α × β) : PyData := .list [ea p.1, eb p.2]
theorem enc_LL (h : Enc ea) (h' : Enc eb) : Enc (eLL ea eb) := fun x y => by
  unfold eLL
  simp only [PyData.eqv, PyData.eqvAll, h x.1 y.1, h' x.2 y.2, Bool.and_true]
  by_cases h1 : x.1 = y.1 <;> by_cases h2 : x.2 = y.2 <;> simp [h1, h2, Prod.ext_iff]
theorem dep_LL {n m : Nat} (h : Dep ea n) (h' : Dep eb m) : Dep (eLL ea eb) (max n m + 1) := fun p => by
  unfold eLL
  simp only [PyData.depth, PyData.depthAll]
  have := h p.1
  have := h' p.2
  omega
theorem enc_self (h : Enc ea) (x : α) : PyData.eqv (ea x) (ea x) = true := by rw [h]; simp
theorem GramAt.ins {C : Addr} {H : Hp} {g : Addr} {names : List Str} {rs : List Rule} (G : GramAt C H g names rs) : ∃ dx kn st od, H g = some (.ins C dx (gfs kn st od)) := by
  obtain ⟨dx, kn, st, od, ls, h, _⟩ := G.ex
  exact ⟨dx, kn, st, od, h⟩
/-- what a name is followed by q is no name -/
theorem called_q {names : List Str} (h : ∀ x ∈ names, ∃ i, i < 6 ∧ CalledAt i x) (x : Str) : x ++ ("q" : Str) ∉ names := fun hx => by
  obtain ⟨i, hi, l, e, _, _⟩ := h _ hx
  have e2 : x.cps.toList ++ [113] = l ++ [97 + i] := by
    have := congrArg (fun z : Str => z.cps.toList) e
    have e3 : (x ++ ("q" : Str)).cps.toList = x.cps.toList ++ ("q" : Str).cps.toList := by
      show (x.cps ++ ("q" : Str).cps).toList = _
      simp
    have e4 : ("q" : Str).cps.toList = [113] := by decide +kernel
    rw [← e4, ← e3]
    simpa using this
  have e4 := (List.append_inj' e2 rfl).2
  simp at e4
  omega
theorem called_nil {names : List Str} (h : ∀ x ∈ names, ∃ i, i < 6 ∧ CalledAt i x) : ("" : Str) ∉ names := fun hx => by
  obtain ⟨i, hi, l, e, _, _⟩ := h _ hx
  have e4 : ("" : Str).cps.toList = [] := by decide +kernel
  rw [e] at e4
  simp at e4
/-- tuples in cells that are not D -/
def RowD (H' : Hp) (D t : Addr) (r : Str × List Str) : Prop := t ≠ D ∧ ∃ w, w ≠ D ∧ H' t = some (.tup [.str r.1, .ref w]) ∧ H' w = some (.lst (r.2.map V.str))
theorem RowsM.of_rows {H0 H' : Hp} {ts : List Addr} {ps : List (Str × List Str)} (h : Paired (fun t (r : Str × List Str) => H0 t = none ∧ ∃ w, H0 w = none ∧ H' t = some (.tup [.str r.1, .ref w]) ∧ H' w = some (.lst (r.2.map V.str))) ts ps) {n : Nat} (hn : ∀ p ∈ ps, p.2.length ≤ n) : RowsM 1 H0 H' ts n := fun t ht => by
  obtain ⟨i, hi⟩ := List.mem_iff_getElem?.mp ht
  obtain ⟨r, hr, _, w, h1, h2, h3⟩ := paired_get h hi
  exact ⟨[r.1], w, r.2, rfl, h1, h2, h3, hn r (List.mem_of_getElem? hr)⟩
theorem RowsM.of_trios {H0 H' : Hp} {ts : List Addr} {rs : List Rule} (h : Paired (fun t (r : Rule) => H0 t = none ∧ ∃ w, H0 w = none ∧ H' t = some (.tup [.str r.1, .str r.2.1, .ref w]) ∧ H' w = some (.lst (r.2.2.map V.str))) ts rs) {n : Nat} (hn : ∀ r ∈ rs, r.2.2.length ≤ n) : RowsM 2 H0 H' ts n := fun t ht => by
  obtain ⟨i, hi⟩ := List.mem_iff_getElem?.mp ht
  obtain ⟨r, hr, _, w, h1, h2, h3⟩ := paired_get h hi
  exact ⟨[r.1, r.2.1], w, r.2.2, rfl, h1, h2, h3, hn r (List.mem_of_getElem? hr)⟩

/-- none where the first heap knows nothing and the second does -/
def mixH (H H' : Hp) : Hp := fun a => match H' a with
  | none => some (.lst [])
  | some _ => H a
theorem mixH_none {H H' : Hp} (w : Addr) : mixH H H' w = none ↔ H w = none ∧ ∃ o, H' w = some o := by
  unfold mixH
  cases e : H' w with
  | none => simp
  | some o => simp

theorem letters_ok3 : ∀ z ∈ ([("a" : Str), "ab", "xyz"]), z.length ≤ 3 ∧ 0 < z.cps.toList.length ∧ ∀ c ∈ z.cps.toList, isLetter ⟨#[c]⟩ = true := by
  decide +kernel
def sp_of_any : Sp := fun vs H Q _ => ∃ (c : Int) (n : Nat), vs = [.int c, .int n] ∧ 1 ≤ n ∧ n ≤ 6 ∧ ∀ p na ru H' (names : List Str) (rs : List Rule), Same H H' → H p = none → H na = none → H ru = none → na ≠ ru → H' p = some (.tup [.ref na, .ref ru]) → H' na = some (.lst (names.map V.str)) →
  (∃ ts : List Addr, H' ru = some (.lst (ts.map V.ref)) ∧ Paired (TrioF H H') ts rs) → areNames names = true → (∀ x ∈ names, ∃ i, i < 6 ∧ CalledAt i x) → GoodR names rs → rs.length ≤ 24 → names.length = n → Q (.ref p) H'
end SG
/-! exception classes over an own base: their __init__ calls the base's -/
namespace SG
open PySem PySem.Spec PyProof.Rows L2 ClX
section
variable {X : Cx} {e : Expr} {es : List Expr} {ta : TA} {p1 p2 pos : Pos} {B : Str} {G : Addr}
/-- B.__init__(self, ..), B an own class over ValueError without an own __init__ -/
theorem pe_goinit {pl : Sem Bool} (hg : Gl X B) (hm : X.mg B = some (.ref G)) (r : CRead X.K G (.type "type")) (vV : PySem.W.findCls X.K (.ref G) (.type "type") "__init__" = some (.val (.builtin "ValueError.__init__"))) (ha : PA X (e :: es) ta)
    (hdb : (B == ("__debug__" : Str)) = false := by decide)
    (hc : eval (.Call (.Attribute (.Name B p1) "__init__" p2) (e :: es) [] pos) X.env = (do
      let ov ← eval (.Name B p1) X.env
      standAt p2.atName
      let (f, first) ← holding [ov] (getMethod ov "__init__" pl)
      callWith pos f first (backTo pos (starEach (e :: es) X.env)) (backToKw pos (keywordEach [] X.env))) := by rfl)
    (he : starEach (e :: es) X.env = (false, eval e X.env) :: starEach es X.env := by rfl) (hpl : (backTo pos (starEach es X.env)).any (·.1) = false := by rfl) :
    PE X (.Call (.Attribute (.Name B p1) "__init__" p2) (e :: es) [] pos) (tVeI X.K ta) := by
  refine ⟨fun pins s σ H Q I h => ?_⟩
  refine PySem.W.methodCall_KW (ld_glob I hg hm ?_ hdb) hc
  have kin := I.kIn
  refine PySem.W.method_cls (s := { s with toks := _ }) kin r.ga (PySem.W.cls_value kin r.rd vV (by decide +kernel) ?_)
  show wpAny _ _ (callWith pos (Value.builtin "ValueError.__init__") [] (backTo pos (starEach (e :: es) X.env)) []) _ _ _
  refine PyProof.Rows.callWith_method1 (thn (ha.run pos pins _ σ H _ (I.tok _) h) fun us s1 ⟨vs, H1, I1, r1, a, C, ws, ev, hl, T, ea, q⟩ => ?_) he hpl
  subst ev
  cases r1 with
  | @cons _ u0 _ ur ra rw' =>
    obtain rfl : u0 = Value.ref a := ra
    have hlen : ur.length ≤ sizeLine := by
      rw [← Paired.length rw', sizeLine_eq]
      omega
    exact oinit_ok T I1 ea hlen fun s' J => ⟨.non, H1, J, rfl, q⟩
end
section
variable {X : Cx} {CX : CXT} {k : Nat} {f C : Addr} {fd : FuncData} {ps : List Str} {sp : Sp} {dvs : List V} {ds : List Value} {E : L2.St → XK} {x : Str} {p pos : Pos} {e : Expr} {es : List Expr} {t : TA}
/-- an instance is made by an __init__ that may raise -/
theorem run_makeS {pins : List (Addr × Obj)} {σ : L2.St} {H : Hp} {s : Shared} {Q : VK} {us : List Value} {vs : List V} (M : Mk X.K C f) (F : FnOk X.prog X.w X.K X.mg X.base CX k f fd ps sp) (hr : Room (k + 1) X.A) (hb : Binds X.K fd ps ds) (hd : Vals dvs ds)
    (hx : PassesAt CX X σ (E σ)) (I : Inv X pins σ H s) (r : Vals vs us)
    (h : ∀ x dx, H x = none → H dx = none → dx ≠ x → sp (.ref x :: (vs ++ dvs)) (upd (upd H dx (.own x)) x (.ins C dx [])) (fun v H2 => v = .non ∧ Q (.ref x) H2) (E σ)) :
    wpAny (model X.prog X.w) X.A (call (.ref C) us) (EP X pins σ Q) X.xe s := by
  have hq := h (s.heap.objs.size + 1) s.heap.objs.size (I.hok.fresh (Nat.le_succ _)) (I.hok.fresh (Nat.le_refl _)) (Nat.ne_of_lt (Nat.lt_succ_self _))
  have I2 := Inv.made (C := C) I
  have r2 : Vals (V.ref (s.heap.objs.size + 1) :: (vs ++ dvs)) (Value.ref (s.heap.objs.size + 1) :: (us ++ ds)) := .cons rfl (r.append hd)
  have hl : (Value.ref (s.heap.objs.size + 1) :: us ++ ds).length = ps.length := by
    have e := r2.length
    rw [F.len _ _ _ _ hq] at e
    exact e.symm
  refine wpAny_call (make_map (f := f) I.kIn M.makes M.init (beq_iff_eq.mp M.fn) (codeAny_mono (F.run _ X.stack _ _ ⟨Value.ref (s.heap.objs.size + 1) :: us, []⟩ (Value.ref (s.heap.objs.size + 1) :: (us ++ ds)) _ _ (E σ) (hr.make C us [])
    (I2.env0.make C us []) (hb _ (Value.ref (s.heap.objs.size + 1) :: us) I2.kIn hl) r2 hq) fun r s' hq' => ?_))
  cases r with
  | error e => exact hx pins _ _ e s' I2 hq'
  | ok fl =>
    cases fl with
    | ret u =>
      obtain ⟨v, H', I3, rv, ev, q3⟩ := I2.after hq'
      subst ev
      exact ⟨rv, ⟨V.ref (s.heap.objs.size + 1), H', I3, rfl, q3⟩⟩
    | next => exact False.elim hq'
    | brk => exact False.elim hq'
    | cont => exact False.elim hq'
def tMakeX (C : Addr) (sp : Sp) (E : L2.St → XK) (t : TA) : TE := fun σ H Q => t σ H fun vs H1 => ∀ x dx, H1 x = none → H1 dx = none → dx ≠ x → sp (.ref x :: (vs ++ [])) (upd (upd H1 dx (.own x)) x (.ins C dx [])) (fun v H2 => v = .non ∧ Q (.ref x) H2) (E σ)
theorem pe_makeX (M : Mk X.K C f) (F : FnOk X.prog X.w X.K X.mg X.base CX k f fd ps sp) (hr : Room (k + 1) X.A) (hg : Gl X x) (hm : X.mg x = some (.ref C)) (hb : Binds X.K fd ps []) (hx : ∀ σ, PassesAt CX X σ (E σ))
    (ha : PA X (e :: es) t) (hdb : (x == ("__debug__" : Str)) = false := by decide) (he : starEach (e :: es) X.env = (false, eval e X.env) :: starEach es X.env := by rfl) (hpl : (backTo pos (starEach es X.env)).any (·.1) = false := by rfl) :
    PE X (.Call (.Name x p) (e :: es) [] pos) (tMakeX C sp E t) := by
  refine ⟨fun pins s σ H Q I h => ?_⟩
  refine wpAny_Call_Name_kw (ld_glob I hg hm ?_ hdb)
  refine PySem.W.callWith_K (h₀ := X.base) I.ok.mod.kin M.kp (thn (ha.run pos pins s σ H _ I h) fun us s1 ⟨vs, H1, I1, r, q⟩ => ⟨I1.kIn, ?_⟩) he hpl
  exact run_makeS M F hr hb .nil (hx σ) I1 r q
end
/-- what is asked of a class of errors: its fields are read, isinstance asks it -/
structure ExcD (K : PySem.W.Frag) (C : Addr) : Prop where
  cl : (PySem.W.clsIn K C).isSome = true
  ga : PySem.W.findIn K (.ref C) "__getattribute__" = some (some (.builtin "BaseException.__getattribute__"))
  gg : PySem.W.findIn K (.ref C) "__getattr__" = some none
  sb : PySem.W.subIn K (.ref C) (.type "BaseException") = some true
  hd : PySem.W.hasDictIn K C = true
  ca : PySem.W.findIn K (.ref C) "__class__" = some (some (.builtin "object.__class__"))
  cg : PySem.W.specialIn K (.builtin "object.__class__") "__get__" = some (some (.builtin "getset_descriptor.__get__"))
  ct : PySem.W.takesIn K (.builtin "object.__class__") = some true
  cm : PySem.W.mroIn K C (.type "object") = some true
section
variable {X : Cx} {a : Addr} {oe : Obj} {cls : Value} {d : Option Addr} {pn : List (Addr × Obj)}
theorem exc_inst {C dd : Addr} {fs : List (Str × V)} {pins : List (Addr × Obj)} {σ : L2.St} {H : Hp} {s : Shared} (hz : Zc (.ref C) (some dd) oe) (hf : ∃ vs, oe.data = .fields vs) (I : Inv (X.suite a ((a, oe) :: pn)) pins σ H s) (hx : H dd = some (.xd fs)) :
    ∃ (od : Obj) (mA : Str → Option Value), PySem.W.InstAt s.heap a oe C (some od) ∧ (∀ y, PySem.W.lookIn y od = some (mA y)) ∧ ∀ g, RelO (fs.lookup g) (mA g) := by
  obtain ⟨ha, _⟩ := I.pin (a, oe) (List.mem_append_left _ List.mem_cons_self)
  obtain ⟨vs, hd⟩ := hf
  have hx : ObjOk X.prog X.w H s.heap dd (.xd fs) := I.hok dd _ hx
  obtain ⟨mA, hns, hr⟩ := hx
  obtain ⟨od, ho, hl⟩ := lookIn_ns hns
  exact ⟨od, mA, ⟨ha, hz.1, by unfold PySem.W.notCls; rw [hd] <;> rfl, by rw [hz.2]; exact ho⟩, hl, hr⟩
/-- e.f, e the error that the suite holds -/
def tExF (K : PySem.W.Frag) (f : Str) (a : Addr) (cls : Value) (d : Option Addr) (te : TE) : TE := fun σ H Q => te σ H fun x H1 => x = .ref a ∧ ∃ (C dd : Addr) (fs : List (Str × V)) (v : V), cls = .ref C ∧ d = some dd ∧ ExcD K C ∧ PySem.W.findIn K (.ref C) f = some none ∧ H1 dd = some (.xd fs) ∧ fs.lookup f = some v ∧ Q v H1
theorem pe_exf {f : Str} {e : Expr} {te : TE} {pos : Pos} (hz : Zc cls d oe) (hf : ∃ vs, oe.data = .fields vs) (he : PE (X.suite a ((a, oe) :: pn)) e te)
    (hb : attributeBase e f X.env (eval e X.env) = eval e X.env := by rfl) :
    PE (X.suite a ((a, oe) :: pn)) (.Attribute e f pos) (tExF X.K f a cls d te) := by
  refine ⟨fun pins s σ H Q I h => ?_⟩
  refine attr_of hb (thn (he.run pins s σ H _ I h) fun u s1 hh => ?_)
  obtain ⟨x, H1, I1, rx, ex, C, dd, fs, v, ec, ed, T, noN, ea, l, q⟩ := hh
  subst ex
  obtain rfl : u = Value.ref a := rx
  subst ec
  subst ed
  obtain ⟨od, mA, J, hl, hr⟩ := exc_inst hz hf I1 ea
  obtain ⟨u, hu, ru⟩ := RelO.some_of (v := v) (o := mA f) (by rw [← l]; exact hr f)
  exact HandSPX.exc_get I1.kIn J T.ga T.gg T.sb (PySem.W.findObj_own T.hd noN rfl (by rw [hl, hu])) (handed_of ru) ⟨v, H1, I1.tok _, ru, q⟩
/-- isinstance(e, c) -/
def rIsD (K : PySem.W.Frag) (a : Addr) (cls : Value) (d : Option Addr) : List V → Hp → VK → Prop := fun xs H Q => ∃ (C dd : Addr) (fs : List (Str × V)) (c : V) (u : Value) (b : Bool), cls = .ref C ∧ d = some dd ∧ ExcD K C ∧ H dd = some (.xd fs) ∧ xs = [.ref a, c] ∧ ClsV c u ∧ PySem.W.kitOne K (.ref C) u = some b ∧ Q (.bl b) H
theorem call_isD (hz : Zc cls d oe) (hf : ∃ vs, oe.data = .fields vs) : CallR (X.suite a ((a, oe) :: pn)) (.builtin "isinstance") (rIsD X.K a cls d) := by
  intro pins s σ H xs us Q I r h
  obtain ⟨C, dd, fs, c, u0, b, rfl, rfl, T, ea, rfl, hcv, e, q⟩ := h
  obtain ⟨u1, u2, rfl, r1, r2⟩ := vals2 r
  cases (show u1 = Value.ref a from r1)
  have e2 := hcv.eq r2
  subst e2
  obtain ⟨od, mA, J, _, _⟩ := exc_inst hz hf I ea
  exact PySem.W.kia_one (PySem.W.kitx_exc T.cl T.ga T.gg T.sb T.ca T.cg T.ct T.cm) I.kIn J e (fun z => nomatch z) fun tk => ⟨.bl b, H, I.tok tk, rfl, q⟩
/-- isinstance(e, (c, ..)) -/
def rIsDT (K : PySem.W.Frag) (a : Addr) (cls : Value) (d : Option Addr) : List V → Hp → VK → Prop := fun xs H Q => ∃ (C dd tp : Addr) (fs : List (Str × V)) (cs : List V) (us : List Value) (b : Bool), cls = .ref C ∧ d = some dd ∧ ExcD K C ∧ H dd = some (.xd fs) ∧ xs = [.ref a, .ref tp] ∧ H tp = some (.tup cs) ∧ Paired ClsV cs us ∧ PySem.W.kitAny K (.ref C) us = some b ∧ Q (.bl b) H
theorem call_isDT (hz : Zc cls d oe) (hf : ∃ vs, oe.data = .fields vs) : CallR (X.suite a ((a, oe) :: pn)) (.builtin "isinstance") (rIsDT X.K a cls d) := by
  intro pins s σ H xs us Q I r h
  obtain ⟨C, dd, tp, fs, cs, ws, b, rfl, rfl, T, ea, rfl, hT, k, e, q⟩ := h
  obtain ⟨u1, u2, rfl, r1, r2⟩ := vals2 r
  cases (show u1 = Value.ref a from r1)
  cases (show u2 = Value.ref tp from r2)
  obtain ⟨od, mA, J, _, _⟩ := exc_inst hz hf I ea
  obtain ⟨_, its, rv, o, h1, h2, n, h3⟩ := (show ObjOk X.prog X.w H s.heap tp (.tup cs) from I.hok tp _ hT)
  have e3 := ClsV.all k rv
  subst e3
  obtain ⟨oc, od2, dt, sl⟩ := o
  simp only at h2 h3
  subst h2 h3
  exact PySem.W.kia_tup (PySem.W.kitx_exc T.cl T.ga T.gg T.sb T.ca T.cg T.ct T.cm) I.kIn J h1 e (fun z => nomatch z) fun tk => ⟨.bl b, H, I.tok tk, rfl, q⟩
end
/-- l.count(x), x plain data, l a list of such -/
def rCntP (K : PySem.W.Frag) : V → List V → Hp → VK → Prop := fun x xs H Q => ∃ (y : V) (ds : List PyData) (d : PyData), xs = [y] ∧ Dp K H x (.list ds) ∧ Dp K H y d ∧ d.depth ≤ 60 ∧ Q (.int ((ds.countP fun z => PyData.eqv z d : Nat) : Int)) H
theorem mt_countP {X : Cx} (hu : X.A.units + 64 < cLine) : MtR X "list.count" (rCntP X.K) := by
  intro pins s σ H x xs v us Q I rx rxs h
  obtain ⟨y, ds, d, rfl, hl, hd, sd, q⟩ := h
  obtain ⟨u, rfl, ry⟩ := rxs.one
  obtain ⟨as, r1⟩ := Dp.reads I (.list ds) x v hl rx
  obtain ⟨bs, r2⟩ := Dp.reads I d y u hd ry
  have hp := dp_plain _ _ hl
  rw [PyData.plain] at hp
  cases r1 with
  | list h1 h2 h3 h4 =>
    exact PySem.SeqAt.count_list_data ⟨_, h1, h2, _, h3⟩ h4 r2 hp (dp_plain _ _ hd) (by omega) ⟨.int _, H, I.tok _, ⟨_, rfl⟩, q⟩
/-! isinstance of an own class, from what the written part says -/
theorem cls_of_dict {K : PySem.W.Frag} {C : Addr} (hd : PySem.W.hasDictIn K C = true) : (PySem.W.clsIn K C).isSome = true := by
  obtain ⟨cd, hc, _⟩ := PySem.W.any_some hd
  rw [hc]
  rfl
theorem kit_ref {K : PySem.W.Frag} {D C : Addr} {b : Bool} (hd : PySem.W.hasDictIn K C = true) (ht : PySem.W.typeIn K (.ref C) = some (.type "type")) (h1 : PySem.W.subIn K (.ref D) (.ref D) = some true) (h2 : PySem.W.subIn K (.ref D) (.ref C) = some b) : PySem.W.kitOne K (.ref D) (.ref C) = some b := by
  unfold PySem.W.kitOne
  by_cases e : D = C
  · subst e
    rw [h1] at h2
    rw [if_pos (by simp)]
    exact h2
  · have hn : ¬ ((Value.ref D == Value.ref C) = true) := fun z => e (Value.ref.inj (beq_iff_eq.mp z))
    rw [if_neg hn]
    show (if ((PySem.W.clsIn K C).isSome && PySem.W.typeIn K (.ref C) == some (.type "type")) = true then PySem.W.subIn K (.ref D) (.ref C) else none) = some b
    have e2 : ((PySem.W.clsIn K C).isSome && PySem.W.typeIn K (.ref C) == some (.type "type")) = true := by rw [cls_of_dict hd, ht] <;> rfl
    rw [if_pos e2]
    exact h2
theorem kit_VE {K : PySem.W.Frag} {D : Addr} {b : Bool} (h2 : PySem.W.subIn K (.ref D) (.type "ValueError") = some b) : PySem.W.kitOne K (.ref D) (.type "ValueError") = some b := by
  unfold PySem.W.kitOne
  have hn : ¬ ((Value.ref D == Value.type "ValueError") = true) := fun z => by
    have := beq_iff_eq.mp z
    cases this
  rw [if_neg hn]
  have e2 : PySem.W.kitMeta "ValueError" = true := by kernel_rfl
  show (if PySem.W.kitMeta "ValueError" = true then PySem.W.subIn K (.ref D) (.type "ValueError") else none) = some b
  rw [if_pos e2]
  exact h2
theorem rVE0 : PySem.HandSPX.refsVE [.type "ValueError", .type "Exception", .type "BaseException", .type "object"] = true := by decide +kernel
theorem rVE {E : Addr} : PySem.HandSPX.refsVE [.ref E, .type "ValueError", .type "Exception", .type "BaseException", .type "object"] = true := rVE0
end SG
/-! several except clauses, each with a name: try: .. except A as n: .. except B as n: .. -/
namespace L2
open PySem PySem.Spec PyProof.Rows
/-- the ends behind a clause: the name (slot i) is gone -/
def goneAt (i : Nat) (D : Ends) : Ends := { nx := fun σ H => D.nx (σ.set i none) H, rt := D.rt, bk := fun σ H => D.bk (σ.set i none) H, ct := fun σ H => D.ct (σ.set i none) H }
/-- what such clauses wish of an exception, the first that fits -/
def wAses (K : PySem.W.Frag) (i : Nat) (Wout : WX) (D : Ends) : List (Value × (Addr → Value → Option Addr → TS)) → WX
  | [] => Wout
  | (c, ts) :: r => fun cls d σ H => ∃ b, PySem.W.exmOne K cls c = some b ∧ (b = true → ∀ a, H a = none → ts a cls d (goneAt i D) (σ.set i (some (.ref a))) H) ∧ (b = false → wAses K i Wout D r cls d σ H)
inductive Ases (X : Cx) (n : Str) : List ExceptHandler → List (Value × (Addr → Value → Option Addr → TS)) → Prop
  | nil : Ases X n [] []
  | cons {x : Str} {c : Value} {ts : Addr → Value → Option Addr → TS} {b₀ : Stmt} {suite : List Stmt} {p q : Pos} {hds : List ExceptHandler} {l : List (Value × (Addr → Value → Option Addr → TS))} (hc : Names X x c)
      (run : ∀ (a : Addr) (oe : Obj) (cls : Value) (d : Option Addr) (pn : List (Addr × Obj)), Zc cls d oe → (∃ vs, oe.data = .fields vs) → PSs (X.suite a ((a, oe) :: pn)) (b₀ :: suite) (ts a cls d)) (r : Ases X n hds l) :
      Ases X n (.ExceptHandler (some (.Name x p)) (some n) (b₀ :: suite) q :: hds) ((c, ts) :: l)
section
variable {X : Cx} {n : Str} {i : Nat} {pins : List (Addr × Obj)} {D : Ends} {Wout : WX}
theorem ases_end {a : Addr} {oe : Obj} {q : Pos} {f : Flow} {s : Shared} (ok : X.Ok) (hN : X.N.Nodup) (hi : X.N[i]? = some n) (hln : X.env.kindOf n = some .local) (h : SP (X.suite a ((a, oe) :: (X.pn ++ pins))) [] (goneAt i D) f s) :
    wpAny (model X.prog X.w) X.A (do bindName X.env n .none; unbindBehindTheSuite X.env n q) (fun _ s' => SP X pins D f s') X.xe s := by
  cases f with
  | ret u =>
    obtain ⟨v, σ, H, I, r, k⟩ := h
    exact gone_ok (I.unsuite ok) hN hi hln fun s' J => ⟨v, _, H, J, r, k⟩
  | next =>
    obtain ⟨σ, H, I, k⟩ := h
    exact gone_ok (I.unsuite ok) hN hi hln fun s' J => ⟨_, H, J, k⟩
  | brk =>
    obtain ⟨σ, H, I, k⟩ := h
    exact gone_ok (I.unsuite ok) hN hi hln fun s' J => ⟨_, H, J, k⟩
  | cont =>
    obtain ⟨σ, H, I, k⟩ := h
    exact gone_ok (I.unsuite ok) hN hi hln fun s' J => ⟨_, H, J, k⟩
/-- behind a body that ends -/
theorem ases_none {pn' : List (Addr × Obj)} {xe : Value → Shared → Prop} {f : Flow} {s : Shared} (ok : X.Ok) (h : SP (X.tr (X.pn ++ pins) xe) pn' D f s) : SP X pins D f s := by
  cases f with
  | ret u =>
    obtain ⟨v, σ, H, I, r, k⟩ := h
    exact ⟨v, σ, H, I.ofTry ok, r, k⟩
  | next =>
    obtain ⟨σ, H, I, k⟩ := h
    exact ⟨σ, H, I.ofTry ok, k⟩
  | brk =>
    obtain ⟨σ, H, I, k⟩ := h
    exact ⟨σ, H, I.ofTry ok, k⟩
  | cont =>
    obtain ⟨σ, H, I, k⟩ := h
    exact ⟨σ, H, I.ofTry ok, k⟩
theorem ps_try_ases {body : List Stmt} {h₀ : ExceptHandler} {hds : List ExceptHandler} {l : List (Value × (Addr → Value → Option Addr → TS))} {pos : Pos} {tb : WX → TS} (hs : X.stack = X.env :: X.outer) (hf : X.env.frame = some X.env.locals) (hN : X.N.Nodup) (hi : X.N[i]? = some n) (hln : X.env.kindOf n = some .local) (tk : Takes X Wout)
    (hb : ∀ (W : WX) (pn : List (Addr × Obj)) (xe : Value → Shared → Prop), Takes (X.tr pn xe) W → PassesOwn (model X.prog X.w) X.A X.env xe → PSs (X.tr pn xe) body (tb W))
    (hh : Ases X n (h₀ :: hds) l) : PS X (.Try body (h₀ :: hds) [] [] pos) (fun D σ H => tb (wAses X.K i Wout D l) D σ H) := by
  refine ⟨fun pins s σ H D I h => ?_⟩
  have ok := I.ok
  refine wpAny_Try_except (wpAny_mono ((hb _ (X.pn ++ pins) (fun e s₁ => wpAny (model X.prog X.w) X.A (noteFrame e X.env) (fun _ s₂ => wpAny (model X.prog X.w) X.A (setFlight e none) (fun _ s₃ =>
    wpAny (model X.prog X.w) X.A (handleBy e X.env (h₀ :: hds)) (SP X pins D) X.xe s₃) X.xe s₂) X.xe s₁) (fun u t xx => ?_) PassesOwn.looking).run [] s σ H D (I.toTry _) h) (fun f t k => ?_) fun _ _ k => k)
  rotate_left
  · have k := ases_none ok k
    cases f with
    | next => exact wpAny_execs_nil k
    | _ => exact k
  obtain ⟨a, B, s₀, pn₀, τ, G, cls, d, rfl, I₀, nb, u1, sky, na, os, ag, wish⟩ := xx
  have J : Inv X pins τ G s₀ := I₀.ofTry ok
  have sky : Sky B (X.env :: X.outer) a (Zc cls d) X.env.locals t.heap := by rw [← hs]; exact sky
  refine Sky.land Zc.steady (by rw [ok.frames, hs]) hf sky fun g fl u2 => ?_
  have J2 : Inv X pins τ G { t with heap := g } := J.landed nb fl.1 (u1.trans u2) os ag
  have own : ∀ {h : Heap} {o : Obj} {vs : Array Value}, h.FunFrames B (X.env :: X.outer) → h.get? a = some o → o.data = .fields vs → a ∉ frs (X.env :: X.outer) := fun ff e dd hm => by
    obtain ⟨_, _, e', no⟩ := ff.mem hm
    cases e.symm.trans e'
    exact no _ dd
  obtain ⟨oe, ws, ho, hz, hw⟩ := fl.there
  have nfr := own fl.2.2.1 ho hw
  have nL : a ≠ X.env.locals := fun z => nfr (List.mem_filterMap.mpr ⟨X.env, List.mem_cons_self, by rw [hf, z]⟩)
  have nF : a ∉ X.fs := fun hm => nfr (by
    obtain ⟨e, he, k⟩ := List.mem_filterMap.mp hm
    exact List.mem_filterMap.mpr ⟨e, List.mem_cons_of_mem _ he, k⟩)
  have S := J2.suite ho hw na nL nF
  show wpAny _ X.A (handleBy (.ref a) X.env (h₀ :: hds)) _ _ _
  clear hb h
  generalize h₀ :: hds = cs at hh ⊢
  revert wish
  induction hh with
  | nil =>
    intro wish
    refine wpAny_handleBy_nil ?_
    obtain ⟨_, _, _, _, _, T, _, _, he, _, hd, h1, _⟩ := id fl
    unfold PySem.passOn
    refine wpAny_bind (wpAny_field he hd h1 ?_)
    rw [if_neg (show ¬ ((Value.ref T == Value.none) = true) from by simp)]
    refine wpAny_bind ?_
    rw [hf]
    refine HandSPX.setFlight_upZ fl fun h4 hh4 u3 => wpAny_throw (tk _ _ ?_)
    exact ⟨a, B, s₀, pins, τ, G, cls, d, rfl, J, nb, (u1.trans u2).trans u3, .inr (.inr (by rw [hs]; exact hh4)), na, os, ag, wish⟩
  | @cons x c ts b₀ suite p q hds' l' hc run r ih =>
    rintro ⟨b, fits, yes, no⟩
    refine wpAny_handleBy_cons (codeAny_handlers_test ?_) (by intro q; cases q)
    have look := PySem.W.exm_one (M := model X.prog X.w) J2.kIn (fun A Q E s k q => wpAny_typeOf_ref (k _ _ ho) (by rw [hz.1]; exact q)) fits
    have named : ∀ {Q : Value → Shared → Prop} {E : Value → Shared → Prop}, Q c { t with heap := g } → wpAny (model X.prog X.w) (X.A.mark (some (.ref a))) (eval (.Name x p) X.env) Q E { t with heap := g } := fun k => by
      rcases hc with ⟨hg, hdb, hm | ⟨hm, hv, hn⟩⟩
      · exact ld_glob (X := X.suite a ((a, oe) :: (X.pn ++ pins))) S hg hm k hdb
      · exact ld_blt (X := X.suite a ((a, oe) :: (X.pn ++ pins))) S hg hm hv k hn hdb
    refine named (look.here ?_)
    cases b with
    | false => exact ih (no rfl)
    | true =>
      refine codeAny_handlers_suite_as (HandSPX.lands_againZ fl fun h4 fl4 u4 => ?_)
      have J4 : Inv X pins τ G { t with heap := h4 } := J.landed nb fl4.1 ((u1.trans u2).trans u4) os ag
      obtain ⟨oe4, _, he4, hz4, hd4⟩ := fl4.there
      refine store_ok (X := X.suite a ((a, oe4) :: (X.pn ++ pins))) (v := .ref a) (J4.suite he4 hd4 na nL nF) hN hi (.inl hln) rfl (fun s5 S5 => ?_) (.inr hln)
      exact wpAny_mono ((run a oe4 cls d (X.pn ++ pins) hz4 ⟨_, hd4⟩).run [] s5 _ G _ S5 (yes rfl a na)) (fun f s6 k => ases_end ok hN hi hln k) fun _ _ z => z.elim
end
end L2
/-! sorted of data that reads from a type of Lean's; what is told once -/
namespace SG
open PySem PySem.Spec PyProof.Rows L2
section
variable {α : Type}
/-- all alike -/
def Alk (e : α → PyData) : Prop := ∀ a b, PySem.W.alike (e a) (e b) = true
theorem alk_str : Alk PyData.str := fun a b => by rw [PySem.W.alike]
theorem alk_int : Alk PyData.int := fun a b => by rw [PySem.W.alike]
theorem alkAll {e : α → PyData} (h : Alk e) : ∀ xs ys : List α, PySem.W.alikeAll (xs.map e) (ys.map e) = true
  | [], ys => by rw [List.map_nil, PySem.W.alikeAll]
  | x :: r, [] => by rw [List.map_nil, List.map_cons, PySem.W.alikeAll]
  | x :: r, y :: t => by rw [List.map_cons, List.map_cons, PySem.W.alikeAll, h x y, alkAll h r t]; rfl
theorem alk_L {e : α → PyData} (h : Alk e) : Alk (eL e) := fun xs ys => by
  unfold eL
  rw [PySem.W.alike]
  exact alkAll h xs ys
theorem alk_2 {β : Type} {ea : α → PyData} {eb : β → PyData} (h : Alk ea) (h' : Alk eb) : Alk (e2 ea eb) := fun x y => by
  unfold e2
  rw [PySem.W.alike, PySem.W.alikeAll, PySem.W.alikeAll, PySem.W.alikeAll, h, h']
  rfl
theorem alk_3 {β γ : Type} {ea : α → PyData} {eb : β → PyData} {ec : γ → PyData} (h : Alk ea) (h' : Alk eb) (h'' : Alk ec) : Alk (e3 ea eb ec) := fun x y => by
  unfold e3
  rw [PySem.W.alike, PySem.W.alikeAll, PySem.W.alikeAll, PySem.W.alikeAll, PySem.W.alikeAll, h, h', h'']
  rfl
/-- sorted, as the program sorts -/
def leE (e : α → PyData) : α → α → Bool := PySem.W.dataLe false e
def esort (e : α → PyData) (xs : List α) : List α := xs.mergeSort (leE e)
theorem esort_perm (e : α → PyData) (xs : List α) : (esort e xs).Perm xs := List.mergeSort_perm _ _
theorem leE_total (e : α → PyData) : PySem.W.TotalLe (leE e) := PySem.W.sortLe_total (PyProof.Rows.listOrd PyProof.Rows.itemOrd) false fun b : α => PySem.W.keyToks (e b)
theorem esort_pair (e : α → PyData) (xs : List α) : (esort e xs).Pairwise fun a b => leE e a b = true := PySem.W.sort_pairwise (leE_total e) xs
theorem leE_anti [DecidableEq α] {e : α → PyData} (he : Enc e) (ha : Alk e) {a b : α} (h : leE e a b = true) (h' : leE e b a = true) : a = b := by
  have h1 : PySem.W.dataLt (e b) (e a) = false := by
    have : (!PySem.W.dataLt (e b) (e a)) = true := h
    simpa using this
  have h2 : PySem.W.dataLt (e a) (e b) = false := by
    have : (!PySem.W.dataLt (e a) (e b)) = true := h'
    simpa using this
  have ht := PyProof.Rows.lex_total _ _ h2 h1
  have hq := PySem.W.toks_eqv (e a) (e b) (ha a b)
  have := he a b
  by_cases c : a = b
  · exact c
  · rw [decide_eq_false c] at this
    have k := hq.2 this
    have k1 := k [] [Sum.inl 1]
    have k2 := k [Sum.inl 1] []
    rw [ht, PySem.W.lex_pre] at k1 k2
    have k3 := PyProof.Rows.lex_irrefl (O := PyProof.Rows.itemOrd) (PySem.W.keyToks (e b))
    rw [k3] at k1
    exact absurd k1 (by decide)
theorem esort_eq [DecidableEq α] {e : α → PyData} (he : Enc e) (ha : Alk e) {xs ys : List α} (h : xs.Perm ys) : esort e xs = esort e ys :=
  ((esort_perm e xs).trans (h.trans (esort_perm e ys).symm)).eq_of_pairwise (fun _ _ _ _ => leE_anti he ha) (esort_pair e xs) (esort_pair e ys)
/-- what is sorted is its own sorting -/
theorem esort_of [DecidableEq α] {e : α → PyData} (he : Enc e) (ha : Alk e) {xs ys : List α} (h : xs.Perm ys) (hp : xs.Pairwise fun a b => leE e a b = true) : xs = esort e ys :=
  (h.trans (esort_perm e ys).symm).eq_of_pairwise (fun _ _ _ _ => leE_anti he ha) hp (esort_pair e ys)
/-! ### each once, of what is sorted -/
variable [DecidableEq α]
def uniq1 (l : List α) (x : α) : List α := if l.getLast? = some x then l else l ++ [x]
def uniq (xs : List α) : List α := xs.foldl uniq1 []
theorem uniq_snoc (xs : List α) (x : α) : uniq (xs ++ [x]) = uniq1 (uniq xs) x := by
  unfold uniq
  rw [List.foldl_append]
  rfl
theorem list_snoc_ind {P : List α → Prop} (h0 : P []) (hs : ∀ xs x, P xs → P (xs ++ [x])) (xs : List α) : P xs := by
  have : ∀ ys : List α, P ys.reverse := fun ys => by
    induction ys with
    | nil => exact h0
    | cons y t ih => rw [List.reverse_cons]; exact hs _ _ ih
  have h := this xs.reverse
  rwa [List.reverse_reverse] at h
theorem uniq_sub (xs : List α) : (uniq xs).Sublist xs := by
  refine list_snoc_ind (P := fun xs => (uniq xs).Sublist xs) (List.Sublist.refl _) (fun xs x ih => ?_) xs
  rw [uniq_snoc]
  unfold uniq1
  split
  · exact ih.trans (List.sublist_append_left _ _)
  · exact ih.append (List.Sublist.refl _)
theorem uniq_last (xs : List α) : (uniq xs).getLast? = xs.getLast? := by
  refine list_snoc_ind (P := fun xs => (uniq xs).getLast? = xs.getLast?) rfl (fun xs x ih => ?_) xs
  rw [uniq_snoc]
  unfold uniq1
  split
  · rename_i h
    rw [h, List.getLast?_append]
    rfl
  · rw [List.getLast?_append, List.getLast?_append]
    rfl
theorem uniq_mem (xs : List α) : ∀ y, y ∈ uniq xs ↔ y ∈ xs := by
  refine list_snoc_ind (P := fun xs => ∀ y, y ∈ uniq xs ↔ y ∈ xs) (fun y => Iff.rfl) (fun xs x ih => fun y => ?_) xs
  rw [uniq_snoc]
  unfold uniq1
  split
  · rename_i h
    rw [List.mem_append, ih y, List.mem_singleton]
    constructor
    · exact .inl
    · rintro (h1 | rfl)
      · exact h1
      · exact (ih y).mp (List.mem_of_getLast? h)
  · rw [List.mem_append, List.mem_append, ih y]
theorem uniq_nd {e : α → PyData} (he : Enc e) (ha : Alk e) (xs : List α) (h : xs.Pairwise fun a b => leE e a b = true) : (uniq xs).Nodup := by
  revert h
  refine list_snoc_ind (P := fun xs => (xs.Pairwise fun a b => leE e a b = true) → (uniq xs).Nodup) (fun _ => List.nodup_nil) (fun xs x ih => fun h => ?_) xs
  rw [List.pairwise_append] at h
  have h1 := ih h.1
  rw [uniq_snoc]
  unfold uniq1
  split
  · exact h1
  · rename_i hc
    rw [List.nodup_append]
    refine ⟨h1, by simp, fun a ha' b hb e' => hc ?_⟩
    rw [List.mem_singleton.mp hb] at e'
    subst e'
    rw [uniq_last]
    have hax := (uniq_mem xs a).mp ha'
    cases hl : xs.getLast? with
    | none => rw [List.getLast?_eq_none_iff] at hl; rw [hl] at hax; cases hax
    | some z =>
      have hz : leE e z a = true := h.2.2 z (List.mem_of_getLast? hl) a (List.mem_singleton.mpr rfl)
      have hz2 : leE e a z = true := by
        obtain ⟨ys, hy⟩ := List.getLast?_eq_some_iff.mp hl
        rw [hy] at hax
        rcases List.mem_append.mp hax with k | k
        · have := h.1
          rw [hy, List.pairwise_append] at this
          exact this.2.2 a k z (List.mem_singleton.mpr rfl)
        · rw [List.mem_singleton.mp k]
          exact (leE_total e).refl z
      rw [leE_anti he ha hz2 hz]
theorem perm_of_nd {xs ys : List α} (h : xs.Nodup) (h' : ys.Nodup) (m : ∀ x, x ∈ xs ↔ x ∈ ys) : xs.Perm ys := by
  rw [List.perm_iff_count]
  intro a
  rw [List.Nodup.count h, List.Nodup.count h']
  simp only [m a]
/-- sorted and each once: it is the sorting of any list that tells each once -/
theorem uniq_esort {e : α → PyData} (he : Enc e) (ha : Alk e) {xs ys : List α} (h : ys.Nodup) (m : ∀ x, x ∈ xs ↔ x ∈ ys) : uniq (esort e xs) = esort e ys :=
  esort_of he ha (perm_of_nd (uniq_nd he ha _ (esort_pair e xs)) h fun x => by rw [uniq_mem, (esort_perm e xs).mem_iff]; exact m x) ((esort_pair e xs).sublist (uniq_sub _))
end

/-! ### sorted(xs) of data read from a type of Lean's: cells and what they hold go together -/
def Srt {α : Type} (e : α → PyData) : Prop := (∀ b, ∃ x r, e b = .tuple (x :: r)) ∨ (∀ b, e b ≠ .none ∧ ∀ xs, e b ≠ .tuple xs)
theorem Srt.sortable {α : Type} {e : α → PyData} (h : Srt e) (ps : List α) : PySem.W.Sortable (ps.map e) := h.elim PySem.W.Sortable.tuples PySem.W.Sortable.others
theorem srt_str : Srt PyData.str := .inr fun b => ⟨(fun h => by cases h), (fun xs h => by cases h)⟩
theorem srt_2 {α β : Type} (ea : α → PyData) (eb : β → PyData) : Srt (e2 ea eb) := .inl fun b => ⟨_, _, rfl⟩
theorem srt_3 {α β γ : Type} (ea : α → PyData) (eb : β → PyData) (ec : γ → PyData) : Srt (e3 ea eb ec) := .inl fun b => ⟨_, _, rfl⟩
theorem srt_L {α : Type} (ea : α → PyData) : Srt (eL ea) := .inr fun b => ⟨(fun h => by cases h), (fun xs h => by cases h)⟩
def rSortedG (K : PySem.W.Frag) : List V → Hp → VK → Prop := fun vs H Q => ∃ (α : Type) (e : α → PyData) (a : Addr) (xs : List V) (ps : List α), vs = [V.ref a] ∧ SqL K H a xs ∧ DpAll K H xs (ps.map e) ∧ Alk e ∧ Srt e ∧ (∀ p ∈ ps, (e p).depth ≤ 8) ∧
  ∀ (zs : List (V × α)) (q : Addr), zs.Perm (xs.zip ps) → zs.map (·.2) = esort e ps → H q = none → Q (.ref q) (upd H q (.lst (zs.map (·.1))))
theorem each_of_valsE {h : Heap} {α : Type} : ∀ {xs : List V} {us : List Value} {ds : List α}, Vals xs us → xs.length = ds.length → PySem.W.EachIs (fun (u : Value) (b : V × α) => RelV b.1 u) us (xs.zip ds)
  | _, _, ds, .nil, hl => by cases ds with
    | nil => exact .nil
    | cons d t => simp at hl
  | _, _, ds, .cons r t, hl => by cases ds with
    | nil => simp at hl
    | cons d k => exact .cons r (each_of_valsE (h := h) t (by simpa using hl))
theorem each_readsE {α : Type} {e : α → PyData} {X : Cx} {pins : List (Addr × Obj)} {σ : L2.St} {H : Hp} {s : Shared} (I : Inv X pins σ H s) : ∀ {xs : List V} {us : List Value} {ps : List α}, Vals xs us → DpAll X.K H xs (ps.map e) → PySem.W.EachIs (fun v (b : V × α) => ∃ as, Reads s.heap v (e b.2) as) us (xs.zip ps)
  | _, _, [], .nil, _ => .nil
  | _, _, p :: ps, .cons r t, .cons d k => .cons (Dp.reads I _ _ _ d r) (each_readsE I t k)
theorem vals_of_eachE {α : Type} : ∀ {us : List Value} {bs : List (V × α)}, PySem.W.EachIs (fun (u : Value) (b : V × α) => RelV b.1 u) us bs → Vals (bs.map (·.1)) us
  | _, _, .nil => .nil
  | _, _, .cons r t => .cons r (vals_of_eachE t)
theorem cr_sortedG {X : Cx} (hu : X.A.units + 64 < cLine) : CallR X (.builtin "sorted") (rSortedG X.K) := by
  intro pins s σ H vs us Q I r h
  obtain ⟨α, e, a, xs, ps, rfl, hs, hd, hal, hso, hdep, q⟩ := h
  obtain ⟨its, rv, hl, hz⟩ := I.list hs
  rw [Vals.ref1 r]
  have hlen : xs.length = ps.length := by rw [dpAll_len hd, List.length_map]
  have hm : (xs.zip ps).map (fun b => e b.2) = ps.map e := by
    have h0 : (xs.zip ps).map Prod.snd = ps := List.map_snd_zip (by omega)
    have h1 : ((xs.zip ps).map Prod.snd).map e = ps.map e := by rw [h0]
    rw [List.map_map] at h1
    exact h1
  have hm1 : (xs.zip ps).map Prod.fst = xs := List.map_fst_zip (by omega)
  have hm2 : (xs.zip ps).map Prod.snd = ps := List.map_snd_zip (by omega)
  refine PySem.W.sorted_data (enc := fun b : V × α => e b.2) hl.isList (each_of_valsE (h := s.heap) rv hlen) (each_readsE I rv hd) (by rw [hm]; exact PySem.W.AllAlike.of hal) (by rw [hm]; exact hso.sortable ps)
    (by rw [List.length_zip]; omega) (fun b hb => ?_) fun out ho hE => ?_
  · have := hdep b.2 (by rw [← hm2]; exact List.mem_map_of_mem hb)
    omega
  · obtain ⟨ep, he'⟩ := PyProof.Rows.sortedAll_at s.heap its (List.toArray out)
    have hp := List.mergeSort_perm (xs.zip ps) (PySem.W.dataLe false fun b : V × α => e b.2)
    have e2 : ((xs.zip ps).mergeSort (PySem.W.dataLe false fun b : V × α => e b.2)).map (·.2) = esort e ps := by
      have := PySem.W.sort_maps (r := PySem.W.dataLe false (fun b : V × α => e b.2)) (s := leE e) (Prod.snd : V × α → α) (l := xs.zip ps) (fun a _ b _ => rfl)
      rw [hm2] at this
      exact this
    have hP : (((xs.zip ps).mergeSort (PySem.W.dataLe false fun b : V × α => e b.2)).map (·.1)).Perm xs := by
      have := hp.map (·.1)
      rw [hm1] at this
      exact this
    have hlenY : (((xs.zip ps).mergeSort (PySem.W.dataLe false fun b : V × α => e b.2)).map (·.1)).length ≤ sizeLine := by rw [hP.length_eq]; exact hz
    exact ⟨.ref _, upd H (s.heap.objs.size + 1) (.lst _), I.laid (t' := s.toks) (fun _ _ => PyProof.Rows.sortedAll_old) (Nat.le_succ _) ⟨hlenY, out, ep, vals_of_eachE hE, by simpa using he'⟩, rfl, q _ _ hp e2 (I.hok.fresh (Nat.le_succ _))⟩
/-- sorted of texts -/
theorem srt_strs_out {xs : List Str} {zs : List (V × Str)} (h : zs.Perm ((xs.map V.str).zip xs)) (h' : zs.map (·.2) = esort PyData.str xs) : zs.map (·.1) = (ssort xs).map V.str := by
  have h1 : ∀ z ∈ zs, z.1 = V.str z.2 := fun z hz => by
    have := h.mem_iff.mp hz
    obtain ⟨i, hi⟩ := List.mem_iff_getElem?.mp this
    rw [List.getElem?_zip_eq_some, List.getElem?_map] at hi
    obtain ⟨a, b⟩ := hi
    rw [b] at a
    exact (Option.some.inj a).symm
  have h2 : esort PyData.str xs = ssort xs := by
    have := dsort_strs xs
    unfold dsort at this
    unfold esort
    have h3 := PySem.W.sort_maps (r := leE PyData.str) (s := PySem.W.dataLe false id) PyData.str (l := xs) fun a _ b _ => rfl
    rw [← h3] at this
    exact (List.map_inj_right (fun x y q => PyData.str.inj q)).mp this
  rw [← h2, ← h', List.map_map]
  exact List.map_congr_left h1
/-- cells sorted by what they hold -/
theorem srt_refs_out {α : Type} {e : α → PyData} {F : Addr → α → Prop} {ts : List Addr} {ps : List α} {zs : List (V × α)} (hF : Paired F ts ps) (h : zs.Perm ((ts.map V.ref).zip ps)) (h' : zs.map (·.2) = esort e ps) : ∃ ts', zs.map (·.1) = ts'.map V.ref ∧ Paired F ts' (esort e ps) ∧ ∀ t ∈ ts', t ∈ ts := by
  have h1 : ∀ z ∈ zs, ∃ t, z.1 = V.ref t ∧ F t z.2 ∧ t ∈ ts := fun z hz => by
    have := h.mem_iff.mp hz
    obtain ⟨i, hi⟩ := List.mem_iff_getElem?.mp this
    rw [List.getElem?_zip_eq_some, List.getElem?_map] at hi
    obtain ⟨a, b⟩ := hi
    cases c : ts[i]? with
    | none => rw [c] at a; cases a
    | some t =>
      rw [c] at a
      exact ⟨t, (Option.some.inj a).symm, paired_ix hF c b, List.mem_of_getElem? c⟩
  rw [← h']
  clear h h'
  induction zs with
  | nil => exact ⟨[], rfl, .nil, fun t ht => by cases ht⟩
  | cons z r ih =>
    obtain ⟨t, h2, h3, h4⟩ := h1 z List.mem_cons_self
    obtain ⟨ts', g1, g2, g3⟩ := ih fun x hx => h1 x (List.mem_cons_of_mem _ hx)
    refine ⟨t :: ts', by rw [List.map_cons, List.map_cons, h2, g1], .cons h3 g2, fun x hx => ?_⟩
    rcases List.mem_cons.mp hx with rfl | hx
    · exact h4
    · exact g3 x hx
end SG
/-! sorted(xs, key=lambda x: ..) -/
namespace SG
open PySem PySem.Spec PyProof.Rows L2 LamX
section
variable {β : Type}
/-- the lambda's body: of a value that holds R, the key; all kept -/
def KeyB (prog : Program) (w : World) (scope : Scope) (body : Expr) (x : Str) (key : β → PyData) (R : Heap → Value → β → Prop) : Prop :=
  ∀ (cenv : Env) (A' : Around) (E' : Value → Shared → Prop) (v : Value) (b : β) (s : Shared) (m : Str → Option Value), cenv.scope = scope → R s.heap v b → s.heap.Ns cenv.locals m → m x = some v →
    wpAny (model prog w) A' (eval body cenv) (fun y s' => PySem.W.KeyPure (key b) s y s') E' s
def sKey (key : β → PyData) (xs : List V) (ps : List β) : List V := ((xs.zip ps).mergeSort (PySem.W.dataLe false fun p : V × β => key p.2)).map (·.1)
def tSortLam (K : PySem.W.Frag) (T : List (Addr × Str)) (key : β → PyData) (RV : Hp → V → β → Prop) (te : TE) : TE := fun σ H Q => te σ H fun v H1 => Tabs T H1 ∧ ∃ (a : Addr) (xs : List V) (ps : List β), v = .ref a ∧ SqL K H1 a xs ∧ xs.length = ps.length ∧ (∀ p ∈ xs.zip ps, RV H1 p.1 p.2) ∧
  PySem.W.AllAlike (ps.map key) ∧ PySem.W.Sortable (ps.map key) ∧ (∀ b ∈ ps, (key b).depth ≤ 8) ∧ ∀ H2 q, ExtN H1 H2 → Tabs T H2 → H2 q = none → Q (.ref q) (upd H2 q (.lst (sKey key xs ps)))
/-- a lambda's scope: one name of its own, nothing free -/
structure LamP (scope : Scope) (x : Str) : Prop where
  kind : scope.kind = .function
  co : scope.isCoroutine = false
  gen : scope.isGenerator = false
  cell : ∀ y ∈ scope.names, y.2 ≠ .cell
  free : ∀ y ∈ scope.names, y.2 ≠ .free
  loc : scope.names.lookup x = some .local
theorem each_zip {R : Heap → Value → β → Prop} {h : Heap} : ∀ {xs : List V} {its : List Value} {ps : List β}, Vals xs its → xs.length = ps.length → (∀ (x : V) (u : Value) (b : β), (x, b) ∈ xs.zip ps → RelV x u → R h u b) → PySem.W.EachIs (fun (u : Value) (p : V × β) => RelV p.1 u ∧ R h u p.2) its (xs.zip ps)
  | _, _, [], .nil, _, _ => .nil
  | _, _, [], .cons _ _, e, _ => by simp at e
  | _, _, _ :: _, .nil, e, _ => by simp at e
  | _, _, b :: ps, .cons r t, e, k => .cons ⟨r, k _ _ _ List.mem_cons_self r⟩ (each_zip t (by simpa using e) fun x u b hm => k x u b (List.mem_cons_of_mem _ hm))
theorem vals_each {R : Value → β → Prop} : ∀ {out : List Value} {bs : List (V × β)}, PySem.W.EachIs (fun (u : Value) (p : V × β) => RelV p.1 u ∧ R u p.2) out bs → Vals (bs.map (·.1)) out
  | _, _, .nil => .nil
  | _, _, .cons h t => .cons h.1 (vals_each t)
theorem extN_seq {K : PySem.W.Frag} {H H' : Hp} {a : Addr} {xs : List V} (e : ExtN H H') (h : SqL K H a xs) : SqL K H' a xs := by
  rcases h with (h | ⟨o, h⟩) | h
  · exact .inl (.inl (e _ _ h fun ps z => by cases z))
  · exact .inl (.inr ⟨o, e _ _ h fun ps z => by cases z⟩)
  · exact .inr h
variable {X : Cx}
theorem pe_sortLam {T : List (Addr × Str)} {c P : Addr} {x : Str} {e body : Expr} {te : TE} {params : Arguments} {scope : Scope} {p lpos kpos pos : Pos} {key : β → PyData} {R : Heap → Value → β → Prop} {RV : Hp → V → β → Prop}
    (hg : Gl X "sorted") (hm : X.mg "sorted" = none) (he : PE X e te) (TB : TabB X.base X.mg c P) (hcode : X.env.code = .ref c) (hmT : (P, X.env.qual ++ "<lambda>") ∈ T) (hu : ∀ p ∈ T, p.1 = P → p.2 = X.env.qual ++ "<lambda>") (hr : Room 3 X.A) (L : LamP scope x)
    (hdef : defaultsOf params X.env = ([], [])) (hbind : ∀ (q : Str) (cl : List (Str × Addr)) (pm cv ctv v : Value), bindArgs (PySem.W.kla_fn "<lambda>" q params body scope cl pm cv ctv) ⟨[v], []⟩ = pure [(x, v)])
    (KB : KeyB X.prog X.w scope body x key R) (hRm : ∀ {h h' : Heap} {v : Value} {b : β}, (∀ a o, h.get? a = some o → h'.get? a = some o) → R h v b → R h' v b)
    (hRV : ∀ {pins : List (Addr × Obj)} {s : Shared} {σ : L2.St} {H : Hp} {v : V} {u : Value} {b : β}, Inv X pins σ H s → RelV v u → RV H v b → R s.heap u b) (hRE : ∀ {H H' : Hp} {v : V} {b : β}, ExtN H H' → RV H v b → RV H' v b)
    (hs : starEach [e] X.env = (false, eval e X.env) :: starEach [] X.env := by rfl) :
    PE X (.Call (.Name "sorted" p) [e] [⟨some "key", .Lambda params body scope lpos, kpos⟩] pos) (tSortLam X.K T key RV te) := by
  refine ⟨fun pins s σ H Q I h => ?_⟩
  refine wpAny_Call_Name_kw (ld_blt I hg hm boot_sorted ?_ (by decide) (by decide))
  refine PyProof.Rows.callWith_kw ?_ (by rw [hs]; rfl) (by rw [hs]; rfl) (by rfl) (by rfl)
  rw [hs]
  show wpAny _ _ (spliced ((false, eval e X.env) :: backTo pos (starEach [] X.env))) _ _ s
  refine Calls.spliced_cons (thn (he.run pins s σ H _ I h) fun u s1 ⟨v, H1, I1, r1, hT, a, xs, ps, ev, hq, hlen, hRVs, hal, hso, hdep, q⟩ => ?_)
  refine Calls.spliced_nil ?_
  subst ev
  obtain rfl : u = Value.ref a := r1
  show wpAny _ _ (evalAll ((do let v ← eval (.Lambda params body scope lpos) X.env; standAt pos; pure v) :: [])) _ _ s1
  refine wpAny_evalAll_cons (wpAny_bind (lam_make2 I1 TB hcode hmT hu hT hdef (fun y hy e => absurd e (L.free y hy)) fun f c' pm ctv H2 s2 I2 eN T2 hf hfn hfr hco => wpAny_bind (wpAny_standAt (wpAny_pure ?_))))
  refine wpAny_evalAll_nil ?_
  show wpAny _ _ (call (.builtin "sorted") [.ref a] [(Str.ofString "key", .ref f)]) _ _ s2
  have hq2 := extN_seq eN hq
  obtain ⟨its, rv, hl, hz⟩ := I2.list hq2
  have hE := each_zip (R := R) (h := s2.heap) rv hlen fun y u b hm ru => hRV I2 ru (hRE eN (hRVs _ hm))
  have hmap : (xs.zip ps).map (fun p : V × β => key p.2) = ps.map key := by
    have h1 : (xs.zip ps).map Prod.snd = ps := List.map_snd_zip (by omega)
    show (xs.zip ps).map (key ∘ Prod.snd) = _
    rw [← List.map_map, h1]
  have hun := hr.un
  refine PySem.W.sorted_key_data (b := false) (fun p : V × β => key p.2) hl.isList hE (by rw [hmap]; exact hal) (by rw [hmap]; exact hso) (by rw [← hE.length, ← rv.length]; exact hz) (fun p hp => ?_) (ksk_s1 _ _) (fun _ => ksk_l1 _ _) (fun _ => ksk_t1 _ _) (fun v p hR hp h tk kp => ?_) fun out n h' tk kp fresh hD hlen' eo => ?_
  · have := hdep p.2 (List.of_mem_zip hp).2
    omega
  · have hdp := hr.dp
    have hCR : h.CodeRec (.ref c') (X.env.qual ++ "<lambda>") := by
      obtain ⟨⟨oc, vs, t, e1, e2, e3⟩, _⟩ := (show ObjOk X.prog X.w H2 s2.heap c' (CodeO c' (X.env.qual ++ "<lambda>")) from I2.hok c' _ hco)
      exact ⟨c', oc, vs, t, rfl, kp _ _ e1, e2, e3⟩
    refine wpAny_call (codeAny_mono (R := fun r s' => ∃ u, r = .ok (.ret u) ∧ PySem.W.KeyPure (key p.2) { s2 with heap := h, toks := tk } u s') ?_ fun r s' hq' => ?_)
    · refine PySem.W.kla_callFunE (show X.A.in1.in1.depth < recursionLimit from by show X.A.depth < recursionLimit; omega) (kp _ _ hf) rfl L.co L.gen rfl hCR ?_
      rw [hbind]
      refine wpAny_pure (wpAny_newFunctionEnv L.cell (fun y hy => by rw [List.mem_singleton.mp hy]; exact L.loc) (fun h₁ hns hsb => ⟨((I2.nolimit).keeps kp).fresh _ hsb, ?_⟩) L.kind)
      have hk1 : ∀ b o, h.get? b = some o → h₁.get? b = some o := fun b o e => hsb.extBut b o (Nat.ne_of_lt (Heap.lt_size e)) (Heap.get?_push_of_some _ e)
      refine PySem.W.kla_codeExpr (wpAny_mono (KB _ _ _ v p.2 _ _ rfl (hRm (fun a o e => hk1 a o (kp a o e)) hR.2) hns ?_) (fun u s' hk => ?_) fun _ _ z => z)
      · simp [List.lookup]
      · obtain ⟨h3, tk3, e3, k3, r3⟩ := hk
        exact ⟨u, rfl, h3, tk3, e3, fun b o e => k3 b o (hk1 b o e), r3⟩
    · obtain ⟨u, rfl, hk⟩ := hq'
      exact hk
  · have hout := vals_each (R := fun u b => R s2.heap u b) eo
    have hl2 : (sKey key xs ps).length ≤ sizeLine := by
      unfold sKey
      rw [List.length_map, (List.mergeSort_perm _ _).length_eq, ← hE.length, ← rv.length]
      exact hz
    exact ⟨.ref _, upd H2 (s2.heap.objs.size + 1) (.lst (sKey key xs ps)), I2.laid (t' := tk) kp (Nat.le_succ _) ⟨hl2, out, n, hout, hD⟩, rfl, q H2 _ eN T2 (I2.hok.fresh (Nat.le_succ _))⟩
end
end SG
namespace SG
open PySem PySem.Spec PyProof.Rows L2 LamX
section
variable {β : Type}
/-- a tuple whose first item is a text -/
def R0 (kx : β → Str) (h : Heap) (v : Value) (b : β) : Prop := ∃ (t : Addr) (items : Array Value) (tk : Tok), v = .ref t ∧ IsTup h t items ∧ items[0]? = some (.str (kx b) tk)
def RV0 (kx : β → Str) (H : Hp) (v : V) (b : β) : Prop := ∃ (t : Addr) (r : List V), v = .ref t ∧ H t = some (.tup (.str (kx b) :: r))
theorem keyB_at0 {prog : Program} {w : World} {scope : Scope} {x : Str} {kx : β → Str} {p1 p2 p3 : Pos} {j : Nat} (hk : scope.kind = .function) (hl : scope.names.lookup x = some .local) (hd : (x == ("__debug__" : Str)) = false) :
    KeyB prog w scope (.Subscript (.Name x p1) (.Constant (.int 0) j p2) p3) x (fun b => PyData.str (kx b)) (R0 kx) := by
  intro cenv A' E' v b s m hsc hR hn hm
  obtain ⟨t, items, tk, rfl, ht, h0⟩ := hR
  subst hsc
  refine Subscript_Constant (wpAny_Name (wpAny_loadName_local hk hl hn hm ?_) hd)
  refine wpAny_Constant_int ?_
  refine ⟨"tuple", _, slot_tuple_getitem.lookup, ht.typeIs, getItem_tuple (j := 0) ht (by decide) (by decide) ?_ h0 ?_⟩
  · have hp : 0 < items.size := (Array.getElem?_eq_some_iff.mp h0).1
    unfold seqIndex?
    simp [hp]
  · exact ⟨s.heap, _, rfl, fun _ _ e => e, .str _ _⟩
theorem r0_keeps {kx : β → Str} {h h' : Heap} {v : Value} {b : β} (k : ∀ a o, h.get? a = some o → h'.get? a = some o) (r : R0 kx h v b) : R0 kx h' v b := by
  obtain ⟨t, items, tk, e, ht, h0⟩ := r
  exact ⟨t, items, tk, e, ht.keeps k, h0⟩
theorem r0_of {X : Cx} {kx : β → Str} {pins : List (Addr × Obj)} {s : Shared} {σ : L2.St} {H : Hp} {v : V} {u : Value} {b : β} (I : Inv X pins σ H s) (r : RelV v u) (h : RV0 kx H v b) : R0 kx s.heap u b := by
  obtain ⟨t, rest, rfl, ht⟩ := h
  obtain rfl : u = Value.ref t := r
  obtain ⟨its, rv, pl, _⟩ := I.tuple (SqT.of (K := X.K) ht)
  cases rv with
  | cons r1 rs =>
    obtain ⟨tk, rfl⟩ := r1
    exact ⟨t, _, tk, rfl, pl, by simp⟩
theorem rv0_ext {kx : β → Str} {H H' : Hp} {v : V} {b : β} (e : ExtN H H') (h : RV0 kx H v b) : RV0 kx H' v b := by
  obtain ⟨t, rest, rfl, ht⟩ := h
  exact ⟨t, rest, rfl, e _ _ ht fun ps z => by cases z⟩
end
end SG
/-! steps, in plain words -/
namespace SG
open PySem PySem.Spec PyProof.Rows L2
abbrev Step := Str × List Str
theorem alk_Row : Alk eRow := alk_2 alk_str (alk_L alk_str)
theorem srt_Row : Srt eRow := srt_2 _ _
def each1 (ps : List Step) : List Step := uniq (esort eRow ps)
def rowPuts (rs : List Rule) : List Str → List Step
  | [] => []
  | n :: t => (rulesOf rs n).map fun p => (p.1, p.2 ++ t)
def rowSteps (rs : List Rule) (row : List Str) : List Step := each1 (rowPuts rs row)
/-- what bag[i] may do, the rest beside it -/
def bagAt (rs : List Rule) (bag : List Str) (i : Nat) : List Step := match bag[i]? with
  | none => []
  | some n => (rulesOf rs n).map fun p => (p.1, ssort (p.2 ++ (bag.take i ++ bag.drop (i + 1))))
def bagPuts (rs : List Rule) (bag : List Str) : List Step := (List.range bag.length).flatMap (bagAt rs bag)
def bagSteps (rs : List Rule) (bag : List Str) : List Step := each1 (bagPuts rs bag)
theorem each1_len (ps : List Step) : (each1 ps).length ≤ ps.length := by
  have h := (uniq_sub (esort eRow ps)).length_le
  rw [(esort_perm eRow ps).length_eq] at h
  exact h
theorem flat_range_snoc {α : Type} (f : Nat → List α) (n : Nat) : (List.range (n + 1)).flatMap f = (List.range n).flatMap f ++ f n := by
  rw [List.range_succ, List.flatMap_append]
  simp
theorem paired_zip {F : Addr → Step → Prop} : ∀ {ts : List Addr} {ps : List Step}, Paired F ts ps → Paired (fun t p => (t, p) ∈ ts.zip ps) ts ps
  | _, _, .nil => .nil
  | t :: ts, p :: ps, .cons _ k => .cons List.mem_cons_self (Paired.mapP (paired_zip k) fun _ _ h => List.mem_cons_of_mem _ h)
theorem paired_of_zip {F : Addr → Step → Prop} : ∀ {ts : List Addr} {ps : List Step}, Paired F ts ps → ∀ {t p}, (t, p) ∈ ts.zip ps → F t p
  | _, _, .nil, _, _, h => by cases h
  | a :: ts, b :: ps, .cons h1 k, t, p, h => by
    rw [List.zip_cons_cons] at h
    rcases List.mem_cons.mp h with h | h
    · cases h; exact h1
    · exact paired_of_zip k h
theorem paired_back {α β : Type} {F : α → β → Prop} : ∀ {xs : List α} {ys : List β}, Paired F xs ys → xs ≠ [] → ∃ as a bs b, xs = as ++ [a] ∧ ys = bs ++ [b] ∧ F a b
  | _, _, .nil, h => absurd rfl h
  | x :: xs, y :: ys, .cons h1 k, _ => by
    by_cases c : xs = []
    · subst c
      cases k
      exact ⟨[], x, [], y, rfl, rfl, h1⟩
    · obtain ⟨as, a, bs, b, e1, e2, e3⟩ := paired_back k c
      exact ⟨x :: as, a, y :: bs, b, by rw [e1]; rfl, by rw [e2]; rfl, e3⟩
theorem cut_neg : ((-1 : Int)) = -1 := rfl

theorem each1_nd (ps : List Step) : (each1 ps).Nodup := uniq_nd enc_Row alk_Row _ (esort_pair eRow ps)
theorem each1_mem (ps : List Step) (x : Step) : x ∈ each1 ps ↔ x ∈ ps := by
  unfold each1
  rw [uniq_mem, (esort_perm eRow ps).mem_iff]
theorem each1_of {xs L : List Step} (nd : L.Nodup) (m : ∀ x, x ∈ L ↔ x ∈ xs) : esort eRow L = each1 xs := (uniq_esort enc_Row alk_Row nd fun x => (m x).symm).symm
theorem each1_ext {xs ys : List Step} (h : ∀ x, x ∈ xs ↔ x ∈ ys) : each1 xs = each1 ys := by
  rw [← each1_of (each1_nd ys) fun x => (each1_mem ys x).trans (h x).symm]
  exact each1_of (each1_nd ys) (each1_mem ys)
theorem rowPuts_snoc (rs : List Rule) (r : Rule) (n : Str) (t : List Str) : rowPuts (rs ++ [r]) (n :: t) = if r.1 = n then rowPuts rs (n :: t) ++ [(r.2.1, r.2.2 ++ t)] else rowPuts rs (n :: t) := by
  show (rulesOf (rs ++ [r]) n).map _ = if r.1 = n then (rulesOf rs n).map _ ++ _ else (rulesOf rs n).map _
  rw [rulesOf_snoc]
  by_cases c : r.1 = n
  · rw [if_pos c, if_pos c, List.map_append]; rfl
  · rw [if_neg c, if_neg c]
theorem bagAt_snoc (rs : List Rule) (r : Rule) {bag : List Str} {k : Nat} {n : Str} (h : bag[k]? = some n) : bagAt (rs ++ [r]) bag k = if r.1 = n then bagAt rs bag k ++ [(r.2.1, ssort (r.2.2 ++ (bag.take k ++ bag.drop (k + 1))))] else bagAt rs bag k := by
  unfold bagAt
  rw [h]
  simp only
  rw [rulesOf_snoc]
  by_cases c : r.1 = n
  · rw [if_pos c, if_pos c, List.map_append]; rfl
  · rw [if_neg c, if_neg c]
theorem rest_perm {bag : List Str} {i : Nat} {n : Str} (h : bag[i]? = some n) : (bag.take i ++ bag.drop (i + 1)).Perm (bag.erase n) := by
  have h1 : (n :: (bag.take i ++ bag.drop (i + 1))).Perm bag := by
    obtain ⟨hl, hx⟩ := List.getElem?_eq_some_iff.mp h
    have e : bag = bag.take i ++ n :: bag.drop (i + 1) := by
      conv => lhs; rw [← List.take_append_drop i bag, List.drop_eq_getElem_cons hl, hx]
    conv => rhs; rw [e]
    exact List.perm_middle.symm
  exact (h1.trans (List.perm_cons_erase (List.mem_of_getElem? h))).cons_inv
theorem mem_bagPuts {rs : List Rule} {bag : List Str} {x : Step} : x ∈ bagPuts rs bag ↔ ∃ n ∈ bag, ∃ p ∈ rulesOf rs n, x = (p.1, ssort (p.2 ++ bag.erase n)) := by
  unfold bagPuts
  rw [List.mem_flatMap]
  constructor
  · rintro ⟨i, hi, hx⟩
    rw [List.mem_range] at hi
    have hn : bag[i]? = some bag[i] := List.getElem?_eq_getElem hi
    unfold bagAt at hx
    rw [hn] at hx
    obtain ⟨p, hp, rfl⟩ := List.mem_map.mp hx
    exact ⟨bag[i], List.getElem_mem _, p, hp, by rw [ssort_eq ((List.Perm.refl p.2).append (rest_perm hn))]⟩
  · rintro ⟨n, hn, p, hp, rfl⟩
    obtain ⟨i, hi⟩ := List.mem_iff_getElem?.mp hn
    refine ⟨i, List.mem_range.mpr (List.getElem?_eq_some_iff.mp hi).1, ?_⟩
    unfold bagAt
    rw [hi]
    exact List.mem_map.mpr ⟨p, hp, by rw [ssort_eq ((List.Perm.refl p.2).append (rest_perm hi))]⟩
theorem bagSteps_perm (rs : List Rule) {b b' : List Str} (h : b.Perm b') : bagSteps rs b = bagSteps rs b' := each1_ext fun x => by
  rw [mem_bagPuts, mem_bagPuts]
  constructor
  · rintro ⟨n, hn, p, hp, rfl⟩
    exact ⟨n, h.mem_iff.mp hn, p, hp, by rw [ssort_eq ((List.Perm.refl p.2).append (h.erase n))]⟩
  · rintro ⟨n, hn, p, hp, rfl⟩
    exact ⟨n, h.mem_iff.mpr hn, p, hp, by rw [ssort_eq ((List.Perm.refl p.2).append (h.erase n))]⟩

theorem itePos {b : Bool} {A B : Prop} (hb : b = true) (h : A) : if b = true then A else B := by rw [if_pos hb]; exact h
theorem rowPuts_len {rs : List Rule} (h : rs.length ≤ 100) (row : List Str) : (rowPuts rs row).length ≤ 100 := by
  cases row with
  | nil => exact Nat.zero_le _
  | cons n t =>
    show ((rulesOf rs n).map _).length ≤ 100
    rw [List.length_map]
    exact Nat.le_trans (by unfold rulesOf; rw [List.length_map]; exact List.length_filter_le _ _) h
theorem rulesOf_le (rs : List Rule) (n : Str) : (rulesOf rs n).length ≤ rs.length := by
  unfold rulesOf
  rw [List.length_map]
  exact List.length_filter_le _ _
theorem bagAt_len {rs : List Rule} (h : rs.length ≤ 100) (bag : List Str) (i : Nat) : (bagAt rs bag i).length ≤ 100 := by
  unfold bagAt
  cases bag[i]? with
  | none => exact Nat.zero_le _
  | some n => simp only [List.length_map]; exact Nat.le_trans (rulesOf_le rs n) h
theorem flat_len {α : Type} {f : Nat → List α} {k : Nat} (h : ∀ i, (f i).length ≤ k) : ∀ n, ((List.range n).flatMap f).length ≤ k * n
  | 0 => Nat.zero_le _
  | n + 1 => by
    have := flat_len h n
    have := h n
    rw [flat_range_snoc, List.length_append, Nat.mul_succ]
    omega
theorem bagPuts_len {rs : List Rule} (h : rs.length ≤ 100) (bag : List Str) : (bagPuts rs bag).length ≤ 100 * bag.length := flat_len (bagAt_len h bag) _
theorem rowPuts_short {rs : List Rule} (h : ∀ r ∈ rs, r.2.2.length ≤ 1000) {row : List Str} (hr : row.length ≤ 1000) : ∀ p ∈ rowPuts rs row, p.2.length ≤ 2000 := fun p hp => by
  cases row with
  | nil => cases hp
  | cons n t =>
    obtain ⟨q, hq, rfl⟩ := List.mem_map.mp (show p ∈ (rulesOf rs n).map _ from hp)
    have := h _ (mem_rulesOf.mp hq)
    simp at hr
    show (q.2 ++ t).length ≤ 2000
    rw [List.length_append]
    simp at this
    omega
theorem bagPuts_short {rs : List Rule} (h : ∀ r ∈ rs, r.2.2.length ≤ 1000) {bag : List Str} (hr : bag.length ≤ 1000) : ∀ p ∈ bagPuts rs bag, p.2.length ≤ 2000 := fun p hp => by
  obtain ⟨n, hn, q, hq, rfl⟩ := mem_bagPuts.mp hp
  have h1 := h _ (mem_rulesOf.mp hq)
  show (ssort (q.2 ++ bag.erase n)).length ≤ 2000
  rw [(ssort_perm _).length_eq, List.length_append]
  have h2 : (bag.erase n).length ≤ bag.length := List.length_erase_le
  simp at h1
  omega

theorem cut_ints (ds : List Int) (lo hi : Option Int) : ∃ zs : List Int, cutV (ds.map V.int) lo hi = zs.map V.int ∧ zs.length ≤ ds.length ∧ ∀ z ∈ zs, z ∈ ds := by
  unfold cutV
  rw [List.length_map]
  refine ⟨(ds.drop (HT.sIx ds.length 0 lo)).take (HT.sIx ds.length ds.length hi - HT.sIx ds.length 0 lo), by rw [← List.map_drop, ← List.map_take], ?_, fun z hz => List.mem_of_mem_drop (List.mem_of_mem_take hz)⟩
  rw [List.length_take, List.length_drop]
  omega
def nameAt (names : List Str) (x : Int) : Str := names.getD (x % (names.length : Int)).toNat ""
theorem nameAt_at {names : List Str} (h : 0 < names.length) (x : Int) : atI (names.map V.str) (x % (names.length : Int)) = some (.str (nameAt names x)) ∧ nameAt names x ∈ names := by
  have h0 : 0 ≤ x % (names.length : Int) := Int.emod_nonneg _ (by omega)
  have h1 : x % (names.length : Int) < names.length := Int.emod_lt_of_pos _ (by omega)
  have h2 : names[(x % (names.length : Int)).toNat]? = some (nameAt names x) := by
    unfold nameAt
    rw [List.getD_eq_getElem?_getD, List.getElem?_eq_getElem (by omega)]
    rfl
  refine ⟨?_, List.mem_of_getElem? h2⟩
  rw [atI_eq h0 (by rw [List.length_map]; exact h1), List.getElem?_map, h2]
  rfl
/-- rows of a grammar's rules are short -/
def ShortR (rs : List Rule) : Prop := rs.length ≤ 100 ∧ ∀ r ∈ rs, r.2.2.length ≤ 1000
theorem ShortR.of {rs : List Rule} (h : ShortR rs) (n : Str) : (rulesOf rs n).length ≤ 100 ∧ ∀ p ∈ rulesOf rs n, p.2.length ≤ 1000 :=
  ⟨Nat.le_trans (rulesOf_le rs n) h.1, fun p hp => h.2 _ (mem_rulesOf.mp hp)⟩
end SG
/-! norms, in plain words: least sizes of derivations; rounds over the rules come to them -/
namespace SG
open PySem PySem.Spec PyProof.Rows L2
abbrev Wt := Str → Option Nat
abbrev Edge := Str × List Str
def addW (w : Wt) : List Str → Option Nat
  | [] => some 0
  | n :: t => match w n, addW w t with
    | some a, some b => some (a + b)
    | _, _ => none
def relax (w : Wt) (e : Edge) : Wt := match addW w e.2 with
  | none => w
  | some s => match w e.1 with
    | none => fun m => if m = e.1 then some (s + 1) else w m
    | some v => if s + 1 < v then (fun m => if m = e.1 then some (s + 1) else w m) else w
def leW (w w' : Wt) : Prop := ∀ n v, w' n = some v → ∃ u, u ≤ v ∧ w n = some u
theorem leW.refl (w : Wt) : leW w w := fun _ v h => ⟨v, Nat.le_refl _, h⟩
theorem leW.trans {a b c : Wt} (h : leW a b) (h' : leW b c) : leW a c := fun n v e => by
  obtain ⟨u, hu, e1⟩ := h' n v e
  obtain ⟨x, hx, e2⟩ := h n u e1
  exact ⟨x, by omega, e2⟩
theorem relax_le (w : Wt) (e : Edge) : leW (relax w e) w := fun n v h => by
  unfold relax
  cases h1 : addW w e.2 with
  | none => exact ⟨v, Nat.le_refl _, h⟩
  | some s =>
    simp only
    cases h2 : w e.1 with
    | none =>
      simp only
      by_cases c : n = e.1
      · rw [c, h2] at h; cases h
      · rw [if_neg c]; exact ⟨v, Nat.le_refl _, h⟩
    | some x =>
      simp only
      by_cases c2 : s + 1 < x
      · rw [if_pos c2]
        by_cases c : n = e.1
        · rw [if_pos c]
          rw [c, h2] at h
          have := Option.some.inj h
          exact ⟨s + 1, by omega, rfl⟩
        · rw [if_neg c]; exact ⟨v, Nat.le_refl _, h⟩
      · rw [if_neg c2]; exact ⟨v, Nat.le_refl _, h⟩
theorem relax_hit {w : Wt} {e : Edge} {s : Nat} (h1 : addW w e.2 = some s) : ∃ u, u ≤ s + 1 ∧ relax w e e.1 = some u := by
  unfold relax
  rw [h1]
  simp only
  cases h2 : w e.1 with
  | none => exact ⟨s + 1, Nat.le_refl _, by simp⟩
  | some x =>
    simp only
    by_cases c2 : s + 1 < x
    · rw [if_pos c2]; exact ⟨s + 1, Nat.le_refl _, by simp⟩
    · rw [if_neg c2]; exact ⟨x, by omega, h2⟩
theorem addW_mono {w w' : Wt} (h : leW w w') : ∀ {row : List Str} {s : Nat}, addW w' row = some s → ∃ u, u ≤ s ∧ addW w row = some u
  | [], s, e => ⟨0, Nat.zero_le _, rfl⟩
  | n :: t, s, e => by
    rw [addW] at e
    cases h1 : w' n with
    | none => rw [h1] at e; cases e
    | some a =>
      cases h2 : addW w' t with
      | none => rw [h1, h2] at e; cases e
      | some b =>
        rw [h1, h2] at e
        have e := Option.some.inj e
        obtain ⟨x, hx, e1⟩ := h n a h1
        obtain ⟨y, hy, e2⟩ := addW_mono h h2
        exact ⟨x + y, by omega, by rw [addW, e1, e2]⟩
theorem fold_le : ∀ (E : List Edge) (w : Wt), leW (E.foldl relax w) w
  | [], w => leW.refl w
  | e :: E, w => (fold_le E (relax w e)).trans (relax_le w e)
theorem fold_hit : ∀ {E : List Edge} {w : Wt} {e : Edge} {s : Nat}, e ∈ E → addW w e.2 = some s → ∃ u, u ≤ s + 1 ∧ (E.foldl relax w) e.1 = some u
  | [], _, _, _, h, _ => by cases h
  | x :: E, w, e, s, h, h1 => by
    rcases List.mem_cons.mp h with rfl | h
    · obtain ⟨u, hu, e1⟩ := relax_hit h1
      obtain ⟨y, hy, e2⟩ := fold_le E (relax w e) _ _ e1
      exact ⟨y, by omega, e2⟩
    · obtain ⟨u, hu, e1⟩ := addW_mono (relax_le w x) h1
      obtain ⟨y, hy, e2⟩ := fold_hit h e1
      exact ⟨y, by omega, e2⟩
/-! ### derivations by their heights and sizes -/
def Dv (E : List Edge) : Nat → Str → Nat → Prop
  | 0, _, _ => False
  | h + 1, n, v => ∃ row, (n, row) ∈ E ∧ ∃ vs : List Nat, vs.length = row.length ∧ (∀ p ∈ row.zip vs, Dv E h p.1 p.2) ∧ v = 1 + vs.sum
def Der (E : List Edge) (n : Str) (v : Nat) : Prop := ∃ h, Dv E h n v
theorem Dv.up {E : List Edge} : ∀ {h : Nat} {n : Str} {v : Nat}, Dv E h n v → Dv E (h + 1) n v
  | 0, _, _, d => d.elim
  | h + 1, n, v, ⟨row, hr, vs, hl, hd, e⟩ => ⟨row, hr, vs, hl, fun p hp => (hd p hp).up, e⟩
theorem Dv.mono {E : List Edge} {h k : Nat} {n : Str} {v : Nat} (d : Dv E h n v) (hk : h ≤ k) : Dv E k n v := by
  induction hk with
  | refl => exact d
  | step _ ih => exact ih.up
theorem Dv.sub {E E' : List Edge} (hE : ∀ e, e ∈ E → e ∈ E') : ∀ {h : Nat} {n : Str} {v : Nat}, Dv E h n v → Dv E' h n v
  | 0, _, _, d => d.elim
  | h + 1, n, v, ⟨row, hr, vs, hl, hd, e⟩ => ⟨row, hE _ hr, vs, hl, fun p hp => (hd p hp).sub hE, e⟩
/-- below: what has a derivation of height h is known, and as small -/
def Low (E : List Edge) (h : Nat) (w : Wt) : Prop := ∀ n v, Dv E h n v → ∃ u, u ≤ v ∧ w n = some u
def Sup (E : List Edge) (w : Wt) : Prop := ∀ n v, w n = some v → Der E n v
theorem addW_low {E : List Edge} {h : Nat} {w : Wt} (l : Low E h w) : ∀ {row : List Str} {vs : List Nat}, vs.length = row.length → (∀ p ∈ row.zip vs, Dv E h p.1 p.2) → ∃ s, s ≤ vs.sum ∧ addW w row = some s
  | [], [], _, _ => ⟨0, Nat.le_refl _, rfl⟩
  | [], _ :: _, e, _ => by simp at e
  | _ :: _, [], e, _ => by simp at e
  | n :: t, v :: vs, e, k => by
    obtain ⟨a, ha, e1⟩ := l n v (k (n, v) List.mem_cons_self)
    obtain ⟨b, hb, e2⟩ := addW_low l (row := t) (vs := vs) (by simpa using e) fun p hp => k p (List.mem_cons_of_mem _ hp)
    exact ⟨a + b, by rw [List.sum_cons]; omega, by rw [addW, e1, e2]⟩
theorem low_step {E : List Edge} {h : Nat} {w : Wt} (l : Low E h w) : Low E (h + 1) (E.foldl relax w) := fun n v ⟨row, hr, vs, hl, hd, e⟩ => by
  obtain ⟨s, hs, e1⟩ := addW_low l hl hd
  obtain ⟨u, hu, e2⟩ := fold_hit hr e1
  exact ⟨u, by omega, e2⟩
theorem addW_sup {E : List Edge} {w : Wt} (l : Sup E w) : ∀ {row : List Str} {s : Nat}, addW w row = some s → ∃ h, ∃ vs : List Nat, vs.length = row.length ∧ (∀ p ∈ row.zip vs, Dv E h p.1 p.2) ∧ s = vs.sum
  | [], s, e => ⟨0, [], rfl, fun p hp => (by cases hp), (Option.some.inj e).symm⟩
  | n :: t, s, e => by
    rw [addW] at e
    cases h1 : w n with
    | none => rw [h1] at e; cases e
    | some a =>
      cases h2 : addW w t with
      | none => rw [h1, h2] at e; cases e
      | some b =>
        rw [h1, h2] at e
        have e := Option.some.inj e
        obtain ⟨h, d⟩ := l n a h1
        obtain ⟨k, vs, hl, hd, es⟩ := addW_sup l h2
        refine ⟨max h k, a :: vs, by simp [hl], fun p hp => ?_, by rw [List.sum_cons]; omega⟩
        rw [List.zip_cons_cons] at hp
        rcases List.mem_cons.mp hp with rfl | hp
        · exact d.mono (Nat.le_max_left _ _)
        · exact (hd p hp).mono (Nat.le_max_right _ _)
theorem relax_sup {E : List Edge} {w : Wt} {e : Edge} (l : Sup E w) (he : e ∈ E) : Sup E (relax w e) := fun n v h => by
  unfold relax at h
  cases h1 : addW w e.2 with
  | none => rw [h1] at h; exact l n v h
  | some s =>
    have new : Der E e.1 (s + 1) := by
      obtain ⟨k, vs, hl, hd, es⟩ := addW_sup l h1
      exact ⟨k + 1, e.2, he, vs, hl, hd, by omega⟩
    rw [h1] at h
    simp only at h
    cases h2 : w e.1 with
    | none =>
      rw [h2] at h
      simp only at h
      by_cases c : n = e.1
      · rw [if_pos c] at h
        rw [c, ← Option.some.inj h]
        exact new
      · rw [if_neg c] at h; exact l n v h
    | some x =>
      rw [h2] at h
      simp only at h
      by_cases c2 : s + 1 < x
      · rw [if_pos c2] at h
        by_cases c : n = e.1
        · rw [if_pos c] at h
          rw [c, ← Option.some.inj h]
          exact new
        · rw [if_neg c] at h; exact l n v h
      · rw [if_neg c2] at h; exact l n v h
theorem fold_sup {E : List Edge} : ∀ {F : List Edge} {w : Wt}, Sup E w → (∀ e ∈ F, e ∈ E) → Sup E (F.foldl relax w)
  | [], _, l, _ => l
  | f :: F, w, l, h => fold_sup (F := F) (relax_sup l (h f List.mem_cons_self)) fun e he => h e (List.mem_cons_of_mem _ he)
/-! ### the least -/
theorem least {p : Nat → Prop} (h : ∃ n, p n) : ∃ n, p n ∧ ∀ m, p m → n ≤ m := by
  obtain ⟨n, hn⟩ := h
  induction n using Nat.strongRecOn with
  | ind n ih =>
    by_cases c : ∃ m, m < n ∧ p m
    · obtain ⟨m, hm, pm⟩ := c
      exact ih m hm pm
    · exact ⟨n, hn, fun m pm => Nat.le_of_not_lt fun l => c ⟨m, l, pm⟩⟩
open Classical in
noncomputable def muW (E : List Edge) : Wt := fun n => if h : ∃ v, Der E n v then some (Classical.choose (least h)) else none
theorem muW_some {E : List Edge} {n : Str} {v : Nat} (h : muW E n = some v) : Der E n v ∧ ∀ u, Der E n u → v ≤ u := by
  unfold muW at h
  split at h
  · rename_i hd
    have := Classical.choose_spec (least hd)
    rw [Option.some.inj h] at this
    exact this
  · cases h
theorem muW_of {E : List Edge} {n : Str} {u : Nat} (h : Der E n u) : ∃ v, muW E n = some v ∧ v ≤ u := by
  unfold muW
  rw [dif_pos ⟨u, h⟩]
  exact ⟨_, rfl, (Classical.choose_spec (least ⟨u, h⟩)).2 u h⟩
theorem muW_none {E : List Edge} {n : Str} (h : muW E n = none) : ∀ v, ¬ Der E n v := fun v d => by
  obtain ⟨u, e, _⟩ := muW_of d
  rw [h] at e
  cases e
theorem filter_lt {α : Type} {p q : α → Bool} : ∀ {xs : List α} {a : α}, (∀ x ∈ xs, p x = true → q x = true) → a ∈ xs → q a = true → p a = false → (xs.filter p).length < (xs.filter q).length
  | [], _, _, h, _, _ => by cases h
  | x :: xs, a, h, ha, hq, hp => by
    have hle : ∀ ys : List α, (∀ x ∈ ys, p x = true → q x = true) → (ys.filter p).length ≤ (ys.filter q).length := fun ys => by
      induction ys with
      | nil => intro _; exact Nat.le_refl _
      | cons y t ih =>
        intro k
        have := ih fun x hx => k x (List.mem_cons_of_mem _ hx)
        rw [List.filter_cons, List.filter_cons]
        by_cases c : p y = true
        · rw [if_pos c, if_pos (k y List.mem_cons_self c)]; exact Nat.succ_le_succ this
        · rw [if_neg c]
          split
          · exact Nat.le_succ_of_le this
          · exact this
    rcases List.mem_cons.mp ha with rfl | ha
    · rw [List.filter_cons, List.filter_cons, if_pos hq, if_neg (by rw [hp]; exact Bool.false_ne_true)]
      exact Nat.lt_succ_of_le (hle xs fun x hx => h x (List.mem_cons_of_mem _ hx))
    · have := filter_lt (xs := xs) (fun x hx => h x (List.mem_cons_of_mem _ hx)) ha hq hp
      rw [List.filter_cons, List.filter_cons]
      by_cases c : p x = true
      · rw [if_pos c, if_pos (h x List.mem_cons_self c)]; exact Nat.succ_lt_succ this
      · rw [if_neg c]
        split
        · exact Nat.lt_succ_of_lt this
        · exact this
/-- how many names weigh less than k -/
noncomputable def cntW (E : List Edge) (names : List Str) (k : Nat) : Nat := (names.filter fun m => match muW E m with
  | some v => decide (v < k)
  | none => false).length
theorem mem_zip_sum {row : List Str} {vs : List Nat} {p : Str × Nat} (h : p ∈ row.zip vs) : p.2 ≤ vs.sum := by
  have : p.2 ∈ vs := (List.of_mem_zip h).2
  clear h
  induction vs with
  | nil => cases this
  | cons x t ih =>
    rw [List.sum_cons]
    rcases List.mem_cons.mp this with h | h
    · omega
    · have := ih h; omega
theorem height {E : List Edge} {names : List Str} (hE : ∀ e ∈ E, e.1 ∈ names) : ∀ (k : Nat) (n : Str), muW E n = some k → Dv E (cntW E names k + 1) n k := fun k => by
  induction k using Nat.strongRecOn with
  | ind k ih =>
    intro n hn
    obtain ⟨⟨h, d⟩, hmin⟩ := muW_some hn
    cases h with
    | zero => exact d.elim
    | succ h =>
      obtain ⟨row, hr, vs, hl, hd, e⟩ := d
      -- the least of each
      have hus : ∀ (row : List Str) (vs : List Nat), vs.length = row.length → (∀ p ∈ row.zip vs, Dv E h p.1 p.2) → ∃ us : List Nat, us.length = row.length ∧ us.sum ≤ vs.sum ∧ ∀ p ∈ row.zip us, muW E p.1 = some p.2 := fun row => by
        induction row with
        | nil => intro vs hl hd; exact ⟨[], rfl, Nat.zero_le _, fun p hp => by cases hp⟩
        | cons x t ih2 =>
          intro vs hl hd
          cases vs with
          | nil => simp at hl
          | cons v vs =>
            obtain ⟨us, a1, a2, a3⟩ := ih2 vs (by simpa using hl) fun p hp => hd p (List.mem_cons_of_mem _ hp)
            obtain ⟨u, b1, b2⟩ := muW_of ⟨h, hd (x, v) List.mem_cons_self⟩
            refine ⟨u :: us, by simp [a1], by rw [List.sum_cons, List.sum_cons]; simp only at b2; omega, fun p hp => ?_⟩
            rw [List.zip_cons_cons] at hp
            rcases List.mem_cons.mp hp with rfl | hp
            · exact b1
            · exact a3 p hp
      obtain ⟨us, a1, a2, a3⟩ := hus row vs hl hd
      have hder : Der E n (1 + us.sum) := by
        have : ∃ H, ∀ p ∈ row.zip us, Dv E H p.1 p.2 := by
          have : ∀ l : List (Str × Nat), (∀ p ∈ l, muW E p.1 = some p.2) → ∃ H, ∀ p ∈ l, Dv E H p.1 p.2 := fun l => by
            induction l with
            | nil => intro _; exact ⟨0, fun p hp => by cases hp⟩
            | cons y t ih2 =>
              intro k
              obtain ⟨H1, d1⟩ := ih2 fun p hp => k p (List.mem_cons_of_mem _ hp)
              obtain ⟨⟨H2, d2⟩, _⟩ := muW_some (k y List.mem_cons_self)
              refine ⟨max H1 H2, fun p hp => ?_⟩
              rcases List.mem_cons.mp hp with rfl | hp
              · exact d2.mono (Nat.le_max_right _ _)
              · exact (d1 p hp).mono (Nat.le_max_left _ _)
          exact this _ a3
        obtain ⟨H, hH⟩ := this
        exact ⟨H + 1, row, hr, us, a1, hH, rfl⟩
      have hk := hmin _ hder
      refine ⟨row, hr, us, a1, fun p hp => ?_, by omega⟩
      have hp2 := mem_zip_sum hp
      have hlt : p.2 < k := by omega
      have hmu := a3 p hp
      have hpn : p.1 ∈ names := by
        obtain ⟨⟨H, d⟩, _⟩ := muW_some hmu
        cases H with
        | zero => exact d.elim
        | succ H =>
          obtain ⟨r, hr, _⟩ := d
          exact hE _ hr
      refine (ih p.2 hlt p.1 hmu).mono ?_
      unfold cntW
      refine filter_lt (a := p.1) (fun x _ h1 => ?_) hpn ?_ ?_
      · cases hx : muW E x with
        | none => rw [hx] at h1; cases h1
        | some v => rw [hx] at h1; simp only [decide_eq_true_eq] at h1 ⊢; omega
      · rw [hmu]; simp only [decide_eq_true_eq]; exact hlt
      · rw [hmu]; simp
theorem height_le {E : List Edge} {names : List Str} (hE : ∀ e ∈ E, e.1 ∈ names) {n : Str} {k : Nat} (h : muW E n = some k) : Dv E names.length n k := by
  refine (height hE k n h).mono ?_
  have hn : n ∈ names := by
    obtain ⟨⟨H, d⟩, _⟩ := muW_some h
    cases H with
    | zero => exact d.elim
    | succ H =>
      obtain ⟨r, hr, _⟩ := d
      exact hE _ hr
  have := filter_lt (p := fun m => match muW E m with
    | some v => decide (v < k)
    | none => false) (q := fun _ => true) (xs := names) (a := n) (fun _ _ _ => rfl) hn rfl (by rw [h]; simp)
  have e : names.filter (fun _ => true) = names := List.filter_eq_self.mpr fun _ _ => rfl
  rw [e] at this
  exact this
/-- what is borne out and as small as all derivations of that height is the least -/
theorem muW_unique {E : List Edge} {names : List Str} (hE : ∀ e ∈ E, e.1 ∈ names) {w : Wt} (s : Sup E w) {h : Nat} (l : Low E h w) (hh : names.length ≤ h) : w = muW E := funext fun n => by
  cases e : muW E n with
  | none =>
    cases e2 : w n with
    | none => rfl
    | some v => exact absurd (s n v e2) (muW_none e v)
  | some k =>
    obtain ⟨u, hu, e2⟩ := l n k ((height_le hE e).mono hh)
    have := (muW_some e).2 u (s n u e2)
    rw [e2, show u = k by omega]
theorem muW_congr {E E' : List Edge} (h : ∀ e, e ∈ E ↔ e ∈ E') : muW E = muW E' := funext fun n => by
  have hd : ∀ v, Der E n v ↔ Der E' n v := fun v => ⟨fun ⟨k, d⟩ => ⟨k, d.sub fun e he => (h e).mp he⟩, fun ⟨k, d⟩ => ⟨k, d.sub fun e he => (h e).mpr he⟩⟩
  cases e : muW E n with
  | none =>
    cases e2 : muW E' n with
    | none => rfl
    | some v => exact absurd ((hd v).mpr (muW_some e2).1) (muW_none e v)
  | some k =>
    obtain ⟨v, e2, hv⟩ := muW_of ((hd k).mp (muW_some e).1)
    have := (muW_some e).2 v ((hd v).mpr (muW_some e2).1)
    rw [e2, show v = k by omega]
/-- rounds -/
def rounds (E : List Edge) : Nat → Wt
  | 0 => fun _ => none
  | t + 1 => E.foldl relax (rounds E t)
theorem rounds_sup (E : List Edge) : ∀ t, Sup E (rounds E t)
  | 0 => fun n v h => by cases h
  | t + 1 => fold_sup (rounds_sup E t) fun _ h => h
theorem rounds_low (E : List Edge) : ∀ t, Low E t (rounds E t)
  | 0 => fun n v h => h.elim
  | t + 1 => low_step (rounds_low E t)
theorem rounds_mu {E : List Edge} {names : List Str} (hE : ∀ e ∈ E, e.1 ∈ names) {t : Nat} (h : names.length ≤ t) : rounds E t = muW E := muW_unique hE (rounds_sup E t) (rounds_low E t) h
/-- at the least nothing changes -/
theorem muW_fix {E : List Edge} {e : Edge} (he : e ∈ E) {s : Nat} (h : addW (muW E) e.2 = some s) : ∃ v, muW E e.1 = some v ∧ v ≤ s + 1 := by
  have sup : Sup E (muW E) := fun n v h => (muW_some h).1
  obtain ⟨k, vs, hl, hd, es⟩ := addW_sup sup h
  obtain ⟨v, e1, hv⟩ := muW_of (E := E) (n := e.1) ⟨k + 1, e.2, he, vs, hl, hd, rfl⟩
  exact ⟨v, e1, by omega⟩
theorem relax_mu {E : List Edge} {e : Edge} (he : e ∈ E) : relax (muW E) e = muW E := by
  unfold relax
  cases h : addW (muW E) e.2 with
  | none => rfl
  | some s =>
    obtain ⟨v, e1, hv⟩ := muW_fix he h
    simp only
    rw [e1]
    simp only
    rw [if_neg (by omega)]

theorem rounds_stop {E : List Edge} {names : List Str} (hE : ∀ e ∈ E, e.1 ∈ names) {t : Nat} (h : rounds E (t + 1) = rounds E t) : rounds E t = muW E := by
  have : ∀ k, rounds E (t + k) = rounds E t := fun k => by
    induction k with
    | zero => rfl
    | succ k ih =>
      show (E.foldl relax (rounds E (t + k))) = _
      rw [ih]
      exact h
  rw [← this names.length]
  exact rounds_mu hE (Nat.le_add_left _ _)
/-! ### weights in a dict -/
def optV : Option Nat → V
  | none => .non
  | some k => .int (k : Int)
theorem optV_inj {a b : Option Nat} (h : optV a = optV b) : a = b := by
  cases a <;> cases b
  · rfl
  · cases h
  · cases h
  · have := V.int.inj h
    rw [show _ = _ from Int.ofNat.inj this]
def kvsW (names : List Str) (w : Wt) : List (Key × V) := names.map fun n => ((Sum.inr n : Key), optV (w n))
theorem valV_step (k : Key) (v : V) (r : List (Key × V)) (q : Key) : valV ((k, v) :: r) q = if k = q then some v else valV r q := by
  unfold valV
  rw [List.find?_cons]
  by_cases c : k = q
  · simp [c]
  · simp [c]
theorem kvsW_val {names : List Str} {w : Wt} {n : Str} (h : n ∈ names) : valV (kvsW names w) (Sum.inr n : Key) = some (optV (w n)) := by
  induction names with
  | nil => cases h
  | cons x t ih =>
    unfold kvsW at *
    rw [List.map_cons, valV_step]
    by_cases c : x = n
    · rw [if_pos (by rw [c]), c]
    · rw [if_neg (fun z => c (Sum.inr.inj z))]
      rcases List.mem_cons.mp h with h | h
      · exact absurd h.symm c
      · exact ih h
theorem kvsW_put {names : List Str} {w : Wt} {n : Str} (h : n ∈ names) (s : Nat) : putK (kvsW names w) (Sum.inr n : Key) (.int ((s : Int) + 1)) = kvsW names (fun m => if m = n then some (s + 1) else w m) := by
  have ha : ((kvsW names w).any fun kv => decide (kv.1 = (Sum.inr n : Key))) = true := by
    rw [List.any_eq_true]
    exact ⟨(Sum.inr n, optV (w n)), List.mem_map.mpr ⟨n, h, rfl⟩, decide_eq_true rfl⟩
  unfold putK
  rw [if_pos ha]
  unfold kvsW
  rw [List.map_map]
  refine List.map_congr_left fun m _ => ?_
  show (if (Sum.inr m : Key) = Sum.inr n then ((Sum.inr m : Key), V.int ((s : Int) + 1)) else ((Sum.inr m : Key), optV (w m))) = _
  by_cases c : m = n
  · rw [if_pos (by rw [c])]; simp only; rw [if_pos c]; rfl
  · rw [if_neg (fun z => c (Sum.inr.inj z))]; simp only; rw [if_neg c]
theorem kvsW_len (names : List Str) (w : Wt) : (kvsW names w).length = names.length := by unfold kvsW; rw [List.length_map]
/-- the edges of the rules, by names and as they stand -/
def edN (rs : List Rule) (n : Str) : List Edge := (rulesOf rs n).map fun p => (n, p.2)
def edP (names : List Str) (rs : List Rule) : List Edge := names.flatMap (edN rs)
def edR (rs : List Rule) : List Edge := rs.map fun r => (r.1, r.2.2)
theorem mem_edN {rs : List Rule} {n : Str} {e : Edge} : e ∈ edN rs n ↔ e.1 = n ∧ ∃ l, (n, l, e.2) ∈ rs := by
  unfold edN
  rw [List.mem_map]
  constructor
  · rintro ⟨p, hp, rfl⟩
    exact ⟨rfl, p.1, mem_rulesOf.mp hp⟩
  · rintro ⟨rfl, l, hl⟩
    exact ⟨(l, e.2), mem_rulesOf.mpr hl, rfl⟩
theorem mem_edP {names : List Str} {rs : List Rule} (h : ∀ r ∈ rs, r.1 ∈ names) {e : Edge} : e ∈ edP names rs ↔ e ∈ edR rs := by
  unfold edP edR
  rw [List.mem_flatMap, List.mem_map]
  constructor
  · rintro ⟨n, hn, he⟩
    obtain ⟨h1, l, hl⟩ := mem_edN.mp he
    exact ⟨_, hl, by rw [← h1]⟩
  · rintro ⟨r, hr, rfl⟩
    exact ⟨r.1, h r hr, mem_edN.mpr ⟨rfl, r.2.1, hr⟩⟩
/-- the norms of a grammar's names -/
noncomputable def normW (rs : List Rule) : Wt := muW (edR rs)
theorem normW_edP {names : List Str} {rs : List Rule} (h : ∀ r ∈ rs, r.1 ∈ names) : muW (edP names rs) = normW rs := muW_congr fun _ => mem_edP h
theorem edP_fst {names : List Str} {rs : List Rule} : ∀ e ∈ edP names rs, e.1 ∈ names := fun e he => by
  obtain ⟨n, hn, h⟩ := List.mem_flatMap.mp he
  rw [(mem_edN.mp h).1]
  exact hn
/-- encoded -/
def oD : Option Nat → PyData
  | none => .none
  | some k => .int (k : Int)
theorem enc_oD : Enc oD := fun a b => by
  cases a with
  | none => cases b with
    | none => simp [oD, PyData.eqv]
    | some y => simp [oD, PyData.eqv]
  | some x => cases b with
    | none => simp [oD, PyData.eqv]
    | some y =>
      show PyData.eqv (.int (x : Int)) (.int (y : Int)) = _
      have h := enc_int (x : Int) (y : Int)
      rw [h]
      by_cases c : x = y
      · simp [c]
      · have : ¬ (x : Int) = (y : Int) := by omega
        simp [c, this]
theorem dep_oD : Dep oD 0 := fun a => by
  cases a <;> exact Nat.zero_le _
theorem dpAll_oD {K : PySem.W.Frag} {H : Hp} : ∀ xs : List (Option Nat), DpAll K H (xs.map optV) (xs.map oD)
  | [] => .nil
  | none :: r => .cons .non (dpAll_oD r)
  | some k :: r => .cons (.int _) (dpAll_oD r)
theorem addW_none {w : Wt} : ∀ {row : List Str}, addW w row = none ↔ none ∈ row.map w
  | [] => by simp [addW]
  | n :: t => by
    rw [addW, List.map_cons, List.mem_cons, ← addW_none (row := t)]
    cases h1 : w n with
    | none => simp
    | some a =>
      cases h2 : addW w t with
      | none => simp
      | some b => simp
theorem addW_some {w : Wt} : ∀ {row : List Str} {s : Nat}, addW w row = some s → ∃ ns : List Int, (row.map w).map optV = ns.map V.int ∧ ns.sum = (s : Int)
  | [], s, e => ⟨[], rfl, by rw [← Option.some.inj e]; rfl⟩
  | n :: t, s, e => by
    rw [addW] at e
    cases h1 : w n with
    | none => rw [h1] at e; cases e
    | some a =>
      cases h2 : addW w t with
      | none => rw [h1, h2] at e; cases e
      | some b =>
        rw [h1, h2] at e
        have e := Option.some.inj e
        obtain ⟨ns, e1, e2⟩ := addW_some h2
        refine ⟨(a : Int) :: ns, by rw [List.map_cons, List.map_cons, h1, e1]; rfl, by rw [List.sum_cons, e2]; omega⟩

/-- names without a norm -/
def endl (names : List Str) (w : Wt) : List Str := names.filter fun n => (w n).isNone
theorem filter_snoc {α : Type} (p : α → Bool) (xs : List α) (x : α) : (xs ++ [x]).filter p = if p x = true then xs.filter p ++ [x] else xs.filter p := by
  rw [List.filter_append, List.filter_cons]
  by_cases c : p x = true
  · rw [if_pos c, if_pos c]; rfl
  · rw [if_neg c, if_neg c, List.filter_nil, List.append_nil]
theorem isNone_dec (o : Option Nat) : decide (optV o = V.non) = o.isNone := by
  cases o with
  | none => simp [optV]
  | some k => simp [optV]
theorem addW_perm {w : Wt} {xs ys : List Str} (h : xs.Perm ys) : addW w xs = addW w ys := by
  induction h with
  | nil => rfl
  | cons x _ ih => rw [addW, addW, ih]
  | swap x y l =>
    rw [addW, addW, addW, addW]
    cases w x <;> cases w y <;> cases addW w l <;> simp
    omega
  | trans _ _ h1 h2 => exact h1.trans h2

/-! ### the law's own weighing: no weight comes near its limit -/
def WAt (kvs : List (Key × V)) (w : Wt) : Prop := ∀ n : Str, valV kvs (Sum.inr n : Key) = (w n).map fun k => V.int (k : Int)
def cntA (names : List Str) (w : Wt) : Nat := (names.filter fun n => (w n).isSome).length
def Bd (names : List Str) (w : Wt) : Prop := ∀ n v, w n = some v → v ≤ 4 ^ cntA names w
theorem addW_le {w : Wt} {B : Nat} (h : ∀ n v, w n = some v → v ≤ B) : ∀ {row : List Str} {s : Nat}, addW w row = some s → s ≤ row.length * B
  | [], s, e => by rw [← Option.some.inj e]; exact Nat.zero_le _
  | n :: t, s, e => by
    rw [addW] at e
    cases h1 : w n with
    | none => rw [h1] at e; cases e
    | some a =>
      cases h2 : addW w t with
      | none => rw [h1, h2] at e; cases e
      | some b =>
        rw [h1, h2] at e
        have e := Option.some.inj e
        have h3 := h n a h1
        have h4 := addW_le h h2
        rw [List.length_cons, Nat.succ_mul]
        omega
theorem cntA_le (names : List Str) (w : Wt) : cntA names w ≤ names.length := List.length_filter_le _ _
theorem bd_sum {names : List Str} {w : Wt} (b : Bd names w) {row : List Str} {s : Nat} (hr : row.length ≤ 3) (h : addW w row = some s) : s ≤ 3 * 4 ^ cntA names w := by
  have := addW_le b h
  exact Nat.le_trans this (Nat.mul_le_mul_right _ hr)
theorem pow_le_big {k : Nat} (h : k ≤ 6) : 4 ^ k ≤ 4096 := Nat.le_trans (Nat.pow_le_pow_right (by decide) h) (by decide)
theorem relax_bd {names : List Str} {w : Wt} (b : Bd names w) {e : Edge} (he : e.1 ∈ names) (hr : e.2.length ≤ 3) : Bd names (relax w e) := by
  unfold relax
  cases h : addW w e.2 with
  | none => exact b
  | some s =>
    have hs := bd_sum b hr h
    simp only
    cases h2 : w e.1 with
    | none =>
      simp only
      have hlt : cntA names w < cntA names (fun m => if m = e.1 then some (s + 1) else w m) := by
        refine filter_lt (a := e.1) (fun x _ hx => ?_) he (by simp) (by rw [h2]; rfl)
        simp only
        split
        · rfl
        · exact hx
      have hpow : 4 ^ (cntA names w + 1) ≤ 4 ^ cntA names (fun m => if m = e.1 then some (s + 1) else w m) := Nat.pow_le_pow_right (by decide) hlt
      have h1 : 1 ≤ 4 ^ cntA names w := Nat.pow_pos (by decide)
      rw [Nat.pow_succ] at hpow
      intro n v hv
      simp only at hv
      split at hv
      · have := Option.some.inj hv
        omega
      · have := b n v hv
        omega
    | some x =>
      simp only
      by_cases c : s + 1 < x
      · rw [if_pos c]
        have hc : cntA names (fun m => if m = e.1 then some (s + 1) else w m) = cntA names w := by
          unfold cntA
          congr 1
          refine List.filter_congr fun m _ => ?_
          simp only
          by_cases cm : m = e.1
          · rw [if_pos cm, cm, h2]; rfl
          · rw [if_neg cm]
        intro n v hv
        rw [hc]
        simp only at hv
        split at hv
        · have := Option.some.inj hv
          have := b _ _ h2
          omega
        · exact b n v hv
      · rw [if_neg c]
        exact b
theorem fold_bd {names : List Str} : ∀ {F : List Edge} {w : Wt}, Bd names w → (∀ e ∈ F, e.1 ∈ names ∧ e.2.length ≤ 3) → Bd names (F.foldl relax w)
  | [], _, b, _ => b
  | f :: F, w, b, h => fold_bd (F := F) (relax_bd b (h f List.mem_cons_self).1 (h f List.mem_cons_self).2) fun e he => h e (List.mem_cons_of_mem _ he)
theorem rounds_bd {names : List Str} {E : List Edge} (h : ∀ e ∈ E, e.1 ∈ names ∧ e.2.length ≤ 3) : ∀ t, Bd names (rounds E t)
  | 0 => fun n v e => by cases e
  | t + 1 => fold_bd (rounds_bd h t) h
theorem edR_take (rs : List Rule) (i : Nat) : edR (rs.take i) = (edR rs).take i := by unfold edR; rw [List.map_take]
/-- names of a row without a weight -/
theorem lacks_nil {w : Wt} {row : List Str} : row.filter (fun x => (w x).isNone) = [] ↔ addW w row ≠ none := by
  rw [List.filter_eq_nil_iff, ne_eq, addW_none, List.mem_map]
  constructor
  · rintro h ⟨x, hx, e⟩
    exact h x hx (by rw [e]; rfl)
  · intro h x hx e
    exact h ⟨x, hx, by simpa using e⟩
theorem WAt.put {kvs : List (Key × V)} {w : Wt} (h : WAt kvs w) (n : Str) (s : Nat) : WAt (putK kvs (Sum.inr n : Key) (.int (s : Int))) (fun m => if m = n then some s else w m) := fun m => by
  rw [valV_put]
  by_cases c : m = n
  · rw [if_pos (by rw [c])]; simp only; rw [if_pos c]; rfl
  · rw [if_neg (fun z => c (Sum.inr.inj z))]; simp only; rw [if_neg c]; exact h m
/-- what the law writes is the round's weight -/
theorem relax_min {w : Wt} {e : Edge} {s : Nat} (h : addW w e.2 = some s) : relax w e = fun m => if m = e.1 then some (match w e.1 with
    | none => s + 1
    | some v => if s + 1 < v then s + 1 else v) else w m := by
  unfold relax
  rw [h]
  simp only
  cases h2 : w e.1 with
  | none => rfl
  | some v =>
    simp only
    by_cases c : s + 1 < v
    · rw [if_pos c, if_pos c]
    · rw [if_neg c, if_neg c]
      funext m
      by_cases cm : m = e.1
      · rw [if_pos cm, cm, h2]
      · rw [if_neg cm]
end SG
/-! sorted(d.keys()), d of texts -/
namespace SG
open PySem PySem.Spec PyProof.Rows L2
section
variable {X : Cx}
def tSortedKeys (ta : TE) : TE := fun σ H Q => ta σ H fun x H1 => ∃ (a : Addr) (kvs : List (Key × V)) (ks : List Str), x = .ref a ∧ H1 a = some (.dK kvs) ∧ kvs.map (·.1) = ks.map Sum.inr ∧ ks.length < 64 ∧
    ∀ ys p, ys.Perm ks → sortedS ys = true → H1 p = none → Q (.ref p) (upd H1 p (.lst (ys.map V.str)))
theorem pe_sortedKeys {a : Expr} {ta : TE} {p apos q pos : Pos} (hg : Gl X "sorted") (hm : X.mg "sorted" = none) (ha : PE X a ta) (hc : X.calm = true := by rfl)
    (hbase : attributeBase a "keys" X.env (eval a X.env) = eval a X.env := by rfl) (hline : (apos.endLine == q.line) = true := by rfl) : PE X (.Call (.Name "sorted" p) [.Call (.Attribute a "keys" apos) [] [] q] [] pos) (tSortedKeys ta) := by
  refine ⟨fun pins s σ H Q I h => ?_⟩
  refine Call_ (ld_blt I hg hm boot_sorted ?_)
  refine PyProof.Rows.callWith_builtin1 (PyProof.Rows.args_cons ?_ rfl) rfl rfl
  refine wpAny_Call_method (T := "dict") (id := "dict.keys") hbase rfl hline F.plainAttrs_dict F.slot_dict_keys F.type_dict_keys (thn (ha.run pins s σ H _ I h) fun u s1 ⟨x, H1, I1, rx, d, kvs, ks, ex, hd, hks, h64, k⟩ => ?_)
  subst ex
  obtain rfl : u = Value.ref d := rx
  obtain ⟨z, lo, vs, rel, dd⟩ := dk_of I1.hok hd
  refine ⟨dd.typeIs, dd.mapOf.noDict, ?_⟩
  have I2 : Inv X pins σ H1 { s1 with heap := s1.heap.push { cls := .type "dict_keys", data := .fields #[.ref d] } } := I1.kept (t' := s1.toks) fun b ob q => Heap.get?_push_of_some _ q
  have hview : (s1.heap.push { cls := .type "dict_keys", data := .fields #[.ref d] }).get? s1.heap.objs.size = some { cls := .type "dict_keys", data := .fields #[.ref d] } := Heap.get?_push_size _ rfl
  show wpAny _ _ (callWith _ (.builtin "dict.keys") [.ref d] [] []) _ X.xe s1
  refine method_meetsIn F.slot_dict_keys F.entry_dict_keys rfl (PySem.evalArgs_none ⟨rfl, dd.typeIs, F.args_dict_keys_1 _, _, PySem.W.kdl_meets_keys (mixKind X.prog X.w) d lo, ⟨vs, dd⟩, ?_⟩)
  refine PyProof.Rows.args_nil ?_
  generalize hs2 : ({ s1 with heap := s1.heap.push { cls := .type "dict_keys", data := .fields #[.ref d] } } : Shared) = s2 at I2 ⊢
  have hview2 : s2.heap.get? s1.heap.objs.size = some { cls := .type "dict_keys", data := .fields #[.ref d] } := by rw [← hs2]; exact hview
  clear rel dd
  obtain ⟨z, lo, vs, rel, dd⟩ := dk_of I2.hok hd
  obtain ⟨ep, hat⟩ := dd.dictAt
  have hkeys : vs.map (·.1) = ks.map Sum.inr := rel.keys.symm.trans hks
  have hl : vs.length = ks.length := by
    have e := congrArg List.length hkeys
    rw [List.length_map, List.length_map] at e
    exact e
  have h16 : vs.length ≤ sizeLine := by rw [hl, sizeLine_eq]; omega
  refine Calls.call_function_entry PyProof.Rows.kind_sorted PyProof.Rows.plain_sorted PyProof.Rows.entry_sorted (PyProof.Rows.args_sorted1 _) ?_
  unfold Builtin.«sorted»
  refine wpAny_bind (m := checkCount "sorted" 1 1 _) (wpAny_pure ?_)
  refine wpAny_bind (PySem.W.kdu_collect (A := X.A.in1) (PySem.W.kdl_keys (knd := mixKind X.prog X.w) (kvs := vs) (ep := ep)) (I2.ok.hd hc) ⟨⟨_, hview2, rfl, rfl⟩, hat⟩ h16 fun h' tk acc hk hacc => ?_)
  have hal : acc.toList.length = ks.length := by rw [Array.length_toList, hacc.1, hl]
  have hS : StrsAre acc.toList ks := strs_at hal fun j v e => by
    obtain ⟨k, x, e1, e2⟩ := hacc.2 j v (by rw [← Array.getElem?_toList]; exact e)
    have e3 : (vs.map (·.1))[j]? = some k := by rw [List.getElem?_map, e1]; all_goals rfl
    rw [hkeys, List.getElem?_map] at e3
    cases e4 : ks[j]? with
    | none => rw [e4] at e3; cases e3
    | some y =>
      rw [e4] at e3
      have e5 : Sum.inr y = k := Option.some.inj e3
      subst e5
      obtain ⟨t, ev⟩ := Value.isStrOf_shape (x := y) (v := v) e2
      exact ⟨y, t, rfl, ev⟩
  have I3 : Inv X pins σ H1 { s2 with heap := h', toks := tk } := I2.kept hk
  refine wpAny_bind (wpAny_newList ?_ (by rw [hal, sizeLine_eq]; omega))
  have hoL : (h'.push (seqObj "list" acc.toList.toArray 0)).get? h'.objs.size = some (seqObj "list" acc.toList.toArray 0) := Heap.get?_push_size _ rfl
  show wpAny _ _ _ _ _ { s2 with heap := h'.push (seqObj "list" acc.toList.toArray 0), toks := tk }
  refine wpAny_bind (wpAny_holding (wpAny_call_entry PyProof.Rows.slot_list_sort ⟨_, hoL, rfl⟩ PyProof.Rows.entry_list_sort
    (list_sort_treeK strKind_oneLt (s := { s2 with heap := h'.push (seqObj "list" acc.toList.toArray 0), toks := tk }) hoL hS.keysOf (fun v₁ v₂ rest e => keyKind_strs (by rw [← e]; exact hS)) (by rw [hal]; exact h64) fun st' hp hs => ⟨_, rfl, ?_⟩)
    (PyProof.Rows.args_list_sort _)))
  obtain ⟨ys, g1, g2, g3⟩ := sorted_out_str hS hp hs
  obtain ⟨e', he'⟩ := PyProof.Rows.sortedHeap_at (vs := acc.toList) (out := (arrOf st').map (·.2)) hoL
  have hlen : (ys.map V.str).length ≤ sizeLine := by
    rw [List.length_map, g2.length_eq]
    exact Nat.le_trans (Nat.le_of_lt h64) (by decide)
  refine wpAny_pure ⟨_, rfl, .ref h'.objs.size, upd H1 h'.objs.size (.lst (ys.map V.str)), I3.laid (t' := tk) (fun b u e => ?_) (Nat.le_refl _)
    (show ObjOk X.prog X.w _ _ _ (.lst (ys.map V.str)) from ⟨hlen, ((arrOf st').map (·.2)).toList, e', vals_of_strs g1, by rw [Array.toArray_toList]; exact he'⟩), rfl, k ys _ g2 g3 (I3.hok.fresh (Nat.le_refl _))⟩
  have hb : b < h'.objs.size := Heap.lt_size e
  rw [PyProof.Rows.sortedHeap_old (Nat.ne_of_lt hb) (by rw [size_push']; exact Nat.lt_succ_of_lt hb)]
  exact Heap.get?_push_of_some _ e
end

theorem risingS_pair : ∀ (r : List Str) (x : Str), risingS x r = true → (x :: r).Pairwise fun a b => decide (a.cps.toList ≤ b.cps.toList) = true
  | [], x, _ => by simp
  | y :: r, x, h => by
    rw [risingS, Bool.and_eq_true] at h
    have h2 := risingS_pair r y h.2
    have hxy : x.cps.toList ≤ y.cps.toList := by
      have h1 := h.1
      rw [PyProof.Rows.ltCps_eq] at h1
      simp only [Bool.not_eq_true', decide_eq_false_iff_not] at h1
      exact List.not_lt.mp h1
    rw [List.pairwise_cons]
    refine ⟨fun z hz => decide_eq_true ?_, h2⟩
    rcases List.mem_cons.mp hz with rfl | hz
    · exact hxy
    · exact List.le_trans hxy (of_decide_eq_true ((List.pairwise_cons.mp h2).1 z hz))
theorem sortedS_ssort {ys ks : List Str} (h : sortedS ys = true) (hp : ys.Perm ks) : ys = ssort ks := by
  have h1 : ys.Pairwise fun a b => decide (a.cps.toList ≤ b.cps.toList) = true := by
    cases ys with
    | nil => exact List.Pairwise.nil
    | cons x r => exact risingS_pair r x h
  exact (hp.trans (ssort_perm ks).symm).eq_of_pairwise (fun _ _ _ _ => sle_anti) h1 (ssort_pair ks)
theorem kvsW_keys (names : List Str) (w : Wt) : (kvsW names w).map (·.1) = names.map Sum.inr := by
  unfold kvsW
  rw [List.map_map]
  rfl

theorem iteNEG {b : Bool} {A B : Prop} (hb : b = false) (h : B) : if b = true then A else B := by rw [if_neg (by rw [hb]; exact Bool.false_ne_true)]; exact h
end SG
/-! the second kind of the laws' draws: a well of numbers -/
namespace SG
open PySem PySem.Spec PyProof.Rows L2
/-- the well at s, drawn from n times at most -/
def WellAt (H : Hp) (s : Addr) (n : Nat) : Prop := ∃ a b c : Int, H s = some (.lst [.int a, .int b, .int c]) ∧ 0 ≤ a ∧ 0 ≤ c ∧ c ≤ (n : Int)
variable {H H' H1 H2 : Hp} {s : Addr} {n m : Nat}
theorem WellAt.mono (h : WellAt H s n) (hm : n ≤ m) : WellAt H s m := by
  obtain ⟨a, b, c, h1, h2, h3, h4⟩ := h
  exact ⟨a, b, c, h1, h2, h3, by omega⟩
theorem WellAt.same (h : WellAt H s n) (e : Same H H') : WellAt H' s n := by
  obtain ⟨a, b, c, h1, r⟩ := h
  exact ⟨a, b, c, e _ _ h1, r⟩
theorem WellAt.some (h : WellAt H s n) : ∃ o, H s = some o := let ⟨_, _, _, h, _⟩ := h; ⟨_, h⟩
theorem WellAt.ne_strs {a : Addr} {ms : List Str} (h : WellAt H s n) (e : H a = Option.some (.lst (ms.map V.str))) : a ≠ s := fun q => by
  obtain ⟨_, _, _, h1, _⟩ := h
  rw [q, h1] at e
  cases ms with
  | nil => cases e
  | cons x r => cases e
theorem WellAt.ne_refs {a : Addr} {ts : List Addr} (h : WellAt H s n) (e : H a = Option.some (.lst (ts.map V.ref))) : a ≠ s := fun q => by
  obtain ⟨_, _, _, h1, _⟩ := h
  rw [q, h1] at e
  cases ts with
  | nil => cases e
  | cons x r => cases e
theorem WellAt.ne_dk {a : Addr} {kvs : List (Key × V)} (h : WellAt H s n) (e : H a = Option.some (.dK kvs)) : a ≠ s := fun q => by
  obtain ⟨_, _, _, h1, _⟩ := h
  rw [q, h1] at e
  cases e
theorem WellAt.ne_tup {a : Addr} {vs : List V} (h : WellAt H s n) (e : H a = Option.some (.tup vs)) : a ≠ s := fun q => by
  obtain ⟨_, _, _, h1, _⟩ := h
  rw [q, h1] at e
  cases e
theorem But.freeW (a : But s H H') (h : WellAt H' s n) {p : Addr} (hp : H' p = none) : H p = none := by
  cases e : H p with
  | none => rfl
  | some o =>
    by_cases n : p = s
    · obtain ⟨o', h⟩ := h.some
      rw [n, h] at hp
      cases hp
    · rw [a p o n e] at hp
      cases hp
theorem WellAt.cell {p : Addr} (h : WellAt H s n) {o : HO} (h0 : WellAt H1 s m) (hp : H1 p = Option.none) : WellAt (upd H p o) s n := by
  obtain ⟨a, b, c, g1, r⟩ := h
  obtain ⟨os, g2⟩ := h0.some
  exact ⟨a, b, c, by rw [upd_ne (ne_of_none g2 hp)]; exact g1, r⟩
def sp_draw : Sp := fun vs H Q _ => ∃ (s : Addr) (k : Int) (n : Nat), vs = [.ref s, .int k] ∧ WellAt H s n ∧ n ≤ 1000000000 ∧ 0 < k ∧ k < 1073741824 ∧ ∀ (j : Int) H', 0 ≤ j → j < k → But s H H' → WellAt H' s (n + 1) → Q (.int j) H'

def sp_cell_at (K : PySem.W.Frag) : Sp := fun vs H Q _ => ∃ (a : Addr) (ns : List Int) (k : Nat), vs = [.ref a, .int k] ∧ SqL K H a (ns.map V.int) ∧ ∀ z : Int, Q (.int z) H
def sp_well : Sp := fun vs H Q _ => ∃ c : Int, vs = [.int c] ∧ ∀ p H', H p = none → Same H H' → WellAt H' p 0 → Q (.ref p) H'
def sp_one : Sp := fun vs H Q _ => ∃ (s a : Addr) (xs : List V) (n : Nat), vs = [.ref s, .ref a] ∧ WellAt H s n ∧ n ≤ 1000000000 ∧ H a = some (.lst xs) ∧ a ≠ s ∧ 0 < xs.length ∧ xs.length ≤ 1000000 ∧ ∀ (v : V) H', v ∈ xs → But s H H' → WellAt H' s (n + 1) → Q v H'
/-- the i-th of the names with a common stem -/
def CalledB (stem : List Nat) (f : Int) (i : Nat) (x : Str) : Prop := x = ⟨(stem ++ [97 + ((f + 5 * (i : Int)) % 12).toNat]).toArray⟩
def NamesB (m : Nat) (xs : List Str) : Prop := xs.length = m ∧ ∃ stem f, stem.length ≤ 5 ∧ Smalls stem ∧ ∀ (i : Nat) x, xs[i]? = some x → CalledB stem f i x
def sp_namesB : Sp := fun vs H Q _ => ∃ (s : Addr) (m n : Nat), vs = [.ref s, .int m] ∧ m ≤ 12 ∧ WellAt H s n ∧ n ≤ 100000000 ∧ ∀ p H' (xs : List Str), H p = none → But s H H' → WellAt H' s (n + 10) → H' p = some (.lst (xs.map V.str)) → NamesB m xs → Q (.ref p) H'
/-- letters of one sign each, unlike -/
def SignB (f : Int) (i : Nat) (x : Str) : Prop := x = ⟨#[97 + ((f + 5 * (i : Int)) % 26).toNat]⟩
def SignsB (m : Nat) (xs : List Str) : Prop := xs.length = m ∧ ∃ f, ∀ (i : Nat) x, xs[i]? = some x → SignB f i x
def sp_signsB : Sp := fun vs H Q _ => ∃ (s : Addr) (m n : Nat), vs = [.ref s, .int m] ∧ m ≤ 26 ∧ WellAt H s n ∧ n ≤ 100000000 ∧ ∀ p H' (xs : List Str), H p = none → But s H H' → WellAt H' s (n + 1) → H' p = some (.lst (xs.map V.str)) → SignsB m xs → Q (.ref p) H'
def sp_mixed : Sp := fun vs H Q _ => ∃ (s a : Addr) (xs : List V) (n : Nat), vs = [.ref s, .ref a] ∧ WellAt H s n ∧ n ≤ 100000000 ∧ H a = some (.lst xs) ∧ a ≠ s ∧ xs.length ≤ 1000 ∧ ∀ p H' (ys : List V), H p = none → But s H H' → WellAt H' s (n + xs.length) → H' p = some (.lst ys) → ys.Perm xs → Q (.ref p) H'
theorem glued_back (y : Str) : ∀ xs : List Str, xs ≠ [] → (Str.join "" (xs ++ [y])).cps.toList = (Str.join "" xs).cps.toList ++ y.cps.toList
  | [], h => absurd rfl h
  | [x], _ => by
    show (x ++ ("" : Str) ++ y).cps.toList = _
    show (x.cps ++ ("" : Str).cps ++ y.cps).toList = x.cps.toList ++ y.cps.toList
    rw [show ("" : Str).cps = #[] from by decide +kernel]
    simp
  | x :: z :: r, _ => by
    have ih := glued_back y (z :: r) (by simp)
    show (x.cps ++ ("" : Str).cps ++ (Str.join "" ((z :: r) ++ [y])).cps).toList = (x.cps ++ ("" : Str).cps ++ (Str.join "" (z :: r)).cps).toList ++ y.cps.toList
    rw [Array.toList_append, ih]
    simp
theorem join_one_signs (ls : List Nat) : Str.join "" (ls.map fun c => (⟨#[c]⟩ : Str)) = ⟨ls.toArray⟩ := by
  refine list_snoc_ind (P := fun ls => Str.join "" (ls.map fun c => (⟨#[c]⟩ : Str)) = ⟨ls.toArray⟩) rfl (fun xs x ih => ?_) ls
  rw [List.map_append, List.map_singleton]
  by_cases c : xs = []
  · rw [c]; rfl
  · have h := glued_back (⟨#[x]⟩ : Str) (xs.map fun c => (⟨#[c]⟩ : Str)) (by simpa using c)
    rw [ih] at h
    refine PySem.W.str_of_cps ?_
    rw [h]
theorem abc12 : (("abcdefghijkl" : Str)).cps.toList = (List.range 12).map (97 + ·) := by decide +kernel
theorem letter12_at {i : Int} (h0 : 0 ≤ i) (h1 : i < 12) : atI (("abcdefghijkl" : Str)).cps.toList i = some (97 + i.toNat) := by
  rw [atI_eq h0 (by rw [abc12]; simpa using h1), abc12, List.getElem?_map, List.getElem?_range (by omega)]
  rfl
theorem CalledB.inj {stem : List Nat} {f : Int} {i j : Nat} {x : Str} (hi : i < 12) (hj : j < 12) (h : CalledB stem f i x) (h' : CalledB stem f j x) : i = j := by
  unfold CalledB at h h'
  rw [h] at h'
  have e2 : stem ++ [97 + ((f + 5 * (i : Int)) % 12).toNat] = stem ++ [97 + ((f + 5 * (j : Int)) % 12).toNat] := by
    have := congrArg (fun z : Str => z.cps.toList) h'
    simpa using this
  have e4 := List.append_cancel_left e2
  simp at e4
  omega
theorem NamesB.nd {m : Nat} {xs : List Str} (h : NamesB m xs) (hm : m ≤ 12) : xs.Nodup := by
  obtain ⟨h1, stem, f, _, _, h2⟩ := h
  refine List.pairwise_iff_getElem.mpr fun i j hi hj hij e => ?_
  have h3 : xs[i]? = some xs[j] := by rw [← e]; exact List.getElem?_eq_getElem hi
  have := (h2 i _ h3).inj (by omega) (by omega) (h2 j _ (List.getElem?_eq_getElem hj))
  omega
theorem CalledB.name {stem : List Nat} {f : Int} {i : Nat} {x : Str} (hl : stem.length ≤ 5) (hs : Smalls stem) (h : CalledB stem f i x) : isName x = true ∧ x.length ≤ 6 := by
  unfold CalledB at h
  have h12 : ((f + 5 * (i : Int)) % 12).toNat < 12 := by omega
  generalize ((f + 5 * (i : Int)) % 12).toNat = u at h h12
  subst h
  have h1 : (⟨(stem ++ [97 + u]).toArray⟩ : Str).length = stem.length + 1 := by
    show (stem ++ [97 + u]).toArray.size = _
    simp
  have hs2 : Smalls (stem ++ [97 + u]) := fun c hc => by
    rcases List.mem_append.mp hc with hc | hc
    · exact hs c hc
    · rw [List.mem_singleton.mp hc]; omega
  have hne : (⟨(stem ++ [97 + u]).toArray⟩ : Str) ≠ ("names" : Str) := fun e => by
    have e2 : stem ++ [97 + u] = ("names" : Str).cps.toList := by rw [← e]
    have e3 : ("names" : Str).cps.toList = [110, 97, 109, 101] ++ [115] := by decide +kernel
    rw [e3] at e2
    have e4 := (List.append_inj' e2 rfl).2
    simp at e4
    omega
  unfold isName
  simp only [Bool.and_eq_true, decide_eq_true_eq]
  exact ⟨⟨⟨⟨by omega, by omega⟩, small_list hs2⟩, hne⟩, by omega⟩
theorem NamesB.names {m : Nat} {xs : List Str} (h : NamesB m xs) (h0 : 1 ≤ m) (h6 : m ≤ 6) : areNames xs = true := by
  have hnd := h.nd (by omega)
  obtain ⟨h1, stem, f, hl, hs, h2⟩ := h
  unfold areNames
  simp only [Bool.and_eq_true, decide_eq_true_eq, List.all_eq_true]
  refine ⟨⟨⟨by omega, by omega⟩, hnd⟩, fun x hx => ?_⟩
  obtain ⟨i, hi⟩ := List.mem_iff_getElem?.mp hx
  exact ((h2 i x hi).name hl hs).1
theorem SignsB.ok {m : Nat} {xs : List Str} (h : SignsB m xs) : ∀ x ∈ xs, isLetter x = true := fun x hx => by
  obtain ⟨h1, f, h2⟩ := h
  obtain ⟨i, hi⟩ := List.mem_iff_getElem?.mp hx
  have h3 := h2 i x hi
  unfold SignB at h3
  have h26 : ((f + 5 * (i : Int)) % 26).toNat < 26 := by omega
  generalize ((f + 5 * (i : Int)) % 26).toNat = u at h3 h26
  subst h3
  unfold isLetter
  simp only [Bool.and_eq_true, decide_eq_true_eq]
  exact ⟨rfl, small_list (l := [97 + u]) fun c hc => by rw [List.mem_singleton.mp hc]; omega⟩

/-! ### a grammar drawn from a well -/
structure BuiltB (H H' : Hp) (s nl sg ru : Addr) (names signs : List Str) (rs : List Rule) : Prop where
  bt : But s H H'
  nm : H' nl = some (.lst (names.map V.str))
  sn : H' sg = some (.lst (signs.map V.str))
  tr : ∃ ts : List Addr, H' ru = some (.lst (ts.map V.ref)) ∧ Paired (TrioF H H') ts rs
variable {nl sg ru : Addr} {names signs : List Str} {rs : List Rule}
theorem BuiltB.same (b : BuiltB H H' s nl sg ru names signs rs) (e : Same H' H2) : BuiltB H H2 s nl sg ru names signs rs := by
  obtain ⟨ts, h1, h2⟩ := b.tr
  exact ⟨b.bt.same e, e _ _ b.nm, e _ _ b.sn, ts, e _ _ h1, Paired.mapP h2 fun _ _ ⟨a, w, c, h3, h4⟩ => ⟨a, w, c, e _ _ h3, e _ _ h4⟩⟩
theorem BuiltB.but (b : BuiltB H H' s nl sg ru names signs rs) (w : WellAt H' s n) (e : But s H' H2) : BuiltB H H2 s nl sg ru names signs rs := by
  obtain ⟨ts, h1, h2⟩ := b.tr
  exact ⟨b.bt.trans e, e _ _ (w.ne_strs b.nm) b.nm, e _ _ (w.ne_strs b.sn) b.sn, ts, e _ _ (w.ne_refs h1) h1, Paired.mapP h2 fun _ _ ⟨a, x, c, h3, h4⟩ => ⟨a, x, c, e _ _ (w.ne_tup h3) h3, e _ _ (w.ne_strs h4) h4⟩⟩
theorem BuiltB.dict (b : BuiltB H H' s nl sg ru names signs rs) {x : Addr} {kvs kvs2 : List (Key × V)} (hx : H' x = some (.dK kvs)) (h0 : H x = none) : BuiltB H (upd H' x (.dK kvs2)) s nl sg ru names signs rs := by
  obtain ⟨ts, h1, h2⟩ := b.tr
  have kp : ∀ (a : Addr) (o : HO), H' a = some o → (∀ q, o ≠ .dK q) → upd H' x (.dK kvs2) a = some o := fun a o h n => by
    rw [upd_ne (fun z => by rw [z, hx] at h; exact n _ (Option.some.inj h).symm)]; exact h
  exact ⟨b.bt.cell h0 _, kp _ _ b.nm fun q z => (by cases z), kp _ _ b.sn fun q z => (by cases z), ts, kp _ _ h1 fun q z => (by cases z), Paired.mapP h2 fun _ _ ⟨a, w, c, h3, h4⟩ => ⟨a, w, c, kp _ _ h3 fun q z => (by cases z), kp _ _ h4 fun q z => (by cases z)⟩⟩
theorem BuiltB.put (b : BuiltB H H' s nl sg ru names signs rs) (hru : H ru = none) (hn : names ≠ []) (hg : signs ≠ []) {ts : List Addr} (hts : H' ru = some (.lst (ts.map V.ref))) {t w : Addr} {r : Rule} (nw : w ≠ ru) (h : TrioF H H' t r) (hw : H' t = some (.tup [.str r.1, .str r.2.1, .ref w])) :
    BuiltB H (upd H' ru (.lst (ts.map V.ref ++ [.ref t]))) s nl sg ru names signs (rs ++ [r]) := by
  obtain ⟨ts', h1, h2⟩ := b.tr
  have ets : ts' = ts := by
    rw [h1] at hts
    exact List.map_inj_right (fun x y q => V.ref.inj q) |>.mp (HO.lst.inj (Option.some.inj hts))
  subst ets
  have nstr : ∀ {a : Addr} {xs : List Str}, H' a = some (.lst (xs.map V.str)) → xs ≠ [] → a ≠ ru := fun {a xs} h3 hx z => by
    rw [z, h1] at h3
    cases xs with
    | nil => exact hx rfl
    | cons x q => cases ts' with
      | nil => cases h3
      | cons t r => cases h3
  have tp : ∀ (a : Addr) (vs : List V), H' a = some (.tup vs) → upd H' ru (.lst (ts'.map V.ref ++ [.ref t])) a = some (.tup vs) := fun a vs h => by
    rw [upd_ne (fun z => by rw [z, h1] at h; cases h)]; exact h
  have h3 : Paired (TrioF H (upd H' ru (.lst (ts'.map V.ref ++ [.ref t])))) ts' rs := by
    by_cases ce : ts' = []
    · rw [ce] at h2
      rw [ce]
      cases h2
      exact .nil
    · refine Paired.mapP h2 fun t' r' ⟨a, w', c, h3, h4⟩ => ⟨a, w', c, tp _ _ h3, ?_⟩
      rw [upd_ne]
      · exact h4
      · intro z
        rw [z, h1] at h4
        exact ce (strs_refs (Option.some.inj h4).symm)
  obtain ⟨a, w', c, h4, h5⟩ := h
  have ew : w' = w := by
    rw [hw] at h4
    have := HO.tup.inj (Option.some.inj h4)
    simp at this
    exact this.symm
  subst ew
  refine ⟨b.bt.cell hru _, by rw [upd_ne (nstr b.nm hn)]; exact b.nm, by rw [upd_ne (nstr b.sn hg)]; exact b.sn, ts' ++ [t], by rw [upd_same, List.map_append]; rfl, ?_⟩
  exact paired_app (F := TrioF H _) ⟨a, w', c, tp _ _ h4, by rw [upd_ne nw]; exact h5⟩ h3
/-- no two rules of a name by one letter -/
def PlainR (rs : List Rule) : Prop := ∀ n, ((rulesOf rs n).map (·.1)).Nodup
theorem PlainR.put {rs : List Rule} (h : PlainR rs) {r : Rule} (hr : r.2.1 ∉ (rulesOf rs r.1).map (·.1)) : PlainR (rs ++ [r]) := fun n => by
  rw [rulesOf_snoc]
  by_cases c : r.1 = n
  · rw [if_pos c, List.map_append, List.nodup_append]
    refine ⟨h n, by simp, fun a ha b hb e => hr ?_⟩
    rw [c, ← (List.mem_singleton.mp hb : b = r.2.1), ← e]
    exact ha
  · rw [if_neg c]
    exact h n
/-- every name comes to an end -/
def EndsR (names : List Str) (rs : List Rule) : Prop := ∀ x ∈ names, ∃ v, Der (edR rs) x v
theorem Der.more {E E' : List Edge} (h : ∀ e, e ∈ E → e ∈ E') {n : Str} {v : Nat} (d : Der E n v) : Der E' n v := let ⟨k, d⟩ := d; ⟨k, d.sub h⟩
theorem edR_more {rs : List Rule} {r : Rule} : ∀ e, e ∈ edR rs → e ∈ edR (rs ++ [r]) := fun e he => by
  unfold edR at *
  rw [List.map_append]
  exact List.mem_append_left _ he
theorem EndsR.row {names : List Str} {rs : List Rule} (h : EndsR names rs) : ∀ {row : List Str}, (∀ x ∈ row, x ∈ names) → ∃ k, ∃ vs : List Nat, vs.length = row.length ∧ ∀ p ∈ row.zip vs, Dv (edR rs) k p.1 p.2
  | [], _ => ⟨0, [], rfl, fun p hp => by cases hp⟩
  | x :: t, hx => by
    obtain ⟨k, vs, hl, hd⟩ := EndsR.row h (row := t) fun y hy => hx y (List.mem_cons_of_mem _ hy)
    obtain ⟨v, k2, d⟩ := h x (hx x List.mem_cons_self)
    refine ⟨max k k2, v :: vs, by simp [hl], fun p hp => ?_⟩
    rw [List.zip_cons_cons] at hp
    rcases List.mem_cons.mp hp with rfl | hp
    · exact d.mono (Nat.le_max_right _ _)
    · exact (hd p hp).mono (Nat.le_max_left _ _)
theorem EndsR.put {names : List Str} {rs : List Rule} (h : EndsR names rs) {r : Rule} (hr : ∀ x ∈ r.2.2, x ∈ names) : EndsR (names ++ [r.1]) (rs ++ [r]) := fun x hx => by
  rcases List.mem_append.mp hx with hx | hx
  · obtain ⟨v, d⟩ := h x hx
    exact ⟨v, d.more edR_more⟩
  · rw [List.mem_singleton.mp hx]
    obtain ⟨k, vs, hl, hd⟩ := h.row hr
    refine ⟨_, k + 1, r.2.2, ?_, vs, hl, fun p hp => (hd p hp).sub edR_more, rfl⟩
    unfold edR
    rw [List.map_append]
    exact List.mem_append_right _ List.mem_cons_self
theorem EndsR.more {names : List Str} {rs : List Rule} (h : EndsR names rs) (r : Rule) : EndsR names (rs ++ [r]) := fun x hx => by
  obtain ⟨v, d⟩ := h x hx
  exact ⟨v, d.more edR_more⟩
theorem okL {names signs : List Str} {rs : List Rule} (sok : ∀ x ∈ signs, isLetter x = true) (h : ∀ r ∈ rs, r.1 ∈ names ∧ r.2.1 ∈ signs ∧ r.2.2.length ≤ 3 ∧ ∀ x ∈ r.2.2, x ∈ names) : ∀ r ∈ rs, r.1 ∈ names ∧ isLetter r.2.1 = true ∧ r.2.2.length ≤ 3 ∧ ∀ x ∈ r.2.2, x ∈ names := fun r hr => let ⟨a, b, c, d⟩ := h r hr; ⟨a, sok _ b, c, d⟩
def sp_rulesB : Sp := fun vs H Q _ => ∃ (s nl sg : Addr) (plain : Bool) (most : Int) (names signs : List Str) (n : Nat), vs = [.ref s, .ref nl, .ref sg, .bl plain, .int most] ∧ WellAt H s n ∧ n ≤ 10000000 ∧ H nl = some (.lst (names.map V.str)) ∧ H sg = some (.lst (signs.map V.str)) ∧ names.Nodup ∧ 1 ≤ names.length ∧ names.length ≤ 6 ∧ signs ≠ [] ∧ signs.length ≤ 100 ∧ (∀ x ∈ signs, isLetter x = true) ∧
  ∀ p ru kn H' (rs : List Rule), But s H H' → WellAt H' s (n + 1000) → H p = none → H ru = none → H kn = none → H' p = some (.tup [.ref ru, .ref kn]) → (∃ ts : List Addr, H' ru = some (.lst (ts.map V.ref)) ∧ Paired (TrioF H H') ts rs) → (∃ kvs, H' kn = some (.dK kvs)) → GoodR names rs → (plain = true → PlainR rs) → EndsR names rs → rs.length ≤ 24 → (∀ r ∈ rs, r.2.1 ∈ signs) → Q (.ref p) H'
end SG
/-! words, in plain words -/
namespace SG
open PySem PySem.Spec PyProof.Rows L2
abbrev Row? := Option (List Str)
/-- the first rule of n by the letter c -/
def byL (rs : List Rule) (n c : Str) : Option Step := (rulesOf rs n).find? fun p => decide (p.1 = c)
def stepL (rs : List Rule) (o : Row?) (c : Str) : Row? := match o with
  | none => none
  | some [] => none
  | some (n :: t) => (byL rs n c).map fun p => p.2 ++ t
def signsOf (z : Str) : List Str := z.cps.toList.map fun c => (⟨#[c]⟩ : Str)
def byLs (rs : List Rule) (o : Row?) (z : Str) : Row? := (signsOf z).foldl (stepL rs) o
theorem signs_len (z : Str) : (signsOf z).length = z.length := by
  unfold signsOf
  rw [List.length_map]
  exact Array.length_toList
theorem signs_at {z : Str} {i c : Nat} (h : z.cps[i]? = some c) : (signsOf z)[i]? = some ⟨#[c]⟩ := by
  unfold signsOf
  rw [List.getElem?_map, Array.getElem?_toList, h]
  rfl
theorem stepL_none (rs : List Rule) : ∀ zs : List Str, zs.foldl (stepL rs) none = none
  | [] => rfl
  | _ :: r => stepL_none rs r
theorem stepL_len {rs : List Rule} (h : ShortR rs) {o : Row?} {c : Str} {k : Nat} (ho : ∀ r, o = some r → r.length ≤ k) : ∀ r, stepL rs o c = some r → r.length ≤ k + 1000 := fun r e => by
  unfold stepL at e
  match o, ho with
  | none, _ => cases e
  | some [], _ => cases e
  | some (n :: t), ho =>
    simp only at e
    cases h1 : byL rs n c with
    | none => rw [h1] at e; cases e
    | some p =>
      rw [h1] at e
      have e := Option.some.inj e
      have hp := h.2 _ (mem_rulesOf.mp (List.mem_of_find?_eq_some h1))
      have ht := ho _ rfl
      simp at hp ht
      rw [← e, List.length_append]
      omega
theorem stepL_in {names : List Str} {rs : List Rule} (h : ∀ r ∈ rs, ∀ x ∈ r.2.2, x ∈ names) {o : Row?} {c : Str} (ho : ∀ r, o = some r → ∀ x ∈ r, x ∈ names) : ∀ r, stepL rs o c = some r → ∀ x ∈ r, x ∈ names := fun r e => by
  unfold stepL at e
  match o, ho with
  | none, _ => cases e
  | some [], _ => cases e
  | some (n :: t), ho =>
    simp only at e
    cases h1 : byL rs n c with
    | none => rw [h1] at e; cases e
    | some p =>
      rw [h1] at e
      have e := Option.some.inj e
      have hp := h _ (mem_rulesOf.mp (List.mem_of_find?_eq_some h1))
      have ht := ho _ rfl
      intro x hx
      rw [← e] at hx
      rcases List.mem_append.mp hx with hx | hx
      · exact hp x hx
      · exact ht x (List.mem_cons_of_mem _ hx)
/-- None, or a list of names -/
def RowO (H : Hp) (v : V) (o : Row?) : Prop := (v = .non ∧ o = none) ∨ ∃ a row, v = .ref a ∧ o = some row ∧ H a = some (.lst (row.map V.str))
theorem RowO.same {H H' : Hp} {v : V} {o : Row?} (h : RowO H v o) (e : Same H H') : RowO H' v o := by
  rcases h with h | ⟨a, row, h1, h2, h3⟩
  · exact .inl h
  · exact .inr ⟨a, row, h1, h2, e _ _ h3⟩
/-- encoded -/
def eRO : Row? → PyData
  | none => .none
  | some r => eSs r
theorem enc_RO : Enc eRO := fun a b => by
  cases a with
  | none => cases b with
    | none => simp [eRO, PyData.eqv]
    | some y => simp [eRO, eSs, eL, PyData.eqv]
  | some x => cases b with
    | none => simp [eRO, eSs, eL, PyData.eqv]
    | some y =>
      show PyData.eqv (eSs x) (eSs y) = _
      rw [enc_Ss]
      by_cases c : x = y
      · simp [c]
      · simp [c]
theorem dep_RO : Dep eRO 1 := fun a => by
  cases a with
  | none => exact Nat.zero_le _
  | some r => exact dep_Ss r
theorem dp_RO {K : PySem.W.Frag} {H : Hp} {v : V} {o : Row?} (h : RowO H v o) : Dp K H v (eRO o) := by
  rcases h with ⟨rfl, rfl⟩ | ⟨a, row, rfl, rfl, h⟩
  · exact .non
  · exact dp_Ss h
/-- None, or a list of names that H0 does not know -/
def RowF (H0 H : Hp) (v : V) (o : Row?) : Prop := (v = .non ∧ o = none) ∨ ∃ a row, v = .ref a ∧ o = some row ∧ H0 a = none ∧ H a = some (.lst (row.map V.str))
theorem RowF.o {H0 H : Hp} {v : V} {o : Row?} (h : RowF H0 H v o) : RowO H v o := by
  rcases h with h | ⟨a, row, h1, h2, _, h3⟩
  · exact .inl h
  · exact .inr ⟨a, row, h1, h2, h3⟩
theorem RowF.same {H0 H H' : Hp} {v : V} {o : Row?} (h : RowF H0 H v o) (e : Same H H') : RowF H0 H' v o := by
  rcases h with h | ⟨a, row, h1, h2, h3, h4⟩
  · exact .inl h
  · exact .inr ⟨a, row, h1, h2, h3, e _ _ h4⟩
theorem RowF.under {H0 H1 H : Hp} {v : V} {o : Row?} (h : RowF H1 H v o) (e : Same H0 H1) : RowF H0 H v o := by
  rcases h with h | ⟨a, row, h1, h2, h3, h4⟩
  · exact .inl h
  · exact .inr ⟨a, row, h1, h2, e.free h3, h4⟩
/-- its names are known, it is no longer than k -/
def RowK (names : List Str) (k : Nat) (o : Row?) : Prop := ∀ r, o = some r → (∀ x ∈ r, x ∈ names) ∧ r.length ≤ k
theorem RowK.step {names : List Str} {rs : List Rule} {k : Nat} {o : Row?} (h : RowK names k o) (hin : ∀ r ∈ rs, r.1 ∈ names ∧ ∀ x ∈ r.2.2, x ∈ names) (hs : ShortR rs) (c : Str) : RowK names (k + 1000) (stepL rs o c) := fun r e =>
  ⟨stepL_in (fun r hr => (hin r hr).2) (fun r e => (h r e).1) r e, stepL_len hs (fun r e => (h r e).2) r e⟩
/-- twice by a letter -/
def twiceL (names : List Str) (rs : List Rule) : List Str := names.filter fun n => decide ((once ((rulesOf rs n).map (·.1))).length < ((rulesOf rs n).map (·.1)).length)
theorem twiceL_plain {names : List Str} {rs : List Rule} (h : PlainR rs) : twiceL names rs = [] := by
  unfold twiceL
  rw [List.filter_eq_nil_iff]
  intro n _ hc
  have h1 := (once_nodup ((rulesOf rs n).map (·.1))).mpr (h n)
  have := of_decide_eq_true hc
  omega
theorem endl_ends {names : List Str} {rs : List Rule} (h : EndsR names rs) : endl names (normW rs) = [] := by
  unfold endl
  rw [List.filter_eq_nil_iff]
  intro n hn hc
  obtain ⟨v, d⟩ := h n hn
  obtain ⟨u, e, _⟩ := muW_of d
  unfold normW at hc
  rw [e] at hc
  cases hc
/-! ### the law's own walk -/
def matchL (n c : Str) (r : Rule) : Bool := decide (r.1 = n) && decide (r.2.1 = c)
def someL (rs : List Rule) (row : List Str) (c : Str) : List (List Str) := match row with
  | [] => []
  | n :: t => (rs.filter (matchL n c)).map fun r => r.2.2 ++ t
theorem someL_nil (rs : List Rule) (c : Str) : someL rs [] c = [] := rfl
theorem someL_yes {rs : List Rule} {r : Rule} {n c : Str} (t : List Str) (h1 : r.1 = n) (h2 : r.2.1 = c) : someL (rs ++ [r]) (n :: t) c = someL rs (n :: t) c ++ [r.2.2 ++ t] := by
  unfold someL
  simp only
  rw [List.filter_append, List.map_append]
  congr 1
  rw [List.filter_cons_of_pos (by unfold matchL; simp [h1, h2])]
  rfl
theorem someL_no {rs : List Rule} {r : Rule} {n c : Str} (t : List Str) (h : ¬ (r.1 = n ∧ r.2.1 = c)) : someL (rs ++ [r]) (n :: t) c = someL rs (n :: t) c := by
  unfold someL
  simp only
  rw [List.filter_append, List.filter_cons_of_neg (by unfold matchL; simpa using h), List.filter_nil, List.append_nil]
theorem someL_step (rs : List Rule) (row : List Str) (c : Str) : stepL rs (some row) c = (someL rs row c).head? := by
  cases row with
  | nil => rfl
  | cons n t =>
    unfold stepL someL byL rulesOf
    simp only
    rw [List.head?_map, List.head?_filter, List.find?_map, List.find?_filter, Option.map_map]
    have e : (fun a : Rule => decide (decide (a.1 = n) = true ∧ ((fun p : Step => decide (p.1 = c)) ∘ fun x : Rule => x.2) a = true)) = matchL n c := by
      funext a
      unfold matchL
      simp
    rw [e]
    rfl
theorem someL_len (rs : List Rule) (row : List Str) (c : Str) : (someL rs row c).length ≤ rs.length := by
  cases row with
  | nil => exact Nat.zero_le _
  | cons n t =>
    unfold someL
    simp only
    rw [List.length_map]
    exact List.length_filter_le _ _
theorem byLs_dead {rs : List Rule} {o : Row?} {z : Str} {i c : Nat} {r : List Str} (h : ((signsOf z).take i).foldl (stepL rs) o = some r) (hc : z.cps[i]? = some c) (h2 : stepL rs (some r) ⟨#[c]⟩ = none) : byLs rs o z = none := by
  unfold byLs
  have h3 := signs_at hc
  have h4 : (signsOf z).drop i = ⟨#[c]⟩ :: (signsOf z).drop (i + 1) := by
    obtain ⟨hl, hx⟩ := List.getElem?_eq_some_iff.mp h3
    rw [List.drop_eq_getElem_cons hl, hx]
  rw [← List.take_append_drop i (signsOf z), List.foldl_append, h, h4, List.foldl_cons, h2]
  exact stepL_none rs _
theorem dp_lists {K : PySem.W.Frag} {H : Hp} {D : Addr} {us : List Addr} {rows : List (List Str)} (h : H D = some (.lst (us.map V.ref))) (hp : Paired (fun u (r : List Str) => H u = some (.lst (r.map V.str))) us rows) : Dp K H (.ref D) (eL eSs rows) :=
  .lst (SqL.of h) (dpAll_paired (e := eSs) (fun _ _ => dp_Ss) hp)
theorem enc_Rows : Enc (eL eSs) := enc_L enc_Ss
theorem dep_Rows : Dep (eL eSs) 2 := dep_L dep_Ss
theorem RowO.but {H H' : Hp} {s : Addr} {n : Nat} {v : V} {o : Row?} (h : RowO H v o) (w : WellAt H s n) (b : But s H H') : RowO H' v o := by
  rcases h with h | ⟨a, row, h1, h2, h3⟩
  · exact .inl h
  · exact .inr ⟨a, row, h1, h2, b _ _ (w.ne_strs h3) h3⟩
theorem trios_but {H H' : Hp} {s l : Addr} {n : Nat} {rs : List Rule} (h : TriosAt H l rs) (w : WellAt H s n) (b : But s H H') : TriosAt H' l rs := by
  obtain ⟨ts, h1, h2⟩ := h
  exact ⟨ts, b _ _ (w.ne_refs h1) h1, Paired.mapP h2 fun _ _ ⟨x, h3, h4⟩ => ⟨x, b _ _ (w.ne_tup h3) h3, b _ _ (w.ne_strs h4) h4⟩⟩
theorem rowO_none {H : Hp} {v : V} {o : Row?} (h : RowO H v o) : decide (v = V.non) = decide (o = none) := by
  rcases h with ⟨rfl, rfl⟩ | ⟨a, row, rfl, rfl, _⟩
  · rfl
  · rw [decide_eq_false (fun e => by cases e), decide_eq_false (fun e => by cases e)]
theorem ends_rules {names : List Str} {rs : List Rule} (h : EndsR names rs) {n : Str} (hn : n ∈ names) : rulesOf rs n ≠ [] := by
  obtain ⟨v, k, d⟩ := h n hn
  cases k with
  | zero => exact d.elim
  | succ k =>
    obtain ⟨row, hr, _⟩ := d
    unfold edR at hr
    obtain ⟨r, hr1, hr2⟩ := List.mem_map.mp hr
    intro e
    have e1 : r.1 = n := congrArg Prod.fst hr2
    have : r.2 ∈ rulesOf rs n := mem_rulesOf.mpr (by rw [← e1]; exact hr1)
    rw [e] at this
    cases this
/-- a list of texts, turned about -/
def unS : V → Str
  | .str x => x
  | _ => ""
theorem perm_strs {ys : List V} {xs : List Str} (h : ys.Perm (xs.map V.str)) : ∃ zs : List Str, ys = zs.map V.str ∧ zs.Perm xs := by
  refine ⟨ys.map unS, ?_, ?_⟩
  · rw [List.map_map]
    have : ∀ y ∈ ys, (V.str ∘ unS) y = y := fun y hy => by
      obtain ⟨x, _, rfl⟩ := List.mem_map.mp (h.mem_iff.mp hy)
      rfl
    exact (List.map_congr_left this).trans (List.map_id _) |>.symm
  · have := h.map unS
    rw [List.map_map] at this
    rwa [show (unS ∘ V.str) = id from rfl, List.map_id] at this
theorem byLs1 (rs : List Rule) (o : Row?) {c : Str} (h : c.length = 1) : ∃ d, byLs rs o c = stepL rs o d := by
  have h1 := signs_len c
  rw [h] at h1
  unfold byLs
  match h2 : signsOf c, h1 with
  | [d], _ => exact ⟨d, rfl⟩
theorem GoodR.hin {names : List Str} {rs : List Rule} (h : GoodR names rs) : ∀ r ∈ rs, r.1 ∈ names ∧ ∀ x ∈ r.2.2, x ∈ names := fun r hr => ⟨(h.ok r hr).1, (h.ok r hr).2.2.2⟩
theorem WellAt.ne_ins {H : Hp} {s a : Addr} {n : Nat} {C dx : Addr} {fs : List (Str × V)} (h : WellAt H s n) (e : H a = Option.some (HO.ins C dx fs)) : a ≠ s := fun q => by
  obtain ⟨_, _, _, h1, _⟩ := h
  rw [q, h1] at e
  cases e
theorem GramAt.but {C : Addr} {H H' : Hp} {g s : Addr} {n : Nat} {names : List Str} {rs : List Rule} (h : GramAt C H g names rs) (w : WellAt H s n) (b : But s H H') : GramAt C H' g names rs := by
  obtain ⟨dx, kn, st, od, ls, h1, h2, h3, h4⟩ := h.ex
  refine ⟨dx, kn, st, od, ls, b _ _ (w.ne_ins h1) h1, b _ _ (w.ne_strs h2) h2, ⟨b _ _ (w.ne_dk h3.1) h3.1, Paired.mapP h3.2.1 fun _ _ ⟨ts, h5, h6⟩ => ⟨ts, b _ _ (w.ne_refs h5) h5, Paired.mapP h6 fun _ _ ⟨x, h7, h8⟩ => ⟨x, b _ _ (w.ne_tup h7) h7, b _ _ (w.ne_strs h8) h8⟩⟩, h3.2.2⟩, b _ _ (w.ne_strs h4) h4⟩
theorem areNames_nd {xs : List Str} (e : areNames xs = true) : xs.Nodup := by
  unfold areNames at e
  simp only [Bool.and_eq_true, decide_eq_true_eq] at e
  exact e.1.2
theorem areNames_l6 {xs : List Str} (e : areNames xs = true) : xs.length ≤ 6 := by
  unfold areNames at e
  simp only [Bool.and_eq_true, decide_eq_true_eq] at e
  exact e.1.1.2
theorem GoodR.short {names : List Str} {rs : List Rule} (h : GoodR names rs) (hl : rs.length ≤ 100) : ShortR rs := ⟨hl, fun r hr => by have := (h.ok r hr).2.2.1; omega⟩
end SG
/-! heaps of which a table of code objects grows -/
namespace SG
open PySem PySem.Spec PyProof.Rows L2 LamX
/-- no object, or a table -/
def FreeN (H : Hp) (p : Addr) : Prop := ∀ o, H p = some o → ∃ ps, o = .tbl ps
theorem _root_.LamX.ExtN.fr {H H' : Hp} (e : ExtN H H') {p : Addr} (h : H' p = none) : FreeN H p := fun o ho => by
  cases o with
  | tbl ps => exact ⟨ps, rfl⟩
  | _ => rw [e _ _ ho fun ps z => by cases z] at h; cases h
theorem FreeN.of {H : Hp} {p : Addr} (h : H p = none) : FreeN H p := fun o ho => by rw [h] at ho; cases ho
theorem _root_.LamX.ExtN.same {H H1 H2 : Hp} (a : ExtN H H1) (b : Same H1 H2) : ExtN H H2 := fun x o h n => b _ _ (a x o h n)
theorem extN_same {H H' : Hp} (b : Same H H') : ExtN H H' := fun x o h _ => b _ _ h
theorem _root_.LamX.ExtN.mut {H H' : Hp} {p : Addr} (e : ExtN H H') (f : FreeN H p) (u : HO) : ExtN H (upd H' p u) := fun a o h n => by
  rw [upd_ne (fun z => by obtain ⟨ps, q⟩ := f o (z ▸ h); exact n ps q)]
  exact e a o h n
theorem _root_.LamX.ExtN.lst {H H' : Hp} (e : ExtN H H') {a : Addr} {xs : List V} (h : H a = some (.lst xs)) : H' a = some (.lst xs) := e _ _ h fun ps z => by cases z
theorem _root_.LamX.ExtN.tup {H H' : Hp} (e : ExtN H H') {a : Addr} {xs : List V} (h : H a = some (.tup xs)) : H' a = some (.tup xs) := e _ _ h fun ps z => by cases z
theorem _root_.LamX.ExtN.dk {H H' : Hp} (e : ExtN H H') {a : Addr} {xs : List (Key × V)} (h : H a = some (.dK xs)) : H' a = some (.dK xs) := e _ _ h fun ps z => by cases z
theorem _root_.LamX.ExtN.ins {H H' : Hp} (e : ExtN H H') {a C dx : Addr} {fs : List (Str × V)} (h : H a = some (HO.ins C dx fs)) : H' a = some (HO.ins C dx fs) := e _ _ h fun ps z => by cases z
theorem GramAt.ext {C : Addr} {H H' : Hp} {g : Addr} {names : List Str} {rs : List Rule} (h : GramAt C H g names rs) (e : ExtN H H') : GramAt C H' g names rs := by
  obtain ⟨dx, kn, st, od, ls, h1, h2, h3, h4⟩ := h.ex
  exact ⟨dx, kn, st, od, ls, e.ins h1, e.lst h2, ⟨e.dk h3.1, Paired.mapP h3.2.1 fun _ _ ⟨ts, h5, h6⟩ => ⟨ts, e.lst h5, Paired.mapP h6 fun _ _ ⟨x, h7, h8⟩ => ⟨x, e.tup h7, e.lst h8⟩⟩, h3.2.2⟩, e.lst h4⟩
/-- a list is written -/
theorem tabs_lst {T : List (Addr × Str)} {H : Hp} {p : Addr} {xs : List V} (t : Tabs T H) (h : H p = some (.lst xs)) (u : HO) : Tabs T (upd H p u) := fun q hq => by
  obtain ⟨ps, h1, h2, h3⟩ := t q hq
  refine ⟨ps, by rw [upd_ne (fun z => by rw [z, h] at h1; cases h1)]; exact h1, h2, fun pos cv hc => ?_⟩
  obtain ⟨c, e1, e2⟩ := h3 pos cv hc
  refine ⟨c, e1, ?_⟩
  rw [upd_ne (fun z => by
    rw [z, h] at e2
    have e2 := Option.some.inj e2
    unfold CodeO at e2
    cases e2)]
  exact e2
theorem tabs_same {T : List (Addr × Str)} {H H' : Hp} (t : Tabs T H) (e : Same H H') : Tabs T H' := t.ext e
theorem trios_ext {H H' : Hp} {l : Addr} {rs : List Rule} (h : TriosAt H l rs) (e : ExtN H H') : TriosAt H' l rs := by
  obtain ⟨ts, h1, h2⟩ := h
  exact ⟨ts, e.lst h1, Paired.mapP h2 fun _ _ ⟨x, h3, h4⟩ => ⟨x, e.tup h3, e.lst h4⟩⟩
/-- a new list of new rows; a table may have grown -/
def RowsT (H H' : Hp) (p : Addr) (ps : List Step) : Prop := ∃ ts : List Addr, H' p = some (.lst (ts.map V.ref)) ∧ FreeN H p ∧ Paired (RuleAt H') ts ps
theorem RuleAt.ext {H H' : Hp} (e : ExtN H H') {t : Addr} {p : Step} (h : RuleAt H t p) : RuleAt H' t p := by
  obtain ⟨w, h1, h2⟩ := h
  exact ⟨w, e.tup h1, e.lst h2⟩
theorem zip_in {α : Type} {R : Addr → α → Prop} : ∀ {ts : List Addr} {ps : List α}, Paired R ts ps → ∀ {t : Addr} {p : α}, (t, p) ∈ ts.zip ps → R t p
  | _, _, .nil, _, _, h => by cases h
  | _, _, .cons h1 k, _, _, h => by
    rw [List.zip_cons_cons] at h
    rcases List.mem_cons.mp h with h | h
    · cases h
      exact h1
    · exact zip_in k h
theorem zip_refs {α : Type} : ∀ {us : List Addr} {ps : List α} {p : V × α}, p ∈ (us.map V.ref).zip ps → ∃ u, p.1 = V.ref u ∧ (u, p.2) ∈ us.zip ps
  | [], _, _, h => by simp at h
  | _ :: _, [], _, h => by simp at h
  | u :: us, b :: ps, p, h => by
    rw [List.map_cons, List.zip_cons_cons] at h
    rcases List.mem_cons.mp h with rfl | h
    · exact ⟨u, rfl, List.mem_cons_self⟩
    · obtain ⟨v, e, m⟩ := zip_refs h
      exact ⟨v, e, List.mem_cons_of_mem _ m⟩
theorem refs_of {α : Type} {R : Addr → α → Prop} : ∀ {l : List (V × α)}, (∀ p ∈ l, ∃ u, p.1 = V.ref u ∧ R u p.2) → ∃ ts : List Addr, l.map (·.1) = ts.map V.ref ∧ Paired R ts (l.map (·.2))
  | [], _ => ⟨[], rfl, .nil⟩
  | p :: l, h => by
    obtain ⟨ts, e, hp⟩ := refs_of (l := l) fun q hq => h q (List.mem_cons_of_mem _ hq)
    obtain ⟨u, e1, r⟩ := h p List.mem_cons_self
    exact ⟨u :: ts, by rw [List.map_cons, e1, e, List.map_cons], .cons r hp⟩
theorem sKey_rows {α : Type} {R : Addr → α → Prop} {key : α → PyData} {us : List Addr} {ps : List α} (hp : Paired R us ps) : ∃ ts : List Addr, sKey key (us.map V.ref) ps = ts.map V.ref ∧ Paired R ts (ps.mergeSort (PySem.W.dataLe false key)) := by
  have hl := paired_len hp
  have h1 : (((us.map V.ref).zip ps).mergeSort (PySem.W.dataLe false fun p : V × α => key p.2)).map (·.2) = ps.mergeSort (PySem.W.dataLe false key) := by
    have h2 := PySem.W.sort_maps (r := PySem.W.dataLe false (fun p : V × α => key p.2)) (s := PySem.W.dataLe false key) (Prod.snd : V × α → α) (l := (us.map V.ref).zip ps) (fun a _ b _ => rfl)
    rw [List.map_snd_zip (by rw [List.length_map]; omega)] at h2
    exact h2
  obtain ⟨ts, e, h3⟩ := refs_of (R := R) (l := ((us.map V.ref).zip ps).mergeSort (PySem.W.dataLe false fun p : V × α => key p.2)) fun p hpm => by
    obtain ⟨u, e1, m⟩ := zip_refs ((List.mergeSort_perm _ _).mem_iff.mp hpm)
    exact ⟨u, e1, zip_in hp m⟩
  rw [h1] at h3
  exact ⟨ts, e, h3⟩
/-- a def by its body; its code object is told -/
theorem fun_okC {P : Program} {w : World} {K : PySem.W.Frag} {mg : Str → Option Value} {base : Heap} {x qual : Str} {st : Stmt} {f : Addr} {fd : FuncData} {N ps : List Str} {k : Nat} {sp : Sp} (F : Fun K x qual st f fd) (S : FnScope N ps (defScope st)) (len : ∀ vs H Q E, sp vs H Q E → vs.length = ps.length)
    (body : ∀ (cdv : Value), fd.code = cdv → ∀ (A : Around) (outer : List Env) (s : Shared) (H : Hp) (vs : List V) (Q : VK) (E : XK), Room k (A.deeper (envOfC qual (defScope st) s.heap.objs.size f cdv)) → sp vs H Q E →
      ∃ t, PSs (cxOf CX0 P w K mg base N qual (defScope st) f cdv A outer s H E).nox (defBody st) t ∧ t { nx := fun _ H' => Q .non H', rt := Q } (start N vs) H) : FnOk P w K mg base CX0 (k + 1) f fd ps sp := by
  obtain ⟨_, _, _, _, _, _, cdv, _, _, efd, look, coded⟩ := F.ex
  subst efd
  refine fn_of look coded S len ?_
  intro A outer s H vs Q E room told
  obtain ⟨t, runs, q⟩ := body cdv rfl A outer s H vs Q E room told
  exact ⟨t, runs.nox, q⟩
/-- the table of the def at f2 is empty; its code object stands -/
def OwnTab2 (K : PySem.W.Frag) (f2 : Addr) (h : Heap) : Prop := ∀ (c : Addr) (o : Obj) (fd : FuncData), K.lookup f2 = some o → o.data = .func fd → fd.code = .ref c →
  ∃ P, PySem.W.CodeHd h c P ∧ h.get? P = some { cls := .none, data := .fields #[] } ∧ ∀ (e : Value) (dd : Option Addr) (vs : Array Value) (sl : Array (Option Value)), K.lookup c = some ⟨e, dd, .fields vs, sl⟩ → vs[11]? = some (.ref P)
/-- the end, where a def of the program's holds a lambda -/
theorem walk_own2 {l : PySem.W.OpenLaw} {n k : Nat} {q : Program} {loose : List Str} {XP : (Str → Option Value) → Heap → Prop} {YP : World → Heap → Prop} {d : DefRec} {K : Params → PySem.W.Frag} {CX : World → CXT} {x n2 : Str} (hn : l.most = some n) (hn2 : n ≤ sizeLine) (hdf : d.params.defaults = []) (hr : Room k callerA) (hrec : ((recsOf q).any fun e => e.name == n2) = true) (hY : ∀ (w : World) (h : Heap), YP w h → (K w.params).In h) (F : ∀ (w : World) (mg : Str → Option Value) (fa : Addr) (h : Heap), YP w h → (K w.params).In h → h.Ns mainGlobals mg → mg d.name = some (.ref fa) → (∀ f2, mg n2 = some (.ref f2) → OwnTab2 (K w.params) f2 h) → LawAtS l w (K w.params) (CX w) k n x mg fa h) (hCX : ∀ (w : World) (H : Hp) (s : Shared) (e : Value) (s' : Shared), CX w [] H s (fun _ _ _ => False) e s' → False) : PySem.W.WalkO q loose XP YP l.row.toRowW d [] (fun f vs => PySem.call f vs) := by
  refine Att.attach_callB hn hdf ?_
  intro w s₀ s₁ mg mb fa o pm cd doc a vs ns G Y ho hd hcd hmg hobj hints hlen hbits hgens
  have KX := hY w _ Y
  have tabs : ∀ f2, mg n2 = some (.ref f2) → OwnTab2 (K w.params) f2 s₁.heap := by
    intro f2 hm2 c o1 fd1 k1 k2 k3
    obtain ⟨dL, mL, nL⟩ := List.any_eq_true.mp hrec
    obtain ⟨a', o', fd', c', P', g1, g2, g3, g4, g5, g6⟩ := G.T.tab dL mL
    rw [show dL.name = n2 from beq_iff_eq.mp nL, hm2] at g1
    cases g1
    rw [KX _ _ k1] at g2
    cases g2
    rw [k2] at g3
    cases g3
    rw [k3] at g4
    cases g4
    refine ⟨P', PySem.W.CodeHd.of g5 g6, g6.2, fun e dd vs sl k4 => ?_⟩
    obtain ⟨⟨oc, vc, t1, _, t3, t4⟩, tP⟩ := g6
    rw [KX _ _ k4] at t1
    cases t1
    cases t3
    exact t4
  obtain ⟨fd, cs, sp, b1, b2, b3, b4, b5, b6⟩ := F w mg fa _ Y KX G.T.g hmg tabs
  refine law_callTs KX G.T.g G.T.b G.T.builtins G.T.nolimit hgens b1 b2 b3 G.T.bmain hobj hints (Nat.le_trans hlen hn2) hr b6 b4 ?_ ?_
  · exact fun H hH hS => b5 H a ns hlen hbits hH hS
  · exact fun H e s' => hCX w H s₁ e s'
end SG
/-! a letter many times; sorted(x, key=lambda p: p[::-1]) of texts -/
namespace SG
open PySem PySem.Spec PyProof.Rows L2 LamX
/-- a sign n times -/
def repS (c n : Nat) : Str := ⟨(List.replicate n c).toArray⟩
theorem rep_fold (c : Nat) : ∀ (k : Nat) (acc : Array Nat), (List.replicate k #[c]).foldl (· ++ ·) acc = acc ++ (List.replicate k c).toArray
  | 0, acc => by simp
  | k + 1, acc => by
    rw [List.replicate_succ, List.foldl_cons, rep_fold c k, List.replicate_succ, Array.append_assoc]
    refine congrArg (acc ++ ·) ?_
    exact Array.ext' (by simp)
theorem mul_rep (c : Nat) {n : Int} (h : 1 ≤ n) : Txt.mul ⟨#[c]⟩ n = repS c n.toNat := by
  unfold Txt.mul repS
  rw [if_neg (by omega)]
  by_cases c1 : n = 1
  · subst c1; rfl
  · rw [if_neg (by
      have e : ((⟨#[c]⟩ : Str).length == 0) = false := rfl
      rw [e, Bool.or_false]
      simpa using c1), rep_fold]
    simp
section
variable {X : Cx}
theorem op_repS : OpR X (binaryOp .Mult) (fun x y H Q => ∃ (c : Nat) (n : Int), x = .str ⟨#[c]⟩ ∧ y = .int n ∧ 1 ≤ n ∧ n ≤ 1000 ∧ Q (.str (repS c n.toNat)) H) := by
  intro pins s σ H x y v u Q I rx ry h
  obtain ⟨c, n, rfl, rfl, h1, h2, q⟩ := h
  obtain ⟨t, rfl⟩ := rx
  obtain ⟨t', rfl⟩ := ry
  rw [← mul_rep c h1] at q
  refine SB.mul ⟨?_, fun _ _ => ?_, fun _ _ => ?_⟩ fun t' k => ⟨.str _, H, I.tok _, ⟨_, rfl⟩, q⟩
  · rw [decide_eq_false (by omega), decide_eq_false (by omega)]; rfl
  · have e : ((⟨#[c]⟩ : Str).length : Int) = 1 := rfl
    rw [e]
    have : 1 ≤ (2 ^ 63 - 1 : Int) / n := (Int.le_ediv_iff_mul_le (by omega)).mpr (by omega)
    omega
  · have e : (⟨#[c]⟩ : Str).length = 1 := rfl
    rw [e, Nat.one_mul]
    show decide (n.toNat > sizeLine) = false
    rw [sizeLine_eq]
    exact decide_eq_false (by omega)
end
section
variable {β : Type}
def RS (kx : β → Str) (h : Heap) (v : Value) (b : β) : Prop := ∃ tk, v = .str (kx b) tk ∧ (kx b).length ≤ 1000
def RVS (kx : β → Str) (H : Hp) (v : V) (b : β) : Prop := v = .str (kx b) ∧ (kx b).length ≤ 1000
def revS (x : Str) : Str := Txt.sliceBy x none none (-1, 0)
theorem keyB_rev {prog : Program} {w : World} {scope : Scope} {x : Str} {kx : β → Str} {p1 p2 p3 p4 p5 : Pos} {j : Nat} (hk : scope.kind = .function) (hl : scope.names.lookup x = some .local) (hd : (x == ("__debug__" : Str)) = false) :
    KeyB prog w scope (.Subscript (.Name x p1) (.Slice none none (some (.UnaryOp .USub (.Constant (.int 1) j p2) p3)) p4) p5) x (fun b => PyData.str (revS (kx b))) (RS kx) := by
  intro cenv A' E' v b s m hsc hR hn hm
  obtain ⟨tk, rfl, hz⟩ := hR
  subst hsc
  refine Subscript_ (wpAny_Name (wpAny_loadName_local hk hl hn hm ?_) hd)
  refine wpAny_Slice (evalPart_none_step (evalPart_none_step (evalPart_some_step (UnaryOp_ (wpAny_Constant_int ?_)))))
  refine neg_int ?_
  refine tail_of_ItemOn ⟨"str", _, F.slot_str_getitem.lookup, typeIs_str _ _ _, wpAny_getItem_str_slice (l := none) (u := none) (st := some (-1, _)) ⟨_, Heap.get?_push_size _ rfl, rfl, rfl⟩ rfl
    (post_val_or_str ⟨?_, fun t' c => ?_⟩)⟩ (by with_unfolding_all rfl) (by intro _; with_unfolding_all rfl)
  · have h1 := Txt.sliceBy_le (kx b) none none ((-1 : Int), (0 : Tok)) (by decide)
    have h2 : (kx b).length ≤ sizeLine := by rw [sizeLine_eq]; omega
    exact Nat.le_trans h1 h2
  · exact ⟨_, _, rfl, fun _ _ e => Heap.get?_push_of_some _ e, .str _ _⟩
theorem rs_keeps {kx : β → Str} {h h' : Heap} {v : Value} {b : β} (k : ∀ a o, h.get? a = some o → h'.get? a = some o) (r : RS kx h v b) : RS kx h' v b := r
theorem rs_of {X : Cx} {kx : β → Str} {pins : List (Addr × Obj)} {s : Shared} {σ : L2.St} {H : Hp} {v : V} {u : Value} {b : β} (I : Inv X pins σ H s) (r : RelV v u) (h : RVS kx H v b) : RS kx s.heap u b := by
  obtain ⟨rfl, hz⟩ := h
  obtain ⟨t, rfl⟩ := r
  exact ⟨t, rfl, hz⟩
theorem rvs_ext {kx : β → Str} {H H' : Hp} {v : V} {b : β} (e : ExtN H H') (h : RVS kx H v b) : RVS kx H' v b := h
end
/-- the keyed sort of texts is one of their orders -/
theorem sKey_strs (key : Str → PyData) (xs : List Str) : ∃ ys : List Str, ys.Perm xs ∧ sKey key (xs.map V.str) xs = ys.map V.str := by
  unfold sKey
  have hp : (((xs.map V.str).zip xs).mergeSort (PySem.W.dataLe false fun p : V × Str => key p.2)).Perm ((xs.map V.str).zip xs) := List.mergeSort_perm _ _
  have hp2 := hp.map Prod.fst
  rw [List.map_fst_zip (by rw [List.length_map]; exact Nat.le_refl _)] at hp2
  obtain ⟨ys, e, hy⟩ := perm_strs hp2
  exact ⟨ys, hy, e⟩
end SG
/-! words by layers, in plain words -/
namespace SG
open PySem PySem.Spec PyProof.Rows L2
abbrev WR := Str × List Str
/-- a name's rules by their letters -/
def kRules (rs : List Rule) (n : Str) : List Step := (rulesOf rs n).mergeSort (PySem.W.dataLe false fun p : Step => PyData.str p.1)
def nextW (f : Str → List Step) (p : WR) : List WR := match p.2 with
  | [] => []
  | n :: t => (f n).map fun q => (p.1 ++ q.1, q.2 ++ t)
def layW (f : Str → List Step) (row : List Str) : Nat → List WR
  | 0 => [("", row)]
  | i + 1 => (layW f row i).flatMap (nextW f)
def doneW (L : List WR) : List Str := (L.filter fun p => decide (p.2 = [])).map (·.1)
def wordsW (f : Str → List Step) (row : List Str) (k : Nat) : List Str := (List.range k).flatMap fun i => doneW (layW f row i)
theorem wordsW_snoc (f : Str → List Step) (row : List Str) (k : Nat) : wordsW f row (k + 1) = wordsW f row k ++ doneW (layW f row k) := by
  unfold wordsW
  rw [List.range_succ, List.flatMap_append]
  simp
theorem layW_congr {f g : Str → List Step} (h : ∀ n, f n = g n) (row : List Str) (i : Nat) : layW f row i = layW g row i := by
  have e : f = g := funext h
  rw [e]
/-! all texts of some letters -/
def allT (sg : List Str) : Nat → List Str
  | 0 => [""]
  | i + 1 => (allT sg i).flatMap fun w => sg.map (w ++ ·)
def triedW (rs : List Rule) (row : List Str) (sg : List Str) (k : Nat) : List Str := (List.range k).flatMap fun i => (allT sg i).filter fun w => decide (byLs rs (some row) w = some [])
theorem triedW_snoc (rs : List Rule) (row sg : List Str) (k : Nat) : triedW rs row sg (k + 1) = triedW rs row sg k ++ (allT sg k).filter fun w => decide (byLs rs (some row) w = some []) := by
  unfold triedW
  rw [List.range_succ, List.flatMap_append]
  simp
theorem signs_app (a b : Str) : signsOf (a ++ b) = signsOf a ++ signsOf b := by
  unfold signsOf
  rw [← List.map_append]
  congr 1
  exact Array.toList_append
theorem signs_nil : signsOf "" = [] := by decide +kernel
theorem signs_one {c : Str} (h : c.length = 1) : signsOf c = [c] := by
  have h1 : c.cps.size = 1 := h
  unfold signsOf
  match e : c.cps.toList with
  | [] => rw [← Array.length_toList, e] at h1; cases h1
  | [x] =>
    rw [List.map_singleton]
    congr 1
    exact PySem.W.str_of_cps e.symm
  | _ :: _ :: _ => rw [← Array.length_toList, e] at h1; simp at h1
theorem byLs_app {rs : List Rule} {o : Row?} {w c : Str} (h : c.length = 1) : byLs rs o (w ++ c) = stepL rs (byLs rs o w) c := by
  unfold byLs
  rw [signs_app, signs_one h, List.foldl_append]
  rfl
theorem filterMap_cg {α β : Type} {f g : α → Option β} : ∀ {l : List α}, (∀ a ∈ l, f a = g a) → l.filterMap f = l.filterMap g
  | [], _ => rfl
  | a :: l, h => by rw [List.filterMap_cons, List.filterMap_cons, h a List.mem_cons_self, filterMap_cg fun b hb => h b (List.mem_cons_of_mem _ hb)]
def pairW (rs : List Rule) (row : List Str) (w : Str) : Option WR := (byLs rs (some row) w).map fun r => (w, r)
theorem filterMap_flat {α β γ : Type} (f : β → Option γ) (g : α → List β) : ∀ l : List α, (l.flatMap g).filterMap f = l.flatMap fun a => (g a).filterMap f
  | [] => rfl
  | a :: l => by rw [List.flatMap_cons, List.filterMap_append, filterMap_flat f g l, List.flatMap_cons]
theorem flat_filterMap {α β γ : Type} (f : α → Option β) (g : β → List γ) : ∀ l : List α, (l.filterMap f).flatMap g = l.flatMap fun a => (f a).elim [] g
  | [] => rfl
  | a :: l => by
    rw [List.flatMap_cons, List.filterMap_cons]
    cases f a with
    | none => exact flat_filterMap f g l
    | some b =>
      simp only
      rw [List.flatMap_cons, flat_filterMap f g l]
      rfl
/-- letters of a name, in their order -/
def LettersAre (rs : List Rule) (sg : List Str) (f : Str → List Step) (names : List Str) : Prop := ∀ n ∈ names, sg.filterMap (byL rs n) = f n
theorem layer_step {rs : List Rule} {sg : List Str} {f : Str → List Step} {names : List Str} (hf : LettersAre rs sg f names) (h1 : ∀ c ∈ sg, c.length = 1) {row : List Str} {w : Str} (hr : ∀ r, byLs rs (some row) w = some r → ∀ x ∈ r, x ∈ names) :
    (sg.map (w ++ ·)).filterMap (pairW rs row) = (pairW rs row w).elim [] (nextW f) := by
  have key : ∀ c ∈ sg, pairW rs row (w ++ c) = (stepL rs (byLs rs (some row) w) c).map fun r => (w ++ c, r) := fun c hc => by
    unfold pairW
    rw [byLs_app (h1 c hc)]
  rw [List.filterMap_map]
  have e : sg.filterMap (pairW rs row ∘ (w ++ ·)) = sg.filterMap fun c => (stepL rs (byLs rs (some row) w) c).map fun r => (w ++ c, r) := by
    refine filterMap_cg fun c hc => ?_
    exact key c hc
  rw [e]
  unfold pairW
  cases hb : byLs rs (some row) w with
  | none => simp [stepL]
  | some r =>
    cases r with
    | nil => simp [stepL, nextW]
    | cons n t =>
      have hn := hr _ hb n List.mem_cons_self
      show _ = nextW f (w, n :: t)
      unfold nextW
      simp only
      rw [← hf n hn, List.map_filterMap]
      refine filterMap_cg fun c hc => ?_
      show ((byL rs n c).map fun p => p.2 ++ t).map _ = _
      cases hby : byL rs n c with
      | none => rfl
      | some p =>
        have hpc : p.1 = c := by
          have := List.find?_some hby
          simpa using this
        simp [hpc]
theorem layers {rs : List Rule} {sg : List Str} {f : Str → List Step} {names : List Str} (hf : LettersAre rs sg f names) (h1 : ∀ c ∈ sg, c.length = 1) {row : List Str} (hin : ∀ r ∈ rs, ∀ x ∈ r.2.2, x ∈ names) (hrow : ∀ x ∈ row, x ∈ names) : ∀ i, layW f row i = (allT sg i).filterMap (pairW rs row)
  | 0 => by
    show [((("" : Str)), row)] = [("" : Str)].filterMap (pairW rs row)
    have : pairW rs row "" = some ((("" : Str)), row) := by
      unfold pairW byLs
      rw [signs_nil]
      rfl
    rw [List.filterMap_cons, this]
    rfl
  | i + 1 => by
    have hr : ∀ w r, byLs rs (some row) w = some r → ∀ x ∈ r, x ∈ names := fun w => by
      unfold byLs
      have g : ∀ (l : List Str) (o : Row?), (∀ r, o = some r → ∀ x ∈ r, x ∈ names) → ∀ r, l.foldl (stepL rs) o = some r → ∀ x ∈ r, x ∈ names := fun l => by
        induction l with
        | nil => intro o ho r e; exact ho r e
        | cons c l ih => intro o ho r e; exact ih _ (stepL_in hin ho) r e
      exact g _ _ fun r e x hx => hrow x (by rw [Option.some.inj e]; exact hx)
    show (layW f row i).flatMap (nextW f) = ((allT sg i).flatMap fun w => sg.map (w ++ ·)).filterMap (pairW rs row)
    rw [layers hf h1 hin hrow i, filterMap_flat, flat_filterMap]
    congr 1
    funext w
    exact (layer_step hf h1 (hr w)).symm
theorem done_layer (rs : List Rule) (row : List Str) : ∀ l : List Str, doneW (l.filterMap (pairW rs row)) = l.filter fun w => decide (byLs rs (some row) w = some [])
  | [] => rfl
  | w :: l => by
    have ih := done_layer rs row l
    unfold doneW at ih ⊢
    rw [List.filterMap_cons, List.filter_cons]
    have e : pairW rs row w = (byLs rs (some row) w).map fun r => (w, r) := rfl
    cases hb : byLs rs (some row) w with
    | none =>
      rw [e, hb]
      simp only [Option.map_none]
      rw [ih]
      simp
    | some r =>
      rw [e, hb]
      simp only [Option.map_some]
      rw [List.filter_cons]
      by_cases c : r = []
      · subst c
        simp [ih]
      · simp [c, ih]
theorem tried_words {rs : List Rule} {sg : List Str} {f : Str → List Step} {names : List Str} (hf : LettersAre rs sg f names) (h1 : ∀ c ∈ sg, c.length = 1) {row : List Str} (hin : ∀ r ∈ rs, ∀ x ∈ r.2.2, x ∈ names) (hrow : ∀ x ∈ row, x ∈ names) (k : Nat) : triedW rs row sg k = wordsW f row k := by
  unfold triedW wordsW
  congr 1
  funext i
  rw [layers hf h1 hin hrow i, done_layer]
/-! letters in their order -/
theorem find_pl : ∀ {l : List Step} {p : Step}, (l.map (·.1)).Nodup → p ∈ l → l.find? (fun q => decide (q.1 = p.1)) = some p
  | [], _, _, h => by cases h
  | x :: l, p, nd, h => by
    rw [List.map_cons, List.nodup_cons] at nd
    rcases List.mem_cons.mp h with rfl | h
    · rw [List.find?_cons_of_pos (by simp)]
    · rw [List.find?_cons_of_neg, find_pl nd.2 h]
      intro e
      exact nd.1 (by rw [of_decide_eq_true e]; exact List.mem_map_of_mem h)
theorem byL_iff {rs : List Rule} (hp : PlainR rs) {n c : Str} {p : Step} : byL rs n c = some p ↔ p ∈ rulesOf rs n ∧ p.1 = c := by
  unfold byL
  constructor
  · intro h
    exact ⟨List.mem_of_find?_eq_some h, by simpa using List.find?_some h⟩
  · rintro ⟨h, rfl⟩
    exact find_pl (hp n) h
theorem le_str (a b : Str) : leE PyData.str a b = decide (a.cps.toList ≤ b.cps.toList) := congrFun (congrFun (PySem.W.dataLe_str (fun x : Str => x)) a) b
theorem le_row {a b : Step} (hne : a.1 ≠ b.1) (h : leE PyData.str a.1 b.1 = true) : leE eRow a b = true := by
  have e1 : leE eRow a b = !PySem.W.dataLt (eRow b) (eRow a) := rfl
  have e2 : leE PyData.str a.1 b.1 = !PySem.W.dataLt (PyData.str b.1) (PyData.str a.1) := rfl
  rw [e1]
  rw [e2] at h
  show (!PySem.W.dataLt (.tuple [PyData.str b.1, eSs b.2]) (.tuple [PyData.str a.1, eSs a.2])) = true
  rw [PySem.W.dataLt_pair (alk_str _ _) (alk_L alk_str _ _), if_neg]
  · exact h
  · rw [enc_str]
    intro z
    exact hne (of_decide_eq_true z).symm
theorem letters_row {rs : List Rule} {signs : List Str} (hp : PlainR rs) (hs : ∀ r ∈ rs, r.2.1 ∈ signs) (nd : signs.Nodup) (n : Str) : (ssort signs).filterMap (byL rs n) = esort eRow (rulesOf rs n) := by
  have nds : (ssort signs).Nodup := (ssort_perm signs).nodup_iff.mpr nd
  have pw : (ssort signs).Pairwise fun a b => a ≠ b ∧ decide (a.cps.toList ≤ b.cps.toList) = true := List.Pairwise.and nds (ssort_pair signs)
  refine esort_of enc_Row alk_Row ?_ ?_
  · refine (List.perm_ext_iff_of_nodup ?_ ?_).mpr fun p => ?_
    · have g : ∀ a b : Str, a ≠ b → ∀ p, byL rs n a = some p → ∀ q, byL rs n b = some q → p ≠ q := fun a b hab p hpa q hqb e => hab (by rw [← ((byL_iff hp).mp hpa).2, ← ((byL_iff hp).mp hqb).2, e])
      exact List.Pairwise.filterMap _ g nds
    · exact (List.pairwise_map.mp (hp n)).imp fun h e => h (by rw [e])
    · rw [List.mem_filterMap]
      constructor
      · rintro ⟨c, _, h⟩
        exact ((byL_iff hp).mp h).1
      · intro h
        exact ⟨p.1, (ssort_perm signs).mem_iff.mpr (hs _ (mem_rulesOf.mp h)), (byL_iff hp).mpr ⟨h, rfl⟩⟩
  · refine List.Pairwise.filterMap _ (fun a b hab p hpa q hqb => ?_) pw
    have e1 := ((byL_iff hp).mp hpa).2
    have e2 := ((byL_iff hp).mp hqb).2
    refine le_row (by rw [e1, e2]; exact hab.1) ?_
    rw [e1, e2, le_str]
    exact hab.2
theorem kRules_row {rs : List Rule} (hp : PlainR rs) (n : Str) : kRules rs n = esort eRow (rulesOf rs n) := by
  have hperm : (kRules rs n).Perm (rulesOf rs n) := List.mergeSort_perm _ _
  have nd : ((kRules rs n).map (·.1)).Nodup := (hperm.map _).nodup_iff.mpr (hp n)
  have pw : (kRules rs n).Pairwise fun a b => leE PyData.str a.1 b.1 = true := esort_pair (fun p : Step => PyData.str p.1) (rulesOf rs n)
  refine esort_of enc_Row alk_Row hperm ?_
  exact (List.Pairwise.and (List.pairwise_map.mp nd) pw).imp fun h => le_row h.1 h.2
theorem letters_are {rs : List Rule} {signs names : List Str} (hp : PlainR rs) (hs : ∀ r ∈ rs, r.2.1 ∈ signs) (nd : signs.Nodup) : LettersAre rs (ssort signs) (fun n => esort eRow (rulesOf rs n)) names := fun n _ => letters_row hp hs nd n
theorem signsB_nd {m : Nat} {xs : List Str} (h : SignsB m xs) (hm : m ≤ 26) : xs.Nodup := by
  obtain ⟨h1, f, h2⟩ := h
  refine List.pairwise_iff_getElem.mpr fun i j hi hj hij e => ?_
  have a := h2 i _ (List.getElem?_eq_getElem hi)
  have b := h2 j _ (List.getElem?_eq_getElem hj)
  unfold SignB at a b
  rw [e, b] at a
  have e2 := congrArg (fun z : Str => z.cps.toList) a
  simp at e2
  omega
/-! bounds -/
theorem layW_len {rs : List Rule} {f : Str → List Step} {row : List Str} (hf : ∀ n, (f n).length ≤ 4) : ∀ i, (layW f row i).length ≤ 4 ^ i
  | 0 => Nat.le_refl _
  | i + 1 => by
    have ih := layW_len (rs := rs) (row := row) hf i
    have g : ∀ l : List WR, (l.flatMap (nextW f)).length ≤ l.length * 4 := fun l => by
      induction l with
      | nil => exact Nat.zero_le _
      | cons p l ih =>
        rw [List.flatMap_cons, List.length_append, List.length_cons, Nat.add_mul]
        have : (nextW f p).length ≤ 4 := by
          unfold nextW
          split
          · exact Nat.zero_le _
          · rw [List.length_map]; exact hf _
        omega
    have := g (layW f row i)
    show ((layW f row i).flatMap (nextW f)).length ≤ _
    rw [Nat.pow_succ]
    omega
theorem str_len (a b : Str) : (a ++ b).length = a.length + b.length := Array.size_append
def LayOk (names : List Str) (k i : Nat) (L : List WR) : Prop := ∀ p ∈ L, p.1.length ≤ i ∧ p.2.length ≤ k + 3 * i ∧ ∀ x ∈ p.2, x ∈ names
theorem layW_ok {rs : List Rule} {names : List Str} {f : Str → List Step} (hg : GoodR names rs) (hf : ∀ n q, q ∈ f n → q ∈ rulesOf rs n) {row : List Str} {k : Nat} (hr : row.length ≤ k) (hi : ∀ x ∈ row, x ∈ names) : ∀ i, LayOk names k i (layW f row i)
  | 0 => fun p hp => by
    rw [List.mem_singleton.mp hp]
    exact ⟨Nat.le_refl _, by simpa using hr, hi⟩
  | i + 1 => fun p hp => by
    obtain ⟨p0, hp0, h⟩ := List.mem_flatMap.mp (show p ∈ (layW f row i).flatMap (nextW f) from hp)
    obtain ⟨a1, a2, a3⟩ := layW_ok hg hf hr hi i p0 hp0
    unfold nextW at h
    split at h
    · cases h
    · rename_i n t e
      rw [e] at a2 a3
      obtain ⟨q, hq, rfl⟩ := List.mem_map.mp h
      obtain ⟨_, b2, b3, b4⟩ := hg.ok _ (mem_rulesOf.mp (hf _ _ hq))
      have b2' := isLetter_len b2
      simp only at b2' b3 b4
      refine ⟨by rw [str_len]; omega, by rw [List.length_append]; simp at a2; omega, fun x hx => ?_⟩
      rcases List.mem_append.mp hx with hx | hx
      · exact b4 x hx
      · exact a3 x (List.mem_cons_of_mem _ hx)
theorem doneW_snoc (L : List WR) (p : WR) : doneW (L ++ [p]) = if p.2 = [] then doneW L ++ [p.1] else doneW L := by
  unfold doneW
  rw [List.filter_append, List.map_append]
  by_cases c : p.2 = []
  · simp [c]
  · simp [c]
theorem doneW_len (L : List WR) : (doneW L).length ≤ L.length := by
  unfold doneW
  rw [List.length_map]
  exact List.length_filter_le _ _
theorem wordsW_len {rs : List Rule} {f : Str → List Step} {row : List Str} (hf : ∀ n, (f n).length ≤ 4) : ∀ k, (wordsW f row k).length ≤ k * 4 ^ k
  | 0 => Nat.le_refl _
  | k + 1 => by
    have ih := wordsW_len (rs := rs) (row := row) hf k
    have h1 := layW_len (rs := rs) (row := row) hf k
    have h2 := doneW_len (layW f row k)
    rw [wordsW_snoc, List.length_append, Nat.pow_succ, Nat.add_mul]
    have h3 : k * 4 ^ k ≤ k * (4 ^ k * 4) := Nat.mul_le_mul_left _ (by omega)
    omega
theorem allT_len {sg : List Str} (h : sg.length ≤ 4) : ∀ i, (allT sg i).length ≤ 4 ^ i
  | 0 => Nat.le_refl _
  | i + 1 => by
    have ih := allT_len h i
    have g : ∀ l : List Str, (l.flatMap fun w => sg.map (w ++ ·)).length ≤ l.length * 4 := fun l => by
      induction l with
      | nil => exact Nat.zero_le _
      | cons p l ih =>
        rw [List.flatMap_cons, List.length_append, List.length_cons, Nat.add_mul, List.length_map]
        omega
    have := g (allT sg i)
    show ((allT sg i).flatMap fun w => sg.map (w ++ ·)).length ≤ _
    rw [Nat.pow_succ]
    omega
theorem allT_word {sg : List Str} (h : ∀ c ∈ sg, c.length = 1) : ∀ i, ∀ w ∈ allT sg i, w.length ≤ i
  | 0, w, hw => by rw [List.mem_singleton.mp hw]; exact Nat.le_refl _
  | i + 1, w, hw => by
    obtain ⟨w0, h0, h1⟩ := List.mem_flatMap.mp (show w ∈ (allT sg i).flatMap fun w => sg.map (w ++ ·) from hw)
    obtain ⟨c, hc, rfl⟩ := List.mem_map.mp h1
    have := allT_word h i w0 h0
    have := h c hc
    rw [str_len]
    omega
theorem triedW_len {rs : List Rule} {row sg : List Str} (h : sg.length ≤ 4) : ∀ k, (triedW rs row sg k).length ≤ k * 4 ^ k
  | 0 => Nat.le_refl _
  | k + 1 => by
    have ih := triedW_len (rs := rs) (row := row) h k
    have h1 := allT_len h k
    have h2 := List.length_filter_le (fun w => decide (byLs rs (some row) w = some [])) (allT sg k)
    rw [triedW_snoc, List.length_append, Nat.pow_succ, Nat.add_mul]
    have h3 : k * 4 ^ k ≤ k * (4 ^ k * 4) := Nat.mul_le_mul_left _ (by omega)
    omega
theorem ssort_len (xs : List Str) : (ssort xs).length = xs.length := (ssort_perm xs).length_eq
theorem perm_refs {ys : List V} {ts : List Addr} (h : ys.Perm (ts.map V.ref)) : ∃ zs : List Addr, ys = zs.map V.ref ∧ zs.Perm ts := by
  have unR : V → Addr := fun v => match v with | .ref a => a | _ => 0
  obtain ⟨un, hun⟩ : ∃ un : V → Addr, ∀ a, un (.ref a) = a := ⟨fun v => match v with | .ref a => a | _ => 0, fun _ => rfl⟩
  refine ⟨ys.map un, ?_, ?_⟩
  · rw [List.map_map]
    have : ∀ y ∈ ys, (V.ref ∘ un) y = y := fun y hy => by
      obtain ⟨x, _, rfl⟩ := List.mem_map.mp (h.mem_iff.mp hy)
      show V.ref (un (.ref x)) = _
      rw [hun]
    exact (List.map_congr_left this).trans (List.map_id _) |>.symm
  · have h2 := h.map un
    rw [List.map_map] at h2
    have e : (un ∘ V.ref) = id := funext hun
    rwa [e, List.map_id] at h2
theorem paired_perm {α β : Type} {F : α → β → Prop} {xs ys : List α} (h : ys.Perm xs) : ∀ {zs : List β}, Paired F xs zs → ∃ us : List β, us.Perm zs ∧ Paired F ys us := by
  induction h with
  | nil => intro zs hp; exact ⟨zs, .refl _, hp⟩
  | cons x _ ih =>
    intro zs hp
    cases hp with
    | cons h1 h2 =>
      obtain ⟨us, p, q⟩ := ih h2
      exact ⟨_ :: us, p.cons _, .cons h1 q⟩
  | swap x y l =>
    intro zs hp
    cases hp with
    | cons h1 h2 => cases h2 with
      | cons h3 h4 => exact ⟨_, .swap _ _ _, .cons h3 (.cons h1 h4)⟩
  | trans _ _ ih1 ih2 =>
    intro zs hp
    obtain ⟨us, p, q⟩ := ih2 hp
    obtain ⟨vs, p2, q2⟩ := ih1 q
    exact ⟨vs, p2.trans p, q2⟩
theorem EndsR.perm {names : List Str} {rs qs : List Rule} (h : EndsR names rs) (p : rs.Perm qs) : EndsR names qs := fun x hx => by
  obtain ⟨v, d⟩ := h x hx
  exact ⟨v, d.more fun e he => ((p.map _).mem_iff (a := e)).mp he⟩
theorem PlainR.perm {rs qs : List Rule} (h : PlainR rs) (p : rs.Perm qs) : PlainR qs := fun n => (((rulesOf_perm p n).map (·.1)).nodup_iff).mp (h n)
end SG
/-! dicts whose keys are nested tuples -/
namespace SG
open PySem PySem.Spec PyProof.Rows L2
/-- an entry: the key, the tuple that it came as, the value -/
abbrev NEnt := NestedKey × Addr × V
abbrev REnt := NestedKey × Addr × Value
def EntR (x : NEnt) (y : REnt) : Prop := x.1 = y.1 ∧ x.2.1 = y.2.1 ∧ RelV x.2.2 y.2.2
def dictN (P : Program) (w : World) (d : Addr) (xs : List NEnt) : HO := .ext fun h => xs.length ≤ sizeLine ∧ (d == sysModules) = false ∧ (xs.map (·.1)).Nodup ∧ ∃ (ys : List REnt) (o : Obj) (es : Array DictEntry) (ep : Nat), Paired EntR xs ys ∧ h.get? d = some o ∧ o.ExactDict ∧ o.data = .dict es ep ∧ es.toList = ys.map (entryOfKey (nestedKind P w))
mutual
/-- the value is the key -/
inductive NK (H : Hp) : NestedKey → V → Prop
  | non : NK H .none .non
  | int (i : Int) : NK H (.num i) (.int i)
  | str (x : Str) : NK H (.text x) (.str x)
  | tup {a : Addr} {vs : List V} {ks : List NestedKey} : H a = some (.tup vs) → NKs H ks vs → NK H (.tup ks) (.ref a)
inductive NKs (H : Hp) : List NestedKey → List V → Prop
  | nil : NKs H [] []
  | cons {k : NestedKey} {v : V} {ks : List NestedKey} {vs : List V} : NK H k v → NKs H ks vs → NKs H (k :: ks) (v :: vs)
end
mutual
theorem nk_is {P : Program} {w : World} {H : Hp} {h : Heap} (ok : HOk P w H h) : ∀ (k : NestedKey) (v : V) (u : Value), NK H k v → RelV v u → NestedIs h k u
  | .none, _, u, .non, r => by
    obtain rfl : u = .none := r
    exact .none
  | .num i, _, u, .int _, r => by
    obtain ⟨t, rfl⟩ := r
    exact .int i t
  | .text x, _, u, .str _, r => by
    obtain ⟨t, rfl⟩ := r
    exact .text x t
  | .tup ks, _, u, .tup (a := a) (vs := vs) ha hs, r => by
    obtain rfl : u = Value.ref a := r
    obtain ⟨_, its, rv, o, e1, e2, n, e3⟩ := (show ObjOk P w H h a (.tup vs) from ok a _ ha)
    exact .tup e1 e2 e3 (nks_is ok ks vs its hs rv)
theorem nks_is {P : Program} {w : World} {H : Hp} {h : Heap} (ok : HOk P w H h) : ∀ (ks : List NestedKey) (vs : List V) (us : List Value), NKs H ks vs → Vals vs us → NestedAll h ks us
  | [], _, _, .nil, .nil => .nil
  | k :: ks, _, _, .cons h1 h2, .cons r t => .cons (nk_is ok k _ _ h1 r) (nks_is ok ks _ _ h2 t)
end
/-- the keys of a dict's entries stand -/
def KeysN (H : Hp) (xs : List NEnt) : Prop := ∀ x ∈ xs, NK H x.1 (.ref x.2.1) ∧ x.1.depth ≤ 8
theorem ents_of {P : Program} {w : World} {H : Hp} {h : Heap} (ok : HOk P w H h) : ∀ {xs : List NEnt} {ys : List REnt}, Paired EntR xs ys → KeysN H xs → ∀ y ∈ ys, (nestedKind P w).is h y.1 y.2.1
  | _, _, .nil, _, y, hy => by cases hy
  | x :: xs, y0 :: ys, .cons h1 h2, k, y, hy => by
    rcases List.mem_cons.mp hy with rfl | hy
    · obtain ⟨a, b⟩ := k x List.mem_cons_self
      obtain ⟨e1, e2, _⟩ := h1
      rw [← e1, ← e2]
      exact ⟨nk_is ok _ _ _ a rfl, b⟩
    · exact ents_of ok h2 (fun z hz => k z (List.mem_cons_of_mem _ hz)) y hy
theorem ents_keys : ∀ {xs : List NEnt} {ys : List REnt}, Paired EntR xs ys → xs.map (·.1) = ys.map (·.1)
  | _, _, .nil => rfl
  | _, _, .cons h t => by rw [List.map_cons, List.map_cons, h.1, ents_keys t]
def atN (xs : List NEnt) (k : NestedKey) : Option V := (xs.find? fun x => decide (x.1 = k)).map (·.2.2)
theorem ents_at (k : NestedKey) : ∀ {xs : List NEnt} {ys : List REnt}, Paired EntR xs ys → (atN xs k = none ∧ atKey ys k = none) ∨ ∃ v p, atN xs k = some v ∧ atKey ys k = some p ∧ RelV v p.2
  | _, _, .nil => .inl ⟨rfl, rfl⟩
  | x :: xs, y :: ys, .cons h t => by
    unfold atN atKey
    by_cases c : x.1 = k
    · have c2 : y.1 = k := h.1.symm.trans c
      refine .inr ⟨x.2.2, y.2, ?_, ?_, h.2.2⟩
      · rw [List.find?_cons_of_pos (by simpa using c)]; rfl
      · rw [List.find?_cons_of_pos (by simpa using c2)]; rfl
    · have c2 : ¬ y.1 = k := fun z => c (h.1.trans z)
      rw [List.find?_cons_of_neg (by simpa using c), List.find?_cons_of_neg (by simpa using c2)]
      exact ents_at k t
theorem dictN_of {P : Program} {w : World} {H : Hp} {h : Heap} (ok : HOk P w H h) {d : Addr} {xs : List NEnt} (e : H d = some (dictN P w d xs)) (k : KeysN H xs) : xs.length ≤ sizeLine ∧ (d == sysModules) = false ∧ ∃ ys : List REnt, Paired EntR xs ys ∧ h.DictOfH (nestedKind P w) d ys := by
  obtain ⟨⟨hz, hd, nd, ys, o, es, ep, hp, e1, e2, e3, e4⟩, _⟩ := (show ObjOk P w H h d (dictN P w d xs) from ok d _ e)
  exact ⟨hz, hd, ys, hp, o, es, ep, e1, e2, e3, e4, ents_of ok hp k, by rw [← ents_keys hp]; exact nd⟩
theorem dictN_ok {P : Program} {w : World} {H : Hp} {h : Heap} {d : Addr} {xs : List NEnt} {ys : List REnt} (hz : xs.length ≤ sizeLine) (hd : (d == sysModules) = false) (hp : Paired EntR xs ys) (e : h.DictOfH (nestedKind P w) d ys) : ObjOk P w H h d (dictN P w d xs) := by
  obtain ⟨o, es, ep, e1, e2, e3, e4, _, e6⟩ := e
  exact ⟨⟨hz, hd, by rw [ents_keys hp]; exact e6, ys, o, es, ep, hp, e1, e2, e3, e4⟩, ⟨o, e1⟩, fun h1 h2 ⟨a1, a2, a3, ys, o, es, ep, b1, b2, b3, b4, b5⟩ k => ⟨a1, a2, a3, ys, o, es, ep, b1, k _ b2, b3, b4, b5⟩⟩
def tDNewN (P : Program) (w : World) : TE := fun _ H Q => ∀ p, H p = none → Q (.ref p) (upd H p (dictN P w p []))
section
variable {X : Cx} {pos : Pos}
theorem pe_dnewN : PE X (.Dict [] [] pos) (tDNewN X.prog X.w) := by
  refine ⟨fun pins s σ H Q I told => ?_⟩
  have big : (s.heap.objs.size == sysModules) = false := beq_eq_false_iff_ne.mpr (Ne.symm (Nat.ne_of_lt I.big))
  refine wpAny_Dict_empty ⟨.ref s.heap.objs.size, _, I.laid (a := s.heap.objs.size) (o := dictN X.prog X.w s.heap.objs.size []) (t' := s.toks) ?_ (Nat.le_refl _) ?_, rfl, told _ (I.hok.fresh (Nat.le_refl _))⟩
  · exact fun _ _ q => Heap.get?_push_of_some _ q
  · exact dictN_ok (Nat.zero_le _) big .nil (Heap.DictOfH.new s.heap)
def rInN (P : Program) (w : World) (b : Bool) : R2 := fun x y H Q => ∃ (k : NestedKey) (a d : Addr) (xs : List NEnt), x = .ref a ∧ y = .ref d ∧ NK H k (.ref a) ∧ k.depth ≤ 8 ∧ H d = some (dictN P w d xs) ∧ KeysN H xs ∧ Q (.bl (xor b (atN xs k).isSome)) H
theorem isSome_ents {xs : List NEnt} {ys : List REnt} {k : NestedKey} (hp : Paired EntR xs ys) : (atKey ys k).isSome = (atN xs k).isSome := by
  rcases ents_at k hp with ⟨a, b⟩ | ⟨v, p, a, b, _⟩ <;> rw [a, b] <;> rfl
theorem op_inN (hu : X.A.units + 64 < cLine) : OpR X (compareOp .In) (rInN X.prog X.w false) := by
  intro pins s σ H x y v u Q I rx ry told
  obtain ⟨k, a, d, xs, rfl, rfl, hk, hd, e, hks, q⟩ := told
  obtain rfl : v = Value.ref a := rx
  obtain rfl : u = Value.ref d := ry
  obtain ⟨hz, hsys, ys, hp, dd⟩ := dictN_of I.hok e hks
  have room : (nestedKind X.prog X.w).room X.A.in1 := by show X.A.units + 1 + 8 < cLine; omega
  refine wpAny_in_heap room ⟨nk_is I.hok _ _ _ hk rfl, hd⟩ hsys dd ⟨.bl _, H, I.tok _, ?_, q⟩
  rw [isSome_ents hp, Bool.false_xor]
  rfl
theorem op_notInN (hu : X.A.units + 64 < cLine) : OpR X (compareOp .NotIn) (rInN X.prog X.w true) := by
  intro pins s σ H x y v u Q I rx ry told
  obtain ⟨k, a, d, xs, rfl, rfl, hk, hd, e, hks, q⟩ := told
  obtain rfl : v = Value.ref a := rx
  obtain rfl : u = Value.ref d := ry
  obtain ⟨hz, hsys, ys, hp, dd⟩ := dictN_of I.hok e hks
  have room : (nestedKind X.prog X.w).room X.A.in1 := by show X.A.units + 1 + 8 < cLine; omega
  show wpAny _ _ (do return Value.bool (!(← contains (.ref d) (.ref a)))) _ _ s
  refine wpAny_bind (wpAny_contains_heap room ⟨nk_is I.hok _ _ _ hk rfl, hd⟩ hsys dd (wpAny_pure ⟨.bl _, H, I.tok _, ?_, q⟩))
  rw [isSome_ents hp, Bool.true_xor]
  rfl
def rIxN (P : Program) (w : World) : R2 := fun x y H Q => ∃ (k : NestedKey) (a d : Addr) (xs : List NEnt) (v : V), x = .ref d ∧ y = .ref a ∧ NK H k (.ref a) ∧ k.depth ≤ 8 ∧ H d = some (dictN P w d xs) ∧ KeysN H xs ∧ atN xs k = some v ∧ Q v H
theorem ix_dictN (hu : X.A.units + 64 < cLine) : IxR X (rIxN X.prog X.w) := by
  intro value slice pins s σ H x y v u Q I rx ry told hs
  obtain ⟨k, a, d, xs, z, rfl, rfl, hk, hd, e, hks, hz, q⟩ := told
  obtain rfl : v = Value.ref d := rx
  obtain rfl : u = Value.ref a := ry
  obtain ⟨_, hsys, ys, hp, dd⟩ := dictN_of I.hok e hks
  have room : (nestedKind X.prog X.w).room X.A.in1 := by show X.A.units + 1 + 8 < cLine; omega
  rcases ents_at k hp with ⟨b, _⟩ | ⟨z2, p, b, c, rz⟩
  · rw [b] at hz; cases hz
  · rw [b] at hz
    cases hz
    exact subscriptTail_builtinR (x := p.2) dd.typeIs slot_dict_getitem.lookup (wpAny_getItem_heap room ⟨nk_is I.hok _ _ _ hk rfl, hd⟩ dd c ⟨rfl, _, H, I.tok _, rz, q⟩) hs
def rSetN (P : Program) (w : World) : V → V → V → Hp → (Hp → Prop) → Prop := fun o i v H Q => ∃ (k : NestedKey) (a d : Addr) (xs : List NEnt), o = .ref d ∧ i = .ref a ∧ NK H k (.ref a) ∧ k.depth ≤ 8 ∧ H d = some (dictN P w d xs) ∧ KeysN H xs ∧ atN xs k = none ∧ xs.length < sizeLine ∧ Q (upd H d (dictN P w d (xs ++ [(k, a, v)])))
theorem set_dictN (hu : X.A.units + 64 < cLine) : PSet X (rSetN X.prog X.w) := by
  intro pins s σ H o i v ov iv u Q I ro ri rv told
  obtain ⟨k, a, d, xs, rfl, rfl, hk, hd, e, hks, hn, hl, q⟩ := told
  obtain rfl : ov = Value.ref d := ro
  obtain rfl : iv = Value.ref a := ri
  obtain ⟨hz, hsys, ys, hp, dd⟩ := dictN_of I.hok e hks
  have room : (nestedKind X.prog X.w).room X.A.in1 := by show X.A.units + 1 + 8 < cLine; omega
  have hyn : atKey ys k = none := by
    rcases ents_at k hp with ⟨_, b⟩ | ⟨z, p, b, c, _⟩
    · exact b
    · rw [b] at hn; cases hn
  have hyl : ys.length ≤ sizeLine := by rw [← paired_len hp]; exact hz
  refine wpAny_setItem_heap (hsz := hyl) room ⟨nk_is I.hok _ _ _ hk rfl, hd⟩ dd fun h' hm hs => ?_
  rw [storedH_new hyn] at hm
  have hp2 : Paired EntR (xs ++ [(k, a, v)]) (ys ++ [(k, a, u)]) := paired_app (F := EntR) ⟨rfl, rfl, rv⟩ hp
  have there : ∃ o, h'.get? d = some o := by
    obtain ⟨o, es, ep, e1, _⟩ := hm
    exact ⟨o, e1⟩
  refine ⟨_, I.write (x := d) (e := d) (o := dictN X.prog X.w d (xs ++ [(k, a, v)])) (by rw [e]; exact True.intro) (.inl rfl) (fun b o hb ho => (hs.2 b hb).trans ho) there (dictN_ok ?_ hsys hp2 hm), q⟩
  rw [List.length_append]
  exact hl
end
/-! rows as keys -/
def kRow (r : List Str) : NestedKey := .tup (r.map NestedKey.text)
theorem nks_strs (H : Hp) : ∀ r : List Str, NKs H (r.map NestedKey.text) (r.map V.str)
  | [] => .nil
  | x :: r => .cons (.str x) (nks_strs H r)
theorem nk_row {H : Hp} {t : Addr} {r : List Str} (h : H t = some (.tup (r.map V.str))) : NK H (kRow r) (.ref t) := .tup h (nks_strs H r)
theorem depth_texts : ∀ r : List Str, NestedKey.depthAll (r.map NestedKey.text) = 0
  | [] => rfl
  | x :: r => by rw [List.map_cons, NestedKey.depthAll, depth_texts r]; rfl
theorem depth_row (r : List Str) : (kRow r).depth = 1 := by
  unfold kRow
  rw [NestedKey.depth, depth_texts]
theorem kRow_inj {a b : List Str} (h : kRow a = kRow b) : a = b := by
  unfold kRow at h
  have h := NestedKey.tup.inj h
  exact (List.map_inj_right fun x y q => NestedKey.text.inj q).mp h
mutual
theorem NK.same {H H' : Hp} (e : Same H H') : ∀ {k : NestedKey} {v : V}, NK H k v → NK H' k v
  | _, _, .non => .non
  | _, _, .int i => .int i
  | _, _, .str x => .str x
  | _, _, .tup h1 h2 => .tup (e _ _ h1) (NKs.same e h2)
theorem NKs.same {H H' : Hp} (e : Same H H') : ∀ {ks : List NestedKey} {vs : List V}, NKs H ks vs → NKs H' ks vs
  | _, _, .nil => .nil
  | _, _, .cons h1 h2 => .cons (NK.same e h1) (NKs.same e h2)
end
mutual
/-- a dict is written: the keys stay -/
theorem NK.mut {P : Program} {w : World} {H : Hp} {d : Addr} {xs : List NEnt} (hd : H d = some (dictN P w d xs)) (u : HO) : ∀ {k : NestedKey} {v : V}, NK H k v → NK (upd H d u) k v
  | _, _, .non => .non
  | _, _, .int i => .int i
  | _, _, .str x => .str x
  | _, _, .tup h1 h2 => .tup (by rw [upd_ne (fun z => by rw [z, hd] at h1; unfold dictN at h1; cases h1)]; exact h1) (NKs.mut hd u h2)
theorem NKs.mut {P : Program} {w : World} {H : Hp} {d : Addr} {xs : List NEnt} (hd : H d = some (dictN P w d xs)) (u : HO) : ∀ {ks : List NestedKey} {vs : List V}, NKs H ks vs → NKs (upd H d u) ks vs
  | _, _, .nil => .nil
  | _, _, .cons h1 h2 => .cons (NK.mut hd u h1) (NKs.mut hd u h2)
end
theorem KeysN.same {H H' : Hp} {xs : List NEnt} (h : KeysN H xs) (e : Same H H') : KeysN H' xs := fun x hx => ⟨(h x hx).1.same e, (h x hx).2⟩
theorem KeysN.put {P : Program} {w : World} {H : Hp} {d a : Addr} {xs : List NEnt} {k : NestedKey} {v : V} {u : HO} (h : KeysN H xs) (hd : H d = some (dictN P w d xs)) (hk : NK H k (.ref a)) (h8 : k.depth ≤ 8) : KeysN (upd H d u) (xs ++ [(k, a, v)]) := fun x hx => by
  rcases List.mem_append.mp hx with hx | hx
  · exact ⟨(h x hx).1.mut hd u, (h x hx).2⟩
  · rw [List.mem_singleton.mp hx]
    exact ⟨hk.mut hd u, h8⟩
mutual
theorem NK.tupS {H H' : Hp} (e : ∀ t xs, H t = some (.tup xs) → H' t = some (.tup xs)) : ∀ {k : NestedKey} {v : V}, NK H k v → NK H' k v
  | _, _, .non => .non
  | _, _, .int i => .int i
  | _, _, .str x => .str x
  | _, _, .tup h1 h2 => .tup (e _ _ h1) (NKs.tupS e h2)
theorem NKs.tupS {H H' : Hp} (e : ∀ t xs, H t = some (.tup xs) → H' t = some (.tup xs)) : ∀ {ks : List NestedKey} {vs : List V}, NKs H ks vs → NKs H' ks vs
  | _, _, .nil => .nil
  | _, _, .cons h1 h2 => .cons (NK.tupS e h1) (NKs.tupS e h2)
end
theorem NK.mutT {H : Hp} {D : Addr} (hD : ∀ t xs, H t = some (.tup xs) → t ≠ D) (u : HO) : ∀ {k : NestedKey} {v : V}, NK H k v → NK (upd H D u) k v := by
  intro k v h
  have e : ∀ t xs, H t = some (.tup xs) → (upd H D u) t = some (.tup xs) := fun t xs h => by rw [upd_ne (hD t xs h)]; exact h
  exact NK.tupS e h
theorem NKs.mutT {H : Hp} {D : Addr} (hD : ∀ t xs, H t = some (.tup xs) → t ≠ D) (u : HO) {ks : List NestedKey} {vs : List V} (h : NKs H ks vs) : NKs (upd H D u) ks vs :=
  NKs.tupS (fun t xs h => by rw [upd_ne (hD t xs h)]; exact h) h
theorem NKs.app {H : Hp} : ∀ {ks ks2 : List NestedKey} {vs vs2 : List V}, NKs H ks vs → NKs H ks2 vs2 → NKs H (ks ++ ks2) (vs ++ vs2)
  | _, _, _, _, .nil, h => h
  | _, _, _, _, .cons h1 h2, h => .cons h1 (NKs.app h2 h)
def rTupS (K : PySem.W.Frag) : List V → Hp → VK → Prop := fun xs H Q => ∃ p ys, xs = [.ref p] ∧ ((SqL K H p ys ∧ ∀ l, H l = none → Q (.ref l) (upd H l (.tup ys))) ∨ (SqT K H p ys ∧ Q (.ref p) H))
end SG
/-! drawn worlds: the third kind of the laws' draws -/
namespace SG
open PySem PySem.Spec PyProof.Rows L2 LamX
/-- a well whose second number is a remainder -/
def WellC (H : Hp) (s : Addr) (n : Nat) : Prop := WellAt H s n ∧ ∃ a b c : Int, H s = some (.lst [.int a, .int b, .int c]) ∧ 0 ≤ b ∧ b < 2147483647
variable {H H' H1 H2 : Hp} {s : Addr} {n m : Nat}
theorem WellC.mono (h : WellC H s n) (hm : n ≤ m) : WellC H s m := ⟨h.1.mono hm, h.2⟩
theorem WellC.same (h : WellC H s n) (e : Same H H') : WellC H' s n := by
  obtain ⟨h1, a, b, c, h2, h3⟩ := h
  exact ⟨h1.same e, a, b, c, e _ _ h2, h3⟩
theorem WellC.cell {p : Addr} (h : WellC H s n) {o : HO} (h0 : WellC H1 s m) (hp : H1 p = Option.none) : WellC (upd H p o) s n := by
  obtain ⟨h1, a, b, c, h2, h3⟩ := h
  obtain ⟨os, g2⟩ := h0.1.some
  exact ⟨h1.cell h0.1 hp, a, b, c, by rw [upd_ne (ne_of_none g2 hp)]; exact h2, h3⟩
theorem WellC.nums (h : WellC H s n) : ∃ a b c : Int, H s = some (.lst [.int a, .int b, .int c]) ∧ 0 ≤ a ∧ 0 ≤ b ∧ b < 2147483647 ∧ 0 ≤ c ∧ c ≤ (n : Int) := by
  obtain ⟨⟨a, b, c, h1, h2, h3, h4⟩, a', b', c', g1, g2, g3⟩ := h
  rw [h1] at g1
  have e := HO.lst.inj (Option.some.inj g1)
  have e1 := V.int.inj (List.cons.inj (List.cons.inj e).2).1
  exact ⟨a, b, c, h1, h2, by omega, by omega, h3, h4⟩
theorem wellC_of {a b c : Int} (h : H s = some (.lst [.int a, .int b, .int c])) (ha : 0 ≤ a) (hb : 0 ≤ b) (hb2 : b < 2147483647) (hc : 0 ≤ c) (hn : c ≤ (n : Int)) : WellC H s n := ⟨⟨a, b, c, h, ha, hc, hn⟩, a, b, c, h, hb, hb2⟩
def sp_wellC : Sp := fun vs H Q _ => ∃ c : Int, vs = [.int c] ∧ ∀ p H', H p = none → Same H H' → WellC H' p 0 → Q (.ref p) H'
def sp_drawC : Sp := fun vs H Q _ => ∃ (s : Addr) (k : Int) (n : Nat), vs = [.ref s, .int k] ∧ WellC H s n ∧ n ≤ 1000000000 ∧ 0 < k ∧ k < 1073741824 ∧ ∀ (j : Int) H', 0 ≤ j → j < k → But s H H' → WellC H' s (n + 1) → Q (.int j) H'
/-- some of the names, m at most -/
def sp_some : Sp := fun vs H Q _ => ∃ (s a : Addr) (m n : Nat) (xs : List Str), vs = [.ref s, .ref a, .int m] ∧ m ≤ 100 ∧ WellC H s n ∧ n ≤ 100000000 ∧ H a = some (.lst (xs.map V.str)) ∧ 0 < xs.length ∧ xs.length ≤ 1000 ∧ ∀ p H' (row : List Str), H p = none → But s H H' → WellC H' s (n + 1 + m) → H' p = some (.lst (row.map V.str)) → row.length ≤ m → (∀ x ∈ row, x ∈ xs) → Q (.ref p) H'
def sp_chain : Sp := fun vs H Q _ => ∃ (s : Addr) (m n : Nat), vs = [.ref s, .int m] ∧ 1 ≤ m ∧ m ≤ 6 ∧ WellC H s n ∧ n ≤ 100000000 ∧ ∀ p H' (xs : List Str), H p = none → But s H H' → WellC H' s (n + 1 + 2 * m) → H' p = some (.lst (xs.map V.str)) → areNames xs = true → xs.length = m → Q (.ref p) H'
/-! names of one letter, many times -/
theorem rep_name : ∀ c, c < 26 → ∀ k, k < 8 → isName (repS (97 + c) (k + 1)) = true := by decide +kernel
theorem rep_inj {c d k l : Nat} (h : repS c (k + 1) = repS d l) : c = d := by
  have e := congrArg (fun z : Str => z.cps.toList) h
  have e : List.replicate (k + 1) c = List.replicate l d := by
    have e : (repS c (k + 1)).cps.toList = (repS d l).cps.toList := e
    simpa [repS] using e
  cases l with
  | zero => rw [List.replicate_succ, List.replicate_zero] at e; cases e
  | succ l =>
    rw [List.replicate_succ, List.replicate_succ] at e
    exact (List.cons.inj e).1
/-- the i-th of a chain's texts before they are mixed -/
def ChainB (f : Int) (i : Nat) (x : Str) : Prop := ∃ k, k < 8 ∧ x = repS (97 + ((f + 7 * (i : Int)) % 26).toNat) (k + 1)
theorem chain_names {xs : List Str} {f : Int} (h : ∀ i x, xs[i]? = some x → ChainB f i x) (h1 : 1 ≤ xs.length) (h6 : xs.length ≤ 6) : areNames xs = true := by
  unfold areNames
  rw [decide_eq_true h1, decide_eq_true h6, decide_eq_true (p := xs.Nodup) ?_]
  · show (true && xs.all isName) = true
    rw [Bool.true_and, List.all_eq_true]
    intro x hx
    obtain ⟨i, hi⟩ := List.mem_iff_getElem?.mp hx
    obtain ⟨k, hk, rfl⟩ := h i x hi
    exact rep_name _ (by omega) k hk
  · refine List.pairwise_iff_getElem.mpr fun i j hi hj hij e => ?_
    obtain ⟨k, hk, e1⟩ := h i _ (List.getElem?_eq_getElem hi)
    obtain ⟨l, hl, e2⟩ := h j _ (List.getElem?_eq_getElem hj)
    rw [e1, e2] at e
    have := rep_inj e
    omega
theorem abc_sign {i : Int} (h0 : 0 ≤ i) (h1 : i < 26) : (abcS.cps[i.toNat]?) = some (97 + i.toNat) := by
  have e : abcS.cps[i.toNat]? = abcS.cps.toList[i.toNat]? := by rw [Array.getElem?_toList]
  rw [e, abcL, List.getElem?_map, List.getElem?_range (by omega)]
  rfl
/-! dicts of lists of steps while they are made -/
/-- nothing that a list of steps is made of -/
def Alien (H : Hp) (z : Addr) : Prop := ∀ o, H z = some o → (∀ ts : List Addr, ts ≠ [] → o ≠ .lst (ts.map V.ref)) ∧ (∀ vs, o ≠ .tup vs) ∧ ∀ ss : List Str, o ≠ .lst (ss.map V.str)
theorem alien_well (h : WellAt H s n) : Alien H s := fun o ho => ⟨fun ts _ e => h.ne_refs (e ▸ ho) rfl, fun vs e => h.ne_tup (e ▸ ho) rfl, fun ss e => h.ne_strs (e ▸ ho) rfl⟩
theorem alien_dk {d : Addr} {kvs : List (Key × V)} (h : H d = some (.dK kvs)) : Alien H d := fun o ho => by
  rw [h] at ho
  obtain rfl := Option.some.inj ho
  exact ⟨fun _ _ e => (by cases e), fun _ e => (by cases e), fun _ e => (by cases e)⟩
theorem alien_none {d : Addr} (h : H d = none) : Alien H d := fun o ho => by
  rw [h] at ho
  cases ho
theorem alien_refs {d : Addr} {ts : List Addr} (h : H d = some (.lst (ts.map V.ref))) (hne : ts ≠ []) : (∀ vs, H d ≠ some (.tup vs)) ∧ ∀ ss : List Str, H d ≠ some (.lst (ss.map V.str)) := by
  rw [h]
  refine ⟨fun vs e => (by cases e), fun ss e => ?_⟩
  have e := HO.lst.inj (Option.some.inj e)
  cases ts with
  | nil => exact hne rfl
  | cons t ts => cases ss with
    | nil => cases e
    | cons x ss => cases e
theorem ListAt.alien {l z : Addr} {ps : List Step} (h : ListAt H l ps) (hne : ps ≠ []) (hz : Alien H z) (k : But z H H') : ListAt H' l ps := by
  obtain ⟨ts, h1, h2⟩ := h
  have hts : ts ≠ [] := fun e => by
    subst e
    cases h2
    exact hne rfl
  refine ⟨ts, k _ _ (fun e => (hz _ (e ▸ h1)).1 ts hts rfl) h1, Paired.mapP h2 fun t p ⟨w, h3, h4⟩ => ⟨w, k _ _ (fun e => (hz _ (e ▸ h3)).2.1 _ rfl) h3, k _ _ (fun e => (hz _ (e ▸ h4)).2.2 _ rfl) h4⟩⟩
/-- another list of references changes -/
theorem ListAt.refs {l z : Addr} {ps : List Step} {ts : List Addr} (h : ListAt H l ps) (hz : H z = some (.lst (ts.map V.ref))) (hne : ts ≠ []) (nl : l ≠ z) (k : But z H H') : ListAt H' l ps := by
  obtain ⟨us, h1, h2⟩ := h
  obtain ⟨a1, a2⟩ := alien_refs hz hne
  exact ⟨us, k _ _ nl h1, Paired.mapP h2 fun t p ⟨w, h3, h4⟩ => ⟨w, k _ _ (fun e => a1 _ (e ▸ h3)) h3, k _ _ (fun e => a2 _ (e ▸ h4)) h4⟩⟩
def RulesT (H0 H : Hp) (rd : Addr) (ns : List Str) (ls : List Addr) (gs : List (List Step)) : Prop :=
  H rd = some (.dK (zipK ns ls)) ∧ ls.length = ns.length ∧ ls.Nodup ∧ Paired (fun l ps => H0 l = none ∧ ps ≠ [] ∧ ListAt H l ps) ls gs
variable {H0 : Hp} {rd : Addr} {ns : List Str} {ls : List Addr} {gs : List (List Step)}
theorem RulesT.same (h : RulesT H0 H rd ns ls gs) (e : Same H H') : RulesT H0 H' rd ns ls gs := ⟨e _ _ h.1, h.2.1, h.2.2.1, Paired.mapP h.2.2.2 fun _ _ ⟨a, b, c⟩ => ⟨a, b, c.same e⟩⟩
theorem RulesT.alien {z : Addr} (h : RulesT H0 H rd ns ls gs) (hz : Alien H z) (nz : rd ≠ z) (k : But z H H') : RulesT H0 H' rd ns ls gs := ⟨k _ _ nz h.1, h.2.1, h.2.2.1, Paired.mapP h.2.2.2 fun _ _ ⟨a, b, c⟩ => ⟨a, b, c.alien b hz k⟩⟩
theorem RulesT.but (h : RulesT H0 H rd ns ls gs) (w : WellAt H s n) (b : But s H H') : RulesT H0 H' rd ns ls gs := h.alien (alien_well w) (w.ne_dk h.1) b
theorem zipK_snoc : ∀ (ns : List Str) (ls : List Addr) (n : Str) (l : Addr), ls.length = ns.length → zipK (ns ++ [n]) (ls ++ [l]) = zipK ns ls ++ [((Sum.inr n : Key), V.ref l)]
  | [], [], n, l, _ => rfl
  | [], _ :: _, n, l, h => by cases h
  | _ :: _, [], n, l, h => by cases h
  | a :: ns, b :: ls, n, l, h => by
    show _ :: zipK (ns ++ [n]) (ls ++ [l]) = _
    rw [zipK_snoc ns ls n l (Nat.succ.inj h)]
    rfl
theorem zipK_new {n : Str} (h : ls.length = ns.length) (hn : n ∉ ns) (l : Addr) : putK (zipK ns ls) (Sum.inr n : Key) (.ref l) = zipK (ns ++ [n]) (ls ++ [l]) := by
  rw [zipK_snoc _ _ _ _ h]
  refine putK_new _ ?_
  rcases zipK_val h.symm n with ⟨e, _⟩ | ⟨_, _, _, _, _, h2⟩
  · exact e
  · exact absurd h2 hn
theorem zipK_len (h : ls.length = ns.length) : (zipK ns ls).length = ns.length := by
  unfold zipK
  rw [List.length_zipWith, h, Nat.min_self]
theorem zipK_map (k : Str) (l : Addr) : ∀ (ns : List Str) (ls : List Addr) (i : Nat), ls.length = ns.length → ns.Nodup → ns[i]? = some k → (zipK ns ls).map (fun kv => if kv.1 = (Sum.inr k : Key) then (kv.1, V.ref l) else kv) = zipK ns (ls.set i l)
  | [], ls, i, h, nd, hi => by simp at hi
  | a :: ns, [], i, h, nd, hi => by cases h
  | a :: ns, b :: ls, 0, h, nd, hi => by
    have e := Option.some.inj hi
    subst e
    show (if (Sum.inr a : Key) = Sum.inr a then ((Sum.inr a : Key), V.ref l) else _) :: (zipK ns ls).map _ = (Sum.inr a, V.ref l) :: zipK ns ls
    rw [if_pos rfl]
    refine congrArg _ ?_
    conv => rhs; rw [← List.map_id (zipK ns ls)]
    refine List.map_congr_left fun kv hkv => ?_
    have hm : ∃ x ∈ ns, kv.1 = (Sum.inr x : Key) := by
      obtain ⟨i, hi⟩ := List.mem_iff_getElem?.mp hkv
      unfold zipK at hi
      rw [List.getElem?_zipWith] at hi
      cases h1 : ns[i]? with
      | none => rw [h1] at hi; cases hi
      | some x =>
        cases h2 : ls[i]? with
        | none => rw [h1, h2] at hi; cases hi
        | some y =>
          rw [h1, h2] at hi
          exact ⟨x, List.mem_of_getElem? h1, by rw [← Option.some.inj hi]⟩
    obtain ⟨x, hx, e⟩ := hm
    rw [e, if_neg]
    · rfl
    · intro z
      have z := Sum.inr.inj z
      subst z
      exact (List.nodup_cons.mp nd).1 hx
  | a :: ns, b :: ls, i + 1, h, nd, hi => by
    have hk : ns[i]? = some k := hi
    show (if (Sum.inr a : Key) = Sum.inr k then ((Sum.inr a : Key), V.ref l) else ((Sum.inr a : Key), V.ref b)) :: (zipK ns ls).map _ = (Sum.inr a, V.ref b) :: zipK ns (ls.set i l)
    have hak : ¬ ((Sum.inr a : Key) = Sum.inr k) := fun z => by
      have z := Sum.inr.inj z
      subst z
      exact (List.nodup_cons.mp nd).1 (List.mem_of_getElem? hk)
    rw [if_neg hak, zipK_map k l ns ls i (Nat.succ.inj h) (List.nodup_cons.mp nd).2 hk]
theorem zipK_set {k : Str} {i : Nat} (h : ls.length = ns.length) (nd : ns.Nodup) (hi : ns[i]? = some k) (l : Addr) : putK (zipK ns ls) (Sum.inr k : Key) (.ref l) = zipK ns (ls.set i l) := by
  unfold putK
  rw [if_pos]
  · exact zipK_map k l ns ls i h nd hi
  · rw [List.any_eq_true]
    rcases zipK_val h.symm k with ⟨_, e⟩ | ⟨j, y, h1, h2, _, _⟩
    · exact absurd (List.mem_of_getElem? hi) e
    · refine ⟨((Sum.inr k : Key), V.ref y), ?_, decide_eq_true rfl⟩
      refine List.mem_of_getElem? (i := j) ?_
      unfold zipK
      rw [List.getElem?_zipWith, h1, h2]
theorem RulesT.put {n : Str} {l : Addr} {ps : List Step} (h : RulesT H0 H rd ns ls gs) (hl : ListAt H l ps) (hne : ps ≠ []) (hl0 : H0 l = none) (ll : l ∉ ls) (hn : n ∉ ns) : RulesT H0 (upd H rd (.dK (putK (zipK ns ls) (Sum.inr n : Key) (.ref l)))) rd (ns ++ [n]) (ls ++ [l]) (gs ++ [ps]) := by
  have k : But rd H (upd H rd (.dK (putK (zipK ns ls) (Sum.inr n : Key) (.ref l)))) := (But.refl rd H).own _
  refine ⟨by rw [upd_same, zipK_new h.2.1 hn], by rw [List.length_append, List.length_append, h.2.1]; rfl, ?_, ?_⟩
  · rw [List.nodup_append]
    refine ⟨h.2.2.1, by simp, fun a ha b hb e => ?_⟩
    rw [List.mem_singleton] at hb
    exact ll (hb ▸ e ▸ ha)
  · exact paired_app ⟨hl0, hne, hl.alien hne (alien_dk h.1) k⟩ (Paired.mapP h.2.2.2 fun _ _ ⟨a, b, c⟩ => ⟨a, b, c.alien b (alien_dk h.1) k⟩)
end SG
namespace SG
open PySem PySem.Spec PyProof.Rows L2 LamX
def ButX (s : Addr) (H H' : Hp) : Prop := ∀ a o, a ≠ s → H a = some o → (∀ ps, o ≠ .tbl ps) → H' a = some o
theorem ButX.trans {s : Addr} {H H1 H2 : Hp} (a : ButX s H H1) (b : ButX s H1 H2) : ButX s H H2 := fun x o n h t => b x o n (a x o n h t) t
theorem butX_but {s : Addr} {H H' : Hp} (b : But s H H') : ButX s H H' := fun x o n h _ => b x o n h
theorem butX_ext {s : Addr} {H H' : Hp} (b : ExtN H H') : ButX s H H' := fun x o _ h t => b x o h t
theorem butX_same {s : Addr} {H H' : Hp} (b : Same H H') : ButX s H H' := fun x o _ h _ => b x o h
theorem ButX.lst {s a : Addr} {H H' : Hp} (b : ButX s H H') (n : a ≠ s) {xs : List V} (h : H a = some (.lst xs)) : H' a = some (.lst xs) := b _ _ n h fun ps z => by cases z
theorem ButX.gram {s : Addr} {k : Nat} {C : Addr} {H H' : Hp} {g : Addr} {names : List Str} {rs : List Rule} (h : GramAt C H g names rs) (w : WellAt H s k) (b : ButX s H H') : GramAt C H' g names rs := by
  obtain ⟨a1, a2, a3, hs, _⟩ := w
  obtain ⟨dx, kn, st, od, ls, h1, h2, h3, h4⟩ := h.ex
  have n : ∀ {y : Addr} {o : HO}, H y = some o → o ≠ .lst [.int a1, .int a2, .int a3] → y ≠ s := fun h n z => by rw [z, hs] at h; exact n (Option.some.inj h).symm
  have k1 : ∀ {y : Addr} {l : List Str}, H y = some (.lst (l.map V.str)) → H' y = some (.lst (l.map V.str)) := fun {y l} h => b.lst (n h fun z => by
    have z := HO.lst.inj z
    cases l with
    | nil => cases z
    | cons x l => cases z) h
  have k2 : ∀ {y : Addr} {l : List Addr}, H y = some (.lst (l.map V.ref)) → H' y = some (.lst (l.map V.ref)) := fun {y l} h => b.lst (n h fun z => by
    have z := HO.lst.inj z
    cases l with
    | nil => cases z
    | cons x l => cases z) h
  exact ⟨dx, kn, st, od, ls, b _ _ (n h1 fun z => by cases z) h1 fun ps z => (by cases z), k1 h2, ⟨b _ _ (n h3.1 fun z => by cases z) h3.1 fun ps z => (by cases z), Paired.mapP h3.2.1 fun _ _ ⟨ts, h5, h6⟩ => ⟨ts, k2 h5, Paired.mapP h6 fun _ _ ⟨x, h7, h8⟩ => ⟨x, b _ _ (n h7 fun z => by cases z) h7 fun ps z => (by cases z), k1 h8⟩⟩, h3.2.2⟩, k1 h4⟩
theorem ButX.trios {s l : Addr} {k : Nat} {H H' : Hp} {rs : List Rule} (h : TriosAt H l rs) (w : WellAt H s k) (b : ButX s H H') : TriosAt H' l rs := by
  obtain ⟨ts, h1, h2⟩ := h
  exact ⟨ts, b.lst (w.ne_refs h1) h1, Paired.mapP h2 fun _ _ ⟨x, h3, h4⟩ => ⟨x, b _ _ (w.ne_tup h3) h3 fun ps z => (by cases z), b.lst (w.ne_strs h4) h4⟩⟩
theorem ButX.free {s : Addr} {k : Nat} {H H' : Hp} (b : ButX s H H') (w : WellAt H' s k) {p : Addr} (hp : H' p = none) : FreeN H p := fun o ho => by
  by_cases n : p = s
  · obtain ⟨o2, h2⟩ := w.some
    rw [n, h2] at hp
    cases hp
  · cases o with
    | tbl ps => exact ⟨ps, rfl⟩
    | _ => rw [b _ _ n ho fun ps z => by cases z] at hp; cases hp
theorem wellX {s : Addr} {k : Nat} {H H' : Hp} (w : WellAt H s k) (e : ExtN H H') : WellAt H' s k := by
  obtain ⟨a, b, c, h1, h2⟩ := w
  exact ⟨a, b, c, e.lst h1, h2⟩
theorem tabs_well {T : List (Addr × Str)} {s : Addr} {k : Nat} {H H' : Hp} (t : Tabs T H) (w : WellAt H s k) (b : But s H H') : Tabs T H' := fun p hp => by
  obtain ⟨a1, a2, a3, hs, _⟩ := w
  obtain ⟨ps, h1, h2, h3⟩ := t p hp
  refine ⟨ps, b _ _ (fun z => by rw [z, hs] at h1; cases h1) h1, h2, fun pos cv hc => ?_⟩
  obtain ⟨c, e1, e2⟩ := h3 pos cv hc
  refine ⟨c, e1, b _ _ (fun z => ?_) e2⟩
  rw [z, hs] at e2
  have e2 := Option.some.inj e2
  unfold CodeO at e2
  cases e2
theorem letter_ok : ∀ u, u < 26 → isLetter ⟨#[97 + u]⟩ = true := by decide +kernel
theorem extN_butX {s : Addr} {H0 H H' : Hp} (sm : Same H0 H) (b : ButX s H H') (h : H0 s = none) : ExtN H0 H' := fun a o ha t => b a o (fun z => by rw [z, h] at ha; cases ha) (sm a o ha) t
end SG
namespace SG
open PySem PySem.Spec PyProof.Rows L2 LamX
theorem paired_of_ix {α β : Type} {F : α → β → Prop} : ∀ {xs : List α} {ys : List β}, xs.length = ys.length → (∀ (i : Nat) x y, xs[i]? = some x → ys[i]? = some y → F x y) → Paired F xs ys
  | [], [], _, _ => .nil
  | [], _ :: _, h, _ => by cases h
  | _ :: _, [], h, _ => by cases h
  | x :: xs, y :: ys, h, k => .cons (k 0 x y rfl rfl) (paired_of_ix (Nat.succ.inj h) fun i a b h1 h2 => k (i + 1) a b h1 h2)
variable {H0 H H' : Hp} {rd : Addr} {ns : List Str} {ls : List Addr} {gs : List (List Step)}
theorem RuleAt.refs {t z : Addr} {p : Step} {ts : List Addr} (h : RuleAt H t p) (hz : H z = some (.lst (ts.map V.ref))) (hne : ts ≠ []) (k : But z H H') : RuleAt H' t p := by
  obtain ⟨a1, a2⟩ := alien_refs hz hne
  obtain ⟨w, h3, h4⟩ := h
  exact ⟨w, k _ _ (fun e => a1 _ (e ▸ h3)) h3, k _ _ (fun e => a2 _ (e ▸ h4)) h4⟩
/-- a step more at the i-th name -/
theorem RulesT.app {i : Nat} {l t : Addr} {ps : List Step} {p : Step} {ts : List Addr} (h : RulesT H0 H rd ns ls gs) (hl : ls[i]? = some l) (hg : gs[i]? = some ps) (hts : H l = some (.lst (ts.map V.ref))) (hp : Paired (RuleAt H) ts ps) (ht : RuleAt H t p) :
    RulesT H0 (upd H l (.lst (ts.map V.ref ++ [V.ref t]))) rd ns ls (gs.set i (ps ++ [p])) := by
  have k : But l H (upd H l (.lst (ts.map V.ref ++ [V.ref t]))) := (But.refl l H).own _
  have hlen := paired_len h.2.2.2
  have hne : ps ≠ [] := (paired_ix h.2.2.2 hl hg).2.1
  have htne : ts ≠ [] := fun e => by
    subst e
    cases hp
    exact hne rfl
  refine ⟨k _ _ (fun e => ?_) h.1, h.2.1, h.2.2.1, paired_of_ix (by rw [List.length_set]; exact hlen) fun j l' ps' h1 h2 => ?_⟩
  · rw [← e, h.1] at hts
    cases hts
  · rw [List.getElem?_set] at h2
    by_cases c : i = j
    · subst c
      rw [if_pos rfl] at h2
      have hi := (List.getElem?_eq_some_iff.mp hg).1
      rw [if_pos hi] at h2
      obtain rfl := Option.some.inj h2
      rw [hl] at h1
      obtain rfl := Option.some.inj h1
      refine ⟨(paired_ix h.2.2.2 hl hg).1, by simp, ts ++ [t], by rw [upd_same, List.map_append]; rfl, paired_app (ht.refs hts htne k) (Paired.mapP hp fun _ _ h => h.refs hts htne k)⟩
    · rw [if_neg c] at h2
      obtain ⟨a, b, d⟩ := paired_ix h.2.2.2 h1 h2
      refine ⟨a, b, d.refs hts htne (fun e => c ?_) k⟩
      subst e
      obtain ⟨g1, e1⟩ := List.getElem?_eq_some_iff.mp hl
      obtain ⟨g2, e2⟩ := List.getElem?_eq_some_iff.mp h1
      exact (List.getElem_inj h.2.2.1).mp (e1.trans e2.symm)
/-- another list at the i-th name -/
theorem RulesT.set {i : Nat} {k0 : Str} {l : Addr} {ps : List Step} (h : RulesT H0 H rd ns ls gs) (nd : ns.Nodup) (hk : ns[i]? = some k0) (hl : ListAt H l ps) (hne : ps ≠ []) (hl0 : H0 l = none) (ll : l ∉ ls) :
    RulesT H0 (upd H rd (.dK (putK (zipK ns ls) (Sum.inr k0 : Key) (.ref l)))) rd ns (ls.set i l) (gs.set i ps) := by
  have k : But rd H (upd H rd (.dK (putK (zipK ns ls) (Sum.inr k0 : Key) (.ref l)))) := (But.refl rd H).own _
  have hlen := paired_len h.2.2.2
  refine ⟨by rw [upd_same, zipK_set h.2.1 nd hk], by rw [List.length_set]; exact h.2.1, ?_, paired_of_ix (by rw [List.length_set, List.length_set]; exact hlen) fun j l' ps' h1 h2 => ?_⟩
  · refine List.pairwise_iff_getElem.mpr fun a b ha hb hab e => ?_
    rw [List.getElem_set, List.getElem_set] at e
    have ha' : a < ls.length := by simpa using ha
    have hb' : b < ls.length := by simpa using hb
    by_cases c1 : i = a
    · by_cases c2 : i = b
      · omega
      · rw [if_pos c1, if_neg c2] at e
        exact ll (e ▸ List.getElem_mem hb')
    · by_cases c2 : i = b
      · rw [if_neg c1, if_pos c2] at e
        exact ll (e ▸ List.getElem_mem ha')
      · rw [if_neg c1, if_neg c2] at e
        have := (List.getElem_inj h.2.2.1).mp e
        omega
  · rw [List.getElem?_set] at h1 h2
    by_cases c : i = j
    · rw [if_pos c] at h1 h2
      split at h1
      · obtain rfl := Option.some.inj h1
        split at h2
        · obtain rfl := Option.some.inj h2
          exact ⟨hl0, hne, hl.alien hne (alien_dk h.1) k⟩
        · cases h2
      · cases h1
    · rw [if_neg c] at h1 h2
      obtain ⟨a, b, d⟩ := paired_ix h.2.2.2 h1 h2
      exact ⟨a, b, d.alien b (alien_dk h.1) k⟩
theorem RulesT.look {i : Nat} {k0 : Str} (h : RulesT H0 H rd ns ls gs) (nd : ns.Nodup) (hk : ns[i]? = some k0) : ∃ l ps ts, ls[i]? = some l ∧ gs[i]? = some ps ∧ valV (zipK ns ls) (Sum.inr k0 : Key) = some (.ref l) ∧ H l = some (.lst (ts.map V.ref)) ∧ Paired (RuleAt H) ts ps ∧ ps ≠ [] := by
  have hlen := paired_len h.2.2.2
  rcases zipK_val h.2.1.symm k0 with ⟨_, e⟩ | ⟨j, l, h1, h2, h3, _⟩
  · exact absurd (List.mem_of_getElem? hk) e
  · have ej : j = i := nd_ix nd h1 hk
    subst ej
    have hj := (List.getElem?_eq_some_iff.mp h2).1
    obtain ⟨ps, hps⟩ : ∃ ps, gs[j]? = some ps := ⟨_, List.getElem?_eq_getElem (by omega)⟩
    obtain ⟨_, b, ts, h4, h5⟩ := paired_ix h.2.2.2 h2 hps
    exact ⟨l, ps, ts, h2, hps, h3, h4, h5, b⟩
theorem tabs_dk {T : List (Addr × Str)} {H : Hp} {a : Addr} {kvs : List (Key × V)} (t : Tabs T H) (h : H a = some (.dK kvs)) (o : HO) : Tabs T (upd H a o) := fun p hp => by
  obtain ⟨ps, h1, h2, h3⟩ := t p hp
  refine ⟨ps, by rw [upd_ne (fun z => by rw [z, h] at h1; cases h1)]; exact h1, h2, fun pos cv hc => ?_⟩
  obtain ⟨c, e1, e2⟩ := h3 pos cv hc
  refine ⟨c, e1, ?_⟩
  rw [upd_ne (fun z => by
    rw [z, h] at e2
    have e2 := Option.some.inj e2
    unfold CodeO at e2
    cases e2)]
  exact e2
/-- a world that is drawn: names in their order, a chain of the same names, each with its steps -/
structure WorldAt (H : Hp) (wd : Addr) (names chain : List Str) (gs : List (List Step)) : Prop where
  ex : ∃ nl rd ls, H wd = some (.dK [((Sum.inr "names" : Key), V.ref nl), ((Sum.inr "rules" : Key), V.ref rd)]) ∧ H nl = some (.lst (names.map V.str)) ∧ H rd = some (.dK (zipK chain ls)) ∧ ls.length = chain.length ∧ Paired (ListAt H) ls gs
def StepsW (chain : List Str) (i : Nat) (b : Nat) (c : Nat) (ps : List Step) : Prop := ps.Nodup ∧ ps.length ≤ b ∧ (∀ p ∈ ps, isLetter p.1 = true ∧ p.2.length ≤ c ∧ ∀ x ∈ p.2, x ∈ chain) ∧ ∃ p ∈ ps, ∀ x ∈ p.2, x ∈ chain.take i
def WorldR (chain : List Str) (b c : Nat) (gs : List (List Step)) : Prop := gs.length = chain.length ∧ ∀ i ps, gs[i]? = some ps → StepsW chain i b c ps
/-! the rules of a world -/
/-- the steps of a name -/
def stepsW (chain : List Str) (gs : List (List Step)) (n : Str) : List Step := ((chain.zip gs).filter fun p => decide (p.1 = n)).flatMap (·.2)
theorem stepsW_at : ∀ {chain : List Str} {gs : List (List Step)}, chain.Nodup → ∀ {i : Nat} {n : Str} {ps : List Step}, chain[i]? = some n → gs[i]? = some ps → stepsW chain gs n = ps
  | [], gs, _, i, n, ps, h, _ => by simp at h
  | a :: chain, [], _, i, n, ps, _, h => by simp at h
  | a :: chain, g :: gs, nd, 0, n, ps, h1, h2 => by
    have e1 := Option.some.inj h1
    have e2 := Option.some.inj h2
    subst e1
    subst e2
    unfold stepsW
    rw [List.zip_cons_cons, List.filter_cons, if_pos (by simp), List.flatMap_cons]
    have e : ((chain.zip gs).filter fun p => decide (p.1 = a)) = [] := List.filter_eq_nil_iff.mpr fun p hp h => by
      have := of_decide_eq_true h
      obtain ⟨x, y⟩ := p
      have hm := (List.of_mem_zip hp).1
      exact (List.nodup_cons.mp nd).1 (this ▸ hm)
    rw [e]
    exact List.append_nil _
  | a :: chain, g :: gs, nd, i + 1, n, ps, h1, h2 => by
    have h1 : chain[i]? = some n := h1
    have h2 : gs[i]? = some ps := h2
    unfold stepsW
    rw [List.zip_cons_cons, List.filter_cons, if_neg (by
      rw [decide_eq_true_eq]
      intro e
      have e : a = n := e
      exact (List.nodup_cons.mp nd).1 (e ▸ List.mem_of_getElem? h1))]
    exact stepsW_at (List.nodup_cons.mp nd).2 h1 h2
def rulesW (names : List Str) (f : Str → List Step) : List Rule := names.flatMap fun n => (f n).map fun p => (n, p.1, p.2)
theorem rulesOf_self (f : Str → List Step) (n m : Str) : rulesOf ((f n).map fun p : Step => ((n, p.1, p.2) : Rule)) m = if n = m then f n else [] := by
  unfold rulesOf
  by_cases c : n = m
  · rw [if_pos c, List.filter_eq_self.mpr, List.map_map]
    · exact List.map_id _
    · intro r hr
      obtain ⟨p, _, rfl⟩ := List.mem_map.mp hr
      exact decide_eq_true c
  · rw [if_neg c, List.filter_eq_nil_iff.mpr]
    · rfl
    · intro r hr h
      obtain ⟨p, _, rfl⟩ := List.mem_map.mp hr
      exact c (of_decide_eq_true h)
theorem rulesOf_W (f : Str → List Step) (m : Str) : ∀ {names : List Str}, names.Nodup → rulesOf (rulesW names f) m = if m ∈ names then f m else []
  | [], _ => rfl
  | n :: names, nd => by
    have e : rulesOf (rulesW (n :: names) f) m = rulesOf ((f n).map fun p : Step => ((n, p.1, p.2) : Rule)) m ++ rulesOf (rulesW names f) m := by
      unfold rulesW rulesOf
      rw [List.flatMap_cons, List.filter_append, List.map_append]
    rw [e, rulesOf_self, rulesOf_W f m (List.nodup_cons.mp nd).2]
    by_cases c : n = m
    · subst c
      rw [if_pos rfl, if_neg (List.nodup_cons.mp nd).1, if_pos (List.mem_cons_self ..), List.append_nil]
    · rw [if_neg c, List.nil_append]
      by_cases c2 : m ∈ names
      · rw [if_pos c2, if_pos (List.mem_cons_of_mem _ c2)]
      · rw [if_neg c2, if_neg (fun h => (List.mem_cons.mp h).elim (fun e => c e.symm) c2)]
theorem nodup_flatW {α β : Type} {g : α → List β} : ∀ {l : List α}, l.Nodup → (∀ a ∈ l, (g a).Nodup) → (∀ a ∈ l, ∀ b ∈ l, a ≠ b → ∀ x ∈ g a, x ∉ g b) → (l.flatMap g).Nodup
  | [], _, _, _ => List.nodup_nil
  | a :: l, n, h, d => by
    have n1 := List.nodup_cons.mp n
    rw [List.flatMap_cons, List.nodup_append]
    refine ⟨h a (List.mem_cons_self ..), nodup_flatW n1.2 (fun b hb => h b (List.mem_cons_of_mem _ hb)) fun b hb c hc => d b (List.mem_cons_of_mem _ hb) c (List.mem_cons_of_mem _ hc), ?_⟩
    intro x hx y hy e
    subst e
    obtain ⟨b, hb, h2⟩ := List.mem_flatMap.mp hy
    exact d a (List.mem_cons_self ..) b (List.mem_cons_of_mem _ hb) (fun e => n1.1 (e ▸ hb)) x hx h2
section
variable {chain names : List Str} {b : Nat} {gs : List (List Step)}
theorem WorldR.at_ (h : WorldR chain b 3 gs) (nd : chain.Nodup) {n : Str} (hn : n ∈ chain) : ∃ i, chain[i]? = some n ∧ StepsW chain i b 3 (stepsW chain gs n) := by
  obtain ⟨i, hi⟩ := List.mem_iff_getElem?.mp hn
  have hil := (List.getElem?_eq_some_iff.mp hi).1
  obtain ⟨ps, hps⟩ : ∃ ps, gs[i]? = some ps := ⟨_, List.getElem?_eq_getElem (by rw [h.1]; exact hil)⟩
  exact ⟨i, hi, by rw [stepsW_at nd hi hps]; exact h.2 i ps hps⟩
theorem world_good (h : WorldR chain b 3 gs) (hb : b ≤ 4) (nd : chain.Nodup) (hp : names.Perm chain) : GoodR names (rulesW names (stepsW chain gs)) where
  nd := by
    refine nodup_flatW (hp.nodup_iff.mpr nd) (fun n hn => ?_) fun a _ c _ hac x hx hy => ?_
    · obtain ⟨i, _, h1, _⟩ := h.at_ nd (hp.mem_iff.mp hn)
      exact List.Pairwise.map _ (fun p q (hpq : p ≠ q) e => hpq (by
        have e := (Prod.mk.inj e).2
        exact e)) h1
    · obtain ⟨p, _, rfl⟩ := List.mem_map.mp hx
      obtain ⟨q, _, e⟩ := List.mem_map.mp hy
      exact hac (Prod.mk.inj e).1.symm
  ok := fun r hr => by
    obtain ⟨n, hn, h2⟩ := List.mem_flatMap.mp hr
    obtain ⟨p, hpm, rfl⟩ := List.mem_map.mp h2
    obtain ⟨i, _, _, _, h3, _⟩ := h.at_ nd (hp.mem_iff.mp hn)
    obtain ⟨a1, a2, a3⟩ := h3 p hpm
    exact ⟨hn, a1, a2, fun x hx => hp.mem_iff.mpr (a3 x hx)⟩
  few := fun n => by
    rw [rulesOf_W _ _ (hp.nodup_iff.mpr nd)]
    split
    · rename_i hn
      obtain ⟨i, _, _, h2, _⟩ := h.at_ nd (hp.mem_iff.mp hn)
      omega
    · exact Nat.zero_le _
theorem world_few (h : WorldR chain b 3 gs) (nd : chain.Nodup) (hp : names.Perm chain) (n : Str) : (rulesOf (rulesW names (stepsW chain gs)) n).length ≤ b := by
  rw [rulesOf_W _ _ (hp.nodup_iff.mpr nd)]
  split
  · rename_i hn
    obtain ⟨i, _, _, h2, _⟩ := h.at_ nd (hp.mem_iff.mp hn)
    exact h2
  · exact Nat.zero_le _
theorem world_ends (h : WorldR chain b 3 gs) (nd : chain.Nodup) (hp : names.Perm chain) : EndsR names (rulesW names (stepsW chain gs)) := by
  have key : ∀ k, EndsR (chain.take k) (rulesW names (stepsW chain gs)) := fun k => by
    induction k with
    | zero => intro x hx; simp at hx
    | succ k ih =>
      intro x hx
      cases hk : chain[k]? with
      | none =>
        have : chain.length ≤ k := List.getElem?_eq_none_iff.mp hk
        rw [List.take_of_length_le (by omega)] at hx
        refine ih x ?_
        rw [List.take_of_length_le this]
        exact hx
      | some n =>
        rw [take_snoc hk] at hx
        rcases List.mem_append.mp hx with hx | hx
        · exact ih x hx
        · rw [List.mem_singleton.mp hx]
          have hil := (List.getElem?_eq_some_iff.mp hk).1
          obtain ⟨ps, hps⟩ : ∃ ps, gs[k]? = some ps := ⟨_, List.getElem?_eq_getElem (by rw [h.1]; exact hil)⟩
          obtain ⟨_, _, _, p, hpm, hpe⟩ := h.2 k ps hps
          obtain ⟨d, vs, hl, hd⟩ := ih.row hpe
          refine ⟨_, d + 1, p.2, ?_, vs, hl, hd, rfl⟩
          unfold edR
          refine List.mem_map.mpr ⟨(n, p.1, p.2), ?_, rfl⟩
          refine List.mem_flatMap.mpr ⟨n, hp.mem_iff.mpr (List.mem_of_getElem? hk), List.mem_map.mpr ⟨p, ?_, rfl⟩⟩
          rw [stepsW_at nd hk hps]
          exact hpm
  intro x hx
  have := key chain.length x
  rw [List.take_length] at this
  exact this (hp.mem_iff.mp hx)
theorem rulesW_len (h : WorldR chain b 3 gs) (nd : chain.Nodup) : ∀ ns : List Str, (∀ n ∈ ns, n ∈ chain) → (rulesW ns (stepsW chain gs)).length ≤ ns.length * b
  | [], _ => Nat.le_of_eq (by simp [rulesW])
  | n :: ns, hs => by
    have ih := rulesW_len h nd ns fun x hx => hs x (List.mem_cons_of_mem _ hx)
    obtain ⟨i, _, _, h2, _⟩ := h.at_ nd (hs n (List.mem_cons_self ..))
    unfold rulesW at ih ⊢
    rw [List.flatMap_cons, List.length_append, List.length_map, List.length_cons, Nat.succ_mul]
    omega
end
end SG
/-! how many words end a row, in plain words -/
namespace SG
open PySem PySem.Spec PyProof.Rows L2
def cnt (rs : List Rule) : Nat → List Str → Nat
  | 0, row => if row = [] then 1 else 0
  | _ + 1, [] => 0
  | L + 1, n :: t => ((rulesOf rs n).map fun p => cnt rs L (p.2 ++ t)).sum
def convS (L : Nat) (a b : Nat → Nat) : Nat := ((List.range (L + 1)).map fun f => a f * b (L - f)).sum
theorem cnt_nil (rs : List Rule) (L : Nat) : cnt rs L [] = if L = 0 then 1 else 0 := by cases L <;> rfl
theorem cnt_zero (rs : List Rule) (row : List Str) : cnt rs 0 row = if row = [] then 1 else 0 := by cases row <;> rfl
theorem sum_add {α : Type} (f g : α → Nat) : ∀ l : List α, (l.map fun a => f a + g a).sum = (l.map f).sum + (l.map g).sum
  | [] => rfl
  | a :: l => by rw [List.map_cons, List.map_cons, List.map_cons, List.sum_cons, List.sum_cons, List.sum_cons, sum_add f g l]; omega
theorem sum_zero {α : Type} : ∀ l : List α, (l.map fun _ => 0).sum = 0
  | [] => rfl
  | a :: l => by rw [List.map_cons, List.sum_cons, sum_zero l]
theorem sum_swap {α β : Type} (f : α → β → Nat) (m : List β) : ∀ l : List α, (l.map fun a => (m.map fun b => f a b).sum).sum = (m.map fun b => (l.map fun a => f a b).sum).sum
  | [] => (sum_zero m).symm
  | a :: l => by
    rw [List.map_cons, List.sum_cons, sum_swap f m l, ← sum_add]
    rfl
theorem sum_mul {α : Type} (f : α → Nat) (c : Nat) : ∀ l : List α, (l.map f).sum * c = (l.map fun a => f a * c).sum
  | [] => by simp
  | a :: l => by rw [List.map_cons, List.sum_cons, Nat.add_mul, sum_mul f c l, List.map_cons, List.sum_cons]
theorem cong_sum {α : Type} {f g : α → Nat} {l : List α} (h : ∀ a ∈ l, f a = g a) : (l.map f).sum = (l.map g).sum := by rw [List.map_congr_left h]
theorem convS_succ (L : Nat) (a b : Nat → Nat) : convS (L + 1) a b = a 0 * b (L + 1) + convS L (fun f => a (f + 1)) b := by
  unfold convS
  rw [List.range_succ_eq_map, List.map_cons, List.sum_cons, List.map_map]
  congr 1
  refine cong_sum fun f _ => ?_
  show a (f + 1) * b (L + 1 - (f + 1)) = _
  rw [Nat.add_sub_add_right]
theorem cnt_app (rs : List Rule) : ∀ (L : Nat) (x y : List Str), cnt rs L (x ++ y) = convS L (fun f => cnt rs f x) (fun f => cnt rs f y)
  | L, [], y => by
    cases L with
    | zero => unfold convS; simp [cnt_nil]
    | succ L =>
      rw [convS_succ]
      simp only [cnt_nil, List.nil_append]
      have e : convS L (fun f => if f + 1 = 0 then 1 else 0) (fun f => cnt rs f y) = 0 := by
        unfold convS
        rw [cong_sum (g := fun _ => 0) (fun f _ => by simp), sum_zero]
      rw [e]
      simp
  | 0, n :: t, y => by unfold convS; simp [cnt_zero]
  | L + 1, n :: t, y => by
    rw [convS_succ, cnt_zero, if_neg (by simp), Nat.zero_mul, Nat.zero_add]
    show ((rulesOf rs n).map fun p => cnt rs L (p.2 ++ (t ++ y))).sum = convS L (fun f => ((rulesOf rs n).map fun p => cnt rs f (p.2 ++ t)).sum) _
    have e1 : ((rulesOf rs n).map fun p => cnt rs L (p.2 ++ (t ++ y))).sum = ((rulesOf rs n).map fun p => convS L (fun f => cnt rs f (p.2 ++ t)) (fun f => cnt rs f y)).sum := cong_sum fun p _ => by rw [← List.append_assoc, cnt_app rs L]
    rw [e1]
    unfold convS
    rw [sum_swap]
    refine cong_sum fun f _ => ?_
    rw [sum_mul]
/-- by the ways of the first name -/
theorem cnt_cons (rs : List Rule) (L : Nat) (n : Str) (t : List Str) : cnt rs L (n :: t) = ((List.range L).map fun f => cnt rs (f + 1) [n] * cnt rs (L - (f + 1)) t).sum := by
  have h := cnt_app rs L [n] t
  rw [List.singleton_append] at h
  rw [h]
  cases L with
  | zero => unfold convS; simp [cnt_zero]
  | succ L =>
    rw [convS_succ, cnt_zero, if_neg (by simp), Nat.zero_mul, Nat.zero_add]
    unfold convS
    refine cong_sum fun f _ => ?_
    show cnt rs (f + 1) [n] * cnt rs (L - f) t = _
    rw [Nat.add_sub_add_right]
theorem cnt_one (rs : List Rule) (L : Nat) (n : Str) : cnt rs (L + 1) [n] = ((rulesOf rs n).map fun p => cnt rs L p.2).sum := by
  show ((rulesOf rs n).map fun p => cnt rs L (p.2 ++ [])).sum = _
  exact cong_sum fun p _ => by rw [List.append_nil]
theorem sum_bound {α : Type} {f : α → Nat} {c : Nat} : ∀ {l : List α}, (∀ a ∈ l, f a ≤ c) → (l.map f).sum ≤ l.length * c
  | [], _ => Nat.zero_le _
  | a :: l, h => by
    have h1 := h a List.mem_cons_self
    have h2 := sum_bound (l := l) fun b hb => h b (List.mem_cons_of_mem _ hb)
    rw [List.map_cons, List.sum_cons, List.length_cons, Nat.add_mul]
    omega
theorem cnt_le {rs : List Rule} (h : ∀ n, (rulesOf rs n).length ≤ 4) : ∀ (L : Nat) (row : List Str), cnt rs L row ≤ 4 ^ L
  | 0, row => by rw [cnt_zero]; split <;> simp
  | L + 1, [] => Nat.zero_le _
  | L + 1, n :: t => by
    have h4 := Nat.mul_le_mul_right (4 ^ L) (h n)
    refine Nat.le_trans (sum_bound (c := 4 ^ L) (l := rulesOf rs n) fun p _ => cnt_le h L _) ?_
    rw [Nat.pow_succ]
    omega
/-! keys: a row, a number -/
def kC (row : List Str) (m : Nat) : NestedKey := .tup [kRow row, .num (m : Int)]
theorem kC_inj {r q : List Str} {m k : Nat} (h : kC r m = kC q k) : r = q ∧ m = k := by
  unfold kC at h
  have h := NestedKey.tup.inj h
  have h1 : kRow r = kRow q := (List.cons.inj h).1
  have h2 := NestedKey.num.inj (List.cons.inj (List.cons.inj h).2).1
  exact ⟨kRow_inj h1, by omega⟩
theorem depth_kC (r : List Str) (m : Nat) : (kC r m).depth = 2 := by
  unfold kC
  rw [NestedKey.depth, NestedKey.depthAll, NestedKey.depthAll, NestedKey.depthAll, depth_row, NestedKey.depth]
  rfl
theorem nk_kC {H : Hp} {t u : Addr} {r : List Str} {m : Nat} (h : H u = some (.tup [.ref t, .int m])) (h2 : H t = some (.tup (r.map V.str))) : NK H (kC r m) (.ref u) := .tup h (.cons (nk_row h2) (.cons (.int _) .nil))
def rankC (row : List Str) (m : Nat) : Nat := 2 * m + (if 2 ≤ row.length then 1 else 0)
/-- rows that may be asked: closed under what is asked for -/
structure RowsC (names : List Str) (rs : List Rule) (R : List (List Str)) : Prop where
  one : ∀ r ∈ R, r.take 1 ∈ R
  rest : ∀ r ∈ R, r.drop 1 ∈ R
  rule : ∀ n ∈ names, ∀ p ∈ rulesOf rs n, p.2 ∈ R
  inn : ∀ r ∈ R, ∀ x ∈ r, x ∈ names
  len : ∀ r ∈ R, r.length ≤ 1000
  few : R.length ≤ 10000
/-- every entry tells its count -/
def RightN (rs : List Rule) (R : List (List Str)) (xs : List NEnt) : Prop := ∀ e ∈ xs, ∃ row m, row ∈ R ∧ m ≤ 100 ∧ e.1 = kC row m ∧ e.2.2 = V.int (cnt rs m row : Nat)
theorem rightN_at {rs : List Rule} {R : List (List Str)} {xs : List NEnt} (h : RightN rs R xs) {row : List Str} {m : Nat} : atN xs (kC row m) = none ∨ atN xs (kC row m) = some (V.int (cnt rs m row : Nat)) := by
  unfold atN
  cases e : xs.find? fun x => decide (x.1 = kC row m) with
  | none => exact .inl rfl
  | some x =>
    right
    obtain ⟨r, k, _, _, h1, h2⟩ := h x (List.mem_of_find?_eq_some e)
    have h3 := List.find?_some e
    simp only [decide_eq_true_eq] at h3
    obtain ⟨rfl, rfl⟩ := kC_inj (h1.symm.trans h3)
    rw [Option.map_some, h2]
theorem rightN_put {rs : List Rule} {R : List (List Str)} {xs : List NEnt} (h : RightN rs R xs) {row : List Str} {m : Nat} (hr : row ∈ R) (hm : m ≤ 100) (a : Addr) : RightN rs R (xs ++ [(kC row m, a, V.int (cnt rs m row : Nat))]) := fun e he => by
  rcases List.mem_append.mp he with he | he
  · exact h e he
  · rw [List.mem_singleton.mp he]
    exact ⟨row, m, hr, hm, rfl, rfl⟩
theorem nodup_len {α : Type} [DecidableEq α] : ∀ {xs ys : List α}, xs.Nodup → (∀ x ∈ xs, x ∈ ys) → xs.length ≤ ys.length
  | [], _, _, _ => Nat.zero_le _
  | x :: xs, ys, nd, h => by
    rw [List.nodup_cons] at nd
    have hx := h x List.mem_cons_self
    have := nodup_len (xs := xs) (ys := ys.erase x) nd.2 fun y hy => (List.mem_erase_of_ne (fun e => nd.1 (by rw [← e]; exact hy))).mpr (h y (List.mem_cons_of_mem _ hy))
    rw [List.length_erase_of_mem hx] at this
    have hp : 0 < ys.length := List.length_pos_of_mem hx
    rw [List.length_cons]
    omega
theorem rightN_len {rs : List Rule} {R : List (List Str)} {xs : List NEnt} (h : RightN rs R xs) (nd : (xs.map (·.1)).Nodup) : xs.length ≤ R.length * 101 := by
  have h1 := nodup_len (ys := R.flatMap fun r => (List.range 101).map fun m => kC r m) nd fun k hk => by
    obtain ⟨e, he, rfl⟩ := List.mem_map.mp hk
    obtain ⟨row, m, hr, hm, e1, _⟩ := h e he
    exact List.mem_flatMap.mpr ⟨row, hr, List.mem_map.mpr ⟨m, List.mem_range.mpr (by omega), e1.symm⟩⟩
  have g : ∀ l : List (List Str), (l.flatMap fun r => (List.range 101).map fun m => kC r m).length = l.length * 101 := fun l => by
    induction l with
    | nil => rfl
    | cons r l ih => rw [List.flatMap_cons, List.length_append, ih, List.length_map, List.length_range, List.length_cons]; omega
  rw [g, List.length_map] at h1
  exact h1
end SG
/-! max(xs, default=0) of a list of ints -/
namespace SG
open PySem PySem.Spec PyProof.Rows L2 LamX
theorem args_maxDef (a d : Value) : argsOk "max" ⟨[a], [(Str.ofString "default", d)]⟩ := by unfold argsOk; kernel_rfl
section
variable {P : Program} {w : World} {A : Around} {I : Addr} {fp wr : List Addr} {n : Nat} {F : Nat → Value → Prop} {St : Nat → Heap → Prop} {R : Result → Shared → Prop}
/-- one turn after the first, and the end -/
theorem maxDef_loop (W : Walks P w A.in1 I fp wr n F St) (bt : Nat → Nat → Bool) (hc : CmpOf P w A.in1 .Gt F bt) (B : Addr) (hB : B ∉ fp) (kw : List (Str × Value)) :
    ∀ (k j : Nat) (s : Shared) (v0 : Value) (c : Nat), n - (j + 1) = k → j + 1 ≤ n → St (j + 1) s.heap → F (argBest bt j) v0 →
    s.heap.get? B = some { cls := .type "list", dict := none, data := .seq #[v0, v0] c, slots := #[] } →
    (∀ v h' tk, F (argBest bt (n - 1)) v → (∀ b o, b ∉ wr → b ≠ B → s.heap.get? b = some o → h'.get? b = some o) → R (.ok (.ret v)) { s with heap := h', toks := tk }) →
    codeAny (model P w) A (.builtin "max.loop" ⟨[.ref I, .none, .ref B], kw⟩) R s := by
  have hBw : B ∉ wr := fun h => hB (W.sub _ h)
  have enm : (toString "max" ++ toString ".loop" : String) = "max.loop" := by decide
  intro k
  induction k with
  | zero =>
    intro j s v0 c hk hj st f0 hb q
    have hn : j + 1 = n := by omega
    refine codeAny_builtin PySem.F.entry_max_loop ?_
    rw [Around.under_plainId PySem.F.plain_max_loop _]
    show wpAny _ _ (seqItems? (.ref B) >>= _) _ _ _
    refine wpAny_bind (wpAny_seqItems hb rfl ?_)
    show wpAny _ _ (tryCatch (pyNext (.ref I)) _ >>= _) _ _ _
    refine wpAny_bind (wpAny_tryCatch (W.done s _ _ (hn ▸ st) fun h' tk kp => ?_))
    have hb' := kp B _ hBw hb
    show wpAny _ _ (updateSeq B (fun _ => #[]) >>= _) _ _ _
    refine wpAny_bind ?_
    refine wpAny_updateSeq hb' rfl (wpAny_bind (wpAny_letGo (wpAny_pure ?_)))
    refine q v0 _ tk (by rw [← hn]; exact f0) fun b o h1 h2 e => (Heap.get?_update_other _ _ (Ne.symm h2)).trans (kp b o h1 e)
  | succ k ih =>
    intro j s v0 c hk hj st f0 hb q
    have hn : j + 1 < n := by omega
    refine codeAny_builtin PySem.F.entry_max_loop ?_
    rw [Around.under_plainId PySem.F.plain_max_loop _]
    show wpAny _ _ (seqItems? (.ref B) >>= _) _ _ _
    refine wpAny_bind (wpAny_seqItems hb rfl ?_)
    show wpAny _ _ (tryCatch (pyNext (.ref I)) _ >>= _) _ _ _
    refine wpAny_bind (wpAny_tryCatch (W.item (j + 1) s _ _ hn st fun v h' tk fv st' kp => ?_))
    have hb' := kp B _ hBw hb
    show wpAny _ _ (tryCatch (holding [v, v] (richCompare .Gt v v0 >>= _)) _ >>= _) _ _ _
    refine wpAny_bind (wpAny_tryCatch (wpAny_holding (wpAny_bind (hc (j + 1) (argBest bt j) v v0 _ _ _ fv f0 ?_))))
    refine wpAny_bind (wpAny_holding (wpAny_truthy_bool ?_))
    refine wpAny_bind (wpAny_letGo (wpAny_pure ?_))
    cases eb : bt (j + 1) (argBest bt j) with
    | true =>
      simp only [if_true]
      refine wpAny_bind ?_
      refine wpAny_updateSeq hb' rfl (wpAny_bind (wpAny_letGo ?_))
      rw [enm]
      refine wpAny_pure ⟨plainId_quiet PySem.F.plain_max_loop _, ih (j + 1) _ v _ (by omega) hn (W.frame _ _ _ st' fun b hbf o e => ?_) ?_ (Heap.get?_update_self _ hb' rfl) fun v' h2 tk2 f2 kp2 => ?_⟩
      · exact (Heap.get?_update_other _ _ (fun h : B = b => hB (by rw [h]; exact hbf))).trans e
      · simp only [argBest, eb, if_true]; exact fv
      · exact q v' h2 tk2 f2 fun b o h1 h3 e => kp2 b o h1 h3 ((Heap.get?_update_other _ _ (Ne.symm h3)).trans (kp b o h1 e))
    | false =>
      simp only [Bool.false_eq_true, if_false]
      refine wpAny_bind (wpAny_letGo ?_)
      rw [enm]
      refine wpAny_pure ⟨plainId_quiet PySem.F.plain_max_loop _, ih (j + 1) _ v0 c (by omega) hn st' ?_ hb' fun v' h2 tk2 f2 kp2 => ?_⟩
      · simp only [argBest, eb, Bool.false_eq_true, if_false]; exact f0
      · exact q v' h2 tk2 f2 fun b o h1 h3 e => kp2 b o h1 h3 (kp b o h1 e)
/-- the first turn, where there is one -/
theorem maxDef_first (W : Walks P w A.in1 I fp wr n F St) (bt : Nat → Nat → Bool) (hc : CmpOf P w A.in1 .Gt F bt) (B : Addr) (hB : B ∉ fp) (kw : List (Str × Value)) (hn : 0 < n) {s : Shared} {c : Nat} (st : St 0 s.heap)
    (hb : s.heap.get? B = some { cls := .type "list", dict := none, data := .seq #[] c, slots := #[] })
    (q : ∀ v h' tk, F (argBest bt (n - 1)) v → (∀ b o, b ∉ wr → b ≠ B → s.heap.get? b = some o → h'.get? b = some o) → R (.ok (.ret v)) { s with heap := h', toks := tk }) :
    codeAny (model P w) A (.builtin "max.loop" ⟨[.ref I, .none, .ref B], kw⟩) R s := by
  have hBw : B ∉ wr := fun h => hB (W.sub _ h)
  have enm : (toString "max" ++ toString ".loop" : String) = "max.loop" := by decide
  refine codeAny_builtin PySem.F.entry_max_loop ?_
  rw [Around.under_plainId PySem.F.plain_max_loop _]
  show wpAny _ _ (seqItems? (.ref B) >>= _) _ _ _
  refine wpAny_bind (wpAny_seqItems hb rfl ?_)
  show wpAny _ _ (tryCatch (pyNext (.ref I)) _ >>= _) _ _ _
  refine wpAny_bind (wpAny_tryCatch (W.item 0 s _ _ hn st fun v h' tk fv st' kp => ?_))
  have hb' := kp B _ hBw hb
  show wpAny _ _ (updateSeq B (fun _ => #[v, v]) >>= _) _ _ _
  refine wpAny_bind ?_
  refine wpAny_updateSeq hb' rfl ?_
  rw [enm]
  refine wpAny_pure ⟨plainId_quiet PySem.F.plain_max_loop _, maxDef_loop W bt hc B hB kw _ 0 _ v _ rfl hn (W.frame _ _ _ st' fun b hbf o e => ?_) fv (Heap.get?_update_self _ hb' rfl) fun v' h2 tk2 f2 kp2 => ?_⟩
  · exact (Heap.get?_update_other _ _ (fun h : B = b => hB (by rw [h]; exact hbf))).trans e
  · exact q v' h2 tk2 f2 fun b o h1 h3 e => kp2 b o h1 h3 ((Heap.get?_update_other _ _ (Ne.symm h3)).trans (kp b o h1 e))
/-- no turn at all: the default -/
theorem maxDef_none (W : Walks P w A.in1 I fp wr 0 F St) (B : Addr) (hB : B ∉ fp) (x : Str) (d : Value) {s : Shared} {c : Nat} (st : St 0 s.heap)
    (hb : s.heap.get? B = some { cls := .type "list", dict := none, data := .seq #[] c, slots := #[] })
    (q : ∀ h' tk, (∀ b o, b ∉ wr → s.heap.get? b = some o → h'.get? b = some o) → R (.ok (.ret d)) { s with heap := h', toks := tk }) :
    codeAny (model P w) A (.builtin "max.loop" ⟨[.ref I, .none, .ref B], [(x, d)]⟩) R s := by
  refine codeAny_builtin PySem.F.entry_max_loop ?_
  rw [Around.under_plainId PySem.F.plain_max_loop _]
  show wpAny _ _ (seqItems? (.ref B) >>= _) _ _ _
  refine wpAny_bind (wpAny_seqItems hb rfl ?_)
  show wpAny _ _ (tryCatch (pyNext (.ref I)) _ >>= _) _ _ _
  refine wpAny_bind (wpAny_tryCatch (W.done s _ _ st fun h' tk kp => ?_))
  refine wpAny_bind (wpAny_rule ?_)
  exact wpAny_pure (q h' tk kp)
end
section
variable {P : Program} {w : World} {A : Around} {E : Value → Shared → Prop} {s : Shared} {l : Addr} {its : List Value} {ns : List Int} {Q : Value → Shared → Prop}
theorem maxDef_raw (hh : A.handled = none) (hl : s.heap.IsList l its.toArray) (hi : IntsAre its ns) (z : Int) (tz : Tok)
    (h : ∀ h' tk M t', (∀ b o, s.heap.get? b = some o → h'.get? b = some o) → ((ns = [] ∧ M = z) ∨ (M ∈ ns ∧ ∀ a, a ∈ ns → a ≤ M)) → Q (.int M t') { s with heap := h', toks := tk }) :
    wpAny (model P w) A (call (.builtin "max") [.ref l] [(Str.ofString "default", .int z tz)]) Q E s := by
  obtain ⟨xs, e⟩ := hi.allInts.items
  have hn : numsOf (intItems xs).toList = ns := by rw [← e]; exact hi.numsOf
  rw [nums_intItems] at hn
  subst hn
  rw [e] at hl
  have enm : (toString "max" ++ toString ".loop" : String) = "max.loop" := by decide
  refine kmk_tree PySem.F.kind_max PySem.F.plain_max PySem.F.entry_max (args_maxDef _ _) ?_
  show wpAny _ _ (Builtin.Builtins.bindParams "max" ["key", "default"] 0 ⟨[], [(Str.ofString "default", .int z tz)]⟩ >>= _) _ _ _
  refine wpAny_bind (wpAny_of_eq (show Builtin.Builtins.bindParams "max" ["key", "default"] 0 ⟨[], [(Str.ofString "default", .int z tz)]⟩ = pure [none, some (.int z tz)] from rfl) ?_)
  refine wpAny_bind (wpAny_pure ?_)
  refine wpAny_bind (iter_intList hl fun s2 e2 st hfp hlI => ?_)
  refine wpAny_bind (wpAny_newList ?_ (Nat.zero_le _))
  rw [enm]
  have hsz : (intItems xs).size = xs.size := by simp [intItems]
  have hB : s2.heap.objs.size ∉ [s.heap.objs.size, l] := fun hm => Nat.lt_irrefl _ (hfp _ hm)
  have W := Walks.list (prog := P) (w := w) (A := A.in1) hh s.heap.objs.size l hlI (intItems xs)
  have k0 : ∀ b o, s.heap.get? b = some o → s2.heap.get? b = some o := fun b o q => by rw [e2]; exact Heap.get?_push_of_some _ q
  have st2 := W.frame _ _ (s2.heap.push { cls := .type "list", data := .seq #[] }) st fun b _ o q => Heap.get?_push_of_some _ q
  have h0 : ∀ {h' : Heap}, (∀ b o, b ∉ [s.heap.objs.size] → b ≠ s2.heap.objs.size → (s2.heap.push { cls := .type "list", data := .seq #[] }).get? b = some o → h'.get? b = some o) → ∀ b o, s.heap.get? b = some o → h'.get? b = some o := fun {h'} kp b o q => by
    have hb := Heap.lt_size q
    have hb2 := Heap.lt_size (k0 b o q)
    exact kp b o (fun hm => Nat.ne_of_lt hb (List.mem_singleton.mp hm)) (Nat.ne_of_lt hb2) (Heap.get?_push_of_some _ (k0 b o q))
  have eg : ∀ (v : Heap) (t : Nat), { s2 with heap := v, toks := t } = { s with heap := v, toks := t } := fun v t => by rw [e2]
  refine wpAny_pure ⟨plainId_quiet PySem.F.plain_max_loop _, ?_⟩
  by_cases hz : xs.size = 0
  · rw [hsz, hz] at W
    refine maxDef_none W s2.heap.objs.size hB _ _ st2 (Heap.get?_push_size _ rfl) fun h' tk kp => ?_
    have hq := h h' tk z tz (h0 fun b o a _ c => kp b o a c) (.inl ⟨by
      have : xs = #[] := Array.eq_empty_of_size_eq_zero hz
      rw [this]; rfl, rfl⟩)
    show Q (.int z tz) { s2 with heap := h', toks := tk }
    rw [eg]
    exact hq
  · refine maxDef_first W _ (CmpOf.ints_gt (numAt xs) (fun _ _ => intItems_at)) s2.heap.objs.size hB _ (by rw [hsz]; omega) st2 (Heap.get?_push_size _ rfl) fun v h' tk hv kp => ?_
    rw [hsz] at hv
    obtain ⟨t, rfl⟩ := intItems_at hv
    obtain ⟨h1, h2⟩ := argBest_gt (numAt xs) (xs.size - 1)
    show Q _ { s2 with heap := h', toks := tk }
    rw [eg]
    refine h h' tk _ t (h0 kp) (.inr ⟨?_, fun a ha => ?_⟩)
    · rw [numAt_eq]; exact PySem.getD_mem (by rw [List.length_map, Array.length_toList]; omega)
    · obtain ⟨j, hj, rfl⟩ := mem_getD ha
      rw [List.length_map, Array.length_toList] at hj
      rw [← numAt_eq]; exact h2 j (by omega)
end
section
variable {X : Cx}
def tMaxDef (K : PySem.W.Frag) (z : Int) (te : TE) : TE := fun σ H Q => te σ H fun v H1 => ∃ (a : Addr) (ns : List Int), v = .ref a ∧ SqL K H1 a (ns.map V.int) ∧ ∀ m : Int, ((ns = [] ∧ m = z) ∨ (m ∈ ns ∧ ∀ y ∈ ns, y ≤ m)) → Q (.int m) H1
theorem boot_maxD : bootBuiltins "max" = some (.builtin "max") := by decide +kernel
theorem pe_maxDef {e : Expr} {te : TE} {z : Int} {k : Nat} {p p2 kpos pos : Pos} (hg : Gl X "max") (hm : X.mg "max" = none) (hc : X.calm = true) (he : PE X e te)
    (hs : starEach [e] X.env = (false, eval e X.env) :: starEach [] X.env := by rfl) :
    PE X (.Call (.Name "max" p) [e] [⟨some "default", .Constant (.int z) k p2, kpos⟩] pos) (tMaxDef X.K z te) := by
  refine ⟨fun pins s σ H Q I h => ?_⟩
  refine wpAny_Call_Name_kw (ld_blt I hg hm boot_maxD ?_ (by decide) (by decide))
  refine PyProof.Rows.callWith_kw ?_ (by rw [hs]; rfl) (by rw [hs]; rfl) (by rfl) (by rfl)
  rw [hs]
  show wpAny _ _ (spliced ((false, eval e X.env) :: backTo pos (starEach [] X.env))) _ _ s
  refine Calls.spliced_cons (thn (he.run pins s σ H _ I h) fun u s1 ⟨v, H1, I1, r1, a, ns, ev, hq, q⟩ => ?_)
  refine Calls.spliced_nil ?_
  subst ev
  obtain rfl : u = Value.ref a := r1
  show wpAny _ _ (evalAll ((do let v ← eval (.Constant (.int z) k p2) X.env; standAt pos; pure v) :: [])) _ _ s1
  refine wpAny_evalAll_cons (wpAny_bind (wpAny_Constant_int (wpAny_bind (wpAny_standAt (wpAny_pure ?_)))))
  refine wpAny_evalAll_nil ?_
  show wpAny _ _ (call (.builtin "max") [.ref a] [(Str.ofString "default", .int z _)]) _ _ _
  have I2 := I1.tok (s1.toks + 1)
  obtain ⟨its, rv, hl, _⟩ := I2.list hq
  refine maxDef_raw (I2.ok.hd hc) hl.isList rv.ints z _ fun h' tk M t' kp hM => ?_
  exact ⟨.int M, H1, I2.kept kp, ⟨_, rfl⟩, q M hM⟩
end
end SG
/-! likeness for so many rounds -/
namespace SG
open PySem PySem.Spec PyProof.Rows L2 LamX
abbrev StepF := List Str → List Step
def metW (st : StepF) (al : List Str → List Str → Bool) (x y : List Str) : Bool := (st x).all fun p => (((st y).filter fun q => decide (q.1 = p.1)).map (·.2)).any fun z => al p.2 z
def alW (st : StepF) : Nat → List Str → List Str → Bool
  | 0, _, _ => true
  | m + 1, x, y => decide (x = y) || (metW st (alW st m) x y && metW st (alW st m) y x)
theorem metW_iff {st : StepF} {al : List Str → List Str → Bool} {x y : List Str} : metW st al x y = true ↔ ∀ p ∈ st x, ∃ q ∈ st y, q.1 = p.1 ∧ al p.2 q.2 = true := by
  unfold metW
  rw [List.all_eq_true]
  constructor
  · intro h p hp
    obtain ⟨z, hz, h2⟩ := List.any_eq_true.mp (h p hp)
    obtain ⟨q, hq, rfl⟩ := List.mem_map.mp hz
    obtain ⟨h3, h4⟩ := List.mem_filter.mp hq
    exact ⟨q, h3, of_decide_eq_true h4, h2⟩
  · intro h p hp
    obtain ⟨q, hq, e, h2⟩ := h p hp
    exact List.any_eq_true.mpr ⟨q.2, List.mem_map.mpr ⟨q, List.mem_filter.mpr ⟨hq, decide_eq_true e⟩, rfl⟩, h2⟩
theorem alW_iff {st : StepF} {m : Nat} {x y : List Str} : alW st (m + 1) x y = true ↔ x = y ∨ (metW st (alW st m) x y = true ∧ metW st (alW st m) y x = true) := by
  show (decide (x = y) || (metW st (alW st m) x y && metW st (alW st m) y x)) = true ↔ _
  rw [Bool.or_eq_true, Bool.and_eq_true, decide_eq_true_eq]
theorem alW_refl (st : StepF) (m : Nat) (x : List Str) : alW st m x x = true := by
  cases m with
  | zero => rfl
  | succ m => exact alW_iff.mpr (.inl rfl)
theorem alW_symm {st : StepF} {m : Nat} {x y : List Str} (h : alW st m x y = true) : alW st m y x = true := by
  cases m with
  | zero => rfl
  | succ m =>
    rcases alW_iff.mp h with e | ⟨h1, h2⟩
    · exact alW_iff.mpr (.inl e.symm)
    · exact alW_iff.mpr (.inr ⟨h2, h1⟩)
theorem alW_sym (st : StepF) (m : Nat) (x y : List Str) : alW st m x y = alW st m y x := by
  cases h : alW st m x y with
  | true => exact (alW_symm h).symm
  | false =>
    cases h2 : alW st m y x with
    | false => rfl
    | true => rw [alW_symm h2] at h; cases h
theorem metW_trans {st : StepF} {al : List Str → List Str → Bool} (ht : ∀ {a b c}, al a b = true → al b c = true → al a c = true) {x y z : List Str} (h1 : metW st al x y = true) (h2 : metW st al y z = true) : metW st al x z = true := by
  rw [metW_iff] at h1 h2 ⊢
  intro p hp
  obtain ⟨q, hq, e1, a1⟩ := h1 p hp
  obtain ⟨r, hr, e2, a2⟩ := h2 q hq
  exact ⟨r, hr, e2.trans e1, ht a1 a2⟩
theorem alW_trans {st : StepF} : ∀ {m : Nat} {x y z : List Str}, alW st m x y = true → alW st m y z = true → alW st m x z = true
  | 0, _, _, _, _, _ => rfl
  | m + 1, x, y, z, h1, h2 => by
    rcases alW_iff.mp h1 with rfl | ⟨a, b⟩
    · exact h2
    · rcases alW_iff.mp h2 with rfl | ⟨c, d⟩
      · exact h1
      · exact alW_iff.mpr (.inr ⟨metW_trans (al := alW st m) (fun h h' => alW_trans h h') a c, metW_trans (al := alW st m) (fun h h' => alW_trans h h') d b⟩)
theorem metW_mono {st : StepF} {al al' : List Str → List Str → Bool} (h : ∀ a b, al a b = true → al' a b = true) {x y : List Str} (h1 : metW st al x y = true) : metW st al' x y = true := by
  rw [metW_iff] at h1 ⊢
  intro p hp
  obtain ⟨q, hq, e1, a1⟩ := h1 p hp
  exact ⟨q, hq, e1, h _ _ a1⟩
theorem alW_down {st : StepF} : ∀ {m : Nat} {x y : List Str}, alW st (m + 1) x y = true → alW st m x y = true
  | 0, _, _, _ => rfl
  | m + 1, x, y, h => by
    rcases alW_iff.mp h with rfl | ⟨a, b⟩
    · exact alW_refl _ _ _
    · exact alW_iff.mpr (.inr ⟨metW_mono (fun _ _ h => alW_down h) a, metW_mono (fun _ _ h => alW_down h) b⟩)
theorem alW_le {st : StepF} {x y : List Str} {m k : Nat} (h : alW st m x y = true) (hk : k ≤ m) : alW st k x y = true := by
  induction hk with
  | refl => exact h
  | step _ ih => exact ih (alW_down h)
/-- the first round that parts them, up to the most -/
def rankW (st : StepF) (x y : List Str) (most : Nat) : Option Nat := ((List.range most).find? fun i => !alW st (i + 1) x y).map (· + 1)
theorem rankW_none {st : StepF} {x y : List Str} {most : Nat} : rankW st x y most = none ↔ alW st most x y = true := by
  unfold rankW
  rw [Option.map_eq_none_iff, List.find?_eq_none]
  constructor
  · intro h
    cases most with
    | zero => rfl
    | succ k =>
      have := h k (List.mem_range.mpr (by omega))
      simpa using this
  · intro h i hi
    have := alW_le h (List.mem_range.mp hi)
    simp [this]
theorem find_range {p : Nat → Bool} : ∀ {n i : Nat}, (List.range n).find? p = some i ↔ i < n ∧ p i = true ∧ ∀ j, j < i → p j = false
  | 0, i => by simp
  | n + 1, i => by
    rw [List.range_succ, List.find?_append]
    cases h : (List.range n).find? p with
    | some j =>
      obtain ⟨h1, h2, h3⟩ := find_range.mp h
      constructor
      · intro e
        have e : some j = some i := e
        obtain rfl := Option.some.inj e
        exact ⟨by omega, h2, h3⟩
      · rintro ⟨g1, g2, g3⟩
        show some j = some i
        rcases Nat.lt_trichotomy i j with c | c | c
        · rw [h3 i c] at g2; cases g2
        · rw [c]
        · rw [g3 j c] at h2; cases h2
    | none =>
      rw [List.find?_eq_none] at h
      have hn : ∀ j, j < n → p j = false := fun j hj => by
        have := h j (List.mem_range.mpr hj)
        simpa using this
      show ([n].find? p) = some i ↔ _
      rw [List.find?_cons, List.find?_nil]
      cases hp : p n with
      | true =>
        constructor
        · intro e
          obtain rfl := Option.some.inj e
          exact ⟨Nat.lt_succ_self _, hp, hn⟩
        · rintro ⟨g1, g2, g3⟩
          rcases Nat.lt_or_ge i n with c | c
          · rw [hn i c] at g2; cases g2
          · have e : i = n := by omega
            rw [e]
      | false =>
        constructor
        · intro e; cases e
        · rintro ⟨g1, g2, g3⟩
          rcases Nat.lt_or_ge i n with c | c
          · rw [hn i c] at g2; cases g2
          · have e : i = n := by omega
            rw [e, hp] at g2; cases g2
theorem rankW_some {st : StepF} {x y : List Str} {most r : Nat} : rankW st x y most = some r ↔ 1 ≤ r ∧ r ≤ most ∧ alW st r x y = false ∧ alW st (r - 1) x y = true := by
  unfold rankW
  rw [Option.map_eq_some_iff]
  constructor
  · rintro ⟨i, hi, rfl⟩
    obtain ⟨h1, h2, h3⟩ := find_range.mp hi
    refine ⟨by omega, by omega, by simpa using h2, ?_⟩
    show alW st i x y = true
    cases i with
    | zero => rfl
    | succ k => simpa using h3 k (by omega)
  · rintro ⟨h1, h2, h3, h4⟩
    refine ⟨r - 1, find_range.mpr ⟨by omega, ?_, fun j hj => ?_⟩, by omega⟩
    · rw [show r - 1 + 1 = r by omega, h3]; rfl
    · rw [alW_le h4 (by omega)]; rfl
theorem rankW_swap (st : StepF) (x y : List Str) (most : Nat) : rankW st x y most = rankW st y x most := by
  unfold rankW
  rw [show (fun i => !alW st (i + 1) x y) = fun i => !alW st (i + 1) y x from funext fun i => by rw [alW_sym]]
/-! rows that are come to -/
structure StepOk (names : List Str) (st : StepF) (s : Nat) : Prop where
  few : ∀ row, (∀ x ∈ row, x ∈ names) → (st row).length ≤ s
  inn : ∀ row, (∀ x ∈ row, x ∈ names) → ∀ q ∈ st row, ∀ x ∈ q.2, x ∈ names
  len : ∀ row, (∀ x ∈ row, x ∈ names) → ∀ q ∈ st row, q.2.length ≤ row.length + 2
/-- how many keys a search may add -/
def TW (s : Nat) : Nat → Nat
  | 0 => 0
  | m + 1 => 1 + 2 * (s * s) * TW s m
/-! keys -/
def kR (x y : List Str) (m : Nat) : NestedKey := .tup [kRow x, kRow y, .num (m : Int)]
theorem kR_inj {x y x' y' : List Str} {m k : Nat} (h : kR x y m = kR x' y' k) : x = x' ∧ y = y' ∧ m = k := by
  unfold kR at h
  have h := NestedKey.tup.inj h
  have h1 : kRow x = kRow x' := (List.cons.inj h).1
  have h2 : kRow y = kRow y' := (List.cons.inj (List.cons.inj h).2).1
  have h3 := NestedKey.num.inj (List.cons.inj (List.cons.inj (List.cons.inj h).2).2).1
  exact ⟨kRow_inj h1, kRow_inj h2, by omega⟩
theorem depth_kR (x y : List Str) (m : Nat) : (kR x y m).depth = 2 := by
  unfold kR
  rw [NestedKey.depth, NestedKey.depthAll, NestedKey.depthAll, NestedKey.depthAll, NestedKey.depthAll, depth_row, depth_row, NestedKey.depth]
  rfl
theorem nk_kR {H : Hp} {t t2 u : Addr} {x y : List Str} {m : Nat} (h : H u = some (.tup [.ref t, .ref t2, .int m])) (h1 : H t = some (.tup (x.map V.str))) (h2 : H t2 = some (.tup (y.map V.str))) : NK H (kR x y m) (.ref u) :=
  .tup h (.cons (nk_row h1) (.cons (nk_row h2) (.cons (.int _) .nil)))
def RightR (st : StepF) (xs : List NEnt) : Prop := ∀ e ∈ xs, ∃ x y m, e.1 = kR x y m ∧ e.2.2 = V.bl (alW st m x y)
theorem rightR_at {st : StepF} {xs : List NEnt} (h : RightR st xs) {x y : List Str} {m : Nat} : atN xs (kR x y m) = none ∨ atN xs (kR x y m) = some (V.bl (alW st m x y)) := by
  unfold atN
  cases e : xs.find? fun z => decide (z.1 = kR x y m) with
  | none => exact .inl rfl
  | some z =>
    right
    obtain ⟨a, b, k, h1, h2⟩ := h z (List.mem_of_find?_eq_some e)
    have h3 := List.find?_some e
    simp only [decide_eq_true_eq] at h3
    obtain ⟨rfl, rfl, rfl⟩ := kR_inj (h1.symm.trans h3)
    rw [Option.map_some, h2]
theorem rightR_put {st : StepF} {xs : List NEnt} (h : RightR st xs) (x y : List Str) (m : Nat) (a : Addr) : RightR st (xs ++ [(kR x y m, a, V.bl (alW st m x y))]) := fun e he => by
  rcases List.mem_append.mp he with he | he
  · exact h e he
  · rw [List.mem_singleton.mp he]
    exact ⟨x, y, m, rfl, rfl⟩
/-- what is new in the dict is of fewer rounds -/
def GrowR (xs xs' : List NEnt) (b : Nat) : Prop := ∀ e ∈ xs', e ∈ xs ∨ ∃ x y m, e.1 = kR x y m ∧ m < b
theorem GrowR.refl (xs : List NEnt) (b : Nat) : GrowR xs xs b := fun e h => .inl h
theorem GrowR.trans {xs ys zs : List NEnt} {a b : Nat} (h : GrowR xs ys a) (h' : GrowR ys zs b) {c : Nat} (ha : a ≤ c) (hb : b ≤ c) : GrowR xs zs c := fun e he => by
  rcases h' e he with h1 | ⟨x, y, m, e1, e2⟩
  · rcases h e h1 with h2 | ⟨x, y, m, e1, e2⟩
    · exact .inl h2
    · exact .inr ⟨x, y, m, e1, by omega⟩
  · exact .inr ⟨x, y, m, e1, by omega⟩
theorem growR_no {xs xs' : List NEnt} {x y : List Str} {m : Nat} (h : GrowR xs xs' m) (e : atN xs (kR x y m) = none) : atN xs' (kR x y m) = none := by
  unfold atN at e ⊢
  have e2 : xs'.find? (fun z => decide (z.1 = kR x y m)) = none := by
    rw [List.find?_eq_none]
    intro z hz hk
    have hk := of_decide_eq_true hk
    rcases h z hz with h1 | ⟨a, b, c, e1, e2⟩
    · have e := Option.map_eq_none_iff.mp e
      rw [List.find?_eq_none] at e
      exact e z h1 (decide_eq_true hk)
    · obtain ⟨_, _, rfl⟩ := kR_inj (e1.symm.trans hk)
      omega
  rw [e2]
  rfl
/-! steps of drawn worlds -/
theorem rowStepOk {names : List Str} {rs : List Rule} {b s : Nat} (hg : GoodR names rs) (hb : ∀ n, (rulesOf rs n).length ≤ b) (hs : names.length * b ≤ s) (h1 : 1 ≤ names.length) : StepOk names (rowSteps rs) s where
  few := fun row hin => by
    cases row with
    | nil => exact Nat.le_trans (each1_len _) (Nat.zero_le _)
    | cons n t =>
      refine Nat.le_trans (each1_len _) ?_
      show (((rulesOf rs n).map fun p => (p.1, p.2 ++ t))).length ≤ s
      rw [List.length_map]
      have h2 := hb n
      have h3 : b ≤ names.length * b := Nat.le_mul_of_pos_left b h1
      omega
  inn := fun row hin q hq x hx => by
    have hq := (each1_mem _ _).mp hq
    cases row with
    | nil => cases hq
    | cons n t =>
      obtain ⟨p, hp, rfl⟩ := List.mem_map.mp (show q ∈ (rulesOf rs n).map fun p => (p.1, p.2 ++ t) from hq)
      rcases List.mem_append.mp hx with hx | hx
      · exact (hg.ok _ (mem_rulesOf.mp hp)).2.2.2 x hx
      · exact hin x (List.mem_cons_of_mem _ hx)
  len := fun row hin q hq => by
    have hq := (each1_mem _ _).mp hq
    cases row with
    | nil => cases hq
    | cons n t =>
      obtain ⟨p, hp, rfl⟩ := List.mem_map.mp (show q ∈ (rulesOf rs n).map fun p => (p.1, p.2 ++ t) from hq)
      have := (hg.ok _ (mem_rulesOf.mp hp)).2.2.1
      show (p.2 ++ t).length ≤ (n :: t).length + 2
      rw [List.length_append, List.length_cons]
      have h3 : p.2.length ≤ 3 := this
      omega
theorem bagStepOk {names : List Str} {rs : List Rule} {b s : Nat} (hg : GoodR names rs) (hb : ∀ n, (rulesOf rs n).length ≤ b) (hs : names.length * b ≤ s) : StepOk names (bagSteps rs) s where
  few := fun row hin => by
    have h1 : (bagSteps rs row).length ≤ (names.flatMap fun n => (rulesOf rs n).map fun p => ((p.1, ssort (p.2 ++ row.erase n)) : Step)).length := nodup_len (each1_nd _) fun x hx => by
      obtain ⟨n, hn, p, hp, rfl⟩ := mem_bagPuts.mp ((each1_mem _ _).mp hx)
      exact List.mem_flatMap.mpr ⟨n, hin n hn, List.mem_map.mpr ⟨p, hp, rfl⟩⟩
    have h2 : ∀ ns : List Str, (ns.flatMap fun n => (rulesOf rs n).map fun p => ((p.1, ssort (p.2 ++ row.erase n)) : Step)).length ≤ ns.length * b := fun ns => by
      induction ns with
      | nil => exact Nat.zero_le _
      | cons n ns ih =>
        rw [List.flatMap_cons, List.length_append, List.length_map, List.length_cons, Nat.succ_mul]
        have := hb n
        omega
    have := h2 names
    omega
  inn := fun row hin q hq x hx => by
    obtain ⟨n, hn, p, hp, rfl⟩ := mem_bagPuts.mp ((each1_mem _ _).mp hq)
    have hx := (ssort_perm _).mem_iff.mp hx
    rcases List.mem_append.mp hx with hx | hx
    · exact (hg.ok _ (mem_rulesOf.mp hp)).2.2.2 x hx
    · exact hin x (List.mem_of_mem_erase hx)
  len := fun row hin q hq => by
    obtain ⟨n, hn, p, hp, rfl⟩ := mem_bagPuts.mp ((each1_mem _ _).mp hq)
    show (ssort (p.2 ++ row.erase n)).length ≤ row.length + 2
    rw [(ssort_perm _).length_eq, List.length_append]
    have h3 : p.2.length ≤ 3 := (hg.ok _ (mem_rulesOf.mp hp)).2.2.1
    have h4 := List.length_erase_of_mem hn
    have h5 := List.length_pos_of_mem hn
    omega
/-! three ranks -/
def numW (r : Option Nat) : Int := match r with
  | none => 99
  | some m => (m : Int)
theorem rank_ultra {st : StepF} {x y z : List Str} {most : Nat} (hm : most ≤ 50) : min (numW (rankW st x y most)) (numW (rankW st y z most)) ≤ numW (rankW st x z most) := by
  cases h : rankW st x z most with
  | none =>
    show min _ _ ≤ (99 : Int)
    cases h1 : rankW st x y most with
    | none => exact Int.min_le_left _ _
    | some r =>
      have := (rankW_some.mp h1).2.1
      refine Int.le_trans (Int.min_le_left _ _) ?_
      show (r : Int) ≤ 99
      omega
  | some r =>
    obtain ⟨r1, r2, r3, r4⟩ := rankW_some.mp h
    show min _ _ ≤ (r : Int)
    by_cases c1 : alW st r x y = true
    · by_cases c2 : alW st r y z = true
      · rw [alW_trans c1 c2] at r3
        cases r3
      · refine Int.le_trans (Int.min_le_right _ _) ?_
        cases h2 : rankW st y z most with
        | none => exact absurd (alW_le (rankW_none.mp h2) r2) c2
        | some q =>
          obtain ⟨q1, q2, q3, q4⟩ := rankW_some.mp h2
          show (q : Int) ≤ r
          rcases Nat.lt_or_ge r q with c | c
          · exact absurd (alW_le q4 (by omega)) c2
          · omega
    · refine Int.le_trans (Int.min_le_left _ _) ?_
      cases h2 : rankW st x y most with
      | none => exact absurd (alW_le (rankW_none.mp h2) r2) c1
      | some q =>
        obtain ⟨q1, q2, q3, q4⟩ := rankW_some.mp h2
        show (q : Int) ≤ r
        rcases Nat.lt_or_ge r q with c | c
        · exact absurd (alW_le q4 (by omega)) c1
        · omega
/-- one round more -/
theorem rank_more {st : StepF} {x y : List Str} {most : Nat} : (∀ r, rankW st x y most = some r → rankW st y x (most + 1) = some r) ∧ (rankW st x y most = none → ∀ r, rankW st y x (most + 1) = some r → most < r) := by
  constructor
  · intro r h
    obtain ⟨r1, r2, r3, r4⟩ := rankW_some.mp h
    rw [rankW_swap]
    exact rankW_some.mpr ⟨r1, by omega, r3, r4⟩
  · intro h r h2
    rw [rankW_swap] at h2
    obtain ⟨r1, r2, r3, r4⟩ := rankW_some.mp h2
    rcases Nat.lt_or_ge most r with c | c
    · exact c
    · rw [alW_le (rankW_none.mp h) c] at r3
      cases r3
/-- how many keys all searches up to so many rounds may add -/
def PW (s : Nat) : Nat → Nat
  | 0 => 0
  | m + 1 => PW s m + TW s (m + 1)
theorem PW_le {s : Nat} {k m : Nat} (h : k ≤ m) : PW s k ≤ PW s m := by
  induction h with
  | refl => exact Nat.le_refl _
  | step _ ih => exact Nat.le_trans ih (Nat.le_add_right _ _)
def rankV (r : Option Nat) : V := match r with
  | none => .non
  | some m => .int (m : Int)
/-! sorted ints -/
theorem srt_int : Srt PyData.int := .inr fun b => ⟨(fun h => by cases h), (fun xs h => by cases h)⟩
theorem srt_ints_out {xs : List Int} {zs : List (V × Int)} (h : zs.Perm ((xs.map V.int).zip xs)) (h' : zs.map (·.2) = esort PyData.int xs) : ∃ ys : List Int, zs.map (·.1) = ys.map V.int ∧ ys.Perm xs ∧ ys.Pairwise fun a b => a ≤ b := by
  refine ⟨esort PyData.int xs, ?_, esort_perm _ _, ?_⟩
  · rw [← h', List.map_map]
    refine List.map_congr_left fun z hz => ?_
    obtain ⟨i, hi⟩ := List.mem_iff_getElem?.mp (h.mem_iff.mp hz)
    rw [List.getElem?_zip_eq_some, List.getElem?_map] at hi
    obtain ⟨a, b⟩ := hi
    rw [b] at a
    exact (Option.some.inj a).symm
  · refine (esort_pair PyData.int xs).imp fun {a b} h => ?_
    unfold leE at h
    rw [PySem.W.dataLe_int (k := fun b : Int => b)] at h
    exact of_decide_eq_true h
theorem perm_sumZ {a b : List Int} (h : a.Perm b) : a.sum = b.sum := by
  induction h with
  | nil => rfl
  | cons x _ ih => rw [List.sum_cons, List.sum_cons, ih]
  | swap x y l => rw [List.sum_cons, List.sum_cons, List.sum_cons, List.sum_cons]; omega
  | trans _ _ i1 i2 => exact i1.trans i2
theorem two_least {ys : List Int} {p q r : Int} (h : ys.Perm [p, q, r]) (hs : ys.Pairwise fun a b => a ≤ b) (u1 : p ≤ r ∨ q ≤ r) (u2 : q ≤ p ∨ r ≤ p) (u3 : p ≤ q ∨ r ≤ q) : ∃ a c, ys = [a, a, c] := by
  have hl := h.length_eq
  match ys, hl with
  | [a, b, c], _ =>
    have s1 := (List.pairwise_cons.mp hs).1
    have s2 := (List.pairwise_cons.mp (List.pairwise_cons.mp hs).2).1
    have ab := s1 b (by simp)
    have ac := s1 c (by simp)
    have bc := s2 c (by simp)
    have hsum : a + b + c = p + q + r := by
      have := perm_sumZ h
      simp at this
      omega
    have ap : a ≤ p ∧ p ≤ c := by
      have hp := h.mem_iff.mpr (show p ∈ [p, q, r] by simp)
      simp at hp
      omega
    have aq : a ≤ q ∧ q ≤ c := by
      have hp := h.mem_iff.mpr (show q ∈ [p, q, r] by simp)
      simp at hp
      omega
    have ar : a ≤ r ∧ r ≤ c := by
      have hp := h.mem_iff.mpr (show r ∈ [p, q, r] by simp)
      simp at hp
      omega
    have ha := h.mem_iff.mp (show a ∈ [a, b, c] by simp)
    simp at ha
    have e : b = a := by omega
    exact ⟨a, c, by rw [e]⟩
theorem rank_ways {st : StepF} {x y z : List Str} {most : Nat} (hm : most ≤ 50) : numW (rankW st x y most) ≤ numW (rankW st x z most) ∨ numW (rankW st y z most) ≤ numW (rankW st x z most) := by
  have := rank_ultra (st := st) (x := x) (y := y) (z := z) hm
  omega
theorem numW_few {st : StepF} {x y : List Str} {most : Nat} (h : numW (rankW st x y most) < 99) : numW (rankW st x y most) ≤ most ∧ ∃ r, rankW st x y most = some r := by
  cases e : rankW st x y most with
  | none => rw [e] at h; exact absurd h (by decide)
  | some r => exact ⟨by show (r : Int) ≤ most; have := (rankW_some.mp e).2.1; omega, r, rfl⟩
end SG
/-! likeness for so many rounds, of rows and bags that are put together -/
namespace SG
open PySem PySem.Spec PyProof.Rows L2 LamX
theorem mem_rowSteps {rs : List Rule} {n : Str} {t : List Str} {q : Step} : q ∈ rowSteps rs (n :: t) ↔ ∃ p ∈ rulesOf rs n, q = (p.1, p.2 ++ t) := by
  rw [show rowSteps rs (n :: t) = each1 (rowPuts rs (n :: t)) from rfl, each1_mem]
  constructor
  · intro h
    obtain ⟨p, hp, rfl⟩ := List.mem_map.mp (show q ∈ (rulesOf rs n).map fun p => (p.1, p.2 ++ t) from h)
    exact ⟨p, hp, rfl⟩
  · rintro ⟨p, hp, rfl⟩
    exact List.mem_map.mpr ⟨p, hp, rfl⟩
theorem no_rowSteps {rs : List Rule} {q : Step} : q ∉ rowSteps rs [] := fun h => by
  rw [show rowSteps rs [] = each1 (rowPuts rs []) from rfl, each1_mem] at h
  cases h
theorem al_right {names : List Str} {rs : List Rule} (hg : GoodR names rs) (hr : ∀ n ∈ names, rulesOf rs n ≠ []) (z : List Str) : ∀ (m : Nat) (x y : List Str), (∀ v ∈ x, v ∈ names) → (∀ v ∈ y, v ∈ names) → alW (rowSteps rs) m x y = true → alW (rowSteps rs) m (x ++ z) (y ++ z) = true
  | 0, _, _, _, _, _ => rfl
  | m + 1, x, y, hx, hy, h => by
    have empty : ∀ {a : List Str}, (∀ v ∈ a, v ∈ names) → metW (rowSteps rs) (alW (rowSteps rs) m) a [] = true → a = [] := fun {a} ha h => by
      cases a with
      | nil => rfl
      | cons n t =>
        obtain ⟨p, hp⟩ := List.exists_mem_of_ne_nil _ (hr n (ha n (List.mem_cons_self ..)))
        obtain ⟨q, hq, _⟩ := metW_iff.mp h _ (mem_rowSteps.mpr ⟨p, hp, rfl⟩)
        exact absurd hq no_rowSteps
    have one : ∀ {a b : List Str}, a ≠ [] → b ≠ [] → (∀ v ∈ a, v ∈ names) → (∀ v ∈ b, v ∈ names) → metW (rowSteps rs) (alW (rowSteps rs) m) a b = true → metW (rowSteps rs) (alW (rowSteps rs) m) (a ++ z) (b ++ z) = true := fun {a b} na nb ha hb h => by
      cases a with
      | nil => exact absurd rfl na
      | cons n t =>
        cases b with
        | nil => exact absurd rfl nb
        | cons k u =>
          rw [metW_iff]
          intro q hq
          obtain ⟨p, hp, rfl⟩ := mem_rowSteps.mp (show q ∈ rowSteps rs (n :: (t ++ z)) from hq)
          obtain ⟨q2, hq2, e, h2⟩ := metW_iff.mp h _ (mem_rowSteps.mpr ⟨p, hp, rfl⟩)
          obtain ⟨p2, hp2, rfl⟩ := mem_rowSteps.mp hq2
          refine ⟨(p2.1, p2.2 ++ (u ++ z)), (mem_rowSteps (t := u ++ z)).mpr ⟨p2, hp2, rfl⟩, e, ?_⟩
          have i1 : ∀ v ∈ p.2 ++ t, v ∈ names := fun v hv => by
            rcases List.mem_append.mp hv with hv | hv
            · exact (hg.ok _ (mem_rulesOf.mp hp)).2.2.2 v hv
            · exact ha v (List.mem_cons_of_mem _ hv)
          have i2 : ∀ v ∈ p2.2 ++ u, v ∈ names := fun v hv => by
            rcases List.mem_append.mp hv with hv | hv
            · exact (hg.ok _ (mem_rulesOf.mp hp2)).2.2.2 v hv
            · exact hb v (List.mem_cons_of_mem _ hv)
          have := al_right hg hr z m _ _ i1 i2 h2
          rw [List.append_assoc, List.append_assoc] at this
          exact this
    rcases alW_iff.mp h with rfl | ⟨h1, h2⟩
    · exact alW_refl _ _ _
    · by_cases ex : x = []
      · subst ex
        rw [empty hy h2]
        exact alW_refl _ _ _
      by_cases ey : y = []
      · subst ey
        rw [empty hx h1]
        exact alW_refl _ _ _
      exact alW_iff.mpr (.inr ⟨one ex ey hx hy h1, one ey ex hy hx h2⟩)
/-- a weight of names that no step lessens by more than one -/
def sumN (f : Str → Nat) (row : List Str) : Nat := (row.map f).sum
theorem sumN_app (f : Str → Nat) (a b : List Str) : sumN f (a ++ b) = sumN f a + sumN f b := by
  unfold sumN
  rw [List.map_append, List.sum_append]
theorem al_left {rs : List Rule} {f : Str → Nat} (hf : ∀ n, ∀ p ∈ rulesOf rs n, f n ≤ 1 + sumN f p.2) {n : Nat} {x y : List Str} (h : alW (rowSteps rs) n x y = true) : ∀ (m : Nat) (z : List Str), m ≤ n + sumN f z → alW (rowSteps rs) m (z ++ x) (z ++ y) = true
  | 0, _, _ => rfl
  | m + 1, [], hm => alW_le h (by simpa [sumN] using hm)
  | m + 1, c :: t, hm => by
    have hm : m + 1 ≤ n + (f c + sumN f t) := hm
    have one : ∀ {a b : List Str}, (∀ p ∈ rulesOf rs c, alW (rowSteps rs) m ((p.2 ++ t) ++ a) ((p.2 ++ t) ++ b) = true) → metW (rowSteps rs) (alW (rowSteps rs) m) (c :: t ++ a) (c :: t ++ b) = true := fun {a b} k => by
      rw [metW_iff]
      intro q hq
      obtain ⟨p, hp, rfl⟩ := mem_rowSteps.mp (show q ∈ rowSteps rs (c :: (t ++ a)) from hq)
      refine ⟨(p.1, p.2 ++ (t ++ b)), (mem_rowSteps (t := t ++ b)).mpr ⟨p, hp, rfl⟩, rfl, ?_⟩
      have := k p hp
      rw [List.append_assoc, List.append_assoc] at this
      exact this
    have key : ∀ p ∈ rulesOf rs c, alW (rowSteps rs) m ((p.2 ++ t) ++ x) ((p.2 ++ t) ++ y) = true := fun p hp => al_left hf h m (p.2 ++ t) (by
      rw [sumN_app]
      have := hf c p hp
      omega)
    exact alW_iff.mpr (.inr ⟨one key, one fun p hp => alW_symm (key p hp)⟩)
theorem mem_bagSteps {rs : List Rule} {b : List Str} {q : Step} : q ∈ bagSteps rs b ↔ ∃ n ∈ b, ∃ p ∈ rulesOf rs n, q = (p.1, ssort (p.2 ++ b.erase n)) := by
  rw [show bagSteps rs b = each1 (bagPuts rs b) from rfl, each1_mem, mem_bagPuts]
theorem erase_right {x z : List Str} {n : Str} (h : n ∈ z) : ((x ++ z).erase n).Perm (x ++ z.erase n) := by
  have h1 : (x ++ z).Perm (z ++ x) := List.perm_append_comm
  have h2 := h1.erase n
  rw [List.erase_append_left _ h] at h2
  exact h2.trans List.perm_append_comm
theorem al_bag {rs : List Rule} : ∀ (m : Nat) (x y z : List Str), alW (bagSteps rs) m x y = true → alW (bagSteps rs) m (ssort (x ++ z)) (ssort (y ++ z)) = true
  | 0, _, _, _, _ => rfl
  | m + 1, x, y, z, h => by
    have one : ∀ {a b : List Str}, alW (bagSteps rs) m a b = true → metW (bagSteps rs) (alW (bagSteps rs) m) a b = true → metW (bagSteps rs) (alW (bagSteps rs) m) (ssort (a ++ z)) (ssort (b ++ z)) = true := fun {a b} hd h => by
      rw [metW_iff]
      intro q hq
      obtain ⟨n, hn, p, hp, rfl⟩ := mem_bagSteps.mp hq
      have hn := (ssort_perm _).mem_iff.mp hn
      by_cases c : n ∈ a
      · obtain ⟨q2, hq2, e, h2⟩ := metW_iff.mp h _ (mem_bagSteps.mpr ⟨n, c, p, hp, rfl⟩)
        obtain ⟨n2, hn2, p2, hp2, rfl⟩ := mem_bagSteps.mp hq2
        refine ⟨(p2.1, ssort (p2.2 ++ (ssort (b ++ z)).erase n2)), mem_bagSteps.mpr ⟨n2, (ssort_perm _).mem_iff.mpr (List.mem_append_left _ hn2), p2, hp2, rfl⟩, e, ?_⟩
        have ih := al_bag m _ _ z h2
        have e1 : ∀ {u : List Str} {k : Str} {r : List Str}, k ∈ u → ssort (r ++ (ssort (u ++ z)).erase k) = ssort (ssort (r ++ u.erase k) ++ z) := fun {u k r} hk => by
          refine ssort_eq ?_
          have g1 : ((ssort (u ++ z)).erase k).Perm (u.erase k ++ z) := by
            have g := (ssort_perm (u ++ z)).erase k
            rw [List.erase_append_left _ hk] at g
            exact g
          refine ((List.Perm.refl r).append g1).trans ?_
          rw [← List.append_assoc]
          exact (ssort_perm _).symm.append (List.Perm.refl z)
        show alW (bagSteps rs) m (ssort (p.2 ++ (ssort (a ++ z)).erase n)) (ssort (p2.2 ++ (ssort (b ++ z)).erase n2)) = true
        rw [e1 c, e1 hn2]
        exact ih
      · have hz : n ∈ z := (List.mem_append.mp hn).resolve_left c
        refine ⟨(p.1, ssort (p.2 ++ (ssort (b ++ z)).erase n)), mem_bagSteps.mpr ⟨n, (ssort_perm _).mem_iff.mpr (List.mem_append_right _ hz), p, hp, rfl⟩, rfl, ?_⟩
        have ih := al_bag m a b (p.2 ++ z.erase n) hd
        have e1 : ∀ u : List Str, ssort (p.2 ++ (ssort (u ++ z)).erase n) = ssort (u ++ (p.2 ++ z.erase n)) := fun u => by
          refine ssort_eq ?_
          have g1 : ((ssort (u ++ z)).erase n).Perm (u ++ z.erase n) := ((ssort_perm (u ++ z)).erase n).trans (erase_right hz)
          refine ((List.Perm.refl p.2).append g1).trans ?_
          rw [← List.append_assoc, ← List.append_assoc]
          exact List.perm_append_comm.append (List.Perm.refl _)
        show alW (bagSteps rs) m (ssort (p.2 ++ (ssort (a ++ z)).erase n)) (ssort (p.2 ++ (ssort (b ++ z)).erase n)) = true
        rw [e1, e1]
        exact ih
    rcases alW_iff.mp h with rfl | ⟨h1, h2⟩
    · exact alW_refl _ _ _
    · have hd := alW_down h
      exact alW_iff.mpr (.inr ⟨one hd h1, one (alW_symm hd) h2⟩)
/-! norms of a world's names -/
theorem addW_sum {w : Wt} {f : Str → Nat} : ∀ {row : List Str}, (∀ x ∈ row, w x = some (f x)) → addW w row = some (sumN f row)
  | [], _ => rfl
  | n :: t, h => by
    unfold addW
    rw [h n (List.mem_cons_self ..), addW_sum fun x hx => h x (List.mem_cons_of_mem _ hx)]
    rfl
noncomputable def nrmW (rs : List Rule) (n : Str) : Nat := (normW rs n).getD 0
section
variable {names : List Str} {rs : List Rule}
theorem nrm_some (he : EndsR names rs) {n : Str} (hn : n ∈ names) : normW rs n = some (nrmW rs n) := by
  obtain ⟨v, d⟩ := he n hn
  obtain ⟨u, hu, _⟩ := muW_of d
  unfold nrmW normW
  rw [hu]
  rfl
theorem nrm_le (hg : GoodR names rs) (he : EndsR names rs) {n : Str} {p : Step} (hp : p ∈ rulesOf rs n) : nrmW rs n ≤ 1 + sumN (nrmW rs) p.2 := by
  have hr := mem_rulesOf.mp hp
  obtain ⟨h1, _, _, h4⟩ := hg.ok _ hr
  have ha := addW_sum (w := muW (edR rs)) (f := nrmW rs) (row := p.2) fun x hx => nrm_some he (h4 x hx)
  obtain ⟨v, hv, hle⟩ := muW_fix (E := edR rs) (e := (n, p.2)) (List.mem_map.mpr ⟨_, hr, rfl⟩) ha
  have e := nrm_some he (show n ∈ names from h1)
  unfold normW at e
  have hv : muW (edR rs) n = some v := hv
  rw [hv] at e
  have := Option.some.inj e
  omega
theorem nrm_row (hg : GoodR names rs) (he : EndsR names rs) {n : Str} (hn : n ∈ names) : ∃ p ∈ rulesOf rs n, nrmW rs n = 1 + sumN (nrmW rs) p.2 := by
  have e := nrm_some he hn
  obtain ⟨⟨h, d⟩, hmin⟩ := muW_some e
  cases h with
  | zero => exact d.elim
  | succ h =>
    obtain ⟨row, hr, vs, hl, hd, ev⟩ := d
    obtain ⟨r, hrm, er⟩ := List.mem_map.mp hr
    have er1 : r.1 = n := congrArg Prod.fst er
    have er2 : r.2.2 = row := congrArg Prod.snd er
    have hp : (r.2.1, row) ∈ rulesOf rs n := mem_rulesOf.mpr (by rw [← er1, ← er2]; exact hrm)
    refine ⟨_, hp, ?_⟩
    have h1 := nrm_le hg he hp
    have h2 : ∀ (row : List Str) (vs : List Nat), vs.length = row.length → (∀ x ∈ row, x ∈ names) → (∀ p ∈ row.zip vs, Dv (edR rs) h p.1 p.2) → sumN (nrmW rs) row ≤ vs.sum := fun row => by
      induction row with
      | nil => intro vs _ _ _; exact Nat.zero_le _
      | cons x t ih =>
        intro vs hl hin hd
        cases vs with
        | nil => cases hl
        | cons v vs =>
          have h3 := ih vs (Nat.succ.inj hl) (fun y hy => hin y (List.mem_cons_of_mem _ hy)) fun p hp => hd p (by rw [List.zip_cons_cons]; exact List.mem_cons_of_mem _ hp)
          have h4 := (muW_some (nrm_some he (hin x (List.mem_cons_self ..)))).2 v ⟨h, hd (x, v) (by rw [List.zip_cons_cons]; exact List.mem_cons_self)⟩
          show nrmW rs x + sumN (nrmW rs) t ≤ (v :: vs).sum
          rw [List.sum_cons]
          omega
    have h3 := h2 row vs hl (hg.ok _ (mem_rulesOf.mp hp)).2.2.2 hd
    show nrmW rs n = 1 + sumN (nrmW rs) row
    have h1 : nrmW rs n ≤ 1 + sumN (nrmW rs) row := h1
    omega
theorem nrm_pos (hg : GoodR names rs) (he : EndsR names rs) {n : Str} (hn : n ∈ names) : 1 ≤ nrmW rs n := by
  obtain ⟨p, _, e⟩ := nrm_row hg he hn
  omega
def boundB : Nat → Nat
  | 0 => 0
  | h + 1 => 1 + 3 * boundB h
theorem Dv_bound {E : List Edge} (hE : ∀ e ∈ E, e.2.length ≤ 3) : ∀ (h : Nat) (n : Str) (v : Nat), Dv E h n v → v ≤ boundB h
  | 0, _, _, d => d.elim
  | h + 1, n, v, ⟨row, hr, vs, hl, hd, e⟩ => by
    have h3 := hE _ hr
    have k : ∀ (row : List Str) (vs : List Nat), vs.length = row.length → (∀ p ∈ row.zip vs, Dv E h p.1 p.2) → vs.sum ≤ row.length * boundB h := fun row => by
      induction row with
      | nil => intro vs hl _; cases vs with
        | nil => exact Nat.zero_le _
        | cons _ _ => cases hl
      | cons x t ih =>
        intro vs hl hd
        cases vs with
        | nil => cases hl
        | cons v vs =>
          have i1 := ih vs (Nat.succ.inj hl) fun p hp => hd p (by rw [List.zip_cons_cons]; exact List.mem_cons_of_mem _ hp)
          have i2 := Dv_bound hE h x v (hd (x, v) (by rw [List.zip_cons_cons]; exact List.mem_cons_self))
          rw [List.sum_cons, List.length_cons, Nat.succ_mul]
          omega
    have h4 := k row vs hl hd
    have h5 : row.length * boundB h ≤ 3 * boundB h := Nat.mul_le_mul_right _ h3
    show v ≤ 1 + 3 * boundB h
    omega
theorem nrm_13 (hg : GoodR names rs) (he : EndsR names rs) (h3 : names.length ≤ 3) {n : Str} (hn : n ∈ names) : nrmW rs n ≤ 13 := by
  have hE : ∀ e ∈ edR rs, e.1 ∈ names := fun e he => by
    obtain ⟨r, hr, rfl⟩ := List.mem_map.mp he
    exact (hg.ok r hr).1
  have d := height_le hE (nrm_some he hn)
  have hl : ∀ e ∈ edR rs, e.2.length ≤ 3 := fun e he => by
    obtain ⟨r, hr, rfl⟩ := List.mem_map.mp he
    exact (hg.ok r hr).2.2.1
  have := Dv_bound hl 3 n _ (d.mono h3)
  exact this
end
end SG
/-! names that never come to nothing, found by rounds -/
namespace SG
open PySem PySem.Spec PyProof.Rows L2 LamX
/-- worlds some names of which may be endless -/
def StepsB (chain : List Str) (b c : Nat) (ps : List Step) : Prop := ps.Nodup ∧ ps.length ≤ b ∧ ∀ p ∈ ps, isLetter p.1 = true ∧ p.2.length ≤ c ∧ ∀ x ∈ p.2, x ∈ chain
def WorldB (chain : List Str) (b c : Nat) (gs : List (List Step)) : Prop := gs.length = chain.length ∧ ∀ (i : Nat) (ps : List Step), gs[i]? = some ps → StepsB chain b c ps
section
variable {chain names : List Str} {b : Nat} {gs : List (List Step)}
theorem WorldR.toB {c : Nat} (h : WorldR chain b c gs) : WorldB chain b c gs := ⟨h.1, fun i ps e => ⟨(h.2 i ps e).1, (h.2 i ps e).2.1, (h.2 i ps e).2.2.1⟩⟩
theorem WorldB.at_ (h : WorldB chain b 3 gs) (nd : chain.Nodup) {n : Str} (hn : n ∈ chain) : ∃ i : Nat, chain[i]? = some n ∧ StepsB chain b 3 (stepsW chain gs n) := by
  obtain ⟨i, hi⟩ := List.mem_iff_getElem?.mp hn
  have hil := (List.getElem?_eq_some_iff.mp hi).1
  obtain ⟨ps, hps⟩ : ∃ ps, gs[i]? = some ps := ⟨_, List.getElem?_eq_getElem (by rw [h.1]; exact hil)⟩
  exact ⟨i, hi, by rw [stepsW_at nd hi hps]; exact h.2 i ps hps⟩
theorem WorldB.set {i : Nat} {ps : List Step} (h : WorldB chain b 3 gs) (hp : StepsB chain b 3 ps) : WorldB chain b 3 (gs.set i ps) := by
  refine ⟨by rw [List.length_set]; exact h.1, fun j qs e => ?_⟩
  rw [List.getElem?_set] at e
  split at e
  · split at e
    · cases e
      exact hp
    · cases e
  · exact h.2 j qs e
theorem worldB_good (h : WorldB chain b 3 gs) (hb : b ≤ 4) (nd : chain.Nodup) (hp : names.Perm chain) : GoodR names (rulesW names (stepsW chain gs)) where
  nd := by
    refine nodup_flatW (hp.nodup_iff.mpr nd) (fun n hn => ?_) fun a _ c _ hac x hx hy => ?_
    · obtain ⟨i, _, h1, _⟩ := h.at_ nd (hp.mem_iff.mp hn)
      exact List.Pairwise.map _ (fun p q (hpq : p ≠ q) e => hpq (by
        have e := (Prod.mk.inj e).2
        exact e)) h1
    · obtain ⟨p, _, rfl⟩ := List.mem_map.mp hx
      obtain ⟨q, _, e⟩ := List.mem_map.mp hy
      exact hac (Prod.mk.inj e).1.symm
  ok := fun r hr => by
    obtain ⟨n, hn, h2⟩ := List.mem_flatMap.mp hr
    obtain ⟨p, hpm, rfl⟩ := List.mem_map.mp h2
    obtain ⟨i, _, _, _, h3⟩ := h.at_ nd (hp.mem_iff.mp hn)
    obtain ⟨a1, a2, a3⟩ := h3 p hpm
    exact ⟨hn, a1, a2, fun x hx => hp.mem_iff.mpr (a3 x hx)⟩
  few := fun n => by
    rw [rulesOf_W _ _ (hp.nodup_iff.mpr nd)]
    split
    · rename_i hn
      obtain ⟨i, _, _, h2, _⟩ := h.at_ nd (hp.mem_iff.mp hn)
      omega
    · exact Nat.zero_le _
theorem rulesB_len (h : WorldB chain b 3 gs) (nd : chain.Nodup) : ∀ ns : List Str, (∀ n ∈ ns, n ∈ chain) → (rulesW ns (stepsW chain gs)).length ≤ ns.length * b
  | [], _ => Nat.le_of_eq (by simp [rulesW])
  | n :: ns, hs => by
    have ih := rulesB_len h nd ns fun x hx => hs x (List.mem_cons_of_mem _ hx)
    obtain ⟨i, _, _, h2, _⟩ := h.at_ nd (hs n (List.mem_cons_self ..))
    unfold rulesW at ih ⊢
    rw [List.flatMap_cons, List.length_append, List.length_map, List.length_cons, Nat.succ_mul]
    omega
/-! rounds -/
def hasRow (f : Str → List Step) (S : List Str) (n : Str) : Bool := (f n).any fun p => p.2.all fun x => decide (x ∈ S)
theorem hasRow_iff {f : Str → List Step} {S : List Str} {n : Str} : hasRow f S n = true ↔ ∃ p ∈ f n, ∀ x ∈ p.2, x ∈ S := by
  unfold hasRow
  rw [List.any_eq_true]
  constructor
  · rintro ⟨p, hp, h⟩
    exact ⟨p, hp, fun x hx => of_decide_eq_true (List.all_eq_true.mp h x hx)⟩
  · rintro ⟨p, hp, h⟩
    exact ⟨p, hp, List.all_eq_true.mpr fun x hx => decide_eq_true (h x hx)⟩
theorem hasRow_mono {f : Str → List Step} {S T : List Str} {n : Str} (h : ∀ x ∈ S, x ∈ T) (k : hasRow f S n = true) : hasRow f T n = true := by
  obtain ⟨p, hp, hx⟩ := hasRow_iff.mp k
  exact hasRow_iff.mpr ⟨p, hp, fun x hx2 => h x (hx x hx2)⟩
def Closed (names : List Str) (f : Str → List Step) (S : List Str) : Prop := ∀ n ∈ names, hasRow f S n = true → n ∈ S
theorem edW {f : Str → List Step} {n : Str} {row : List Str} : (n, row) ∈ edR (rulesW names f) ↔ n ∈ names ∧ ∃ p ∈ f n, p.2 = row := by
  unfold edR
  constructor
  · intro h
    obtain ⟨r, hr, e⟩ := List.mem_map.mp h
    obtain ⟨m, hm, h2⟩ := List.mem_flatMap.mp hr
    obtain ⟨p, hp, rfl⟩ := List.mem_map.mp h2
    obtain ⟨rfl, e2⟩ := Prod.mk.inj e
    exact ⟨hm, p, hp, e2⟩
  · rintro ⟨hn, p, hp, rfl⟩
    exact List.mem_map.mpr ⟨(n, p.1, p.2), List.mem_flatMap.mpr ⟨n, hn, List.mem_map.mpr ⟨p, hp, rfl⟩⟩, rfl⟩
theorem fin_iff {rs : List Rule} {n : Str} : (normW rs n).isSome = true ↔ ∃ v, Der (edR rs) n v := by
  constructor
  · intro h
    unfold normW muW at h
    split at h
    · rename_i k
      exact k
    · cases h
  · rintro ⟨v, d⟩
    obtain ⟨u, e, _⟩ := muW_of d
    unfold normW
    rw [e]
    rfl
theorem fin_row {f : Str → List Step} {S : List Str} {n : Str} (hn : n ∈ names) (hS : ∀ x ∈ S, (normW (rulesW names f) x).isSome = true) (h : hasRow f S n = true) : (normW (rulesW names f) n).isSome = true := by
  obtain ⟨p, hp, hx⟩ := hasRow_iff.mp h
  have E : EndsR S (rulesW names f) := fun x hx => fin_iff.mp (hS x hx)
  obtain ⟨d, vs, hl, hd⟩ := E.row hx
  exact fin_iff.mpr ⟨_, d + 1, p.2, edW.mpr ⟨hn, p, hp, rfl⟩, vs, hl, hd, rfl⟩
theorem closed_all {f : Str → List Step} {S : List Str} (h : Closed names f S) : ∀ (k : Nat) (n : Str) (v : Nat), Dv (edR (rulesW names f)) k n v → n ∈ S
  | 0, _, _, d => d.elim
  | k + 1, n, v, ⟨row, hr, vs, hl, hd, _⟩ => by
    obtain ⟨hn, p, hp, rfl⟩ := edW.mp hr
    refine h n hn (hasRow_iff.mpr ⟨p, hp, fun x hx => ?_⟩)
    obtain ⟨i, hi⟩ := List.mem_iff_getElem?.mp hx
    have hil := (List.getElem?_eq_some_iff.mp hi).1
    obtain ⟨u, hu⟩ : ∃ u, vs[i]? = some u := ⟨_, List.getElem?_eq_getElem (by omega)⟩
    exact closed_all h k x u (hd (x, u) (List.mem_iff_getElem?.mpr ⟨i, List.getElem?_zip_eq_some.mpr ⟨hi, hu⟩⟩))
/-- where each row of a name leads to it -/
theorem never_self {f : Str → List Step} {n : Str} (h : ∀ p ∈ f n, n ∈ p.2) : ∀ (k v : Nat), ¬ Dv (edR (rulesW names f)) k n v
  | 0, _, d => d.elim
  | k + 1, v, ⟨row, hr, vs, hl, hd, _⟩ => by
    obtain ⟨hn, p, hp, rfl⟩ := edW.mp hr
    obtain ⟨i, hi⟩ := List.mem_iff_getElem?.mp (h p hp)
    have hil := (List.getElem?_eq_some_iff.mp hi).1
    obtain ⟨u, hu⟩ : ∃ u, vs[i]? = some u := ⟨_, List.getElem?_eq_getElem (by omega)⟩
    exact never_self h k u (hd (n, u) (List.mem_iff_getElem?.mpr ⟨i, List.getElem?_zip_eq_some.mpr ⟨hi, hu⟩⟩))
theorem never_none {f : Str → List Step} {n : Str} (h : ∀ p ∈ f n, n ∈ p.2) : (normW (rulesW names f) n).isNone = true := by
  cases e : normW (rulesW names f) n with
  | none => rfl
  | some v =>
    obtain ⟨u, k, d⟩ := fin_iff.mp (by rw [e]; rfl)
    exact absurd d (never_self h k u)
/-- the names found good, behind so many rounds -/
structure GoodS (names : List Str) (f : Str → List Step) (S : List Str) : Prop where
  nd : S.Nodup
  sub : ∀ x ∈ S, x ∈ names
  fin : ∀ x ∈ S, (normW (rulesW names f) x).isSome = true
theorem GoodS.nil {f : Str → List Step} : GoodS names f [] := ⟨List.nodup_nil, fun x h => (nomatch h), fun x h => (nomatch h)⟩
theorem GoodS.add {f : Str → List Step} {S : List Str} {n : Str} (g : GoodS names f S) (hn : n ∈ names) (h : hasRow f S n = true) (c : n ∉ S) : GoodS names f (S ++ [n]) := by
  refine ⟨List.nodup_append.mpr ⟨g.nd, by simp, fun a ha b hb e => c ?_⟩, fun x hx => ?_, fun x hx => ?_⟩
  · rw [List.mem_singleton.mp hb] at e
    rw [← e]
    exact ha
  · rcases List.mem_append.mp hx with hx | hx
    · exact g.sub x hx
    · rw [List.mem_singleton.mp hx]; exact hn
  · rcases List.mem_append.mp hx with hx | hx
    · exact g.fin x hx
    · rw [List.mem_singleton.mp hx]; exact fin_row hn g.fin h
/-- within a round, from S on -/
structure InRound (names : List Str) (f : Str → List Step) (S T : List Str) (j : Nat) : Prop where
  g : GoodS names f T
  sub : ∀ x ∈ S, x ∈ T
  cl : Closed names f S → T = S
  all : ∀ n ∈ names.take j, hasRow f S n = true → n ∈ T
  le : S.length ≤ T.length
theorem InRound.start {f : Str → List Step} {S : List Str} (g : GoodS names f S) : InRound names f S S 0 := ⟨g, fun _ h => h, fun _ => rfl, (fun n hn => by rw [List.take_zero] at hn; cases hn), Nat.le_refl _⟩
theorem InRound.stay {f : Str → List Step} {S T : List Str} {j : Nat} {n : Str} (h : InRound names f S T j) (hj : names[j]? = some n) (c : hasRow f T n = true → n ∈ T) : InRound names f S T (j + 1) :=
  { g := h.g, sub := h.sub, cl := h.cl, le := h.le, all := fun m hm k => by
      rw [take_snoc hj] at hm
      rcases List.mem_append.mp hm with hm | hm
      · exact h.all m hm k
      · rw [List.mem_singleton.mp hm] at k ⊢
        exact c (hasRow_mono h.sub k) }
theorem InRound.add {f : Str → List Step} {S T : List Str} {j : Nat} {n : Str} (h : InRound names f S T j) (hj : names[j]? = some n) (k : hasRow f T n = true) (c : n ∉ T) : InRound names f S (T ++ [n]) (j + 1) := by
  have hn := List.mem_of_getElem? hj
  refine ⟨h.g.add hn k c, fun x hx => List.mem_append_left _ (h.sub x hx), fun cl => ?_, fun m hm k2 => ?_, by rw [List.length_append]; have := h.le; omega⟩
  · have e := h.cl cl
    subst e
    exact absurd (cl n hn k) c
  · rw [take_snoc hj] at hm
    rcases List.mem_append.mp hm with hm | hm
    · exact List.mem_append_left _ (h.all m hm k2)
    · exact List.mem_append_right _ hm
/-- behind so many rounds -/
def Rounded (names : List Str) (f : Str → List Step) (S : List Str) (i : Nat) : Prop := GoodS names f S ∧ (Closed names f S ∨ i ≤ S.length)
theorem InRound.done {f : Str → List Step} {S T : List Str} {i : Nat} (r : Rounded names f S i) (h : InRound names f S T names.length) : Rounded names f T (i + 1) := by
  refine ⟨h.g, ?_⟩
  by_cases cl : Closed names f S
  · rw [h.cl cl]
    exact .inl cl
  · right
    obtain ⟨n, hn⟩ := Classical.not_forall.mp cl
    obtain ⟨hn1, hn2⟩ := Classical.not_imp.mp hn
    obtain ⟨hn2, hn3⟩ := Classical.not_imp.mp hn2
    have hT := h.all n (by rw [List.take_length]; exact hn1) hn2
    have hi : i ≤ S.length := r.2.resolve_left cl
    have h2 := (List.nodup_cons.mpr ⟨hn3, r.1.nd⟩ : (n :: S).Nodup).length_le_of_subset (l₂ := T) fun x hx => by
      rcases List.mem_cons.mp hx with rfl | hx
      · exact hT
      · exact h.sub x hx
    rw [List.length_cons] at h2
    omega
theorem Rounded.fin {f : Str → List Step} {S : List Str} (nd : names.Nodup) (r : Rounded names f S names.length) (n : Str) (hn : n ∈ names) : n ∈ S ↔ (normW (rulesW names f) n).isSome = true := by
  refine ⟨r.1.fin n, fun h => ?_⟩
  rcases r.2 with cl | hl
  · obtain ⟨v, k, d⟩ := fin_iff.mp h
    exact closed_all cl k n v d
  · by_cases c : n ∈ S
    · exact c
    · exfalso
      have h2 := (List.nodup_cons.mpr ⟨c, r.1.nd⟩ : (n :: S).Nodup).length_le_of_subset (l₂ := names) fun x hx => by
        rcases List.mem_cons.mp hx with rfl | hx
        · exact hn
        · exact r.1.sub x hx
      rw [List.length_cons] at h2
      omega
/-- one letter, many times -/
def RepN (x : Str) : Prop := ∃ c k : Nat, x = repS c (k + 1)
theorem RepN.two {c d : Nat} (h : c ≠ d) {y : Str} (hy : y.cps.toList = [c, d]) {x : Str} (r : RepN x) : x ≠ y := fun e => by
  obtain ⟨a, k, rfl⟩ := r
  have e := congrArg (fun z : Str => z.cps.toList) e
  have e : (repS a (k + 1)).cps.toList = y.cps.toList := e
  rw [hy] at e
  have e2 : List.replicate (k + 1) a = [c, d] := by
    rw [← e]
    unfold repS
    simp
  have h1 : c ∈ List.replicate (k + 1) a := by rw [e2]; simp
  have h2 : d ∈ List.replicate (k + 1) a := by rw [e2]; simp
  exact h ((List.eq_of_mem_replicate h1).trans (List.eq_of_mem_replicate h2).symm)
theorem RepN.yz {x : Str} (r : RepN x) : x ≠ "yz" := r.two (c := 121) (d := 122) (by decide) (by decide +kernel)
theorem RepN.zy {x : Str} (r : RepN x) : x ≠ "zy" := r.two (c := 122) (d := 121) (by decide) (by decide +kernel)
def sp_chain19 : Sp := fun vs H Q _ => ∃ (s : Addr) (m n : Nat), vs = [.ref s, .int m] ∧ 1 ≤ m ∧ m ≤ 6 ∧ WellC H s n ∧ n ≤ 100000000 ∧ ∀ p H' (xs : List Str), H p = none → But s H H' → WellC H' s (n + 1 + 2 * m) → H' p = some (.lst (xs.map V.str)) → areNames xs = true → xs.length = m → (∀ x ∈ xs, RepN x) → Q (.ref p) H'
theorem chain_rep {xs ys : List Str} {f : Int} (h : ∀ i x, ys[i]? = some x → ChainB f i x) (hp : xs.Perm ys) : ∀ x ∈ xs, RepN x := fun x hx => by
  obtain ⟨i, hi⟩ := List.mem_iff_getElem?.mp (hp.mem_iff.mp hx)
  obtain ⟨k, _, e⟩ := h i x hi
  exact ⟨_, k, e⟩
theorem WellC.extN {H H' : Hp} {s : Addr} {n : Nat} (h : WellC H s n) (e : ExtN H H') : WellC H' s n := by
  obtain ⟨⟨a, b, c, h1, h2⟩, a', b', c', h3, h4⟩ := h
  exact ⟨⟨a, b, c, e.lst h1, h2⟩, a', b', c', e.lst h3, h4⟩
theorem WellC.updN {H : Hp} {s p : Addr} {n : Nat} (h : WellC H s n) (ne : s ≠ p) (o : HO) : WellC (upd H p o) s n := by
  obtain ⟨⟨a, b, c, h1, h2⟩, a', b', c', h3, h4⟩ := h
  exact ⟨⟨a, b, c, by rw [upd_ne ne]; exact h1, h2⟩, a', b', c', by rw [upd_ne ne]; exact h3, h4⟩
end
end SG
/-! room for the keys that a search adds -/
namespace SG
open PySem PySem.Spec PyProof.Rows L2 LamX
structure FitF (names : List Str) (k : Nat) (F : Nat → List NEnt → Prop) : Prop where
  down : ∀ {j : Nat} {xs : List NEnt}, F (j + 1) xs → F j xs
  few : ∀ {j : Nat} {xs : List NEnt}, F (j + 1) xs → xs.length + 1 ≤ 16000000
  put : ∀ {j : Nat} {xs : List NEnt} {x y : List Str} {m : Nat} (a : Addr) (v : V), F (j + 1) xs → (∀ z ∈ x, z ∈ names) → (∀ z ∈ y, z ∈ names) → x.length ≤ 900 → y.length ≤ 900 → m < k → atN xs (kR x y (m + 1)) = none → F j (xs ++ [(kR x y (m + 1), a, v)])
theorem FitF.le {names : List Str} {k : Nat} {F : Nat → List NEnt → Prop} (f : FitF names k F) {i j : Nat} {xs : List NEnt} (h : i ≤ j) (a : F j xs) : F i xs := by
  induction h with
  | refl => exact a
  | step _ ih => exact ih (f.down a)
theorem FitF.mono {names : List Str} {k k' : Nat} {F : Nat → List NEnt → Prop} (f : FitF names k F) (h : k' ≤ k) : FitF names k' F := ⟨f.down, f.few, fun a v h1 h2 h3 h4 h5 h6 h7 => f.put a v h1 h2 h3 h4 h5 (Nat.lt_of_lt_of_le h6 h) h7⟩
def TreeF (j : Nat) (xs : List NEnt) : Prop := xs.length + j ≤ 16000000
theorem fit_tree (names : List Str) (k : Nat) : FitF names k TreeF where
  down := fun {j xs} h => by unfold TreeF at h ⊢; omega
  few := fun {j xs} h => by unfold TreeF at h; omega
  put := fun a v h _ _ _ _ _ _ => by unfold TreeF at h ⊢; rw [List.length_append]; show _ + 1 + _ ≤ _; omega
/-- rows of one name alone -/
def OneF (n : Str) (_ : Nat) (xs : List NEnt) : Prop := (xs.map (·.1)).Nodup ∧ ∀ e ∈ xs, ∃ i j m, i < 901 ∧ j < 901 ∧ m < 13 ∧ e.1 = kR (List.replicate i n) (List.replicate j n) (m + 1)
theorem all_rep {n : Str} : ∀ {x : List Str}, (∀ z ∈ x, z ∈ [n]) → x = List.replicate x.length n
  | [], _ => rfl
  | a :: t, h => by
    have h1 := List.mem_singleton.mp (h a List.mem_cons_self)
    have h2 := all_rep fun z hz => h z (List.mem_cons_of_mem _ hz)
    rw [List.length_cons, List.replicate_succ, ← h2, h1]
theorem fit_one (n : Str) {k : Nat} (hk : k ≤ 13) : FitF [n] k (OneF n) where
  down := fun h => h
  few := fun {j xs} h => by
    obtain ⟨nd, h⟩ := h
    have h1 := nodup_len (ys := (List.range 901).flatMap fun i => (List.range 901).flatMap fun j => (List.range 13).map fun m => kR (List.replicate i n) (List.replicate j n) (m + 1)) nd fun z hz => by
      obtain ⟨e, he, rfl⟩ := List.mem_map.mp hz
      obtain ⟨i, j, m, hi, hj, hm, e1⟩ := h e he
      exact List.mem_flatMap.mpr ⟨i, List.mem_range.mpr hi, List.mem_flatMap.mpr ⟨j, List.mem_range.mpr hj, List.mem_map.mpr ⟨m, List.mem_range.mpr hm, e1.symm⟩⟩⟩
    have h2 := flat_len (f := fun i => (List.range 901).flatMap fun j => (List.range 13).map fun m => kR (List.replicate i n) (List.replicate j n) (m + 1)) (k := 13 * 901) (fun i => flat_len (f := fun j => (List.range 13).map fun m => kR (List.replicate i n) (List.replicate j n) (m + 1)) (k := 13) (fun j => by rw [List.length_map, List.length_range]; exact Nat.le_refl _) 901) 901
    rw [List.length_map] at h1
    have h3 := Nat.le_trans h1 h2
    omega
  put := fun {j xs x y m} a v h hx hy hxl hyl hm e => by
    obtain ⟨nd, h⟩ := h
    have hno : ∀ z ∈ xs, z.1 ≠ kR x y (m + 1) := fun z hz hk2 => by
      unfold atN at e
      have e := Option.map_eq_none_iff.mp e
      rw [List.find?_eq_none] at e
      exact e z hz (decide_eq_true hk2)
    refine ⟨?_, fun z hz => ?_⟩
    · rw [List.map_append, List.map_cons, List.map_nil, List.nodup_append]
      refine ⟨nd, List.nodup_cons.mpr ⟨List.not_mem_nil, List.nodup_nil⟩, fun p hp q hq => ?_⟩
      rw [List.mem_singleton.mp hq]
      obtain ⟨z, hz, rfl⟩ := List.mem_map.mp hp
      exact hno z hz
    · rcases List.mem_append.mp hz with hz | hz
      · exact h z hz
      · rw [List.mem_singleton.mp hz]
        exact ⟨x.length, y.length, m, by omega, by omega, by omega, by rw [← all_rep hx, ← all_rep hy]⟩
theorem one_nil (n : Str) (j : Nat) : OneF n j [] := ⟨List.nodup_nil, fun _ h => (nomatch h)⟩
end SG
/-! plays: rows that part two, as a law makes them round by round, and what holds of them -/
namespace SG
open PySem PySem.Spec PyProof.Rows L2 LamX
structure PRow where
  x : List Str
  y : List Str
  sd : Nat
  z : Str
  r : List Str
deriving DecidableEq
structure FRow where
  m : Nat
  row : PRow
deriving DecidableEq
abbrev Two2 := List Str × List Str
def eP (q : PRow) : PyData := .tuple [eSs q.x, eSs q.y, .int (q.sd : Int), .str q.z, eSs q.r]
def eF (q : FRow) : PyData := .tuple [.int (q.m : Int), eSs q.row.x, eSs q.row.y, .int (q.row.sd : Int), .str q.row.z, eSs q.row.r]
theorem enc_nn (a b : Nat) : PyData.eqv (.int (a : Int)) (.int (b : Int)) = decide (a = b) := by
  rw [enc_int]
  exact decide_eq_decide.mpr ⟨fun h => by omega, fun h => by omega⟩
theorem enc_P : Enc eP := fun a b => by
  obtain ⟨x, y, sd, z, r⟩ := a
  obtain ⟨x', y', sd', z', r'⟩ := b
  unfold eP
  simp only [PyData.eqv, PyData.eqvAll, enc_str z z', enc_Ss x x', enc_Ss y y', enc_Ss r r', Bool.and_true, PRow.mk.injEq]
  have hc : ((sd : Int) = (sd' : Int)) ↔ sd = sd' := ⟨fun h => by omega, fun h => by omega⟩
  by_cases c1 : x = x' <;> by_cases c2 : y = y' <;> by_cases c3 : sd = sd' <;> by_cases c4 : z = z' <;> by_cases c5 : r = r' <;> simp [hc, c1, c2, c3, c4, c5]
theorem enc_F : Enc eF := fun a b => by
  obtain ⟨m, x, y, sd, z, r⟩ := a
  obtain ⟨m', x', y', sd', z', r'⟩ := b
  unfold eF
  simp only [PyData.eqv, PyData.eqvAll, enc_str z z', enc_Ss x x', enc_Ss y y', enc_Ss r r', Bool.and_true, PRow.mk.injEq, FRow.mk.injEq]
  have hc : ((sd : Int) = (sd' : Int)) ↔ sd = sd' := ⟨fun h => by omega, fun h => by omega⟩
  have hm : ((m : Int) = (m' : Int)) ↔ m = m' := ⟨fun h => by omega, fun h => by omega⟩
  by_cases c0 : m = m' <;> by_cases c1 : x = x' <;> by_cases c2 : y = y' <;> by_cases c3 : sd = sd' <;> by_cases c4 : z = z' <;> by_cases c5 : r = r' <;> simp [hc, hm, c0, c1, c2, c3, c4, c5]
theorem dep_P : Dep eP 2 := fun q => by
  unfold eP
  have h1 := dep_Ss q.x
  have h2 := dep_Ss q.y
  have h3 := dep_Ss q.r
  simp only [PyData.depth, PyData.depthAll]
  omega
theorem dep_F : Dep eF 2 := fun q => by
  unfold eF
  have h1 := dep_Ss q.row.x
  have h2 := dep_Ss q.row.y
  have h3 := dep_Ss q.row.r
  simp only [PyData.depth, PyData.depthAll]
  omega
theorem alk_F : Alk eF := fun a b => by
  unfold eF
  rw [PySem.W.alike, PySem.W.alikeAll, PySem.W.alikeAll, PySem.W.alikeAll, PySem.W.alikeAll, PySem.W.alikeAll, PySem.W.alikeAll, PySem.W.alikeAll]
  have h1 := fun x y => alk_L alk_str (e := PyData.str) x y
  have h2 := alk_int (a.m : Int) (b.m : Int)
  have h3 := alk_int (a.row.sd : Int) (b.row.sd : Int)
  have h4 := alk_str a.row.z b.row.z
  have e : eSs = eL PyData.str := rfl
  rw [e, h1, h1, h1, h2, h3, h4]
  rfl
theorem srt_F : Srt eF := .inl fun b => ⟨_, _, rfl⟩
theorem leF_m {a b : FRow} (h : leE eF a b = true) : a.m ≤ b.m := by
  have h1 : PySem.W.dataLt (eF b) (eF a) = false := by
    have : (!PySem.W.dataLt (eF b) (eF a)) = true := h
    simpa using this
  refine Nat.le_of_not_lt fun hl => ?_
  unfold eF at h1
  rw [PySem.W.dataLt_tuple, PySem.W.dataLt_all_no (alk_int _ _) (by rw [enc_nn]; exact decide_eq_false (by omega))] at h1
  have e : PySem.W.dataLt (.int (b.m : Int)) (.int (a.m : Int)) = true := by
    have h3 : PySem.W.dataLt (.int (b.m : Int)) (.int (a.m : Int)) = (decide ((b.m : Int) < (a.m : Int)) || (!decide ((a.m : Int) < (b.m : Int)) && false)) := by
      unfold PySem.W.dataLt
      rw [PySem.W.keyToks, PySem.W.keyToks, PyProof.Rows.lex_cons]
      rfl
    rw [h3, decide_eq_true (show (b.m : Int) < (a.m : Int) by omega)]
    rfl
  rw [e] at h1
  cases h1
/-! ### what a law asks, round by round -/
def ansW (st : StepF) (y : List Str) (z : Str) : List (List Str) := ((st y).filter fun q => decide (q.1 = z)).map (·.2)
theorem mem_ansW {st : StepF} {y : List Str} {z : Str} {a : List Str} : a ∈ ansW st y z ↔ (z, a) ∈ st y := by
  unfold ansW
  constructor
  · intro h
    obtain ⟨q, hq, rfl⟩ := List.mem_map.mp h
    obtain ⟨h1, h2⟩ := List.mem_filter.mp hq
    rw [← of_decide_eq_true h2]
    exact h1
  · intro h
    exact List.mem_map.mpr ⟨_, List.mem_filter.mpr ⟨h, decide_eq_true rfl⟩, rfl⟩
def sdW {α : Type} (sd : Nat) (x y : α) : α := if sd = 0 then x else y
def pairS (sd : Nat) (r a : List Str) : Two2 := if sd = 0 then (r, a) else (a, r)
def unmW (st : StepF) (m : Nat) (x y : List Str) : Option Step := (st x).find? fun p => !((ansW st y p.1).any fun a => alW st m p.2 a)
def askW (st : StepF) (m : Nat) (x y : List Str) : Option (Nat × Step) := match unmW st m x y with
  | some p => some (0, p)
  | none => (unmW st m y x).map fun p => (1, p)
section
variable {st : StepF} {m : Nat} {x y : List Str}
theorem unm_none : unmW st m x y = none ↔ metW st (alW st m) x y = true := by
  unfold unmW metW
  rw [List.find?_eq_none, List.all_eq_true]
  refine forall_congr' fun p => forall_congr' fun _ => ?_
  show ¬ (!((ansW st y p.1).any fun a => alW st m p.2 a)) = true ↔ _
  unfold ansW
  simp
theorem ask_some (h : alW st (m + 1) x y = false) : ∃ sd p, askW st m x y = some (sd, p) := by
  unfold askW
  cases h1 : unmW st m x y with
  | some p => exact ⟨_, _, rfl⟩
  | none =>
    cases h2 : unmW st m y x with
    | some p => exact ⟨_, _, rfl⟩
    | none =>
      rw [alW_iff.mpr (.inr ⟨unm_none.mp h1, unm_none.mp h2⟩)] at h
      cases h
theorem unm_ok {p : Step} (h : unmW st m x y = some p) : p ∈ st x ∧ ∀ a ∈ ansW st y p.1, alW st m p.2 a = false := by
  unfold unmW at h
  refine ⟨List.mem_of_find?_eq_some h, fun a ha => ?_⟩
  have h2 := List.find?_some h
  have h2 : (!((ansW st y p.1).any fun a => alW st m p.2 a)) = true := h2
  rw [Bool.not_eq_true'] at h2
  rw [List.any_eq_false] at h2
  have h3 := h2 a ha
  cases e : alW st m p.2 a with
  | false => rfl
  | true => exact absurd e h3
theorem ask_ok {sd : Nat} {p : Step} (h : askW st m x y = some (sd, p)) : sd ≤ 1 ∧ p ∈ st (sdW sd x y) ∧ ∀ a ∈ ansW st (sdW sd y x) p.1, alW st m p.2 a = false := by
  unfold askW at h
  cases h1 : unmW st m x y with
  | some q =>
    rw [h1] at h
    obtain ⟨rfl, rfl⟩ := Prod.mk.inj (Option.some.inj h)
    exact ⟨Nat.zero_le _, unm_ok h1⟩
  | none =>
    rw [h1] at h
    cases h2 : unmW st m y x with
    | none => rw [h2] at h; cases h
    | some q =>
      rw [h2] at h
      obtain ⟨rfl, rfl⟩ := Prod.mk.inj (Option.some.inj h)
      exact ⟨Nat.le_refl _, unm_ok h2⟩
end
def lowW (st : StepF) (x y : List Str) : Nat → Nat
  | 0 => 0
  | m + 1 => if 1 ≤ m ∧ alW st m x y = false then lowW st x y m else m + 1
theorem alW_zero (st : StepF) (x y : List Str) : alW st 0 x y = true := rfl
theorem low_ok {st : StepF} {x y : List Str} : ∀ {m : Nat}, 1 ≤ m → alW st m x y = false → 1 ≤ lowW st x y m ∧ lowW st x y m ≤ m ∧ alW st (lowW st x y m) x y = false ∧ alW st (lowW st x y m - 1) x y = true
  | 0, h, _ => by omega
  | m + 1, _, h => by
    unfold lowW
    by_cases c : 1 ≤ m ∧ alW st m x y = false
    · rw [if_pos c]
      obtain ⟨h1, h2, h3, h4⟩ := low_ok c.1 c.2
      exact ⟨h1, by omega, h3, h4⟩
    · rw [if_neg c]
      refine ⟨by omega, Nat.le_refl _, h, ?_⟩
      show alW st m x y = true
      cases m with
      | zero => rfl
      | succ k =>
        cases e : alW st (k + 1) x y with
        | true => rfl
        | false => exact absurd ⟨by omega, e⟩ c
structure FGood (st : StepF) (nf : Str → Nat) (e : FRow) : Prop where
  m1 : 1 ≤ e.m
  al : alW st e.m e.row.x e.row.y = false
  ax : alW st (e.m - 1) e.row.x e.row.y = true
  nn : sumN nf e.row.x = sumN nf e.row.y
  ask : askW st (e.m - 1) e.row.x e.row.y = some (e.row.sd, (e.row.z, e.row.r))
def twoP (r : PRow) : Two2 := (r.x, r.y)
def kidsW (st : StepF) (e : PRow) : List Two2 := (ansW st (sdW e.sd e.y e.x) e.z).map (pairS e.sd e.r)
theorem good_m {st : StepF} {nf : Str → Nat} {e e' : FRow} (h : FGood st nf e) (h' : FGood st nf e') (t : twoP e.row = twoP e'.row) : e.m = e'.m := by
  have e1 : e.row.x = e'.row.x := (Prod.mk.inj t).1
  have e2 : e.row.y = e'.row.y := (Prod.mk.inj t).2
  have a := h.al
  have a' := h'.al
  have b := h.ax
  have b' := h'.ax
  rw [e1, e2] at a b
  rcases Nat.lt_trichotomy e.m e'.m with c | c | c
  · have := alW_le b' (show e.m ≤ e'.m - 1 by omega)
    rw [a] at this
    cases this
  · exact c
  · have := alW_le b (show e'.m ≤ e.m - 1 by omega)
    rw [a'] at this
    cases this
/-- a law's list of what is found and of what is to do -/
structure PlayI (st : StepF) (nf : Str → Nat) (one other : List Str) (M : Nat) (found : List FRow) (todo : List (Two2 × Nat)) : Prop where
  good : ∀ e ∈ found, FGood st nf e
  tod : ∀ t ∈ todo, 1 ≤ t.2 ∧ alW st t.2 t.1.1 t.1.2 = false
  kids : ∀ e ∈ found, ∀ q ∈ kidsW st e.row, sumN nf q.1 = sumN nf q.2 → (∃ e' ∈ found, twoP e'.row = q ∧ e'.m < e.m) ∨ ∃ t ∈ todo, t.1 = q ∧ t.2 < e.m
  start : (found = [] ∧ todo = [((one, other), M)]) ∨ (found = [] ∧ todo = [] ∧ sumN nf one ≠ sumN nf other) ∨ ∃ e0 rest, found = e0 :: rest ∧ twoP e0.row = (one, other) ∧ (∀ e ∈ rest, e.m < e0.m) ∧ ∀ t ∈ todo, t.2 < e0.m
section
variable {st : StepF} {nf : Str → Nat} {one other : List Str} {M : Nat} {found : List FRow} {todo : List (Two2 × Nat)}
theorem play_start (h1 : 1 ≤ M) (h : alW st M one other = false) : PlayI st nf one other M [] [((one, other), M)] where
  good := fun e he => by cases he
  tod := fun t ht => by rw [List.mem_singleton.mp ht]; exact ⟨h1, h⟩
  kids := fun e he => by cases he
  start := .inl ⟨rfl, rfl⟩
theorem play_skip {q : Two2} {m : Nat} (h : PlayI st nf one other M found (todo ++ [(q, m)])) (hn : sumN nf q.1 ≠ sumN nf q.2) : PlayI st nf one other M found todo where
  good := h.good
  tod := fun t ht => h.tod t (List.mem_append_left _ ht)
  kids := fun e he k hk hs => by
    rcases h.kids e he k hk hs with h1 | ⟨t, ht, h2, h3⟩
    · exact .inl h1
    · rcases List.mem_append.mp ht with ht | ht
      · exact .inr ⟨t, ht, h2, h3⟩
      · rw [List.mem_singleton.mp ht] at h2
        rw [← h2] at hs
        exact absurd hs hn
  start := by
    rcases h.start with ⟨h1, h2⟩ | ⟨h1, h2, h3⟩ | ⟨e0, rest, h1, h2, h3, h4⟩
    · have h3 : todo = [] ∧ (q, m) = ((one, other), M) := by
        cases todo with
        | nil => exact ⟨rfl, (List.cons.inj h2).1⟩
        | cons a t => have := (List.cons.inj h2).2; simp at this
      have e := (Prod.mk.inj h3.2).1
      rw [e] at hn
      exact .inr (.inl ⟨h1, h3.1, hn⟩)
    · simp at h2
    · exact .inr (.inr ⟨e0, rest, h1, h2, h3, fun t ht => h4 t (List.mem_append_left _ ht)⟩)
theorem play_take {q : Two2} {m sd : Nat} {z : Str} {r : List Str} (h : PlayI st nf one other M found (todo ++ [(q, m)])) (hn : sumN nf q.1 = sumN nf q.2) (ha : askW st (lowW st q.1 q.2 m - 1) q.1 q.2 = some (sd, (z, r))) :
    PlayI st nf one other M (found ++ [⟨lowW st q.1 q.2 m, q.1, q.2, sd, z, r⟩]) (todo ++ (kidsW st ⟨q.1, q.2, sd, z, r⟩).map fun k => (k, lowW st q.1 q.2 m - 1)) := by
  obtain ⟨t1, t2⟩ := h.tod (q, m) (List.mem_append_right _ List.mem_cons_self)
  obtain ⟨l1, l2, l3, l4⟩ := low_ok t1 t2
  obtain ⟨a1, a2, a3⟩ := ask_ok ha
  generalize lowW st q.1 q.2 m = l at ha l1 l2 l3 l4 a3 ⊢
  have l2 : l ≤ m := l2
  have kid : ∀ k ∈ kidsW st ⟨q.1, q.2, sd, z, r⟩, 1 ≤ l - 1 ∧ alW st (l - 1) k.1 k.2 = false := fun k hk => by
    obtain ⟨a, ha, rfl⟩ := List.mem_map.mp hk
    have h5 : alW st (l - 1) r a = false := a3 a ha
    have h6 : alW st (l - 1) (pairS sd r a).1 (pairS sd r a).2 = false := by
      unfold pairS
      split
      · exact h5
      · rw [alW_sym]; exact h5
    refine ⟨?_, h6⟩
    cases e : l - 1 with
    | zero => rw [e, alW_zero] at h5; cases h5
    | succ n => omega
  have key : ∀ e : FRow, (∃ t ∈ todo ++ [(q, m)], t.1 = twoP e.row ∧ t.2 < e.m) → True := fun _ _ => trivial
  refine ⟨fun e he => ?_, fun t ht => ?_, fun e he k hk hs => ?_, ?_⟩
  · rcases List.mem_append.mp he with he | he
    · exact h.good e he
    · rw [List.mem_singleton.mp he]
      exact ⟨l1, l3, l4, hn, ha⟩
  · rcases List.mem_append.mp ht with ht | ht
    · exact h.tod t (List.mem_append_left _ ht)
    · obtain ⟨k, hk, rfl⟩ := List.mem_map.mp ht
      exact kid k hk
  · rcases List.mem_append.mp he with he | he
    · rcases h.kids e he k hk hs with ⟨e', g1, g2, g3⟩ | ⟨t, ht, g2, g3⟩
      · exact .inl ⟨e', List.mem_append_left _ g1, g2, g3⟩
      · rcases List.mem_append.mp ht with ht | ht
        · exact .inr ⟨t, List.mem_append_left _ ht, g2, g3⟩
        · have et := List.mem_singleton.mp ht
          subst et
          refine .inl ⟨_, List.mem_append_right _ List.mem_cons_self, g2, ?_⟩
          have g3 : m < e.m := g3
          show l < e.m
          omega
    · rw [List.mem_singleton.mp he] at hk ⊢
      exact .inr ⟨(k, l - 1), List.mem_append_right _ (List.mem_map.mpr ⟨k, hk, rfl⟩), rfl, by show l - 1 < l; omega⟩
  · rcases h.start with ⟨h1, h2⟩ | ⟨h1, h2, h3⟩ | ⟨e0, rest, h1, h2, h3, h4⟩
    · have h3 : todo = [] ∧ (q, m) = ((one, other), M) := by
        cases todo with
        | nil => exact ⟨rfl, (List.cons.inj h2).1⟩
        | cons a t => have := (List.cons.inj h2).2; simp at this
      have e := (Prod.mk.inj h3.2).1
      refine .inr (.inr ⟨_, [], by rw [h1]; rfl, ?_, fun e he => (by cases he), fun t ht => ?_⟩)
      · show (q.1, q.2) = _
        rw [← e]
      · rw [h3.1, List.nil_append] at ht
        obtain ⟨k, hk, rfl⟩ := List.mem_map.mp ht
        show l - 1 < l
        omega
    · simp at h2
    · have hm : m < e0.m := h4 (q, m) (List.mem_append_right _ List.mem_cons_self)
      refine .inr (.inr ⟨e0, rest ++ [_], by rw [h1]; rfl, h2, fun e he => ?_, fun t ht => ?_⟩)
      · rcases List.mem_append.mp he with he | he
        · exact h3 e he
        · rw [List.mem_singleton.mp he]
          show l < e0.m
          omega
      · rcases List.mem_append.mp ht with ht | ht
        · exact h4 t (List.mem_append_left _ ht)
        · obtain ⟨k, hk, rfl⟩ := List.mem_map.mp ht
          show l - 1 < e0.m
          omega
end
/-! ### what holds -/
def okRowW (st : StepF) (nf : Str → Nat) (o : List Str → List Str) (ah : List Two2) (w : PRow) : Bool :=
  decide ((o w.x, o w.y) ∉ ah) && (decide (o w.r ∈ ansW st (sdW w.sd (o w.x) (o w.y)) w.z) && (ansW st (sdW w.sd (o w.y) (o w.x)) w.z).all fun a => decide (sumN nf (o w.r) ≠ sumN nf a) || decide (pairS w.sd (o w.r) a ∈ ah))
def twoO (o : List Str → List Str) (w : PRow) : Two2 := (o w.x, o w.y)
def goodRows (st : StepF) (nf : Str → Nat) (o : List Str → List Str) : List Two2 → List PRow → Bool
  | _, [] => true
  | ah, w :: t => okRowW st nf o ah w && goodRows st nf o (ah ++ [twoO o w]) t
theorem goodRows_snoc {st : StepF} {nf : Str → Nat} {o : List Str → List Str} (w : PRow) : ∀ (l : List PRow) (ah : List Two2), goodRows st nf o ah (l ++ [w]) = (goodRows st nf o ah l && okRowW st nf o (ah ++ l.map (twoO o)) w)
  | [], ah => by
    show (okRowW st nf o ah w && true) = (true && okRowW st nf o (ah ++ []) w)
    rw [Bool.and_true, Bool.true_and, List.append_nil]
  | a :: l, ah => by
    show (okRowW st nf o ah a && goodRows st nf o (ah ++ [twoO o a]) (l ++ [w])) = _
    rw [goodRows_snoc w l, ← Bool.and_assoc, List.append_assoc]
    rfl
def goodPlay (st : StepF) (nf : Str → Nat) (o : List Str → List Str) (one other : List Str) (play : List PRow) : Bool :=
  if play = [] then decide (sumN nf one ≠ sumN nf other) else goodRows st nf o [] play && decide ((play.map (twoO o)).getLast? = some (o one, o other))
def ded1 (rows : List PRow) (e : FRow) : List PRow := if twoP e.row ∈ rows.map twoP then rows else rows ++ [e.row]
def dedP (xs : List FRow) : List PRow := xs.foldl ded1 []
theorem ded_snoc (xs : List FRow) (e : FRow) : dedP (xs ++ [e]) = ded1 (dedP xs) e := by
  unfold dedP
  rw [List.foldl_append]
  rfl
theorem ded_mem (xs : List FRow) : ∀ q : Two2, q ∈ (dedP xs).map twoP ↔ ∃ e ∈ xs, twoP e.row = q := by
  refine list_snoc_ind (P := fun xs => ∀ q : Two2, q ∈ (dedP xs).map twoP ↔ ∃ e ∈ xs, twoP e.row = q) (fun q => ?_) (fun xs e ih q => ?_) xs
  · constructor
    · intro h; cases h
    · rintro ⟨_, h, _⟩; cases h
  · rw [ded_snoc]
    unfold ded1
    by_cases c : twoP e.row ∈ (dedP xs).map twoP
    · rw [if_pos c, ih]
      constructor
      · rintro ⟨e', h1, h2⟩
        exact ⟨e', List.mem_append_left _ h1, h2⟩
      · rintro ⟨e', h1, h2⟩
        rcases List.mem_append.mp h1 with h1 | h1
        · exact ⟨e', h1, h2⟩
        · rw [List.mem_singleton.mp h1] at h2
          rw [h2] at c
          exact (ih q).mp c
    · rw [if_neg c, List.map_append, List.mem_append, ih]
      constructor
      · rintro (⟨e', h1, h2⟩ | h)
        · exact ⟨e', List.mem_append_left _ h1, h2⟩
        · rw [List.map_cons, List.map_nil, List.mem_singleton] at h
          exact ⟨e, List.mem_append_right _ List.mem_cons_self, h.symm⟩
      · rintro ⟨e', h1, h2⟩
        rcases List.mem_append.mp h1 with h1 | h1
        · exact .inl ⟨e', h1, h2⟩
        · rw [List.mem_singleton.mp h1] at h2
          exact .inr (by rw [List.map_cons, List.map_nil, h2]; exact List.mem_cons_self)
theorem ded_in (xs : List FRow) : ∀ w ∈ dedP xs, ∃ e ∈ xs, e.row = w := by
  refine list_snoc_ind (P := fun xs => ∀ w ∈ dedP xs, ∃ e ∈ xs, e.row = w) (fun w h => by cases h) (fun xs e ih w hw => ?_) xs
  rw [ded_snoc] at hw
  unfold ded1 at hw
  split at hw
  · obtain ⟨e', h1, h2⟩ := ih w hw
    exact ⟨e', List.mem_append_left _ h1, h2⟩
  · rcases List.mem_append.mp hw with hw | hw
    · obtain ⟨e', h1, h2⟩ := ih w hw
      exact ⟨e', List.mem_append_left _ h1, h2⟩
    · exact ⟨e, List.mem_append_right _ List.mem_cons_self, (List.mem_singleton.mp hw).symm⟩
theorem ded_len (xs : List FRow) : (dedP xs).length ≤ xs.length := by
  refine list_snoc_ind (P := fun xs => (dedP xs).length ≤ xs.length) (Nat.le_refl _) (fun xs e ih => ?_) xs
  rw [ded_snoc, List.length_append]
  unfold ded1
  split
  · show _ ≤ _ + 1
    omega
  · rw [List.length_append]
    show _ + 1 ≤ _ + 1
    omega
section
variable {st : StepF} {nf : Str → Nat} {o : List Str → List Str} {one other : List Str} {M : Nat} {found : List FRow}
/-- what is made holds -/
theorem made_good (h : PlayI st nf one other M found []) (ho : o one = one ∧ o other = other) (hf : ∀ e ∈ found, o e.row.x = e.row.x ∧ o e.row.y = e.row.y ∧ o e.row.r = e.row.r) : goodPlay st nf o one other (dedP (esort eF found)) = true := by
  have hp := esort_perm eF found
  have hs := esort_pair eF found
  have main : ∀ xs ys, esort eF found = xs ++ ys → goodRows st nf o [] (dedP xs) = true ∧ (dedP xs).map (twoO o) = (dedP xs).map twoP := by
    intro xs
    refine list_snoc_ind (P := fun xs => ∀ ys, esort eF found = xs ++ ys → goodRows st nf o [] (dedP xs) = true ∧ (dedP xs).map (twoO o) = (dedP xs).map twoP) (fun _ _ => ⟨rfl, rfl⟩) (fun xs e ih ys e1 => ?_) xs
    rw [List.append_assoc] at e1
    obtain ⟨i1, i2⟩ := ih _ e1
    have hin : ∀ a ∈ xs ++ ([e] ++ ys), a ∈ found := fun a ha => hp.mem_iff.mp (by rw [e1]; exact ha)
    have hef := hin e (List.mem_append_right _ (List.mem_append_left _ List.mem_cons_self))
    obtain ⟨o1, o2, o3⟩ := hf e hef
    have g := h.good e hef
    obtain ⟨a1, a2, a3⟩ := ask_ok g.ask
    rw [ded_snoc]
    unfold ded1
    by_cases c : twoP e.row ∈ (dedP xs).map twoP
    · rw [if_pos c]
      exact ⟨i1, i2⟩
    rw [if_neg c]
    have et : twoO o e.row = twoP e.row := by unfold twoO twoP; rw [o1, o2]
    refine ⟨?_, by rw [List.map_append, List.map_append, i2, List.map_cons, List.map_cons, List.map_nil, List.map_nil, et]⟩
    rw [goodRows_snoc, i1, Bool.true_and, List.nil_append, i2]
    unfold okRowW
    have c2 : (e.row.x, e.row.y) ∉ (dedP xs).map twoP := c
    rw [o1, o2, o3, decide_eq_true c2, Bool.true_and, decide_eq_true (mem_ansW.mpr a2), Bool.true_and, List.all_eq_true]
    intro a ha
    by_cases cn : sumN nf e.row.r = sumN nf a
    · have hk : pairS e.row.sd e.row.r a ∈ kidsW st e.row := List.mem_map.mpr ⟨a, ha, rfl⟩
      have hs2 : sumN nf (pairS e.row.sd e.row.r a).1 = sumN nf (pairS e.row.sd e.row.r a).2 := by
        unfold pairS
        split
        · exact cn
        · exact cn.symm
      rcases h.kids e hef _ hk hs2 with ⟨e', g1, g2, g3⟩ | ⟨t, ht, _⟩
      · have g4 : e' ∈ xs := by
          have g5 : e' ∈ xs ++ ([e] ++ ys) := by rw [← e1]; exact hp.mem_iff.mpr g1
          rcases List.mem_append.mp g5 with g5 | g5
          · exact g5
          rcases List.mem_append.mp g5 with g5 | g5
          · rw [List.mem_singleton.mp g5] at g3
            omega
          · rw [e1] at hs
            have h6 := (List.pairwise_append.mp (List.pairwise_append.mp hs).2.1).2.2 e List.mem_cons_self e' g5
            have := leF_m h6
            omega
        rw [decide_eq_true ((ded_mem xs _).mpr ⟨e', g4, g2⟩), Bool.or_true]
      · cases ht
    · rw [decide_eq_true cn, Bool.true_or]
  rcases h.start with ⟨_, h2⟩ | ⟨h1, _, h3⟩ | ⟨e0, rest, h1, h2, h3, _⟩
  · cases h2
  · have e : dedP (esort eF found) = [] := by
      have e1 : esort eF found = [] := List.Perm.eq_nil (by rw [← h1]; exact hp)
      rw [e1]
      rfl
    unfold goodPlay
    rw [e, if_pos rfl, decide_eq_true h3]
  · obtain ⟨g1, g2⟩ := main _ [] (List.append_nil _).symm
    have he0 : e0 ∈ found := by rw [h1]; exact List.mem_cons_self
    have hne : esort eF found ≠ [] := fun z => by
      have := hp.mem_iff.mpr he0
      rw [z] at this
      cases this
    obtain ⟨xs, l, hl⟩ : ∃ xs l, esort eF found = xs ++ [l] := ⟨_, _, (List.dropLast_concat_getLast hne).symm⟩
    have el : l = e0 := by
      have h5 : l ∈ found := hp.mem_iff.mp (by rw [hl]; exact List.mem_append_right _ List.mem_cons_self)
      rw [h1] at h5
      rcases List.mem_cons.mp h5 with h5 | h5
      · exact h5
      · have h6 : e0 ∈ xs ++ [l] := by rw [← hl]; exact hp.mem_iff.mpr he0
        rcases List.mem_append.mp h6 with h6 | h6
        · rw [hl] at hs
          have h7 := (List.pairwise_append.mp hs).2.2 e0 h6 l List.mem_cons_self
          have h8 := leF_m h7
          have h9 := h3 l h5
          omega
        · exact (List.mem_singleton.mp h6).symm
    subst el
    have hxs : ∀ e ∈ xs, e.m < l.m := by
      have h5 : (xs ++ [l]).Perm (l :: rest) := by rw [← hl, ← h1]; exact hp
      have h6 : (l :: xs).Perm (l :: rest) := (List.perm_append_comm (l₁ := [l]) (l₂ := xs)).trans h5
      exact fun e he => h3 e ((List.perm_cons l).mp h6 |>.mem_iff.mp he)
    have hnew : twoP l.row ∉ (dedP xs).map twoP := fun z => by
      obtain ⟨e, h5, h6⟩ := (ded_mem xs _).mp z
      have h7 := hxs e h5
      have h8 := good_m (h.good e (hp.mem_iff.mp (by rw [hl]; exact List.mem_append_left _ h5))) (h.good l he0) h6
      omega
    have hd : dedP (esort eF found) = dedP xs ++ [l.row] := by
      rw [hl, ded_snoc]
      unfold ded1
      rw [if_neg hnew]
    unfold goodPlay
    rw [if_neg (by rw [hd]; simp), g1, Bool.true_and, g2, hd, List.map_append, List.map_cons, List.map_nil, List.getLast?_append, h2, ho.1, ho.2]
    simp
end
/-! ### how much there is to do -/
def wT (s : Nat) : Nat → Nat
  | 0 => 1
  | m + 1 => 1 + s * wT s m
def muT (s : Nat) (todo : List (Two2 × Nat)) : Nat := (todo.map fun t => wT s t.2).sum
theorem wT_pos (s m : Nat) : 1 ≤ wT s m := by
  cases m with
  | zero => exact Nat.le_refl _
  | succ k => unfold wT; omega
theorem wT_mono {s : Nat} (hs : 1 ≤ s) : ∀ {a b : Nat}, a ≤ b → wT s a ≤ wT s b := fun {a b} h => by
  induction h with
  | refl => exact Nat.le_refl _
  | step _ ih =>
    refine Nat.le_trans ih ?_
    show _ ≤ 1 + s * _
    exact Nat.le_trans (Nat.le_mul_of_pos_left _ hs) (Nat.le_add_left _ _)
theorem muT_snoc (s : Nat) (todo : List (Two2 × Nat)) (t : Two2 × Nat) : muT s (todo ++ [t]) = muT s todo + wT s t.2 := by
  unfold muT
  rw [List.map_append, List.sum_append]
  simp
theorem muT_kids (s : Nat) (todo : List (Two2 × Nat)) (ks : List Two2) (m : Nat) : muT s (todo ++ ks.map fun k => (k, m)) = muT s todo + ks.length * wT s m := by
  unfold muT
  rw [List.map_append, List.sum_append, List.map_map]
  congr 1
  have e : (fun t : Two2 × Nat => wT s t.2) ∘ (fun k : Two2 => (k, m)) = fun _ => wT s m := rfl
  rw [e]
  induction ks with
  | nil => simp
  | cons a t ih => rw [List.map_cons, List.sum_cons, ih, List.length_cons, Nat.succ_mul, Nat.add_comm]
/-- what is taken makes less to do -/
theorem muT_take {s : Nat} (hs : 1 ≤ s) (todo : List (Two2 × Nat)) (q : Two2) (m l : Nat) (ks : List Two2) (h1 : 1 ≤ l) (h2 : l ≤ m) (hk : ks.length ≤ s) : muT s (todo ++ ks.map fun k => (k, l - 1)) + 1 ≤ muT s (todo ++ [(q, m)]) := by
  rw [muT_kids, muT_snoc]
  have h3 := wT_mono hs h2
  obtain ⟨j, rfl⟩ : ∃ j, l = j + 1 := ⟨l - 1, by omega⟩
  have h4 : wT s (j + 1) = 1 + s * wT s j := rfl
  have h5 : ks.length * wT s j ≤ s * wT s j := Nat.mul_le_mul_right _ hk
  show muT s todo + ks.length * wT s j + 1 ≤ muT s todo + wT s m
  omega
theorem muT_skip (s : Nat) (todo : List (Two2 × Nat)) (t : Two2 × Nat) : muT s todo + 1 ≤ muT s (todo ++ [t]) := by
  rw [muT_snoc]
  have := wT_pos s t.2
  omega
end SG
/-! room for what a law remembers while it makes a play -/
namespace SG
open PySem PySem.Spec PyProof.Rows L2 LamX
def reachL (st : StepF) (x : List Str) : Nat → List (List Str)
  | 0 => [x]
  | d + 1 => (reachL st x d).flatMap fun z => (st z).map (·.2)
def RegW (st : StepF) (x0 y0 : List Str) (M m : Nat) (x y : List Str) : Prop := ∃ d, d + m ≤ M ∧ ((x ∈ reachL st x0 d ∧ y ∈ reachL st y0 d) ∨ (x ∈ reachL st y0 d ∧ y ∈ reachL st x0 d))
theorem flat_mem_len {α β : Type} {g : α → List β} {k : Nat} : ∀ {l : List α}, (∀ a ∈ l, (g a).length ≤ k) → (l.flatMap g).length ≤ l.length * k
  | [], _ => Nat.zero_le _
  | a :: t, h => by
    rw [List.flatMap_cons, List.length_append, List.length_cons, Nat.succ_mul]
    have h1 := h a List.mem_cons_self
    have h2 := flat_mem_len fun b hb => h b (List.mem_cons_of_mem _ hb)
    omega
section
variable {names : List Str} {st : StepF} {s : Nat} {x0 y0 : List Str} {M : Nat}
theorem reach_in (hst : StepOk names st s) (hx : ∀ v ∈ x0, v ∈ names) : ∀ d, ∀ z ∈ reachL st x0 d, (∀ v ∈ z, v ∈ names) ∧ z.length ≤ x0.length + 2 * d
  | 0, z, hz => by
    rw [List.mem_singleton.mp hz]
    exact ⟨hx, Nat.le_refl _⟩
  | d + 1, z, hz => by
    obtain ⟨u, hu, h1⟩ := List.mem_flatMap.mp hz
    obtain ⟨p, hp, rfl⟩ := List.mem_map.mp h1
    obtain ⟨h2, h3⟩ := reach_in hst hx d u hu
    exact ⟨hst.inn u h2 p hp, by have := hst.len u h2 p hp; omega⟩
theorem reach_len (hst : StepOk names st s) (hx : ∀ v ∈ x0, v ∈ names) : ∀ d, (reachL st x0 d).length ≤ s ^ d
  | 0 => Nat.le_refl _
  | d + 1 => by
    have h1 := reach_len hst hx d
    have h2 : ((reachL st x0 d).flatMap fun z => (st z).map (·.2)).length ≤ (reachL st x0 d).length * s := flat_mem_len fun z hz => by
      rw [List.length_map]
      exact hst.few z (reach_in hst hx d z hz).1
    refine Nat.le_trans h2 ?_
    rw [Nat.pow_succ]
    exact Nat.mul_le_mul_right _ h1
theorem regW_sym {m : Nat} {x y : List Str} (h : RegW st x0 y0 M m x y) : RegW st x0 y0 M m y x := by
  obtain ⟨d, h1, h2 | h2⟩ := h
  · exact ⟨d, h1, .inr ⟨h2.2, h2.1⟩⟩
  · exact ⟨d, h1, .inl ⟨h2.2, h2.1⟩⟩
theorem regW_clo {m : Nat} {x y : List Str} {p q : Step} (h : RegW st x0 y0 M (m + 1) x y) (hp : p ∈ st x) (hq : q ∈ st y) : RegW st x0 y0 M m p.2 q.2 := by
  have go : ∀ {a b : List Str} {p : Step} {d : Nat}, a ∈ reachL st b d → p ∈ st a → p.2 ∈ reachL st b (d + 1) := fun h1 h2 => List.mem_flatMap.mpr ⟨_, h1, List.mem_map.mpr ⟨_, h2, rfl⟩⟩
  obtain ⟨d, h1, h2 | h2⟩ := h
  · exact ⟨d + 1, by omega, .inl ⟨go h2.1 hp, go h2.2 hq⟩⟩
  · exact ⟨d + 1, by omega, .inr ⟨go h2.1 hp, go h2.2 hq⟩⟩
theorem regW_le {m k : Nat} {x y : List Str} (h : RegW st x0 y0 M m x y) (hk : k ≤ m) : RegW st x0 y0 M k x y := by
  obtain ⟨d, h1, h2⟩ := h
  exact ⟨d, by omega, h2⟩
theorem regW_in (hst : StepOk names st s) (hx : ∀ v ∈ x0, v ∈ names) (hy : ∀ v ∈ y0, v ∈ names) {m : Nat} {x y : List Str} (h : RegW st x0 y0 M m x y) : (∀ v ∈ x, v ∈ names) ∧ (∀ v ∈ y, v ∈ names) ∧ x.length + 2 * m ≤ x0.length + y0.length + 2 * M ∧ y.length + 2 * m ≤ x0.length + y0.length + 2 * M := by
  obtain ⟨d, h1, h2 | h2⟩ := h
  · have a := reach_in hst hx d x h2.1
    have b := reach_in hst hy d y h2.2
    exact ⟨a.1, b.1, by have := a.2; omega, by have := b.2; omega⟩
  · have a := reach_in hst hy d x h2.1
    have b := reach_in hst hx d y h2.2
    exact ⟨a.1, b.1, by have := a.2; omega, by have := b.2; omega⟩
def MemoF (st : StepF) (x0 y0 : List Str) (M : Nat) (xs : List NEnt) : Prop := (xs.map (·.1)).Nodup ∧ ∀ e ∈ xs, ∃ m x y, RegW st x0 y0 M (m + 1) x y ∧ e.1 = kR x y (m + 1)
def keysW (st : StepF) (x0 y0 : List Str) : List NestedKey := [0, 1, 2].flatMap fun d => [0, 1, 2].flatMap fun m =>
  ((reachL st x0 d).flatMap fun x => (reachL st y0 d).map fun y => kR x y (m + 1)) ++ ((reachL st y0 d).flatMap fun x => (reachL st x0 d).map fun y => kR x y (m + 1))
theorem keysW_len (hst : StepOk names st s) (hs : s ≤ 20) (hx : ∀ v ∈ x0, v ∈ names) (hy : ∀ v ∈ y0, v ∈ names) : (keysW st x0 y0).length ≤ 3 * (3 * (160000 + 160000)) := by
  have hp : ∀ d ∈ [0, 1, 2], s ^ d ≤ 400 := fun d hd => by
    have : d = 0 ∨ d = 1 ∨ d = 2 := by simpa using hd
    rcases this with rfl | rfl | rfl
    · exact (by decide : 1 ≤ 400)
    · rw [Nat.pow_one]; omega
    · rw [Nat.pow_two]; exact Nat.mul_le_mul hs hs
  have one : ∀ (a b : List Str) (ha : ∀ v ∈ a, v ∈ names) (hb : ∀ v ∈ b, v ∈ names) (d : Nat), d ∈ [0, 1, 2] → ∀ m, ((reachL st a d).flatMap fun x => (reachL st b d).map fun y => kR x y (m + 1)).length ≤ 160000 := fun a b ha hb d hd m => by
    have h1 : ((reachL st a d).flatMap fun x => (reachL st b d).map fun y => kR x y (m + 1)).length ≤ (reachL st a d).length * 400 := flat_mem_len fun z hz => by
      rw [List.length_map]
      exact Nat.le_trans (reach_len hst hb d) (hp d hd)
    have h2 := Nat.le_trans (reach_len hst ha d) (hp d hd)
    have h3 : (reachL st a d).length * 400 ≤ 400 * 400 := Nat.mul_le_mul_right _ h2
    omega
  unfold keysW
  refine flat_mem_len (l := [0, 1, 2]) fun d hd => flat_mem_len (l := [0, 1, 2]) fun m hm => ?_
  rw [List.length_append]
  exact Nat.add_le_add (one x0 y0 hx hy d hd m) (one y0 x0 hy hx d hd m)
theorem memoF_few (hst : StepOk names st s) (hs : s ≤ 20) (hM : M ≤ 3) (hx : ∀ v ∈ x0, v ∈ names) (hy : ∀ v ∈ y0, v ∈ names) {xs : List NEnt} (h : MemoF st x0 y0 M xs) : xs.length + 1 ≤ 16000000 := by
  obtain ⟨nd, h⟩ := h
  have h1 := nodup_len (ys := keysW st x0 y0) nd fun z hz => by
    obtain ⟨e, he, rfl⟩ := List.mem_map.mp hz
    obtain ⟨m, x, y, ⟨d, hd, hr⟩, e1⟩ := h e he
    have hd3 : d ∈ [0, 1, 2] := by
      have : d = 0 ∨ d = 1 ∨ d = 2 := by omega
      simpa using this
    have hm3 : m ∈ [0, 1, 2] := by
      have : m = 0 ∨ m = 1 ∨ m = 2 := by omega
      simpa using this
    rw [e1]
    refine List.mem_flatMap.mpr ⟨d, hd3, List.mem_flatMap.mpr ⟨m, hm3, ?_⟩⟩
    rcases hr with hr | hr
    · exact List.mem_append_left _ (List.mem_flatMap.mpr ⟨x, hr.1, List.mem_map.mpr ⟨y, hr.2, rfl⟩⟩)
    · exact List.mem_append_right _ (List.mem_flatMap.mpr ⟨x, hr.1, List.mem_map.mpr ⟨y, hr.2, rfl⟩⟩)
  have h2 := keysW_len hst hs hx hy
  rw [List.length_map] at h1
  omega
theorem memoF_put {xs : List NEnt} {x y : List Str} {m : Nat} (a : Addr) (v : V) (h : MemoF st x0 y0 M xs) (e : atN xs (kR x y (m + 1)) = none) (hr : RegW st x0 y0 M (m + 1) x y) : MemoF st x0 y0 M (xs ++ [(kR x y (m + 1), a, v)]) := by
  obtain ⟨nd, h⟩ := h
  have hno : ∀ z ∈ xs, z.1 ≠ kR x y (m + 1) := fun z hz hk2 => by
    unfold atN at e
    have e := Option.map_eq_none_iff.mp e
    rw [List.find?_eq_none] at e
    exact e z hz (decide_eq_true hk2)
  refine ⟨?_, fun z hz => ?_⟩
  · rw [List.map_append, List.map_cons, List.map_nil, List.nodup_append]
    refine ⟨nd, List.nodup_cons.mpr ⟨List.not_mem_nil, List.nodup_nil⟩, fun p hp q hq => ?_⟩
    rw [List.mem_singleton.mp hq]
    obtain ⟨z, hz, rfl⟩ := List.mem_map.mp hp
    exact hno z hz
  · rcases List.mem_append.mp hz with hz | hz
    · exact h z hz
    · rw [List.mem_singleton.mp hz]
      exact ⟨m, x, y, hr, rfl⟩
end
end SG
namespace SG
open PySem PySem.Spec PyProof.Rows L2 LamX
def topS (i : Nat) : Stmt := PySem.Challenge.pw_samegoing_k24_whole_plays_part_in_rounds.main.body.getD i (.Pass ⟨0, 0, 0, 0⟩)
abbrev s_is_small : Stmt := topS 30
abbrev s_is_name : Stmt := topS 31
abbrev s_is_letter : Stmt := topS 32
abbrev s_are_names : Stmt := topS 33
abbrev s_Grammar___init__ : Stmt := inClass (topS 34) 0
abbrev s_Grammar_lets_by : Stmt := inClass (topS 34) 1
abbrev s_Grammar_names : Stmt := inClass (topS 34) 2
abbrev s_Grammar_has : Stmt := inClass (topS 34) 3
abbrev s_Grammar_rules_of : Stmt := inClass (topS 34) 4
abbrev s_Grammar_rules : Stmt := inClass (topS 34) 5
abbrev s_look_at_names : Stmt := topS 6
abbrev s_each_once : Stmt := topS 7
abbrev s_row_steps : Stmt := topS 8
abbrev s_bag_steps : Stmt := topS 9
abbrev s_steps_of : Stmt := topS 10
abbrev s_answers_to : Stmt := topS 11
abbrev s_added_up : Stmt := topS 13
abbrev s_norms : Stmt := topS 14
abbrev s_endless : Stmt := topS 15
abbrev s_in_order : Stmt := topS 17
abbrev s_Rounds___init__ : Stmt := inClass (topS 18) 0
abbrev s_Rounds_all_met : Stmt := inClass (topS 18) 1
abbrev s_Rounds_alike_for : Stmt := inClass (topS 18) 2
abbrev s_Rounds_parted_in : Stmt := inClass (topS 18) 3
abbrev s_look_at_ends : Stmt := topS 19
abbrev s_rank : Stmt := topS 20
abbrev s_is_played_list : Stmt := topS 21
abbrev s_is_played_row : Stmt := topS 22
abbrev s_Playing___init__ : Stmt := inClass (topS 23) 0
abbrev s_Playing_key_of : Stmt := inClass (topS 23) 1
abbrev s_Playing_parts : Stmt := inClass (topS 23) 2
abbrev s_Playing_takes : Stmt := inClass (topS 23) 3
abbrev s_play_holds : Stmt := topS 24
abbrev s__law_cell_at : Stmt := topS 36
abbrev s__law_well : Stmt := topS 37
abbrev s__law_draw : Stmt := topS 38
abbrev s__law_some : Stmt := topS 39
abbrev s__law_chain : Stmt := topS 40
abbrev s__law_world : Stmt := topS 41
abbrev s__law_made : Stmt := topS 42
abbrev s__law_norms : Stmt := topS 43
abbrev s__law_steps : Stmt := topS 44
abbrev s__law_meets : Stmt := topS 45
abbrev s__law_alike : Stmt := topS 46
abbrev s__law_parted : Stmt := topS 47
abbrev s__law_two : Stmt := topS 48
abbrev s__law_answers : Stmt := topS 49
abbrev s__law_weight : Stmt := topS 50
abbrev s__law_asked : Stmt := topS 51
abbrev s__law_play : Stmt := topS 52
abbrev s__law_pair : Stmt := topS 53
abbrev s__law_rise : Stmt := topS 54
abbrev s_law : Stmt := topS 55
structure Ad where
  c_Grammar : Addr
  c_Rounds : Addr
  c_Playing : Addr
  a_is_small : Addr
  d_is_small : FuncData
  a_is_name : Addr
  d_is_name : FuncData
  a_is_letter : Addr
  d_is_letter : FuncData
  a_are_names : Addr
  d_are_names : FuncData
  a_Grammar___init__ : Addr
  d_Grammar___init__ : FuncData
  a_Grammar_lets_by : Addr
  d_Grammar_lets_by : FuncData
  a_Grammar_names : Addr
  d_Grammar_names : FuncData
  a_Grammar_has : Addr
  d_Grammar_has : FuncData
  a_Grammar_rules_of : Addr
  d_Grammar_rules_of : FuncData
  a_Grammar_rules : Addr
  d_Grammar_rules : FuncData
  a_look_at_names : Addr
  d_look_at_names : FuncData
  a_each_once : Addr
  d_each_once : FuncData
  a_row_steps : Addr
  d_row_steps : FuncData
  a_bag_steps : Addr
  d_bag_steps : FuncData
  a_steps_of : Addr
  d_steps_of : FuncData
  a_answers_to : Addr
  d_answers_to : FuncData
  a_added_up : Addr
  d_added_up : FuncData
  a_norms : Addr
  d_norms : FuncData
  a_endless : Addr
  d_endless : FuncData
  a_in_order : Addr
  d_in_order : FuncData
  a_Rounds___init__ : Addr
  d_Rounds___init__ : FuncData
  a_Rounds_all_met : Addr
  d_Rounds_all_met : FuncData
  a_Rounds_alike_for : Addr
  d_Rounds_alike_for : FuncData
  a_Rounds_parted_in : Addr
  d_Rounds_parted_in : FuncData
  a_look_at_ends : Addr
  d_look_at_ends : FuncData
  a_rank : Addr
  d_rank : FuncData
  a_is_played_list : Addr
  d_is_played_list : FuncData
  a_is_played_row : Addr
  d_is_played_row : FuncData
  a_Playing___init__ : Addr
  d_Playing___init__ : FuncData
  a_Playing_key_of : Addr
  d_Playing_key_of : FuncData
  a_Playing_parts : Addr
  d_Playing_parts : FuncData
  a_Playing_takes : Addr
  d_Playing_takes : FuncData
  a_play_holds : Addr
  d_play_holds : FuncData
  a__law_cell_at : Addr
  d__law_cell_at : FuncData
  a__law_well : Addr
  d__law_well : FuncData
  a__law_draw : Addr
  d__law_draw : FuncData
  a__law_some : Addr
  d__law_some : FuncData
  a__law_chain : Addr
  d__law_chain : FuncData
  a__law_world : Addr
  d__law_world : FuncData
  a__law_made : Addr
  d__law_made : FuncData
  a__law_norms : Addr
  d__law_norms : FuncData
  a__law_steps : Addr
  d__law_steps : FuncData
  a__law_meets : Addr
  d__law_meets : FuncData
  a__law_alike : Addr
  d__law_alike : FuncData
  a__law_parted : Addr
  d__law_parted : FuncData
  a__law_two : Addr
  d__law_two : FuncData
  a__law_answers : Addr
  d__law_answers : FuncData
  a__law_weight : Addr
  d__law_weight : FuncData
  a__law_asked : Addr
  d__law_asked : FuncData
  a__law_play : Addr
  d__law_play : FuncData
  a__law_pair : Addr
  d__law_pair : FuncData
  a__law_rise : Addr
  d__law_rise : FuncData
  k_lam : Addr
  p_lam : Addr
structure Txt (K : PySem.W.Frag) (mg : Str → Option Value) (A : Ad) : Prop where
  cl_Grammar : Cls K A.c_Grammar
  g_Grammar : mg "Grammar" = some (.ref A.c_Grammar)
  n_Grammar_known : NoAttr K A.c_Grammar "known"
  n_Grammar_stored : NoAttr K A.c_Grammar "stored"
  n_Grammar_order : NoAttr K A.c_Grammar "order"
  mk_Grammar : Mk K A.c_Grammar A.a_Grammar___init__
  cl_Rounds : Cls K A.c_Rounds
  g_Rounds : mg "Rounds" = some (.ref A.c_Rounds)
  n_Rounds_grammar : NoAttr K A.c_Rounds "grammar"
  n_Rounds_kind : NoAttr K A.c_Rounds "kind"
  n_Rounds_found : NoAttr K A.c_Rounds "found"
  mk_Rounds : Mk K A.c_Rounds A.a_Rounds___init__
  cl_Playing : Cls K A.c_Playing
  g_Playing : mg "Playing" = some (.ref A.c_Playing)
  n_Playing_grammar : NoAttr K A.c_Playing "grammar"
  n_Playing_kind : NoAttr K A.c_Playing "kind"
  n_Playing_known : NoAttr K A.c_Playing "known"
  n_Playing_ahead : NoAttr K A.c_Playing "ahead"
  mk_Playing : Mk K A.c_Playing A.a_Playing___init__
  F_is_small : Fun K "is_small" "is_small" s_is_small A.a_is_small A.d_is_small
  g_is_small : mg "is_small" = some (.ref A.a_is_small)
  b_is_small : Binds K A.d_is_small ["text"] []
  F_is_name : Fun K "is_name" "is_name" s_is_name A.a_is_name A.d_is_name
  g_is_name : mg "is_name" = some (.ref A.a_is_name)
  b_is_name : Binds K A.d_is_name ["text"] []
  F_is_letter : Fun K "is_letter" "is_letter" s_is_letter A.a_is_letter A.d_is_letter
  g_is_letter : mg "is_letter" = some (.ref A.a_is_letter)
  b_is_letter : Binds K A.d_is_letter ["text"] []
  F_are_names : Fun K "are_names" "are_names" s_are_names A.a_are_names A.d_are_names
  g_are_names : mg "are_names" = some (.ref A.a_are_names)
  b_are_names : Binds K A.d_are_names ["names"] []
  F_Grammar___init__ : Fun K "__init__" "Grammar.__init__" s_Grammar___init__ A.a_Grammar___init__ A.d_Grammar___init__
  m_Grammar___init__ : Meth K A.c_Grammar "__init__" A.a_Grammar___init__
  b_Grammar___init__ : Binds K A.d_Grammar___init__ ["self", "names", "rules"] []
  F_Grammar_lets_by : Fun K "lets_by" "Grammar.lets_by" s_Grammar_lets_by A.a_Grammar_lets_by A.d_Grammar_lets_by
  m_Grammar_lets_by : Meth K A.c_Grammar "lets_by" A.a_Grammar_lets_by
  b_Grammar_lets_by : Binds K A.d_Grammar_lets_by ["self", "rule"] []
  F_Grammar_names : Fun K "names" "Grammar.names" s_Grammar_names A.a_Grammar_names A.d_Grammar_names
  m_Grammar_names : Meth K A.c_Grammar "names" A.a_Grammar_names
  b_Grammar_names : Binds K A.d_Grammar_names ["self"] []
  F_Grammar_has : Fun K "has" "Grammar.has" s_Grammar_has A.a_Grammar_has A.d_Grammar_has
  m_Grammar_has : Meth K A.c_Grammar "has" A.a_Grammar_has
  b_Grammar_has : Binds K A.d_Grammar_has ["self", "name"] []
  F_Grammar_rules_of : Fun K "rules_of" "Grammar.rules_of" s_Grammar_rules_of A.a_Grammar_rules_of A.d_Grammar_rules_of
  m_Grammar_rules_of : Meth K A.c_Grammar "rules_of" A.a_Grammar_rules_of
  b_Grammar_rules_of : Binds K A.d_Grammar_rules_of ["self", "name"] []
  F_Grammar_rules : Fun K "rules" "Grammar.rules" s_Grammar_rules A.a_Grammar_rules A.d_Grammar_rules
  m_Grammar_rules : Meth K A.c_Grammar "rules" A.a_Grammar_rules
  b_Grammar_rules : Binds K A.d_Grammar_rules ["self"] []
  F_look_at_names : Fun K "look_at_names" "look_at_names" s_look_at_names A.a_look_at_names A.d_look_at_names
  g_look_at_names : mg "look_at_names" = some (.ref A.a_look_at_names)
  b_look_at_names : Binds K A.d_look_at_names ["grammar", "row"] []
  F_each_once : Fun K "each_once" "each_once" s_each_once A.a_each_once A.d_each_once
  g_each_once : mg "each_once" = some (.ref A.a_each_once)
  b_each_once : Binds K A.d_each_once ["steps"] []
  F_row_steps : Fun K "row_steps" "row_steps" s_row_steps A.a_row_steps A.d_row_steps
  g_row_steps : mg "row_steps" = some (.ref A.a_row_steps)
  b_row_steps : Binds K A.d_row_steps ["grammar", "row"] []
  F_bag_steps : Fun K "bag_steps" "bag_steps" s_bag_steps A.a_bag_steps A.d_bag_steps
  g_bag_steps : mg "bag_steps" = some (.ref A.a_bag_steps)
  b_bag_steps : Binds K A.d_bag_steps ["grammar", "bag"] []
  F_steps_of : Fun K "steps_of" "steps_of" s_steps_of A.a_steps_of A.d_steps_of
  g_steps_of : mg "steps_of" = some (.ref A.a_steps_of)
  b_steps_of : Binds K A.d_steps_of ["grammar", "kind", "one"] []
  F_answers_to : Fun K "answers_to" "answers_to" s_answers_to A.a_answers_to A.d_answers_to
  g_answers_to : mg "answers_to" = some (.ref A.a_answers_to)
  b_answers_to : Binds K A.d_answers_to ["grammar", "kind", "one", "letter"] []
  F_added_up : Fun K "added_up" "added_up" s_added_up A.a_added_up A.d_added_up
  g_added_up : mg "added_up" = some (.ref A.a_added_up)
  b_added_up : Binds K A.d_added_up ["norms", "row"] []
  F_norms : Fun K "norms" "norms" s_norms A.a_norms A.d_norms
  g_norms : mg "norms" = some (.ref A.a_norms)
  b_norms : Binds K A.d_norms ["grammar"] []
  F_endless : Fun K "endless" "endless" s_endless A.a_endless A.d_endless
  g_endless : mg "endless" = some (.ref A.a_endless)
  b_endless : Binds K A.d_endless ["grammar"] []
  F_in_order : Fun K "in_order" "in_order" s_in_order A.a_in_order A.d_in_order
  g_in_order : mg "in_order" = some (.ref A.a_in_order)
  b_in_order : Binds K A.d_in_order ["kind", "one"] []
  F_Rounds___init__ : Fun K "__init__" "Rounds.__init__" s_Rounds___init__ A.a_Rounds___init__ A.d_Rounds___init__
  m_Rounds___init__ : Meth K A.c_Rounds "__init__" A.a_Rounds___init__
  b_Rounds___init__ : Binds K A.d_Rounds___init__ ["self", "grammar", "kind"] []
  F_Rounds_all_met : Fun K "all_met" "Rounds.all_met" s_Rounds_all_met A.a_Rounds_all_met A.d_Rounds_all_met
  m_Rounds_all_met : Meth K A.c_Rounds "all_met" A.a_Rounds_all_met
  b_Rounds_all_met : Binds K A.d_Rounds_all_met ["self", "one", "other", "many"] []
  F_Rounds_alike_for : Fun K "alike_for" "Rounds.alike_for" s_Rounds_alike_for A.a_Rounds_alike_for A.d_Rounds_alike_for
  m_Rounds_alike_for : Meth K A.c_Rounds "alike_for" A.a_Rounds_alike_for
  b_Rounds_alike_for : Binds K A.d_Rounds_alike_for ["self", "one", "other", "many"] []
  F_Rounds_parted_in : Fun K "parted_in" "Rounds.parted_in" s_Rounds_parted_in A.a_Rounds_parted_in A.d_Rounds_parted_in
  m_Rounds_parted_in : Meth K A.c_Rounds "parted_in" A.a_Rounds_parted_in
  b_Rounds_parted_in : Binds K A.d_Rounds_parted_in ["self", "one", "other", "most"] []
  F_look_at_ends : Fun K "look_at_ends" "look_at_ends" s_look_at_ends A.a_look_at_ends A.d_look_at_ends
  g_look_at_ends : mg "look_at_ends" = some (.ref A.a_look_at_ends)
  b_look_at_ends : Binds K A.d_look_at_ends ["grammar", "rows"] []
  F_rank : Fun K "rank" "rank" s_rank A.a_rank A.d_rank
  g_rank : mg "rank" = some (.ref A.a_rank)
  b_rank : Binds K A.d_rank ["grammar", "kind", "one", "other", "most"] []
  F_is_played_list : Fun K "is_played_list" "is_played_list" s_is_played_list A.a_is_played_list A.d_is_played_list
  g_is_played_list : mg "is_played_list" = some (.ref A.a_is_played_list)
  b_is_played_list : Binds K A.d_is_played_list ["grammar", "thing"] []
  F_is_played_row : Fun K "is_played_row" "is_played_row" s_is_played_row A.a_is_played_row A.d_is_played_row
  g_is_played_row : mg "is_played_row" = some (.ref A.a_is_played_row)
  b_is_played_row : Binds K A.d_is_played_row ["grammar", "thing"] []
  F_Playing___init__ : Fun K "__init__" "Playing.__init__" s_Playing___init__ A.a_Playing___init__ A.d_Playing___init__
  m_Playing___init__ : Meth K A.c_Playing "__init__" A.a_Playing___init__
  b_Playing___init__ : Binds K A.d_Playing___init__ ["self", "grammar", "kind"] []
  F_Playing_key_of : Fun K "key_of" "Playing.key_of" s_Playing_key_of A.a_Playing_key_of A.d_Playing_key_of
  m_Playing_key_of : Meth K A.c_Playing "key_of" A.a_Playing_key_of
  b_Playing_key_of : Binds K A.d_Playing_key_of ["self", "one", "other"] []
  F_Playing_parts : Fun K "parts" "Playing.parts" s_Playing_parts A.a_Playing_parts A.d_Playing_parts
  m_Playing_parts : Meth K A.c_Playing "parts" A.a_Playing_parts
  b_Playing_parts : Binds K A.d_Playing_parts ["self", "result", "answer", "side"] []
  F_Playing_takes : Fun K "takes" "Playing.takes" s_Playing_takes A.a_Playing_takes A.d_Playing_takes
  m_Playing_takes : Meth K A.c_Playing "takes" A.a_Playing_takes
  b_Playing_takes : Binds K A.d_Playing_takes ["self", "row"] []
  F_play_holds : Fun K "play_holds" "play_holds" s_play_holds A.a_play_holds A.d_play_holds
  g_play_holds : mg "play_holds" = some (.ref A.a_play_holds)
  b_play_holds : Binds K A.d_play_holds ["grammar", "kind", "one", "other", "play"] []
  F__law_cell_at : Fun K "_law_cell_at" "_law_cell_at" s__law_cell_at A.a__law_cell_at A.d__law_cell_at
  g__law_cell_at : mg "_law_cell_at" = some (.ref A.a__law_cell_at)
  b__law_cell_at : Binds K A.d__law_cell_at ["_law_script", "_law_k"] []
  F__law_well : Fun K "_law_well" "_law_well" s__law_well A.a__law_well A.d__law_well
  g__law_well : mg "_law_well" = some (.ref A.a__law_well)
  b__law_well : Binds K A.d__law_well ["_law_cell"] []
  F__law_draw : Fun K "_law_draw" "_law_draw" s__law_draw A.a__law_draw A.d__law_draw
  g__law_draw : mg "_law_draw" = some (.ref A.a__law_draw)
  b__law_draw : Binds K A.d__law_draw ["_law_well_here", "_law_wide"] []
  F__law_some : Fun K "_law_some" "_law_some" s__law_some A.a__law_some A.d__law_some
  g__law_some : mg "_law_some" = some (.ref A.a__law_some)
  b__law_some : Binds K A.d__law_some ["_law_well_here", "_law_names", "_law_most"] []
  F__law_chain : Fun K "_law_chain" "_law_chain" s__law_chain A.a__law_chain A.d__law_chain
  g__law_chain : mg "_law_chain" = some (.ref A.a__law_chain)
  b__law_chain : Binds K A.d__law_chain ["_law_well_here", "_law_many"] []
  F__law_world : Fun K "_law_world" "_law_world" s__law_world A.a__law_world A.d__law_world
  g__law_world : mg "_law_world" = some (.ref A.a__law_world)
  b__law_world : Binds K A.d__law_world ["_law_well_here", "_law_many", "_law_wide", "_law_cap"] []
  F__law_made : Fun K "_law_made" "_law_made" s__law_made A.a__law_made A.d__law_made
  g__law_made : mg "_law_made" = some (.ref A.a__law_made)
  b__law_made : Binds K A.d__law_made ["_law_world_here"] []
  F__law_norms : Fun K "_law_norms" "_law_norms" s__law_norms A.a__law_norms A.d__law_norms
  g__law_norms : mg "_law_norms" = some (.ref A.a__law_norms)
  b__law_norms : Binds K A.d__law_norms ["_law_world_here"] []
  F__law_steps : Fun K "_law_steps" "_law_steps" s__law_steps A.a__law_steps A.d__law_steps
  g__law_steps : mg "_law_steps" = some (.ref A.a__law_steps)
  b__law_steps : Binds K A.d__law_steps ["_law_world_here", "_law_kind", "_law_one"] []
  F__law_meets : Fun K "_law_meets" "_law_meets" s__law_meets A.a__law_meets A.d__law_meets
  g__law_meets : mg "_law_meets" = some (.ref A.a__law_meets)
  b__law_meets : Binds K A.d__law_meets ["_law_world_here", "_law_kind", "_law_one", "_law_other", "_law_many", "_law_met"] []
  F__law_alike : Fun K "_law_alike" "_law_alike" s__law_alike A.a__law_alike A.d__law_alike
  g__law_alike : mg "_law_alike" = some (.ref A.a__law_alike)
  b__law_alike : Binds K A.d__law_alike ["_law_world_here", "_law_kind", "_law_one", "_law_other", "_law_many", "_law_met"] []
  F__law_parted : Fun K "_law_parted" "_law_parted" s__law_parted A.a__law_parted A.d__law_parted
  g__law_parted : mg "_law_parted" = some (.ref A.a__law_parted)
  b__law_parted : Binds K A.d__law_parted ["_law_world_here", "_law_kind", "_law_one", "_law_other", "_law_most"] []
  F__law_two : Fun K "_law_two" "_law_two" s__law_two A.a__law_two A.d__law_two
  g__law_two : mg "_law_two" = some (.ref A.a__law_two)
  b__law_two : Binds K A.d__law_two ["_law_well_here", "_law_kind", "_law_names", "_law_most"] []
  F__law_answers : Fun K "_law_answers" "_law_answers" s__law_answers A.a__law_answers A.d__law_answers
  g__law_answers : mg "_law_answers" = some (.ref A.a__law_answers)
  b__law_answers : Binds K A.d__law_answers ["_law_world_here", "_law_kind", "_law_one", "_law_letter"] []
  F__law_weight : Fun K "_law_weight" "_law_weight" s__law_weight A.a__law_weight A.d__law_weight
  g__law_weight : mg "_law_weight" = some (.ref A.a__law_weight)
  b__law_weight : Binds K A.d__law_weight ["_law_norm", "_law_one"] []
  F__law_asked : Fun K "_law_asked" "_law_asked" s__law_asked A.a__law_asked A.d__law_asked
  g__law_asked : mg "_law_asked" = some (.ref A.a__law_asked)
  b__law_asked : Binds K A.d__law_asked ["_law_world_here", "_law_kind", "_law_norm", "_law_one", "_law_other", "_law_many", "_law_met"] []
  F__law_play : Fun K "_law_play" "_law_play" s__law_play A.a__law_play A.d__law_play
  g__law_play : mg "_law_play" = some (.ref A.a__law_play)
  b__law_play : Binds K A.d__law_play ["_law_world_here", "_law_kind", "_law_one", "_law_other", "_law_many"] []
  F__law_pair : Fun K "_law_pair" "_law_pair" s__law_pair A.a__law_pair A.d__law_pair
  g__law_pair : mg "_law_pair" = some (.ref A.a__law_pair)
  b__law_pair : Binds K A.d__law_pair ["_law_kind", "_law_one", "_law_other"] []
  F__law_rise : Fun K "_law_rise" "_law_rise" s__law_rise A.a__law_rise A.d__law_rise
  g__law_rise : mg "_law_rise" = some (.ref A.a__law_rise)
  b__law_rise : Binds K A.d__law_rise ["_law_world_here", "_law_norm"] []
  c_SMALL : ∃ t, mg "SMALL" = some (.str "abcdefghijklmnopqrstuvwxyz" t)
  c_MOST_NAMES : ∃ t, mg "MOST_NAMES" = some (.int 6 t)
  c_MOST_RULES : ∃ t, mg "MOST_RULES" = some (.int 4 t)
  c_MOST_ROW : ∃ t, mg "MOST_ROW" = some (.int 3 t)
  len : mg "len" = none
  set_ : mg "set" = none
  all : mg "all" = none
  any : mg "any" = none
  list_ : mg "list" = none
  enumerate : mg "enumerate" = none
  range : mg "range" = none
  sum : mg "sum" = none
  sorted : mg "sorted" = none
  dict_ : mg "dict" = none
  int_ : mg "int" = none
  tuple_ : mg "tuple" = none
  isinstance : mg "isinstance" = none
  bool_ : mg "bool" = none
  str_ : mg "str" = none
  max : mg "max" = none
  min : mg "min" = none
  code_lam : A.d__law_world.code = .ref A.k_lam
def tabT (A : Ad) : List (Addr × Str) := [(A.p_lam, "_law_world.<locals>.<lambda>")]
theorem sc_is_small : FnScope ["text", "sign"] ["text"] (defScope s_is_small) := ⟨rfl, rfl, rfl, by decide +kernel, rfl, by decide +kernel, by decide +kernel⟩
theorem sc_is_name : FnScope ["text"] ["text"] (defScope s_is_name) := ⟨rfl, rfl, rfl, by decide +kernel, rfl, by decide +kernel, by decide +kernel⟩
theorem sc_is_letter : FnScope ["text"] ["text"] (defScope s_is_letter) := ⟨rfl, rfl, rfl, by decide +kernel, rfl, by decide +kernel, by decide +kernel⟩
theorem sc_are_names : FnScope ["names", "name"] ["names"] (defScope s_are_names) := ⟨rfl, rfl, rfl, by decide +kernel, rfl, by decide +kernel, by decide +kernel⟩
theorem sc_Grammar___init__ : FnScope ["self", "names", "rules", "name", "at", "rule"] ["self", "names", "rules"] (defScope s_Grammar___init__) := ⟨rfl, rfl, rfl, by decide +kernel, rfl, by decide +kernel, by decide +kernel⟩
theorem sc_Grammar_lets_by : FnScope ["self", "rule", "name", "letter", "row", "one"] ["self", "rule"] (defScope s_Grammar_lets_by) := ⟨rfl, rfl, rfl, by decide +kernel, rfl, by decide +kernel, by decide +kernel⟩
theorem sc_Grammar_names : FnScope ["self"] ["self"] (defScope s_Grammar_names) := ⟨rfl, rfl, rfl, by decide +kernel, rfl, by decide +kernel, by decide +kernel⟩
theorem sc_Grammar_has : FnScope ["self", "name"] ["self", "name"] (defScope s_Grammar_has) := ⟨rfl, rfl, rfl, by decide +kernel, rfl, by decide +kernel, by decide +kernel⟩
theorem sc_Grammar_rules_of : FnScope ["self", "name", "letter", "row"] ["self", "name"] (defScope s_Grammar_rules_of) := ⟨rfl, rfl, rfl, by decide +kernel, rfl, by decide +kernel, by decide +kernel⟩
theorem sc_Grammar_rules : FnScope ["self", "met", "found", "name", "at", "letter", "row"] ["self"] (defScope s_Grammar_rules) := ⟨rfl, rfl, rfl, by decide +kernel, rfl, by decide +kernel, by decide +kernel⟩
theorem sc_look_at_names : FnScope ["grammar", "row", "name"] ["grammar", "row"] (defScope s_look_at_names) := ⟨rfl, rfl, rfl, by decide +kernel, rfl, by decide +kernel, by decide +kernel⟩
theorem sc_each_once : FnScope ["steps", "found", "step"] ["steps"] (defScope s_each_once) := ⟨rfl, rfl, rfl, by decide +kernel, rfl, by decide +kernel, by decide +kernel⟩
theorem sc_row_steps : FnScope ["grammar", "row", "letter", "more"] ["grammar", "row"] (defScope s_row_steps) := ⟨rfl, rfl, rfl, by decide +kernel, rfl, by decide +kernel, by decide +kernel⟩
theorem sc_bag_steps : FnScope ["grammar", "bag", "found", "at", "name", "rest", "letter", "more"] ["grammar", "bag"] (defScope s_bag_steps) := ⟨rfl, rfl, rfl, by decide +kernel, rfl, by decide +kernel, by decide +kernel⟩
theorem sc_steps_of : FnScope ["grammar", "kind", "one"] ["grammar", "kind", "one"] (defScope s_steps_of) := ⟨rfl, rfl, rfl, by decide +kernel, rfl, by decide +kernel, by decide +kernel⟩
theorem sc_answers_to : FnScope ["grammar", "kind", "one", "letter", "by", "result"] ["grammar", "kind", "one", "letter"] (defScope s_answers_to) := ⟨rfl, rfl, rfl, by decide +kernel, rfl, by decide +kernel, by decide +kernel⟩
theorem sc_added_up : FnScope ["norms", "row", "some", "name"] ["norms", "row"] (defScope s_added_up) := ⟨rfl, rfl, rfl, by decide +kernel, rfl, by decide +kernel, by decide +kernel⟩
theorem sc_norms : FnScope ["grammar", "found", "again", "name", "letter", "row", "norm"] ["grammar"] (defScope s_norms) := ⟨rfl, rfl, rfl, by decide +kernel, rfl, by decide +kernel, by decide +kernel⟩
theorem sc_endless : FnScope ["grammar", "found", "name"] ["grammar"] (defScope s_endless) := ⟨rfl, rfl, rfl, by decide +kernel, rfl, by decide +kernel, by decide +kernel⟩
theorem sc_in_order : FnScope ["kind", "one"] ["kind", "one"] (defScope s_in_order) := ⟨rfl, rfl, rfl, by decide +kernel, rfl, by decide +kernel, by decide +kernel⟩
theorem sc_Rounds___init__ : FnScope ["self", "grammar", "kind"] ["self", "grammar", "kind"] (defScope s_Rounds___init__) := ⟨rfl, rfl, rfl, by decide +kernel, rfl, by decide +kernel, by decide +kernel⟩
theorem sc_Rounds_all_met : FnScope ["self", "one", "other", "many", "letter", "result", "answers", "answer"] ["self", "one", "other", "many"] (defScope s_Rounds_all_met) := ⟨rfl, rfl, rfl, by decide +kernel, rfl, by decide +kernel, by decide +kernel⟩
theorem sc_Rounds_alike_for : FnScope ["self", "one", "other", "many", "key"] ["self", "one", "other", "many"] (defScope s_Rounds_alike_for) := ⟨rfl, rfl, rfl, by decide +kernel, rfl, by decide +kernel, by decide +kernel⟩
theorem sc_Rounds_parted_in : FnScope ["self", "one", "other", "most", "many"] ["self", "one", "other", "most"] (defScope s_Rounds_parted_in) := ⟨rfl, rfl, rfl, by decide +kernel, rfl, by decide +kernel, by decide +kernel⟩
theorem sc_look_at_ends : FnScope ["grammar", "rows", "row", "name"] ["grammar", "rows"] (defScope s_look_at_ends) := ⟨rfl, rfl, rfl, by decide +kernel, rfl, by decide +kernel, by decide +kernel⟩
theorem sc_rank : FnScope ["grammar", "kind", "one", "other", "most"] ["grammar", "kind", "one", "other", "most"] (defScope s_rank) := ⟨rfl, rfl, rfl, by decide +kernel, rfl, by decide +kernel, by decide +kernel⟩
theorem sc_is_played_list : FnScope ["grammar", "thing", "name"] ["grammar", "thing"] (defScope s_is_played_list) := ⟨rfl, rfl, rfl, by decide +kernel, rfl, by decide +kernel, by decide +kernel⟩
theorem sc_is_played_row : FnScope ["grammar", "thing", "at"] ["grammar", "thing"] (defScope s_is_played_row) := ⟨rfl, rfl, rfl, by decide +kernel, rfl, by decide +kernel, by decide +kernel⟩
theorem sc_Playing___init__ : FnScope ["self", "grammar", "kind"] ["self", "grammar", "kind"] (defScope s_Playing___init__) := ⟨rfl, rfl, rfl, by decide +kernel, rfl, by decide +kernel, by decide +kernel⟩
theorem sc_Playing_key_of : FnScope ["self", "one", "other"] ["self", "one", "other"] (defScope s_Playing_key_of) := ⟨rfl, rfl, rfl, by decide +kernel, rfl, by decide +kernel, by decide +kernel⟩
theorem sc_Playing_parts : FnScope ["self", "result", "answer", "side"] ["self", "result", "answer", "side"] (defScope s_Playing_parts) := ⟨rfl, rfl, rfl, by decide +kernel, rfl, by decide +kernel, by decide +kernel⟩
theorem sc_Playing_takes : FnScope ["self", "row", "one", "other", "side", "letter", "result", "key", "steps", "answer"] ["self", "row"] (defScope s_Playing_takes) := ⟨rfl, rfl, rfl, by decide +kernel, rfl, by decide +kernel, by decide +kernel⟩
theorem sc_play_holds : FnScope ["grammar", "kind", "one", "other", "play", "playing", "row"] ["grammar", "kind", "one", "other", "play"] (defScope s_play_holds) := ⟨rfl, rfl, rfl, by decide +kernel, rfl, by decide +kernel, by decide +kernel⟩
theorem sc__law_cell_at : FnScope ["_law_script", "_law_k"] ["_law_script", "_law_k"] (defScope s__law_cell_at) := ⟨rfl, rfl, rfl, by decide +kernel, rfl, by decide +kernel, by decide +kernel⟩
theorem sc__law_well : FnScope ["_law_cell"] ["_law_cell"] (defScope s__law_well) := ⟨rfl, rfl, rfl, by decide +kernel, rfl, by decide +kernel, by decide +kernel⟩
theorem sc__law_draw : FnScope ["_law_well_here", "_law_wide", "_law_found", "_law_number"] ["_law_well_here", "_law_wide"] (defScope s__law_draw) := ⟨rfl, rfl, rfl, by decide +kernel, rfl, by decide +kernel, by decide +kernel⟩
theorem sc__law_some : FnScope ["_law_well_here", "_law_names", "_law_most", "_law_k"] ["_law_well_here", "_law_names", "_law_most"] (defScope s__law_some) := ⟨rfl, rfl, rfl, by decide +kernel, rfl, by decide +kernel, by decide +kernel⟩
theorem sc__law_chain : FnScope ["_law_well_here", "_law_many", "_law_start", "_law_left", "_law_found", "_law_k"] ["_law_well_here", "_law_many"] (defScope s__law_chain) := ⟨rfl, rfl, rfl, by decide +kernel, rfl, by decide +kernel, by decide +kernel⟩
theorem sc__law_world : FnScope ["_law_well_here", "_law_many", "_law_wide", "_law_cap", "_law_start", "_law_letters", "_law_chain_here", "_law_rules", "_law_norm", "_law_k", "_law_name", "_law_row", "_law_j", "_law_rule", "_law_tail", "_law_source", "_law_part", "_law_letter"] ["_law_well_here", "_law_many", "_law_wide", "_law_cap"] (defScope s__law_world) := ⟨rfl, rfl, rfl, by decide +kernel, rfl, by decide +kernel, by decide +kernel⟩
theorem sc__law_made : FnScope ["_law_world_here", "_law_told", "_law_name", "_law_letter", "_law_row"] ["_law_world_here"] (defScope s__law_made) := ⟨rfl, rfl, rfl, by decide +kernel, rfl, by decide +kernel, by decide +kernel⟩
theorem sc__law_norms : FnScope ["_law_world_here", "_law_found", "_law_turn", "_law_name", "_law_letter", "_law_row", "_law_part"] ["_law_world_here"] (defScope s__law_norms) := ⟨rfl, rfl, rfl, by decide +kernel, rfl, by decide +kernel, by decide +kernel⟩
theorem sc__law_steps : FnScope ["_law_world_here", "_law_kind", "_law_one", "_law_found", "_law_at", "_law_name", "_law_rest", "_law_letter", "_law_row", "_law_k", "_law_step"] ["_law_world_here", "_law_kind", "_law_one"] (defScope s__law_steps) := ⟨rfl, rfl, rfl, by decide +kernel, rfl, by decide +kernel, by decide +kernel⟩
theorem sc__law_meets : FnScope ["_law_world_here", "_law_kind", "_law_one", "_law_other", "_law_many", "_law_met", "_law_some_here", "_law_letter", "_law_result", "_law_good", "_law_by", "_law_answer"] ["_law_world_here", "_law_kind", "_law_one", "_law_other", "_law_many", "_law_met"] (defScope s__law_meets) := ⟨rfl, rfl, rfl, by decide +kernel, rfl, by decide +kernel, by decide +kernel⟩
theorem sc__law_alike : FnScope ["_law_world_here", "_law_kind", "_law_one", "_law_other", "_law_many", "_law_met", "_law_spot", "_law_good"] ["_law_world_here", "_law_kind", "_law_one", "_law_other", "_law_many", "_law_met"] (defScope s__law_alike) := ⟨rfl, rfl, rfl, by decide +kernel, rfl, by decide +kernel, by decide +kernel⟩
theorem sc__law_parted : FnScope ["_law_world_here", "_law_kind", "_law_one", "_law_other", "_law_most", "_law_met", "_law_many"] ["_law_world_here", "_law_kind", "_law_one", "_law_other", "_law_most"] (defScope s__law_parted) := ⟨rfl, rfl, rfl, by decide +kernel, rfl, by decide +kernel, by decide +kernel⟩
theorem sc__law_two : FnScope ["_law_well_here", "_law_kind", "_law_names", "_law_most", "_law_one", "_law_way", "_law_other"] ["_law_well_here", "_law_kind", "_law_names", "_law_most"] (defScope s__law_two) := ⟨rfl, rfl, rfl, by decide +kernel, rfl, by decide +kernel, by decide +kernel⟩
theorem sc__law_answers : FnScope ["_law_world_here", "_law_kind", "_law_one", "_law_letter", "_law_by", "_law_result"] ["_law_world_here", "_law_kind", "_law_one", "_law_letter"] (defScope s__law_answers) := ⟨rfl, rfl, rfl, by decide +kernel, rfl, by decide +kernel, by decide +kernel⟩
theorem sc__law_weight : FnScope ["_law_norm", "_law_one", "_law_name"] ["_law_norm", "_law_one"] (defScope s__law_weight) := ⟨rfl, rfl, rfl, by decide +kernel, rfl, by decide +kernel, by decide +kernel⟩
theorem sc__law_asked : FnScope ["_law_world_here", "_law_kind", "_law_norm", "_law_one", "_law_other", "_law_many", "_law_met", "_law_side", "_law_pair_here", "_law_letter", "_law_result", "_law_some_here", "_law_answer"] ["_law_world_here", "_law_kind", "_law_norm", "_law_one", "_law_other", "_law_many", "_law_met"] (defScope s__law_asked) := ⟨rfl, rfl, rfl, by decide +kernel, rfl, by decide +kernel, by decide +kernel⟩
theorem sc__law_play : FnScope ["_law_world_here", "_law_kind", "_law_one", "_law_other", "_law_many", "_law_norm", "_law_met", "_law_found", "_law_todo", "_law_side", "_law_letter", "_law_result", "_law_answer", "_law_rows", "_law_row"] ["_law_world_here", "_law_kind", "_law_one", "_law_other", "_law_many"] (defScope s__law_play) := ⟨rfl, rfl, rfl, by decide +kernel, rfl, by decide +kernel, by decide +kernel⟩
theorem sc__law_pair : FnScope ["_law_kind", "_law_one", "_law_other"] ["_law_kind", "_law_one", "_law_other"] (defScope s__law_pair) := ⟨rfl, rfl, rfl, by decide +kernel, rfl, by decide +kernel, by decide +kernel⟩
theorem sc__law_rise : FnScope ["_law_world_here", "_law_norm", "_law_found", "_law_name", "_law_letter", "_law_row"] ["_law_world_here", "_law_norm"] (defScope s__law_rise) := ⟨rfl, rfl, rfl, by decide +kernel, rfl, by decide +kernel, by decide +kernel⟩
theorem sc_law : FnScope ["_law_script", "_law_world_here", "_law_grammar", "_law_norm", "_law_cell", "_law_well_here", "_law_kind", "_law_one", "_law_other", "_law_many", "_law_play_here", "_law_k", "_law_here", "_law_there", "_law_least"] ["_law_script"] (defScope s_law) := ⟨rfl, rfl, rfl, by decide +kernel, rfl, by decide +kernel, by decide +kernel⟩
end SG
namespace SG
open PySem PySem.Spec PyProof.Rows L2 LamX
section
variable {P : Program} {w : World} {K : PySem.W.Frag} {mg : Str → Option Value} {base : Heap} {A : Ad}
def sp_is_small : Sp := fun vs H Q _ => ∃ x : Str, vs = [.str x] ∧ x.length ≤ 1000000 ∧ ∀ H', Same H H' → Q (.bl (isSmall x)) H'
theorem ok_is_small (T : Txt K mg A) : FnOk P w K mg base CX0 1 A.a_is_small A.d_is_small ["text"] sp_is_small := by
  refine T.F_is_small.ok sc_is_small (fun vs H Q E h => ?_) (fun cdv A0 outer s H vs Q E hr h => ?_)
  · obtain ⟨x, rfl, _⟩ := h
    rfl
  · obtain ⟨x, rfl, hx, q⟩ := h
    refine ⟨_, (pss_one (ps_ret (pe_callB (id := "all") (r := rAll K) (cr_all rfl) (by rfl) T.all (by decide +kernel) (pa_cons (pe_lc (own := [("sign", 1)]) (g := gName 1) (by rfl) sc_is_small.nd (pi_str (pv 0)) (blkOk_by (own := [("sign", 1)]) (N := ["text", "sign"]) (sc := defScope s_is_small) (by decide +kernel)) (fun _ _ _ _ _ => (pg_name (i := 1) sc_is_small.nd rfl (Or.inl rfl))) (fun _ _ _ _ _ => pts_nil) (fun _ _ _ _ _ => (pe_cmpR op_in_sign (pv 1) (pe_glob (v := .str "abcdefghijklmnopqrstuvwxyz") (by rfl) T.c_SMALL.choose_spec ⟨_, rfl⟩) (by rfl)))) pa_nil)))), ?_⟩
    refine ⟨_, rfl, x, rfl, fun D hD => lc_scalS (ys := (x.cps.toList.map fun c => decide (c ∈ abcS.cps.toList)).map V.bl) hD (by rw [List.length_map, List.length_map, Array.length_toList]; rfl) hx (fun _ => rfl) (fun i c y H' Q' h1 h2 _ k => ?_) (fun H' sm hl => ?_)⟩
    · rw [List.map_map] at h2
      have e := map_get h1 h2
      subst e
      exact ⟨_, rfl, c, abcS, rfl, rfl, k H' (Same.refl _)⟩
    · refine ⟨D, x.cps.toList.map fun c => decide (c ∈ abcS.cps.toList), rfl, SqL.of hl, ?_⟩
      have e : (x.cps.toList.map fun c => decide (c ∈ abcS.cps.toList)).all id = isSmall x := by
        unfold isSmall
        rw [List.all_map]
        rfl
      rw [e]
      exact q H' sm
def sp_is_name : Sp := fun vs H Q _ => ∃ x : Str, vs = [.str x] ∧ x.length ≤ 1000000 ∧ ∀ H', Same H H' → Q (.bl (isName x)) H'
theorem ok_is_name (T : Txt K mg A) : FnOk P w K mg base CX0 2 A.a_is_name A.d_is_name ["text"] sp_is_name := by
  have G_is_small : FnOk P w K mg base CX0 1 A.a_is_small A.d_is_small ["text"] sp_is_small := ok_is_small T
  refine T.F_is_name.ok sc_is_name (fun vs H Q E h => ?_) (fun cdv A0 outer s H vs Q E hr h => ?_)
  · obtain ⟨x, rfl, _⟩ := h
    rfl
  · obtain ⟨x, rfl, hx, q⟩ := h
    refine ⟨_, (pss_one (ps_ret (pe_and (pe_chain op_le op_le pe_int (pe_callB (id := "len") call_len_str (by rfl) T.len (by decide +kernel) (pa_cons (pv 0) pa_nil)) pe_int) (pe_and (pe_call G_is_small (hr.mono (by decide)) (by rfl) T.g_is_small T.F_is_small.kp T.b_is_small .nil pass0 (pa_cons (pv 0) pa_nil)) (pe_one (pe_cmpR op_ne (pv 0) pe_str (nomark _))))))), ?_⟩
    have hz : x.length ≤ sizeLine := sl2 hx
    have fin : ∀ b c : Bool, isName x = (b && c && isSmall x && decide (x ≠ ("names" : Str))) → b = false → isName x = false := fun b c e h => by rw [e, h]; rfl
    refine ⟨_, rfl, x, rfl, hz, _, _, rfl, rfl, _, rfl, iteB (fun h1 => ?_) (fun h1 => ?_)⟩
    · have h1' : (1 : Int) ≤ (x.length : Int) := of_decide_eq_true h1
      refine ⟨_, _, rfl, rfl, _, rfl, iteB (fun h2 => ?_) (fun h2 => ?_)⟩
      · have h2' : (x.length : Int) ≤ 8 := of_decide_eq_true h2
        refine ⟨_, rfl, x, rfl, hx, fun H' sm => ⟨_, rfl, iteB (fun h3 => ?_) (fun h3 => ?_)⟩⟩
        · refine ⟨_, rfl, rfl, ?_⟩
          have e : isName x = !decide (V.str x = V.str ("names" : Str)) := by
            unfold isName
            rw [h3, decide_eq_true (show 1 ≤ x.length by omega), decide_eq_true (show x.length ≤ 8 by omega)]
            by_cases e : x = ("names" : Str)
            · simp [e]
            · simp [e]
          rw [← e]
          exact q H' sm
        · have e : isName x = false := by unfold isName; rw [h3]; simp
          rw [← e]
          exact q H' sm
      · have e : isName x = false := by
          have : ¬ x.length ≤ 8 := fun z => of_decide_eq_false h2 (by show ((x.length : Nat) : Int) ≤ 8; omega)
          unfold isName
          rw [decide_eq_false this]
          simp
        rw [← e]
        exact q H (Same.refl _)
    · have e : isName x = false := by
        have : ¬ 1 ≤ x.length := fun z => of_decide_eq_false h1 (by show (1 : Int) ≤ ((x.length : Nat) : Int); omega)
        unfold isName
        rw [decide_eq_false this]
        simp
      refine ⟨_, rfl, iteF ?_⟩
      rw [← e]
      exact q H (Same.refl _)
def sp_is_letter : Sp := fun vs H Q _ => ∃ x : Str, vs = [.str x] ∧ x.length ≤ 1000000 ∧ ∀ H', Same H H' → Q (.bl (isLetter x)) H'
theorem ok_is_letter (T : Txt K mg A) : FnOk P w K mg base CX0 2 A.a_is_letter A.d_is_letter ["text"] sp_is_letter := by
  have G_is_small : FnOk P w K mg base CX0 1 A.a_is_small A.d_is_small ["text"] sp_is_small := ok_is_small T
  refine T.F_is_letter.ok sc_is_letter (fun vs H Q E h => ?_) (fun cdv A0 outer s H vs Q E hr h => ?_)
  · obtain ⟨x, rfl, _⟩ := h
    rfl
  · obtain ⟨x, rfl, hx, q⟩ := h
    refine ⟨_, (pss_one (ps_ret (pe_and (pe_cmpR op_eq (pe_callB (id := "len") call_len_str (by rfl) T.len (by decide +kernel) (pa_cons (pv 0) pa_nil)) pe_int (nomark _)) (pe_one (pe_call G_is_small (hr.mono (by decide)) (by rfl) T.g_is_small T.F_is_small.kp T.b_is_small .nil pass0 (pa_cons (pv 0) pa_nil)))))), ?_⟩
    refine ⟨_, rfl, x, rfl, sl2 hx, rfl, _, rfl, iteB (fun h1 => ?_) (fun h1 => ?_)⟩
    · have h1' : (x.length : Int) = 1 := V.int.inj (of_decide_eq_true h1)
      refine ⟨_, rfl, x, rfl, hx, fun H' sm => ?_⟩
      have e : isLetter x = isSmall x := by
        unfold isLetter
        rw [decide_eq_true (show x.length = 1 by omega)]
        rfl
      rw [← e]
      exact q H' sm
    · have e : isLetter x = false := by
        have : ¬ x.length = 1 := fun z => of_decide_eq_false h1 (by rw [z]; rfl)
        unfold isLetter
        rw [decide_eq_false this]
        rfl
      rw [← e]
      exact q H (Same.refl _)
def sp_are_names (K : PySem.W.Frag) : Sp := fun vs H Q _ => ∃ (a : Addr) (xs : List Str), vs = [.ref a] ∧ SqL K H a (xs.map V.str) ∧ xs.length ≤ 1000 ∧ (∀ x ∈ xs, x.length ≤ 1000000) ∧ ∀ H', Same H H' → Q (.bl (areNames xs)) H'
theorem ok_are_names (T : Txt K mg A) : FnOk P w K mg base CX0 3 A.a_are_names A.d_are_names ["names"] (sp_are_names K) := by
  have G_is_name : FnOk P w K mg base CX0 2 A.a_is_name A.d_is_name ["text"] sp_is_name := ok_is_name T
  refine T.F_are_names.ok sc_are_names (fun vs H Q E h => ?_) (fun cdv A0 outer s H vs Q E hr h => ?_)
  · obtain ⟨x, xs, rfl, _⟩ := h
    rfl
  · obtain ⟨a, xs, rfl, hS, hlen, hx, q⟩ := h
    refine ⟨_, (pss_one (ps_ret (pe_and (pe_chain op_le op_le pe_int (pe_callB (id := "len") (r := Evl.rLenS K) call_len_seq (by rfl) T.len (by decide +kernel) (pa_cons (pv 0) pa_nil)) (pe_glob (v := .int 6) (by rfl) T.c_MOST_NAMES.choose_spec ⟨_, rfl⟩)) (pe_and (pe_cmpR op_eq (pe_lenSetS (by rfl) T.len (by rfl) T.set_ (pv 0)) (pe_callB (id := "len") (r := Evl.rLenS K) call_len_seq (by rfl) T.len (by decide +kernel) (pa_cons (pv 0) pa_nil)) (nomark _)) (pe_one (pe_callB (id := "all") (r := rAll K) (cr_all rfl) (by rfl) T.all (by decide +kernel) (pa_cons (pe_lc (own := [("name", 1)]) (g := gName 1) (by rfl) sc_are_names.nd (pi_list (pv 0)) (blkOk_by (own := [("name", 1)]) (N := ["names", "name"]) (sc := defScope s_are_names) (by decide +kernel)) (fun _ _ _ _ _ => (pg_name (i := 1) sc_are_names.nd rfl (Or.inl rfl))) (fun _ _ _ _ _ => pts_nil) (fun _ _ _ _ _ => (pe_call G_is_name (hr.mono (by decide)) (by rfl) T.g_is_name T.F_is_name.kp T.b_is_name .nil pass0 (pa_cons (pv 1) pa_nil)))) pa_nil))))))), ?_⟩
    have no : ∀ {b : Bool}, areNames xs = b → Q (.bl b) H := fun e => by rw [← e]; exact q H (Same.refl _)
    refine ⟨_, rfl, a, _, rfl, .inl hS, _, _, rfl, rfl, _, rfl, iteB (fun h1 => ?_) (fun h1 => ?_)⟩
    · have h1' : (1 : Int) ≤ ((xs.map V.str).length : Int) := of_decide_eq_true h1
      rw [List.length_map] at h1'
      refine ⟨_, _, rfl, rfl, _, rfl, iteB (fun h2 => ?_) (fun h2 => ?_)⟩
      · have h2' : ((xs.map V.str).length : Int) ≤ 6 := of_decide_eq_true h2
        rw [List.length_map] at h2'
        refine ⟨_, rfl, a, xs, rfl, hS, hlen, _, rfl, a, _, rfl, .inl hS, rfl, _, rfl, iteB (fun h3 => ?_) (fun h3 => ?_)⟩
        · have nd : xs.Nodup := by
            have e := V.int.inj (of_decide_eq_true h3)
            rw [List.length_map] at e
            exact (once_nodup xs).mp (by omega)
          refine ⟨_, rfl, a, rfl, ⟨_, hS⟩, fun D hD => lc_scal (K := K) (ys := (xs.map isName).map V.bl) hS hD (by simp) (by rw [List.length_map]; omega) (fun _ => rfl) (fun i x y H' Q' g1 g2 sm k => ?_) (fun H' sm hl => ?_)⟩
          · obtain ⟨n, hn, rfl⟩ := map_at g1
            rw [List.map_map] at g2
            have e := map_get hn g2
            subst e
            exact ⟨_, rfl, n, rfl, hx n (List.mem_of_getElem? hn), fun H'' e => k H'' e⟩
          · refine ⟨D, xs.map isName, rfl, SqL.of hl, ?_⟩
            have e : (xs.map isName).all id = areNames xs := by
              unfold areNames
              rw [decide_eq_true nd, decide_eq_true (show 1 ≤ xs.length by omega), decide_eq_true (show xs.length ≤ 6 by omega), List.all_map]
              rfl
            rw [e]
            exact q H' sm
        · refine no ?_
          have nd : ¬ xs.Nodup := fun z => of_decide_eq_false h3 (by rw [(once_nodup xs).mpr z, List.length_map])
          unfold areNames
          rw [decide_eq_false nd]
          simp
      · refine no ?_
        have : ¬ xs.length ≤ 6 := fun z => of_decide_eq_false h2 (by show (((xs.map V.str).length : Nat) : Int) ≤ 6; rw [List.length_map]; omega)
        unfold areNames
        rw [decide_eq_false this]
        simp
    · refine ⟨_, rfl, iteF (no ?_)⟩
      have : ¬ 1 ≤ xs.length := fun z => of_decide_eq_false h1 (by show (1 : Int) ≤ (((xs.map V.str).length : Nat) : Int); rw [List.length_map]; omega)
      unfold areNames
      rw [decide_eq_false this]
      simp
end
section
variable {P : Program} {w : World} {K : PySem.W.Frag} {mg : Str → Option Value} {base : Heap} {A : Ad}
/-! ### telling -/
def sp_G_names (C : Addr) : Sp := fun vs H Q _ => ∃ (g : Addr) (names : List Str) (rs : List Rule), vs = [.ref g] ∧ GramAt C H g names rs ∧ ∀ p H', H p = none → Same H H' → H' p = some (.lst (names.map V.str)) → Q (.ref p) H'
theorem ok_Grammar_names (T : Txt K mg A) : FnOk P w K mg base CX0 1 A.a_Grammar_names A.d_Grammar_names ["self"] (sp_G_names A.c_Grammar) := by
  refine T.F_Grammar_names.ok sc_Grammar_names (fun vs H Q E h => ?_) (fun cdv A0 outer s H vs Q E hr h => ?_)
  · obtain ⟨g, _, _, rfl, _⟩ := h
    rfl
  · obtain ⟨g, names, rs, rfl, G, q⟩ := h
    obtain ⟨dx, kn, st, od, ls, h1, h2, h3, h4⟩ := G.ex
    refine ⟨_, (pss_one (ps_ret (pe_callTy (T := "list") (r := Evl.rListS K) call_list_of (by rfl) T.list_ (by decide +kernel) (pa_cons (pe_fld (pv 0) rfl) pa_nil)))), ?_⟩
    exact ⟨_, rfl, g, _, _, _, _, rfl, h1, T.cl_Grammar, T.n_Grammar_known, gfs_known _ _ _, kn, _, rfl, .inl (SqL.of h2), fun l hl => q l _ hl (same_new hl) upd_same⟩
def sp_G_has (C : Addr) : Sp := fun vs H Q _ => ∃ (g : Addr) (names : List Str) (rs : List Rule) (n : Str), vs = [.ref g, .str n] ∧ GramAt C H g names rs ∧ Q (.bl (decide (n ∈ names))) H
theorem ok_Grammar_has (T : Txt K mg A) : FnOk P w K mg base CX0 1 A.a_Grammar_has A.d_Grammar_has ["self", "name"] (sp_G_has A.c_Grammar) := by
  refine T.F_Grammar_has.ok sc_Grammar_has (fun vs H Q E h => ?_) (fun cdv A0 outer s H vs Q E hr h => ?_)
  · obtain ⟨g, _, _, _, rfl, _⟩ := h
    rfl
  · obtain ⟨g, names, rs, n, rfl, G, q⟩ := h
    have hu := hu_of hr
    obtain ⟨dx, kn, st, od, ls, h1, h2, h3, h4⟩ := G.ex
    refine ⟨_, (pss_one (ps_ret (pe_cmp (pc_din hu (pv 1) (pe_fld (pv 0) rfl)) rfl))), ?_⟩
    refine ⟨_, rfl, _, rfl, g, _, _, _, _, rfl, h1, T.cl_Grammar, T.n_Grammar_stored, gfs_stored _ _ _, st, _, rfl, DGet.k (k := Sum.inr n) h3.1, ?_⟩
    rcases h3.look n with ⟨e, f⟩ | ⟨i, l, _, _, e, f, _⟩
    · rw [decide_eq_false f] at q
      rw [e]
      exact q
    · rw [decide_eq_true f] at q
      rw [e]
      exact q
def RowN (H H' : Hp) (D t : Addr) (r : Str × List Str) : Prop := H t = none ∧ t ≠ D ∧ ∃ w, H w = none ∧ w ≠ D ∧ H' t = some (.tup [.str r.1, .ref w]) ∧ H' w = some (.lst (r.2.map V.str))
def TrioN (H H' : Hp) (D me t : Addr) (r : Rule) : Prop := H t = none ∧ t ≠ D ∧ t ≠ me ∧ ∃ w, H w = none ∧ w ≠ D ∧ w ≠ me ∧ H' t = some (.tup [.str r.1, .str r.2.1, .ref w]) ∧ H' w = some (.lst (r.2.2.map V.str))
def sp_G_rules_of (C : Addr) : Sp := fun vs H Q _ => ∃ (g : Addr) (names : List Str) (rs : List Rule) (n : Str), vs = [.ref g, .str n] ∧ GramAt C H g names rs ∧ n ∈ names ∧ (rulesOf rs n).length ≤ 1000 ∧ ∀ p H', NewRows H H' p (rulesOf rs n) → Q (.ref p) H'
theorem ok_Grammar_rules_of (T : Txt K mg A) : FnOk P w K mg base CX0 1 A.a_Grammar_rules_of A.d_Grammar_rules_of ["self", "name"] (sp_G_rules_of A.c_Grammar) := by
  refine T.F_Grammar_rules_of.ok sc_Grammar_rules_of (fun vs H Q E h => ?_) (fun cdv A0 outer s H vs Q E hr h => ?_)
  · obtain ⟨g, _, _, _, rfl, _⟩ := h
    rfl
  · obtain ⟨g, names, rs, n, rfl, G, hn, hlen, q⟩ := h
    have hu := hu_of hr
    obtain ⟨dx, kn, st, od, ls, h1, h2, h3, h4⟩ := G.ex
    refine ⟨_, (pss_one (ps_ret (pe_lc (own := [("letter", 2), ("row", 3)]) (g := gTup K 2 (gCons (gName 2) (gCons (gName 3) gNil))) (by rfl) sc_Grammar_rules_of.nd (pi_list (pe_dget hu (pe_fld (pv 0) rfl) (pv 1) (fun _ _ => rfl))) (blkOk_by (own := [("letter", 2), ("row", 3)]) (N := ["self", "name", "letter", "row"]) (sc := defScope s_Grammar_rules_of) (by decide +kernel)) (fun _ _ _ _ _ => (pg_tup (by rfl) (pgs_cons (pg_name (i := 2) sc_Grammar_rules_of.nd rfl (Or.inl rfl)) (pgs_cons (pg_name (i := 3) sc_Grammar_rules_of.nd rfl (Or.inl rfl)) pgs_nil)))) (fun _ _ _ _ _ => pts_nil) (fun _ _ _ _ _ => (pe_tup (pa_cons (pv 2) (pa_cons (pe_callTy (T := "list") (r := Evl.rListS K) call_list_of (by rfl) T.list_ (by decide +kernel) (pa_cons (pv 3) pa_nil)) pa_nil))))))), ?_⟩
    rcases h3.look n with ⟨_, f⟩ | ⟨i, l, _, _, e, _, ts, ht, hp⟩
    · exact absurd hn f
    have hts : ts.length = (rulesOf rs n).length := paired_len hp
    refine ⟨_, rfl, g, _, _, _, _, rfl, h1, T.cl_Grammar, T.n_Grammar_stored, gfs_stored _ _ _, _, rfl, st, _, rfl, .inl ⟨_, Sum.inr n, .inl h3.1, rfl, e.symm⟩, l, rfl, ⟨_, SqL.of ht⟩, fun D hD => lc_list (K := K) (a := l) (xs := ts.map V.ref)
      (fun i H' => Same H H' ∧ ∃ us : List Addr, H' D = some (.lst (us.map V.ref)) ∧ Paired (RowN H H' D) us ((rulesOf rs n).take i)) ?_ ?_ ?_ ?_⟩
    · exact ⟨same_new hD, [], upd_same, .nil⟩
    · rintro i H' _ ⟨sm, _⟩
      exact SqL.of (sm _ _ ht)
    · rintro i x H' hi ⟨sm, us, hu1, hu2⟩
      obtain ⟨t, hti, rfl⟩ := map_at hi
      obtain ⟨r, hr1, w0, hw1, hw2⟩ := paired_get hp hti
      refine ⟨t, _, rfl, SqT.of (sm _ _ hw1), rfl, _, _, rfl, _, _, rfl, rfl, rfl, tyes (iteT ?_)⟩
      refine ⟨_, rfl, _, rfl, w0, _, rfl, .inl (SqL.of (sm _ _ hw2)), fun w hw => ⟨sl2 (by show 2 ≤ 1000000; decide), fun u hu3 => ?_⟩⟩
      have nwD : w ≠ D := fun z => by rw [z, hu1] at hw; cases hw
      have sm1 := (same_new hw (o := .lst (r.2.map V.str))).trans (same_new hu3 (o := .tup [.str r.1, .ref w]))
      have nuD : u ≠ D := fun z => by rw [z, same_new hw _ _ hu1] at hu3; cases hu3
      have sm2 := sm.trans sm1
      refine ⟨_, sm1 _ _ hu1, by rw [List.length_map, paired_len hu2, List.length_take]; exact sl1 (by omega), same_mut sm2 hD, us ++ [u], by rw [upd_same, List.map_append]; rfl, ?_⟩
      rw [take_snoc hr1]
      have hwU : (upd (upd H' w (.lst (r.2.map V.str))) u (.tup [.str r.1, .ref w])) w = some (.lst (r.2.map V.str)) := by rw [upd_ne (ne_of_none upd_same hu3), upd_same]
      refine paired_app (F := RowN H _ D) ⟨sm.free (Same.free (same_new hw) hu3), nuD, w, sm.free hw, nwD, ?_, ?_⟩ (Paired.mapP hu2 fun t r ⟨a1, a2, w, a3, a4, a5, a6⟩ => ⟨a1, a2, w, a3, a4, ?_, ?_⟩)
      · rw [upd_ne nuD, upd_same]
      · rw [upd_ne nwD]; exact hwU
      · rw [upd_ne a2]; exact sm1 _ _ a5
      · rw [upd_ne a4]; exact sm1 _ _ a6
    · rintro H' ⟨sm, us, hu1, hu2⟩
      rw [List.length_map, hts, List.take_length] at hu2
      exact q D H' ⟨hD, sm, us, hu1, Paired.mapP hu2 fun t r ⟨a1, _, w, a3, _, a5, a6⟩ => ⟨a1, w, a3, a5, a6⟩⟩
/-- how often a name stood -/
def cntN (ns : List Str) (n : Str) : Nat := (ns.filter fun x => decide (x = n)).length
theorem cntN_snoc (ns : List Str) (x n : Str) : cntN (ns ++ [x]) n = if x = n then cntN ns n + 1 else cntN ns n := by
  unfold cntN
  rw [List.filter_append, List.length_append]
  by_cases e : x = n
  · simp [e]
  · simp [e]
theorem rulesOf_at : ∀ {rs : List Rule} {i : Nat} {r : Rule}, rs[i]? = some r → (rulesOf rs r.1)[cntN ((rs.take i).map (·.1)) r.1]? = some r.2
  | [], i, r, h => by simp at h
  | x :: rs, 0, r, h => by
    have e : x = r := Option.some.inj h
    subst e
    unfold rulesOf cntN
    simp
  | x :: rs, i + 1, r, h => by
    have ih := rulesOf_at (rs := rs) (i := i) (r := r) (by simpa using h)
    rw [List.take_succ_cons, List.map_cons]
    unfold rulesOf cntN at *
    by_cases e : x.1 = r.1
    · simp only [List.filter_cons, e, decide_true, if_true, List.map_cons, List.length_cons, List.getElem?_cons_succ]
      exact ih
    · simp only [List.filter_cons, e, decide_false, Bool.false_eq_true, if_false]
      exact ih
/-- met: how often each name stood so far -/
def MetAt (kvs : List (Key × V)) (ns : List Str) : Prop := ∀ n : Str, (cntN ns n = 0 → valV kvs (Sum.inr n : Key) = none) ∧ (cntN ns n ≠ 0 → valV kvs (Sum.inr n : Key) = some (.int (cntN ns n)))
def sp_G_rules (C : Addr) : Sp := fun vs H Q _ => ∃ (g : Addr) (names : List Str) (rs : List Rule), vs = [.ref g] ∧ GramAt C H g names rs ∧ (∀ r ∈ rs, r.1 ∈ names) ∧ rs.length ≤ 1000 ∧ ∀ p H', NewTrios H H' p rs → Q (.ref p) H'
theorem ok_Grammar_rules (T : Txt K mg A) : FnOk P w K mg base CX0 1 A.a_Grammar_rules A.d_Grammar_rules ["self"] (sp_G_rules A.c_Grammar) := by
  refine T.F_Grammar_rules.ok sc_Grammar_rules (fun vs H Q E h => ?_) (fun cdv A0 outer s H vs Q E hr h => ?_)
  · obtain ⟨g, _, _, rfl, _⟩ := h
    rfl
  · obtain ⟨g, names, rs, rfl, G, hin, hlen, q⟩ := h
    have hu := hu_of hr
    obtain ⟨dx, kn, st, od, ls, h1, h2, h3, h4⟩ := G.ex
    refine ⟨_, (pss_cons (ps_set (i := 1) sc_Grammar_rules.nd rfl (Or.inl rfl) pe_dnewK)
 (pss_cons (ps_set (i := 2) sc_Grammar_rules.nd rfl (Or.inl rfl) (pe_lst pa_nil))
 (pss_cons (ps_for PassesOwn.never rfl (pi_list (pe_fld (pv 0) rfl)) (pg_name (i := 3) sc_Grammar_rules.nd rfl (Or.inl rfl))
 (pss_cons (ps_set (i := 4) sc_Grammar_rules.nd rfl (Or.inl rfl) (pe_dget2 hu (pv 1) (pv 3) pe_int ⟨rfl, rfl, rfl, rfl⟩))
 (pss_cons (ps_dput hu (pv 1) (pv 3) (pe_op op_add (pv 4) pe_int) rfl)
 (pss_cons (ps_asg (pe_ix (r := rIxL K) ix_list (pe_dget hu (pe_fld (pv 0) rfl) (pv 3) (fun _ _ => rfl)) (pv 4) (fun _ _ => rfl)) (pg_tup (by rfl) (pgs_cons (pg_name (i := 5) sc_Grammar_rules.nd rfl (Or.inl rfl)) (pgs_cons (pg_name (i := 6) sc_Grammar_rules.nd rfl (Or.inl rfl)) pgs_nil))))
 (pss_one (ps_expr (pe_bm PySem.F.plainAttrs_list PySem.F.slot_list_append PySem.F.type_list_append mt_append (pv 2) (pa_cons (pe_tup (pa_cons (pv 3) (pa_cons (pv 5) (pa_cons (pe_callTy (T := "list") (r := Evl.rListS K) call_list_of (by rfl) T.list_ (by decide +kernel) (pa_cons (pv 6) pa_nil)) pa_nil)))) pa_nil))))))))
 (pss_one (ps_ret (pv 2)))))), ?_⟩
    intro me hme
    refine ⟨Nat.zero_le _, fun D hD => ?_⟩
    have nmD : me ≠ D := ne_of_none upd_same hD
    have hD0 : H D = none := (same_new hme).free hD
    have sm0 : Same H (upd (upd H me (.dK [])) D (.lst [])) := (same_new hme).trans (same_new hD)
    refine ⟨_, rfl, g, _, _, _, _, rfl, sm0 _ _ h1, T.cl_Grammar, T.n_Grammar_order, gfs_order _ _ _, od, rfl, ⟨_, SqL.of (sm0 _ _ h4)⟩, for_list (K := K) (a := od) (xs := (rs.map (·.1)).map V.str)
      (fun i σ' H' => ∃ (x3 x4 x5 x6 : Option V) (kvs : List (Key × V)) (us : List Addr), σ' = [some (.ref g), some (.ref me), some (.ref D), x3, x4, x5, x6] ∧ Same H H' ∧ H' me = some (.dK kvs) ∧ MetAt kvs ((rs.take i).map (·.1)) ∧ kvs.length ≤ i ∧ H' D = some (.lst (us.map V.ref)) ∧
        Paired (TrioN H H' D me) us (rs.take i)) ?_ ?_ ?_ ?_⟩
    · exact ⟨none, none, none, none, [], [], rfl, sm0, by rw [upd_ne nmD, upd_same], fun n => ⟨fun _ => rfl, fun h => absurd rfl h⟩, Nat.le_refl _, upd_same, .nil⟩
    · rintro i σ' H' _ ⟨_, _, _, _, _, _, rfl, sm, _⟩
      exact SqL.of (sm _ _ h4)
    · rintro i x σ' H1 hi ⟨x3, x4, x5, x6, kvs, us, rfl, sm, hm, hM, hk, hu1, hu2⟩
      obtain ⟨n, hn, rfl⟩ := map_at hi
      rw [List.getElem?_map] at hn
      obtain ⟨r, hr1, rfl⟩ : ∃ r, rs[i]? = some r ∧ r.1 = n := by
        cases e : rs[i]? with
        | none => rw [e] at hn; cases hn
        | some r => rw [e] at hn; exact ⟨r, rfl, Option.some.inj hn⟩
      have hil := (List.getElem?_eq_some_iff.mp hr1).1
      have hat := rulesOf_at hr1
      generalize hc : cntN ((rs.take i).map (·.1)) r.1 = c at hat
      -- at = met.get(name, 0)
      have hget : ∃ o, DGet H1 me (.str r.1) o ∧ o.getD (.int 0) = .int (c : Int) := by
        refine ⟨valV kvs (Sum.inr r.1 : Key), DGet.k (k := Sum.inr r.1) hm, ?_⟩
        by_cases e : c = 0
        · rw [(hM r.1).1 (by rw [hc, e]), e]; rfl
        · rw [(hM r.1).2 (by rw [hc]; exact e), hc]; rfl
      obtain ⟨o, ho, eo⟩ := hget
      refine ⟨_, rfl, me, rfl, .inl ⟨kvs, .inl hm⟩, _, rfl, o, ho, ?_⟩
      rw [eo]
      -- met[name] = at + 1
      refine ⟨_, rfl, _, _, rfl, rfl, _, rfl, _, rfl, me, _, rfl, DPut.k (k := Sum.inr r.1) hm (sl1 (by omega)), ?_⟩
      generalize hkv : putK kvs (Sum.inr r.1 : Key) (V.int ((c : Int) + 1)) = kvs2
      have sm1 : Same H (upd H1 me (.dK kvs2)) := same_mut sm hme
      have hD1 : (upd H1 me (.dK kvs2)) D = some (.lst (us.map V.ref)) := by rw [upd_ne nmD.symm]; exact hu1
      -- letter, row = self.stored[name][at]
      rcases h3.look r.1 with ⟨_, f⟩ | ⟨j, l, _, _, el, _, ts, ht, hp⟩
      · exact absurd (hin r (List.mem_of_getElem? hr1)) f
      have hts : ts.length = (rulesOf rs r.1).length := paired_len hp
      have hcl := (List.getElem?_eq_some_iff.mp hat).1
      have htc : ts[c]? = some (ts[c]'(by omega)) := List.getElem?_eq_getElem (by omega)
      obtain ⟨w0, hw1, hw2⟩ := paired_ix hp htc hat
      refine ⟨_, rfl, g, _, _, _, _, rfl, sm1 _ _ h1, T.cl_Grammar, T.n_Grammar_stored, gfs_stored _ _ _, _, rfl, st, _, rfl, .inl ⟨_, Sum.inr r.1, .inl (sm1 _ _ h3.1), rfl, el.symm⟩, _, rfl, l, _, _, _, rfl, rfl, SqL.of (sm1 _ _ ht), atI_nat (by rw [List.getElem?_map, htc]; rfl), ?_⟩
      refine ⟨_, _, rfl, SqT.of (sm1 _ _ hw1), rfl, _, _, rfl, _, _, rfl, rfl, ?_⟩
      -- found.append((name, letter, list(row)))
      refine ⟨_, rfl, .inl ⟨rfl, _, SqL.of hD1⟩, _, rfl, _, rfl, _, rfl, w0, _, rfl, .inl (SqL.of (sm1 _ _ hw2)), fun w hw => ⟨sl2 (by show 3 ≤ 1000000; decide), fun u hu3 => ?_⟩⟩
      have sm2 := (same_new hw (o := .lst (r.2.2.map V.str))).trans (same_new hu3 (o := .tup [.str r.1, .str r.2.1, .ref w]))
      have hme1 : (upd H1 me (.dK kvs2)) me = some (.dK kvs2) := upd_same
      have nwD : w ≠ D := fun z => by rw [z, hD1] at hw; cases hw
      have nwm : w ≠ me := fun z => by rw [z, hme1] at hw; cases hw
      have nuD : u ≠ D := fun z => by rw [z, same_new hw _ _ hD1] at hu3; cases hu3
      have num : u ≠ me := fun z => by rw [z, same_new hw _ _ hme1] at hu3; cases hu3
      have hDu := sm2 _ _ hD1
      have hwU : (upd (upd (upd H1 me (.dK kvs2)) w (.lst (r.2.2.map V.str))) u (.tup [.str r.1, .str r.2.1, .ref w])) w = some (.lst (r.2.2.map V.str)) := by rw [upd_ne (ne_of_none upd_same hu3), upd_same]
      refine ⟨D, _, _, rfl, rfl, hDu, by rw [List.length_map, paired_len hu2, List.length_take]; exact sl1 (by omega), ?_⟩
      refine ⟨_, _, _, _, kvs2, us ++ [u], rfl, same_mut (sm1.trans sm2) hD0, by rw [upd_ne nmD]; exact sm2 _ _ hme1, ?_, ?_, by rw [upd_same, List.map_append]; rfl, ?_⟩
      · intro n
        rw [take_snoc hr1, List.map_append, List.map_cons, List.map_nil, cntN_snoc, ← hkv, valV_put]
        by_cases e : r.1 = n
        · subst e
          rw [if_pos rfl, if_pos rfl, hc]
          exact ⟨fun z => by omega, fun _ => by push_cast; rfl⟩
        · rw [if_neg e, if_neg (fun z => e (Sum.inr.inj z).symm)]
          exact hM n
      · rw [← hkv]
        have := putK_le kvs (Sum.inr r.1 : Key) (V.int ((c : Int) + 1))
        omega
      · rw [take_snoc hr1]
        refine paired_app (F := TrioN H _ D me) ⟨sm1.free (Same.free (same_new hw) hu3), nuD, num, w, sm1.free hw, nwD, nwm, ?_, ?_⟩ (Paired.mapP hu2 fun t r ⟨a1, a2, a2m, w, a3, a4, a4m, a5, a6⟩ => ⟨a1, a2, a2m, w, a3, a4, a4m, ?_, ?_⟩)
        · rw [upd_ne nuD, upd_same]
        · rw [upd_ne nwD]; exact hwU
        · rw [upd_ne a2]; exact sm2 _ _ (by rw [upd_ne a2m]; exact a5)
        · rw [upd_ne a4]; exact sm2 _ _ (by rw [upd_ne a4m]; exact a6)
    · rintro σ' H1 ⟨x3, x4, x5, x6, kvs, us, rfl, sm, hm, hM, hk, hu1, hu2⟩
      rw [List.length_map, List.length_map, List.take_length] at hu2
      exact ⟨_, rfl, q D H1 ⟨hD0, sm, us, hu1, Paired.mapP hu2 fun t r ⟨a1, _, _, w, a3, _, _, a5, a6⟩ => ⟨a1, w, a3, a5, a6⟩⟩⟩
end
section
variable {P : Program} {w : World} {K : PySem.W.Frag} {mg : Str → Option Value} {base : Heap} {A : Ad}
/-! ### making -/
theorem dec_any {p : Prop} (i j : Decidable p) : @decide p i = @decide p j := by rw [Subsingleton.elim i j]
def RuleX (H0 H : Hp) (bad : List Addr) (t : Addr) (p : Str × List Str) : Prop := H0 t = none ∧ ∃ w, H0 w = none ∧ w ∉ bad ∧ H t = some (.tup [.str p.1, .ref w]) ∧ H w = some (.lst (p.2.map V.str))
def ListX (H0 H : Hp) (bad : List Addr) (l : Addr) (ps : List (Str × List Str)) : Prop := ∃ ts : List Addr, H l = some (.lst (ts.map V.ref)) ∧ Paired (RuleX H0 H bad) ts ps
structure Bld (C g dx kn st od : Addr) (H H' : Hp) (names : List Str) (ls : List Addr) (rs : List Rule) : Prop where
  base : ∀ b o, H b = some o → b ≠ g → H' b = some o
  ins : H' g = some (.ins C dx (gfs kn st od))
  hkn : H' kn = some (.lst (names.map V.str))
  sd : H' st = some (.dK (zipK names ls))
  hod : H' od = some (.lst ((rs.map (·.1)).map V.str))
  nd : ls.Nodup
  frl : ∀ l ∈ ls, H l = none
  fro : H od = none
  frk : H kn = none
  frs : H st = none
  knb : kn ∉ od :: ls
  odl : od ∉ ls
  prs : Paired (fun n l => ListX H H' (od :: ls) l (rulesOf rs n)) names ls
theorem Bld.stored {C g dx kn st od : Addr} {H H' : Hp} {names : List Str} {ls : List Addr} {rs : List Rule} (b : Bld C g dx kn st od H H' names ls rs) : StoredAt H' st names ls (rulesOf rs) :=
  ⟨b.sd, Paired.mapP b.prs fun _ _ ⟨ts, h1, h2⟩ => ⟨ts, h1, Paired.mapP h2 fun _ _ ⟨_, w, _, _, h3, h4⟩ => ⟨w, h3, h4⟩⟩, b.nd⟩
/-- new things are laid -/
theorem Bld.same {C g dx kn st od : Addr} {H H' H2 : Hp} {names : List Str} {ls : List Addr} {rs : List Rule} (b : Bld C g dx kn st od H H' names ls rs) (e : Same H' H2) : Bld C g dx kn st od H H2 names ls rs where
  base := fun x o h n => e _ _ (b.base x o h n)
  ins := e _ _ b.ins
  hkn := e _ _ b.hkn
  sd := e _ _ b.sd
  hod := e _ _ b.hod
  nd := b.nd
  frl := b.frl
  fro := b.fro
  frk := b.frk
  frs := b.frs
  knb := b.knb
  odl := b.odl
  prs := Paired.mapP b.prs fun _ _ ⟨ts, h1, h2⟩ => ⟨ts, e _ _ h1, Paired.mapP h2 fun _ _ ⟨a0, w, b0, h0, h3, h4⟩ => ⟨a0, w, b0, h0, e _ _ h3, e _ _ h4⟩⟩
theorem paired_all {α β : Type} {F : α → β → Prop} : ∀ {xs : List α} {ys : List β}, xs.length = ys.length → (∀ (i : Nat) x y, xs[i]? = some x → ys[i]? = some y → F x y) → Paired F xs ys
  | [], [], _, _ => .nil
  | x :: xs, y :: ys, h, k => .cons (k 0 x y rfl rfl) (paired_all (by simpa using h) fun i a b h1 h2 => k (i + 1) a b h1 h2)
theorem Bld.fresh {C g dx kn st od : Addr} {H H' : Hp} {names : List Str} {ls : List Addr} {rs : List Rule} (b : Bld C g dx kn st od H H' names ls rs) {x : Addr} (h : H' x = none) : H x = none := by
  cases e : H x with
  | none => rfl
  | some o =>
    by_cases n : x = g
    · rw [n, b.ins] at h; cases h
    · rw [b.base x o e n] at h; cases h
/-- what lies in cells of its own stays, whatever becomes of the others -/
theorem Bld.keep {C g dx kn st od : Addr} {H H' H2 : Hp} {names : List Str} {ls : List Addr} {rs : List Rule} (b : Bld C g dx kn st od H H' names ls rs) (e : ∀ a o, H' a = some o → a = g ∨ H a = none → H2 a = some o) : GramAt C H2 g names rs :=
  ⟨dx, kn, st, od, ls, e _ _ b.ins (.inl rfl), e _ _ b.hkn (.inr b.frk), ⟨e _ _ b.sd (.inr b.frs), paired_all (paired_len b.prs) fun i n l h1 h2 => by
    obtain ⟨ts, g1, g2⟩ := paired_ix b.prs h1 h2
    exact ⟨ts, e _ _ g1 (.inr (b.frl l (List.mem_of_getElem? h2))), Paired.mapP g2 fun t p ⟨a0, w, b0, _, h3, h4⟩ => ⟨w, e _ _ h3 (.inr a0), e _ _ h4 (.inr b0)⟩⟩, b.nd⟩, e _ _ b.hod (.inr b.fro)⟩
/-- a rule's tuple is put behind those of its name, and its name behind the order -/
theorem Bld.put {C g dx kn st od : Addr} {H H' H2 : Hp} {names : List Str} {ls : List Addr} {rs : List Rule} (b : Bld C g dx kn st od H H' names ls rs) {r : Rule} {l t w : Addr} {j : Nat} {ts : List Addr} (nN : names.Nodup) (hj : names[j]? = some r.1) (hl : ls[j]? = some l) (hts : H' l = some (.lst (ts.map V.ref)))
    (ht0 : H t = none) (hw0 : H w = none) (ht : H' t = some (.tup [.str r.2.1, .ref w])) (hw : H' w = some (.lst (r.2.2.map V.str))) (hwb : w ∉ od :: ls) (e2 : H2 = upd (upd H' l (.lst (ts.map V.ref ++ [.ref t]))) od (.lst ((rs.map (·.1)).map V.str ++ [.str r.1]))) : Bld C g dx kn st od H H2 names ls (rs ++ [r]) := by
  have hlm : l ∈ ls := List.mem_of_getElem? hl
  have nlo : l ≠ od := fun z => b.odl (z ▸ hlm)
  have kp : ∀ (x : Addr) (o : HO), H' x = some o → x ≠ l → x ≠ od → H2 x = some o := fun x o h n1 n2 => by rw [e2, upd_ne n2, upd_ne n1]; exact h
  have hl2 : H2 l = some (.lst ((ts ++ [t]).map V.ref)) := by rw [e2, upd_ne nlo, upd_same, List.map_append]; rfl
  have tup_kp : ∀ (x : Addr) (vs : List V), H' x = some (.tup vs) → H2 x = some (.tup vs) := fun x vs h => kp x _ h (ne_of h hts (by intro z; cases z)) (ne_of h b.hod (by intro z; cases z))
  have nb : ∀ {x : Addr}, x ∉ od :: ls → x ≠ l ∧ x ≠ od := fun h => ⟨fun z => h (z ▸ List.mem_cons_of_mem _ hlm), fun z => h (z ▸ List.mem_cons_self)⟩
  have hkn := nb b.knb
  have rk : ∀ (t : Addr) (p : Str × List Str), RuleX H H' (od :: ls) t p → RuleX H H2 (od :: ls) t p := fun t p ⟨a0, w, b0, h0, h1, h2⟩ => ⟨a0, w, b0, h0, tup_kp _ _ h1, kp _ _ h2 (nb h0).1 (nb h0).2⟩
  refine ⟨fun x o h n => kp x o (b.base x o h n) (ne_of_none h (b.frl l hlm)) (ne_of_none h b.fro), kp _ _ b.ins (ne_of b.ins hts (by intro z; cases z)) (ne_of b.ins b.hod (by intro z; cases z)), kp _ _ b.hkn hkn.1 hkn.2, kp _ _ b.sd (ne_of b.sd hts (by intro z; cases z)) (ne_of b.sd b.hod (by intro z; cases z)), by rw [e2, upd_same, List.map_append, List.map_append]; rfl, b.nd, b.frl, b.fro, b.frk, b.frs, b.knb, b.odl, ?_⟩
  refine paired_all (paired_len b.prs) fun i n l' h1 h2 => ?_
  obtain ⟨ts', g1, g2⟩ := paired_ix b.prs h1 h2
  rw [rulesOf_snoc]
  by_cases e : i = j
  · subst e
    rw [hj] at h1
    rw [hl] at h2
    have en := Option.some.inj h1
    have el := Option.some.inj h2
    subst en el
    rw [if_pos rfl]
    rw [hts] at g1
    have ets : ts' = ts := by
      have := HO.lst.inj (Option.some.inj g1)
      have inj : ∀ {a b : List Addr}, a.map V.ref = b.map V.ref → a = b := fun {a b} h => by
        refine List.map_inj_right (fun x y q => V.ref.inj q) |>.mp h
      exact (inj this).symm
    subst ets
    exact ⟨ts' ++ [t], hl2, paired_app (F := RuleX H H2 (od :: ls)) ⟨ht0, w, hw0, hwb, tup_kp _ _ ht, kp _ _ hw (nb hwb).1 (nb hwb).2⟩ (Paired.mapP g2 fun t p h => rk t p h)⟩
  · have ne1 : ¬ r.1 = n := fun z => e (nd_ix nN h1 (z ▸ hj))
    have ne2 : l' ≠ l := fun z => e (nd_ix b.nd h2 (z ▸ hl))
    rw [if_neg ne1]
    exact ⟨ts', kp _ _ g1 ne2 (fun z => b.odl (z ▸ List.mem_of_getElem? h2)), Paired.mapP g2 fun t p h => rk t p h⟩
def sp_lets_by (C : Addr) : Sp := fun vs H Q _ => ∃ (g t dx kn st od : Addr) (ls : List Addr) (names : List Str) (rs : List Rule) (r : Rule), vs = [.ref g, .ref t] ∧ H g = some (.ins C dx (gfs kn st od)) ∧ StoredAt H st names ls (rulesOf rs) ∧ TrioAt H t r ∧ r.2.1.length ≤ 1000000 ∧ r.2.2.length ≤ 1000 ∧ (rulesOf rs r.1).length ≤ 1000 ∧
  ∀ H', Same H H' → Q (.bl (letsBy names rs r)) H'
theorem ok_Grammar_lets_by (T : Txt K mg A) : FnOk P w K mg base CX0 3 A.a_Grammar_lets_by A.d_Grammar_lets_by ["self", "rule"] (sp_lets_by A.c_Grammar) := by
  have G_is_letter : FnOk P w K mg base CX0 2 A.a_is_letter A.d_is_letter ["text"] sp_is_letter := ok_is_letter T
  refine T.F_Grammar_lets_by.ok sc_Grammar_lets_by (fun vs H Q E h => ?_) (fun cdv A0 outer s H vs Q E hr h => ?_)
  · obtain ⟨g, t, _, _, _, _, _, _, _, _, rfl, _⟩ := h
    rfl
  · obtain ⟨g, t, dx, kn, st, od, ls, names, rs, ⟨n, c, row⟩, rfl, hg, hst, ⟨w0, ht, hw0⟩, hc, hrow, hrl, q⟩ := h
    dsimp only at ht hw0 hc hrow hrl
    have hu := hu_of hr
    have hu64 := hu64_of hr
    refine ⟨_, (pss_cons (ps_asg (pv 1) (pg_tup (by rfl) (pgs_cons (pg_name (i := 2) sc_Grammar_lets_by.nd rfl (Or.inl rfl)) (pgs_cons (pg_name (i := 3) sc_Grammar_lets_by.nd rfl (Or.inl rfl)) (pgs_cons (pg_name (i := 4) sc_Grammar_lets_by.nd rfl (Or.inl rfl)) pgs_nil)))))
 (pss_cons (ps_if (PW.pt (pw_or (pt_cmp (pc_dnotin hu (pv 2) (pe_fld (pv 0) rfl))) (pw_or (pt_not (pt_val (pe_call G_is_letter (hr.mono (by decide)) (by rfl) T.g_is_letter T.F_is_letter.kp T.b_is_letter .nil pass0 (pa_cons (pv 3) pa_nil)))) (pw_or1 (pt_cmpR op_gt (pe_callB (id := "len") (r := Evl.rLenS K) call_len_seq (by rfl) T.len (by decide +kernel) (pa_cons (pv 4) pa_nil)) (pe_glob (v := .int 3) (by rfl) T.c_MOST_ROW.choose_spec ⟨_, rfl⟩) (nomark _)))))) (pss_one (ps_ret pe_bl)) pss_nil)
 (pss_cons (ps_if (pt_not (pt_val (pe_callB (id := "all") (r := rAll K) (cr_all rfl) (by rfl) T.all (by decide +kernel) (pa_cons (pe_lc (own := [("one", 5)]) (g := gName 5) (by rfl) sc_Grammar_lets_by.nd (pi_list (pv 4)) (blkOk_by (own := [("one", 5)]) (N := ["self", "rule", "name", "letter", "row", "one"]) (sc := defScope s_Grammar_lets_by) (by decide +kernel)) (fun _ _ _ _ _ => (pg_name (i := 5) sc_Grammar_lets_by.nd rfl (Or.inl rfl))) (fun _ _ _ _ _ => pts_nil) (fun _ _ _ _ _ => (pe_cmp (pc_din hu (pv 5) (show PE _ _ (tFld K _ _) from (pe_fld (pv 0) rfl))) rfl))) pa_nil)))) (pss_one (ps_ret pe_bl)) pss_nil)
 (pss_one (ps_ret (pe_and (pe_cmpR op_lt (pe_callB (id := "len") (r := Evl.rLenS K) call_len_seq (by rfl) T.len (by decide +kernel) (pa_cons (pe_dget hu (pe_fld (pv 0) rfl) (pv 2) (fun _ _ => rfl)) pa_nil)) (pe_glob (v := .int 4) (by rfl) T.c_MOST_RULES.choose_spec ⟨_, rfl⟩) (nomark _)) (pe_one (pe_cmpR (r := rNotInP K) (op_notInP hu64) (pe_tup (pa_cons (pv 3) (pa_cons (pe_callTy (T := "list") (r := Evl.rListS K) call_list_of (by rfl) T.list_ (by decide +kernel) (pa_cons (pv 4) pa_nil)) pa_nil))) (pe_dget hu (pe_fld (pv 0) rfl) (pv 2) (fun _ _ => rfl)) (by rfl))))))))), ?_⟩
    have no : ∀ {H' : Hp}, Same H H' → letsBy names rs (n, c, row) = false → Q (.bl false) H' := fun sm e => by rw [← e]; exact q _ sm
    refine ⟨_, rfl, t, _, rfl, SqT.of ht, rfl, _, _, rfl, _, _, rfl, _, _, rfl, rfl, ?_⟩
    -- name not in self.stored
    refine ⟨_, rfl, _, rfl, g, _, _, _, _, rfl, hg, T.cl_Grammar, T.n_Grammar_stored, gfs_stored _ _ _, st, _, rfl, DGet.k (k := Sum.inr n) hst.1, _, rfl, ?_⟩
    rcases hst.look n with ⟨e, f⟩ | ⟨j, l, hj, hl, e, f, hL⟩
    · rw [e]
      refine iteT (no (Same.refl _) ?_)
      unfold letsBy
      rw [decide_eq_false f]
      rfl
    rw [e]
    refine iteF ?_
    -- not is_letter(letter)
    refine ⟨_, rfl, c, rfl, hc, fun H1 sm1 => ⟨_, rfl, iteB (fun h2 => ?_) (fun h2 => ?_)⟩⟩
    · refine no sm1 ?_
      have : isLetter c = false := by simpa using h2
      unfold letsBy
      simp [this]
    have hlet : isLetter c = true := by simpa using h2
    -- len(row) > MOST_ROW
    refine ⟨_, rfl, w0, _, rfl, .inl (SqL.of (sm1 _ _ hw0)), _, _, rfl, rfl, _, rfl, iteB (fun h3 => ?_) (fun h3 => ?_)⟩
    · refine no sm1 ?_
      have h3' : (3 : Int) < ((row.map V.str).length : Nat) := of_decide_eq_true h3
      rw [List.length_map] at h3'
      have : ¬ row.length ≤ 3 := by omega
      unfold letsBy
      simp [this]
    have h3' : ¬ (3 : Int) < ((row.map V.str).length : Nat) := of_decide_eq_false h3
    rw [List.length_map] at h3'
    have hrl3 : row.length ≤ 3 := by omega
    -- all([one in self.stored for one in row])
    refine ⟨_, rfl, w0, rfl, ⟨_, SqL.of (sm1 _ _ hw0)⟩, fun D hD => lc_scal (K := K) (ys := (row.map fun x => decide (x ∈ names)).map V.bl) (SqL.of (sm1 _ _ hw0)) hD (by simp) (by rw [List.length_map]; omega) (fun _ => rfl) (fun i x y H' Q' g1 g2 sm k => ?_) (fun H2 sm2 hl2 => ?_)⟩
    · obtain ⟨x, hx, rfl⟩ := map_at g1
      rw [List.map_map] at g2
      have ey := map_get hx g2
      subst ey
      have smx := sm1.trans sm
      refine ⟨_, rfl, _, rfl, g, _, _, _, _, rfl, smx _ _ hg, T.cl_Grammar, T.n_Grammar_stored, gfs_stored _ _ _, st, _, rfl, DGet.k (k := Sum.inr x) (smx _ _ hst.1), ?_⟩
      have fin := k H' (Same.refl _)
      rcases hst.look x with ⟨e, f⟩ | ⟨_, _, _, _, e, f, _⟩
      · rw [e]
        show Q' (V.bl false) H'
        have : (V.bl ∘ fun x => decide (x ∈ names)) x = V.bl false := by show V.bl (decide (x ∈ names)) = _; rw [decide_eq_false f]
        rw [this] at fin
        exact fin
      · rw [e]
        show Q' (V.bl true) H'
        have : (V.bl ∘ fun x => decide (x ∈ names)) x = V.bl true := by show V.bl (decide (x ∈ names)) = _; rw [decide_eq_true f]
        rw [this] at fin
        exact fin
    have smx := sm1.trans sm2
    refine ⟨D, _, rfl, SqL.of hl2, _, rfl, iteB (fun h4 => ?_) (fun h4 => ?_)⟩
    · refine no smx ?_
      have : (row.all fun x => decide (x ∈ names)) = false := by rw [List.all_map] at h4; simpa using h4
      unfold letsBy
      rw [this]
      simp
    have hall : (row.all fun x => decide (x ∈ names)) = true := by rw [List.all_map] at h4; simpa using h4
    -- the rest
    obtain ⟨ts, ht1, ht2⟩ := hL
    have htl : ts.length = (rulesOf rs n).length := paired_len ht2
    refine ⟨_, rfl, g, _, _, _, _, rfl, smx _ _ hg, T.cl_Grammar, T.n_Grammar_stored, gfs_stored _ _ _, _, rfl, st, _, rfl, .inl ⟨_, Sum.inr n, .inl (smx _ _ hst.1), rfl, e.symm⟩, l, _, rfl, .inl (SqL.of (smx _ _ ht1)), _, _, rfl, rfl, _, rfl, iteB (fun h5 => ?_) (fun h5 => ?_)⟩
    · have h5' : ((ts.map V.ref).length : Int) < 4 := of_decide_eq_true h5
      rw [List.length_map, htl] at h5'
      refine ⟨_, rfl, _, rfl, w0, _, rfl, .inl (SqL.of (smx _ _ hw0)), fun w hw => ⟨sl2 (by show 2 ≤ 1000000; decide), fun u hu3 => ?_⟩⟩
      have sm3 := (same_new hw (o := .lst (row.map V.str))).trans (same_new hu3 (o := .tup [.str c, .ref w]))
      have smy := smx.trans sm3
      have hwU : (upd (upd H2 w (.lst (row.map V.str))) u (.tup [.str c, .ref w])) w = some (.lst (row.map V.str)) := by rw [upd_ne (ne_of_none upd_same hu3), upd_same]
      refine ⟨_, rfl, g, _, _, _, _, rfl, smy _ _ hg, T.cl_Grammar, T.n_Grammar_stored, gfs_stored _ _ _, _, rfl, st, _, rfl, .inl ⟨_, Sum.inr n, .inl (smy _ _ hst.1), rfl, e.symm⟩, ?_⟩
      refine ⟨eRow (c, row), (rulesOf rs n).map eRow, dp_row ⟨w, upd_same, hwU⟩, .inl (dp_rows (ListAt.same smy ⟨ts, ht1, ht2⟩)), Nat.le_trans (dep_Row _) (by decide), ?_⟩
      rw [any_enc enc_Row]
      have e9 : letsBy names rs (n, c, row) = !decide ((c, row) ∈ rulesOf rs n) := by
        unfold letsBy
        rw [hall]
        simp [f, hlet, hrl3, show (rulesOf rs n).length < 4 by omega]
      have z := q _ smy
      rw [e9] at z
      exact Eq.mp (congrArg (fun b => Q (V.bl (!b)) _) (dec_any _ _)) z
    · refine no smx ?_
      have h5' : ¬ ((ts.map V.ref).length : Int) < 4 := of_decide_eq_false h5
      rw [List.length_map, htl] at h5'
      have : ¬ (rulesOf rs n).length < 4 := by omega
      unfold letsBy
      rw [decide_eq_false this]
      simp
end
section
variable {P : Program} {w : World} {K : PySem.W.Frag} {mg : Str → Option Value} {base : Heap} {A : Ad}
theorem rulesOf_len (rs : List Rule) (n : Str) : (rulesOf rs n).length ≤ rs.length := by
  unfold rulesOf
  rw [List.length_map]
  exact List.length_filter_le _ _
theorem putK_fresh {names : List Str} {ls : List Addr} {n : Str} {l : Addr} (hl : names.length = ls.length) (h : n ∉ names) : putK (zipK names ls) (Sum.inr n : Key) (V.ref l) = zipK (names ++ [n]) (ls ++ [l]) := by
  have e : valV (zipK names ls) (Sum.inr n : Key) = none := by
    rcases zipK_val hl n with ⟨h1, _⟩ | ⟨_, _, _, _, _, h2⟩
    · exact h1
    · exact absurd h2 h
  rw [putK_new _ e]
  unfold zipK
  rw [List.zipWith_append hl]
  rfl
def sp_G_init (K : PySem.W.Frag) (C : Addr) : Sp := fun vs H Q _ => ∃ (g dx na ru : Addr) (names : List Str) (rs : List Rule), vs = [.ref g, .ref na, .ref ru] ∧ H g = some (.ins C dx []) ∧ H na = some (.lst (names.map V.str)) ∧ areNames names = true ∧ (∀ x ∈ names, x.length ≤ 1000000) ∧
  TriosAt H ru rs ∧ rulesOk names rs ∧ rs.length ≤ 100 ∧ (∀ r ∈ rs, r.2.1.length ≤ 1000000 ∧ r.2.2.length ≤ 1000) ∧ ∀ H', (∀ b o, H b = some o → b ≠ g → H' b = some o) → (∃ dx kn st od ls, Bld C g dx kn st od H H' names ls rs) → Q .non H'
theorem ok_Grammar___init__ (T : Txt K mg A) : FnOk P w K mg base CX0 4 A.a_Grammar___init__ A.d_Grammar___init__ ["self", "names", "rules"] (sp_G_init K A.c_Grammar) := by
  have G_are_names : FnOk P w K mg base CX0 3 A.a_are_names A.d_are_names ["names"] (sp_are_names K) := ok_are_names T
  have G_Grammar_lets_by : FnOk P w K mg base CX0 3 A.a_Grammar_lets_by A.d_Grammar_lets_by ["self", "rule"] (sp_lets_by A.c_Grammar) := ok_Grammar_lets_by T
  refine T.F_Grammar___init__.ok sc_Grammar___init__ (fun vs H Q E h => ?_) (fun cdv A0 outer s H vs Q E hr h => ?_)
  · obtain ⟨g, _, _, _, _, _, rfl, _⟩ := h
    rfl
  · obtain ⟨g, dx, na, ru, names, rs, rfl, hg, hna, hok, hnl, hru, hrs, hrl, hrb, q⟩ := h
    have hu := hu_of hr
    have hok' := hok
    unfold areNames at hok'
    simp only [Bool.and_eq_true, decide_eq_true_eq] at hok'
    obtain ⟨⟨⟨hn1, hn6⟩, hnd⟩, _⟩ := hok'
    refine ⟨_, (pss_cons (ps_if (pt_not (pt_val (pe_call G_are_names (hr.mono (by decide)) (by rfl) T.g_are_names T.F_are_names.kp T.b_are_names .nil pass0 (pa_cons (pv 1) pa_nil)))) (pss_one ps_never) pss_nil)
 (pss_cons (ps_fld (pv 0) (pe_callTy (T := "list") (r := Evl.rListS K) call_list_of (by rfl) T.list_ (by decide +kernel) (pa_cons (pv 1) pa_nil)) rfl)
 (pss_cons (ps_fld (pv 0) pe_dnewK rfl)
 (pss_cons (ps_fld (pv 0) (pe_lst pa_nil) rfl)
 (pss_cons (ps_for PassesOwn.never rfl (pi_list (pv 1)) (pg_name (i := 3) sc_Grammar___init__.nd rfl (Or.inl rfl))
 (pss_one (ps_dput hu (pe_fld (pv 0) rfl) (pv 3) (pe_lst pa_nil) rfl)))
 (pss_one (ps_for PassesOwn.never rfl (pi_enum (by rfl) T.enumerate (pa_cons (pv 2) pa_nil)) (pg_tup (by rfl) (pgs_cons (pg_name (i := 4) sc_Grammar___init__.nd rfl (Or.inl rfl)) (pgs_cons (pg_name (i := 5) sc_Grammar___init__.nd rfl (Or.inl rfl)) pgs_nil)))
 (pss_cons (ps_if (pt_not (pt_val (pe_meth (pv 0) T.cl_Grammar T.m_Grammar_lets_by G_Grammar_lets_by (hr.mono (by decide)) T.b_Grammar_lets_by .nil pass0 (pa_cons (pv 5) pa_nil)))) (pss_one ps_never) pss_nil)
 (pss_cons (ps_expr (pe_bm PySem.F.plainAttrs_list PySem.F.slot_list_append PySem.F.type_list_append mt_append (pe_dget hu (pe_fld (pv 0) rfl) (pe_ix (r := rIxT K) ix_tup (pv 5) pe_int (fun _ _ => rfl)) (fun _ _ => rfl)) (pa_cons (pe_tup (pa_cons (pe_ix (r := rIxT K) ix_tup (pv 5) pe_int (fun _ _ => rfl)) (pa_cons (pe_callTy (T := "list") (r := Evl.rListS K) call_list_of (by rfl) T.list_ (by decide +kernel) (pa_cons (pe_ix (r := rIxT K) ix_tup (pv 5) pe_int (fun _ _ => rfl)) pa_nil)) pa_nil))) pa_nil)))
 (pss_one (ps_expr (pe_bm PySem.F.plainAttrs_list PySem.F.slot_list_append PySem.F.type_list_append mt_append (pe_fld (pv 0) rfl) (pa_cons (pe_ix (r := rIxT K) ix_tup (pv 5) pe_int (fun _ _ => rfl)) pa_nil))))))))))))), ?_⟩
    refine ⟨_, rfl, na, names, rfl, SqL.of hna, by omega, hnl, fun H1 sm1 => ⟨_, rfl, iteNE hok ?_⟩⟩
    -- self.known = list(names)
    refine ⟨_, rfl, na, _, rfl, .inl (SqL.of (sm1 _ _ hna)), fun kn hkn => ?_⟩
    have ngk : g ≠ kn := ne_of_none (sm1 _ _ hg) hkn
    refine ⟨_, rfl, g, A.c_Grammar, dx, [], rfl, same_new hkn _ _ (sm1 _ _ hg), T.cl_Grammar, T.n_Grammar_known, by show 0 < 1000; decide, ?_⟩
    -- self.stored = {}
    intro st hst
    have ngs : g ≠ st := fun z => by rw [z, upd_same] at hst; cases hst
    refine ⟨_, rfl, g, A.c_Grammar, dx, _, rfl, same_new hst _ _ upd_same, T.cl_Grammar, T.n_Grammar_stored, by show 1 < 1000; decide, ?_⟩
    -- self.order = []
    refine ⟨Nat.zero_le _, fun od hod => ?_⟩
    have ngo : g ≠ od := fun z => by rw [z, upd_same] at hod; cases hod
    refine ⟨_, rfl, g, A.c_Grammar, dx, _, rfl, same_new hod _ _ upd_same, T.cl_Grammar, T.n_Grammar_order, ?_, ?_⟩
    · have h1 := length_putF "stored" (V.ref st) (putF "known" (V.ref kn) ([] : List (Str × V)))
      have h2 := length_putF "known" (V.ref kn) ([] : List (Str × V))
      rw [List.length_nil] at h2
      omega
    have nks : st ≠ kn := fun z => by
      rw [z, upd_ne ngk.symm, upd_same] at hst
      cases hst
    have nos : od ≠ st := fun z => by
      rw [z, upd_ne ngs.symm, upd_same] at hod
      cases hod
    have nok : od ≠ kn := fun z => by
      rw [z, upd_ne ngk.symm, upd_ne nks.symm, upd_ne ngk.symm, upd_same] at hod
      cases hod
    generalize hH4 : upd (upd (upd (upd (upd (upd H1 kn (.lst (names.map V.str))) g (.ins A.c_Grammar dx (putF "known" (.ref kn) []))) st (.dK [])) g (.ins A.c_Grammar dx (putF "stored" (.ref st) (putF "known" (.ref kn) [])))) od (.lst [])) g (.ins A.c_Grammar dx (putF "order" (.ref od) (putF "stored" (.ref st) (putF "known" (.ref kn) [])))) = H4
    have g4 : H4 g = some (.ins A.c_Grammar dx (gfs kn st od)) := by rw [← hH4]; exact upd_same
    have k4 : H4 kn = some (.lst (names.map V.str)) := by rw [← hH4, upd_ne ngk.symm, upd_ne nok.symm, upd_ne ngk.symm, upd_ne nks.symm, upd_ne ngk.symm, upd_same]
    have s4 : H4 st = some (.dK []) := by rw [← hH4, upd_ne ngs.symm, upd_ne nos.symm, upd_ne ngs.symm, upd_same]
    have o4 : H4 od = some (.lst []) := by rw [← hH4, upd_ne ngo.symm, upd_same]
    have fk : H kn = none := sm1.free hkn
    have fs : H st = none := by
      rw [upd_ne ngs.symm, upd_ne nks] at hst
      exact sm1.free hst
    have fk : H kn = none := sm1.free hkn
    have fs : H st = none := by
      cases e : H st with
      | none => rfl
      | some o =>
        have e1 := sm1 _ _ e
        rw [upd_ne ngs.symm, upd_ne nks, e1] at hst
        cases hst
    have fo : H od = none := by
      rw [upd_ne ngo.symm, upd_ne nos, upd_ne ngo.symm, upd_ne nok] at hod
      exact sm1.free hod
    have base4 : ∀ b o, H b = some o → b ≠ g → H4 b = some o := fun b o h n => by
      rw [← hH4, upd_ne n, upd_ne (ne_of_none h fo), upd_ne n, upd_ne (ne_of_none h fs), upd_ne n, upd_ne (ne_of_none h fk)]
      exact sm1 _ _ h
    clear hH4 hst hod hkn
    have nna : na ≠ g := ne_of hna hg (by intro z; cases z)
    -- for name in names: self.stored[name] = []
    refine ⟨_, rfl, na, rfl, ⟨_, SqL.of (base4 _ _ hna nna)⟩, for_list (K := K) (a := na) (xs := names.map V.str) (fun i σ' H' => ∃ (x3 : Option V) (ls : List Addr), σ' = [some (.ref g), some (.ref na), some (.ref ru), x3, none, none] ∧
        (∀ b o, H b = some o → b ≠ g → H' b = some o) ∧ H' g = some (.ins A.c_Grammar dx (gfs kn st od)) ∧ H' kn = some (.lst (names.map V.str)) ∧ H' st = some (.dK (zipK (names.take i) ls)) ∧ H' od = some (.lst []) ∧ ls.Nodup ∧ (∀ l ∈ ls, H l = none) ∧ kn ∉ ls ∧ od ∉ ls ∧ ls.length = i ∧ ∀ l ∈ ls, H' l = some (.lst [])) ?_ ?_ ?_ ?_⟩
    · exact ⟨none, [], rfl, base4, g4, k4, s4, o4, by simp, by simp, by simp, by simp, rfl, by simp⟩
    · rintro i σ' H' _ ⟨_, _, rfl, b5, _⟩
      exact SqL.of (b5 _ _ hna nna)
    · rintro i x σ' H5 hi ⟨x3, ls, rfl, b5, g5, k5, s5, o5, nd5, fr5, nk5, no5, hl5, em5⟩
      obtain ⟨n, hn, rfl⟩ := map_at hi
      have hil := (List.getElem?_eq_some_iff.mp hn).1
      refine ⟨Nat.zero_le _, fun l hl => ?_⟩
      have sml := same_new hl (o := .lst [])
      have hst6 := sml _ _ s5
      have hnl6 : l ∉ ls := fun z => by rw [em5 l z] at hl; cases hl
      refine ⟨_, rfl, g, _, _, _, _, rfl, sml _ _ g5, T.cl_Grammar, T.n_Grammar_stored, gfs_stored _ _ _, _, rfl, st, _, rfl, DPut.k (k := Sum.inr n) hst6 ?_, ?_⟩
      · have : (zipK (names.take i) ls).length ≤ 6 := by
          unfold zipK
          rw [List.length_zipWith, List.length_take]
          omega
        exact sl1 (by omega)
      have hnn : n ∉ names.take i := fun z => by
        obtain ⟨j, hj⟩ := List.mem_iff_getElem?.mp z
        rw [List.getElem?_take] at hj
        by_cases hji : j < i
        · rw [if_pos hji] at hj
          have := nd_ix hnd hj hn
          omega
        · rw [if_neg hji] at hj
          cases hj
      have kp : ∀ (x : Addr) (o : HO), H5 x = some o → o ≠ .dK (zipK (names.take i) ls) → (upd (upd H5 l (.lst [])) st (.dK (putK (zipK (names.take i) ls) (Sum.inr n) (.ref l)))) x = some o := fun x o h n => by
        rw [upd_ne (ne_of h s5 n)]
        exact sml _ _ h
      have nls : l ≠ st := ne_of upd_same hst6 (by intro z; cases z)
      refine ⟨_, ls ++ [l], rfl, fun b o h n2 => ?_, kp _ _ g5 (by intro z; cases z), kp _ _ k5 (by intro z; cases z), ?_, kp _ _ o5 (by intro z; cases z), ?_, ?_, ?_, ?_, by simp [hl5], ?_⟩
      · rw [upd_ne (ne_of_none h fs)]
        exact sml _ _ (b5 b o h n2)
      · rw [upd_same, putK_fresh (by rw [List.length_take]; omega) hnn, take_snoc hn]
      · rw [List.nodup_append]
        refine ⟨nd5, by simp, fun x hx y hy z => hnl6 ?_⟩
        rw [List.mem_singleton.mp hy] at z
        exact z ▸ hx
      · intro y hy
        rcases List.mem_append.mp hy with hy | hy
        · exact fr5 y hy
        · rw [List.mem_singleton.mp hy]
          cases e : H l with
          | none => rfl
          | some o =>
            by_cases hlg : l = g
            · rw [hlg, g5] at hl; cases hl
            · rw [b5 l o e hlg] at hl; cases hl
      · rw [List.mem_append, not_or]
        exact ⟨nk5, fun z => by rw [List.mem_singleton.mp z] at k5; rw [k5] at hl; cases hl⟩
      · rw [List.mem_append, not_or]
        exact ⟨no5, fun z => by rw [List.mem_singleton.mp z] at o5; rw [o5] at hl; cases hl⟩
      · intro y hy
        rcases List.mem_append.mp hy with hy | hy
        · exact kp _ _ (em5 y hy) (by intro z; cases z)
        · rw [List.mem_singleton.mp hy, upd_ne nls, upd_same]
    rintro σ' H5 ⟨x3, ls, rfl, b5, g5, k5, s5, o5, nd5, fr5, nk5, no5, hl5, em5⟩
    rw [List.length_map, List.take_length] at s5
    rw [List.length_map] at hl5
    have bld : Bld A.c_Grammar g dx kn st od H H5 names ls [] := by
      refine ⟨b5, g5, k5, s5, o5, nd5, fr5, fo, fk, fs, ?_, no5, ?_⟩
      · rw [List.mem_cons, not_or]
        exact ⟨nok.symm, nk5⟩
      · refine paired_all (by omega) fun i n l h1 h2 => ⟨[], em5 l (List.mem_of_getElem? h2), ?_⟩
        exact .nil
    clear b5 g5 k5 s5 o5 nd5 fr5 nk5 no5 em5
    -- for at, rule in enumerate(rules)
    obtain ⟨ts, hts, htr⟩ := hru
    have ntu : ru ≠ g := ne_of hts hg (by intro z; cases z)
    have htl : ts.length = rs.length := paired_len htr
    refine ⟨_, rfl, ru, _, rfl, SqL.of (bld.base _ _ hts ntu), for_it (walk_enum (a := ru) (xs := ts.map V.ref)) (fun i σ' H' => ∃ x3 x4 x5 : Option V, σ' = [some (.ref g), some (.ref na), some (.ref ru), x3, x4, x5] ∧ Bld A.c_Grammar g dx kn st od H H' names ls (rs.take i)) ?_ ?_ ?_ ?_⟩
    · exact ⟨_, _, _, rfl, bld⟩
    · rintro i σ' H' _ ⟨_, _, _, rfl, b⟩
      exact SqL.of (b.base _ _ hts ntu)
    · rintro i x σ' H6 H7 hi ⟨x3, x4, x5, rfl, b⟩ ⟨T0, y1, y2, rfl, hT, rfl, e1, e2⟩
      have e1 := Option.some.inj e1
      subst e1
      obtain ⟨t, hti, rfl⟩ := map_at e2
      obtain ⟨r, hr1, w0, hw1, hw2⟩ := paired_get htr hti
      have b7 : Bld A.c_Grammar g dx kn st od H (upd H6 T0 (.tup [.int i, .ref t])) names ls (rs.take i) := b.same (same_new hT)
      refine ⟨T0, _, rfl, SqT.of upd_same, rfl, _, _, rfl, _, _, rfl, rfl, ?_⟩
      have ht7 : (upd H6 T0 (.tup [.int i, .ref t])) t = some (.tup [.str r.1, .str r.2.1, .ref w0]) := b7.base _ _ hw1 (ne_of hw1 hg (by intro z; cases z))
      have hw7 : (upd H6 T0 (.tup [.int i, .ref t])) w0 = some (.lst (r.2.2.map V.str)) := b7.base _ _ hw2 (ne_of hw2 hg (by intro z; cases z))
      generalize (upd H6 T0 (.tup [.int i, .ref t])) = H8 at b7 ht7 hw7 ⊢
      have hrm := List.mem_of_getElem? hr1
      have hlets := hrs i r hr1
      have hin : r.1 ∈ names := by
        unfold letsBy at hlets
        simp only [Bool.and_eq_true, decide_eq_true_eq] at hlets
        exact hlets.1.1.1.1.1
      have hrt : (rulesOf (rs.take i) r.1).length ≤ 1000 := by
        have h1 := rulesOf_len (rs.take i) r.1
        rw [List.length_take] at h1
        omega
      refine ⟨_, rfl, g, _, _, rfl, b7.ins, gfs_no _ _ _ (by decide +kernel) (by decide +kernel) (by decide +kernel), _, rfl, g, t, dx, kn, st, od, ls, names, rs.take i, r, rfl, b7.ins, b7.stored, ⟨w0, ht7, hw7⟩, (hrb r hrm).1, (hrb r hrm).2, hrt, fun H9 sm9 => ⟨_, rfl, iteNE hlets ?_⟩⟩
      have b9 := b7.same sm9
      rcases b9.stored.look r.1 with ⟨_, f⟩ | ⟨j, l, hj, hl, el, _, us, hus, hup⟩
      · exact absurd hin f
      have ht9 := sm9 _ _ ht7
      have hw9 := sm9 _ _ hw7
      -- self.stored[rule[0]].append((rule[1], list(rule[2])))
      refine ⟨_, rfl, g, _, _, _, _, rfl, b9.ins, T.cl_Grammar, T.n_Grammar_stored, gfs_stored _ _ _, _, rfl, t, _, _, _, rfl, rfl, SqT.of ht9, atI_nat (j := 0) rfl, st, _, rfl, .inl ⟨_, Sum.inr r.1, .inl b9.sd, rfl, el.symm⟩, .inl ⟨rfl, _, SqL.of hus⟩, ?_⟩
      refine ⟨_, rfl, t, _, _, _, rfl, rfl, SqT.of ht9, atI_nat (j := 1) rfl, _, rfl, t, _, _, _, rfl, rfl, SqT.of ht9, atI_nat (j := 2) rfl, w0, _, rfl, .inl (SqL.of hw9), fun w hw => ⟨sl2 (by show 2 ≤ 1000000; decide), fun u hu3 => ?_⟩⟩
      have sm2 := (same_new hw (o := .lst (r.2.2.map V.str))).trans (same_new hu3 (o := .tup [.str r.2.1, .ref w]))
      have b10 := b9.same sm2
      have hwU : (upd (upd H9 w (.lst (r.2.2.map V.str))) u (.tup [.str r.2.1, .ref w])) w = some (.lst (r.2.2.map V.str)) := by rw [upd_ne (ne_of_none upd_same hu3), upd_same]
      have huU : (upd (upd H9 w (.lst (r.2.2.map V.str))) u (.tup [.str r.2.1, .ref w])) u = some (.tup [.str r.2.1, .ref w]) := upd_same
      have hus10 := sm2 _ _ hus
      have hw0' : H9 w = none := hw
      have hu0 : H9 u = none := (same_new hw).free hu3
      have ht10 := sm2 _ _ ht9
      have hwb : w ∉ od :: ls := fun z => by
        rcases List.mem_cons.mp z with z | z
        · rw [z, b9.hod] at hw; cases hw
        · obtain ⟨j', hj'⟩ := List.mem_iff_getElem?.mp z
          have hn' : ∃ n', names[j']? = some n' := ⟨_, List.getElem?_eq_getElem (by rw [paired_len b9.prs]; exact (List.getElem?_eq_some_iff.mp hj').1)⟩
          obtain ⟨n', hn'⟩ := hn'
          obtain ⟨_, g1, _⟩ := paired_ix b9.prs hn' hj'
          rw [g1] at hw; cases hw
      generalize (upd (upd H9 w (.lst (r.2.2.map V.str))) u (.tup [.str r.2.1, .ref w])) = H10 at b10 hwU huU hus10 ht10 sm2 ⊢
      have hul : us.length = (rulesOf (rs.take i) r.1).length := paired_len hup
      refine ⟨l, _, _, rfl, rfl, hus10, by rw [List.length_map, hul]; exact sl1 (by omega), ?_⟩
      -- self.order.append(rule[0])
      have nlo : l ≠ od := fun z => b10.odl (z ▸ List.mem_of_getElem? hl)
      have ho10 : (upd H10 l (.lst (us.map V.ref ++ [.ref u]))) od = some (.lst (((rs.take i).map (·.1)).map V.str)) := by rw [upd_ne nlo.symm]; exact b10.hod
      have hg10 : (upd H10 l (.lst (us.map V.ref ++ [.ref u]))) g = some (.ins A.c_Grammar dx (gfs kn st od)) := by rw [upd_ne (ne_of b10.ins hus10 (by intro z; cases z))]; exact b10.ins
      have ht11 : (upd H10 l (.lst (us.map V.ref ++ [.ref u]))) t = some (.tup [.str r.1, .str r.2.1, .ref w0]) := by rw [upd_ne (ne_of ht10 hus10 (by intro z; cases z))]; exact ht10
      refine ⟨_, rfl, g, _, _, _, _, rfl, hg10, T.cl_Grammar, T.n_Grammar_order, gfs_order _ _ _, .inl ⟨rfl, _, SqL.of ho10⟩, _, rfl, t, _, _, _, rfl, rfl, SqT.of ht11, atI_nat (j := 0) rfl, od, _, _, rfl, rfl, ho10, by rw [List.length_map, List.length_map, List.length_take]; exact sl1 (by omega), ?_⟩
      refine ⟨_, _, _, rfl, ?_⟩
      rw [take_snoc hr1]
      exact b10.put hnd hj hl hus10 (b9.fresh hu0) (b9.fresh hw0') huU hwU hwb rfl
    · rintro σ' H6 ⟨x3, x4, x5, rfl, b⟩
      rw [List.length_map, htl, List.take_length] at b
      exact q H6 b.base ⟨dx, kn, st, od, ls, b⟩
end
section
variable {P : Program} {w : World} {K : PySem.W.Frag} {mg : Str → Option Value} {base : Heap} {A : Ad}
/-! ### steps -/
def sp_look (C : Addr) : Sp := fun vs H Q _ => ∃ (g a : Addr) (names : List Str) (rs : List Rule) (row : List Str), vs = [.ref g, .ref a] ∧ GramAt C H g names rs ∧ H a = some (.lst (row.map V.str)) ∧ (∀ x ∈ row, x ∈ names) ∧ Q .non H
theorem ok_look_at_names (T : Txt K mg A) : FnOk P w K mg base CX0 2 A.a_look_at_names A.d_look_at_names ["grammar", "row"] (sp_look A.c_Grammar) := by
  have G_Grammar_has : FnOk P w K mg base CX0 1 A.a_Grammar_has A.d_Grammar_has ["self", "name"] (sp_G_has A.c_Grammar) := ok_Grammar_has T
  refine T.F_look_at_names.ok sc_look_at_names (fun vs H Q E h => ?_) (fun cdv A0 outer s0 H vs Q E hr h => ?_)
  · obtain ⟨_, _, _, _, _, rfl, _⟩ := h
    rfl
  · obtain ⟨g, a, names, rs, row, rfl, G, ha, hin, q⟩ := h
    obtain ⟨dx, kn, st, od, hg⟩ := G.ins
    refine ⟨_, (pss_one (ps_for PassesOwn.never rfl (pi_list (pv 1)) (pg_name (i := 2) sc_look_at_names.nd rfl (Or.inl rfl))
 (pss_one (ps_if (pt_not (pt_val (pe_meth (pv 0) T.cl_Grammar T.m_Grammar_has G_Grammar_has (hr.mono (by decide)) T.b_Grammar_has .nil pass0 (pa_cons (pv 2) pa_nil)))) (pss_one ps_never) pss_nil)))), ?_⟩
    refine ⟨_, rfl, a, rfl, ⟨_, SqL.of ha⟩, for_list (K := K) (a := a) (xs := row.map V.str) (fun i σ' H' => ∃ x2 : Option V, σ' = [some (.ref g), some (.ref a), x2] ∧ H' = H) ?_ ?_ ?_ ?_⟩
    · exact ⟨_, rfl, rfl⟩
    · rintro i σ' H' _ ⟨_, rfl, rfl⟩
      exact SqL.of ha
    · rintro i x σ' H' hi ⟨x2, rfl, rfl⟩
      obtain ⟨n, hn, rfl⟩ := map_at hi
      have hm := hin n (List.mem_of_getElem? hn)
      refine ⟨_, rfl, g, _, _, rfl, hg, gfs_no _ _ _ (by decide +kernel) (by decide +kernel) (by decide +kernel), _, rfl, g, names, rs, n, rfl, G, _, rfl, iteNE (decide_eq_true hm) ?_⟩
      exact ⟨_, rfl, rfl⟩
    · rintro σ' H' ⟨_, rfl, rfl⟩
      exact q
end
section
variable {P : Program} {w : World} {K : PySem.W.Frag} {mg : Str → Option Value} {base : Heap} {A : Ad}
/-! ### norms -/
def sp_added : Sp := fun vs H Q _ => ∃ (d a : Addr) (kvs : List (Key × V)) (wt : Wt) (row : List Str), vs = [.ref d, .ref a] ∧ H d = some (.dK kvs) ∧ (∀ x ∈ row, valV kvs (Sum.inr x : Key) = some (optV (wt x))) ∧ H a = some (.lst (row.map V.str)) ∧ row.length ≤ 1000000 ∧ ∀ H', Same H H' → Q (optV (addW wt row)) H'
theorem ok_added_up (T : Txt K mg A) : FnOk P w K mg base CX0 1 A.a_added_up A.d_added_up ["norms", "row"] sp_added := by
  refine T.F_added_up.ok sc_added_up (fun vs H Q E h => ?_) (fun cdv A0 outer s0 H vs Q E hr h => ?_)
  · obtain ⟨_, _, _, _, _, rfl, _⟩ := h
    rfl
  · obtain ⟨d, a, kvs, wt, row, rfl, hd, hval, ha, hl, q⟩ := h
    have hu := hu_of hr
    have hu64 := hu64_of hr
    refine ⟨_, (pss_cons (ps_setLc (i := 2) (own := [("name", 3)]) (g := gName 3) (by rfl) sc_added_up.nd rfl rfl (sw_true rfl rfl rfl (by decide +kernel)) (pi_list (pv 1)) (blkOk_by (own := [("name", 3)]) (N := ["norms", "row", "some", "name"]) (sc := defScope s_added_up) (by decide +kernel)) (fun _ _ _ _ _ => (pg_name (i := 3) sc_added_up.nd rfl (Or.inl rfl))) (fun _ _ _ _ _ => pts_nil) (fun _ _ _ _ _ => (pe_dget hu (pv 0) (pv 3) (fun _ _ => rfl))))
 (pss_cons (ps_if (pt_cmpR (r := rInP K) (op_inP hu64) pe_non (pv 2) (by rfl)) (pss_one (ps_ret pe_non)) pss_nil)
 (pss_one (ps_ret (pe_callB (id := "sum") (r := rSum K) (cr_sum rfl) (by rfl) T.sum (by decide +kernel) (pa_cons (pv 2) pa_nil)))))), ?_⟩
    refine ⟨_, rfl, a, rfl, ⟨_, SqL.of ha⟩, fun D hD => lc_scal (K := K) (ys := (row.map wt).map optV) (SqL.of ha) hD (by simp) (by rw [List.length_map]; exact hl) (fun _ => rfl) (fun i x y H' Q' g1 g2 sm k => ?_) (fun H2 sm2 hl2 => ?_)⟩
    · obtain ⟨x1, hx1, rfl⟩ := map_at g1
      have hx2 : (row.map wt)[i]? = some (wt x1) := by rw [List.getElem?_map, hx1]; rfl
      have ey := map_get hx2 g2
      subst ey
      exact ⟨_, rfl, _, rfl, d, _, rfl, .inl ⟨kvs, Sum.inr x1, .inl (sm _ _ hd), rfl, (hval x1 (List.mem_of_getElem? hx1)).symm⟩, k _ fun _ _ h => h⟩
    refine ⟨_, rfl, oD none, (row.map wt).map oD, .non, .inl (.lst (SqL.of hl2) (dpAll_oD _)), Nat.le_trans (dep_oD none) (by decide), _, rfl, ?_⟩
    rw [any_enc enc_oD]
    refine iteB (fun hc => ?_) (fun hc => ?_)
    · have e : addW wt row = none := addW_none.mpr (by simpa using hc)
      rw [e] at q
      exact q _ sm2
    · have e : addW wt row ≠ none := fun z => by
        have h1 := addW_none.mp z
        rw [decide_eq_false_iff_not] at hc
        exact hc (by simpa using h1)
      cases e2 : addW wt row with
      | none => exact absurd e2 e
      | some s =>
        obtain ⟨ns, e3, e4⟩ := addW_some e2
        rw [e2] at q
        rw [e3] at hl2
        refine ⟨_, rfl, D, ns, rfl, SqL.of hl2, ?_⟩
        rw [e4]
        exact q _ sm2
theorem RuleAt.dict {H : Hp} {d t : Addr} {kvs kvs2 : List (Key × V)} {p : Str × List Str} (hd : H d = some (.dK kvs)) (h : RuleAt H t p) : RuleAt (upd H d (.dK kvs2)) t p := by
  obtain ⟨w, h1, h2⟩ := h
  exact ⟨w, by rw [upd_ne (ne_of h1 hd (by intro z; cases z))]; exact h1, by rw [upd_ne (ne_of h2 hd (by intro z; cases z))]; exact h2⟩
def sp_norms (C : Addr) : Sp := fun vs H Q _ => ∃ (g : Addr) (names : List Str) (rs : List Rule), vs = [.ref g] ∧ GramAt C H g names rs ∧ names.Nodup ∧ names.length ≤ 1000 ∧ (∀ r ∈ rs, r.1 ∈ names ∧ ∀ x ∈ r.2.2, x ∈ names) ∧ ShortR rs ∧ ∀ p H', H p = none → Same H H' → H' p = some (.dK (kvsW names (normW rs))) → Q (.ref p) H'
theorem ok_norms (T : Txt K mg A) : FnOk P w K mg base CX0 2 A.a_norms A.d_norms ["grammar"] (sp_norms A.c_Grammar) := by
  have G_Grammar_names : FnOk P w K mg base CX0 1 A.a_Grammar_names A.d_Grammar_names ["self"] (sp_G_names A.c_Grammar) := ok_Grammar_names T
  have G_Grammar_rules_of : FnOk P w K mg base CX0 1 A.a_Grammar_rules_of A.d_Grammar_rules_of ["self", "name"] (sp_G_rules_of A.c_Grammar) := ok_Grammar_rules_of T
  have G_added_up : FnOk P w K mg base CX0 1 A.a_added_up A.d_added_up ["norms", "row"] sp_added := ok_added_up T
  refine T.F_norms.ok sc_norms (fun vs H Q E h => ?_) (fun cdv A0 outer s0 H vs Q E hr h => ?_)
  · obtain ⟨_, _, _, rfl, _⟩ := h
    rfl
  · obtain ⟨g, names, rs, rfl, G, hnd, hnl, hin, hsh, q⟩ := h
    have hu := hu_of hr
    obtain ⟨dx, kn, st, od, hg⟩ := G.ins
    have nm : ∀ {m : Str}, ¬ m = "known" → ¬ m = "stored" → ¬ m = "order" → (gfs kn st od).lookup m = none := gfs_no kn st od
    have hEf : ∀ e ∈ edP names rs, e.1 ∈ names := edP_fst
    refine ⟨_, (pss_cons (ps_set (i := 1) sc_norms.nd rfl (Or.inl rfl) (pe_callTy (T := "dict") (r := rDictP K) (call_dictP rfl) (by rfl) T.dict_ (by decide +kernel) (pa_cons (pe_lc (own := [("name", 3)]) (g := gName 3) (by rfl) sc_norms.nd (pi_list (pe_meth0 (pv 0) T.cl_Grammar T.m_Grammar_names G_Grammar_names (hr.mono (by decide)) T.b_Grammar_names .nil pass0)) (blkOk_by (own := [("name", 3)]) (N := ["grammar", "found", "again", "name", "letter", "row", "norm"]) (sc := defScope s_norms) (by decide +kernel)) (fun _ _ _ _ _ => (pg_name (i := 3) sc_norms.nd rfl (Or.inl rfl))) (fun _ _ _ _ _ => pts_nil) (fun _ _ _ _ _ => (pe_tup (pa_cons (pv 3) (pa_cons pe_non pa_nil))))) pa_nil)))
 (pss_cons (ps_set (i := 2) sc_norms.nd rfl (Or.inl rfl) pe_bl)
 (pss_cons (ps_while PassesOwn.never (pt_val (pv 2)) (pss_cons (ps_set (i := 2) sc_norms.nd rfl (Or.inl rfl) pe_bl)
 (pss_one (ps_for PassesOwn.never rfl (pi_list (pe_meth0 (pv 0) T.cl_Grammar T.m_Grammar_names G_Grammar_names (hr.mono (by decide)) T.b_Grammar_names .nil pass0)) (pg_name (i := 3) sc_norms.nd rfl (Or.inl rfl))
 (pss_one (ps_for PassesOwn.never rfl (pi_list (pe_meth (pv 0) T.cl_Grammar T.m_Grammar_rules_of G_Grammar_rules_of (hr.mono (by decide)) T.b_Grammar_rules_of .nil pass0 (pa_cons (pv 3) pa_nil))) (pg_tup (by rfl) (pgs_cons (pg_name (i := 4) sc_norms.nd rfl (Or.inl rfl)) (pgs_cons (pg_name (i := 5) sc_norms.nd rfl (Or.inl rfl)) pgs_nil)))
 (pss_cons (ps_set (i := 6) sc_norms.nd rfl (Or.inl rfl) (pe_call G_added_up (hr.mono (by decide)) (by rfl) T.g_added_up T.F_added_up.kp T.b_added_up .nil pass0 (pa_cons (pv 1) (pa_cons (pv 5) pa_nil))))
 (pss_one (ps_if (PW.pt (pw_and (pt_cmpR op_notN (pv 6) pe_non (nomark _)) (pw_and1 (PW.pt (pw_or (pt_cmpR op_isN (pe_dget hu (pv 1) (pv 3) (fun _ _ => rfl)) pe_non (nomark _)) (pw_or1 (pt_cmpR op_lt (pe_op op_add (pv 6) pe_int) (pe_dget hu (pv 1) (pv 3) (fun _ _ => rfl)) (nomark _)))))))) (pss_cons (ps_dput hu (pv 1) (pv 3) (pe_op op_add (pv 6) pe_int) rfl)
 (pss_one (ps_set (i := 2) sc_norms.nd rfl (Or.inl rfl) pe_bl))) pss_nil)))))))))
 (pss_one (ps_ret (pv 1)))))), ?_⟩
    -- found
    refine ⟨_, rfl, g, _, _, rfl, hg, nm (by decide +kernel) (by decide +kernel) (by decide +kernel), g, names, rs, rfl, G, fun p1 H1 hp1 sm1 hl1 => ?_⟩
    refine ⟨p1, rfl, ⟨_, SqL.of hl1⟩, fun D hD => lc_list (K := K) (a := p1) (xs := names.map V.str) (fun i H' => Same H1 H' ∧ ∃ us : List Addr, H' D = some (.lst (us.map V.ref)) ∧ Paired (fun u n => u ≠ D ∧ H' u = some (.tup [.str n, .non])) us (names.take i)) ?_ ?_ ?_ ?_⟩
    · exact ⟨same_new hD, [], upd_same, .nil⟩
    · rintro i H' _ ⟨sm, _⟩
      exact SqL.of (sm _ _ hl1)
    · rintro i x H' hi ⟨sm, us, hu1, hu2⟩
      obtain ⟨n, hn, rfl⟩ := map_at hi
      refine ⟨rfl, tyes (iteT ?_)⟩
      refine ⟨_, rfl, sl2 (by show 2 ≤ 1000000; decide), fun u hu3 => ?_⟩
      have smu := same_new hu3 (o := .tup [.str n, .non])
      have nuD : u ≠ D := fun z => by rw [z, hu1] at hu3; cases hu3
      refine ⟨_, smu _ _ hu1, by rw [List.length_map, paired_len hu2, List.length_take]; exact sl1 (by omega), same_mut (sm.trans smu) hD, us ++ [u], by rw [upd_same, List.map_append]; rfl, ?_⟩
      rw [take_snoc hn]
      exact paired_app (F := fun u' n' => u' ≠ D ∧ (upd (upd H' u (.tup [.str n, .non])) D _) u' = some (.tup [.str n', .non])) ⟨nuD, by rw [upd_ne nuD, upd_same]⟩ (Paired.mapP hu2 fun _ _ ⟨a1, a2⟩ => ⟨a1, by rw [upd_ne a1]; exact smu _ _ a2⟩)
    rintro H2 ⟨sm2, us, hu1, hu2⟩
    rw [List.length_map, List.take_length] at hu2
    have hkv0 : Paired (fun p (kv : Key × V) => SqT K H2 p [kV kv.1, kv.2]) us (kvsW names (rounds (edP names rs) 0)) := by
      unfold kvsW
      refine paired_all (by rw [paired_len hu2, List.length_map]) fun i u kv h1 h2 => ?_
      obtain ⟨n, hn, rfl⟩ := map_at h2
      exact SqT.of (paired_ix hu2 h1 hn).2
    refine ⟨D, us, kvsW names (rounds (edP names rs) 0), rfl, SqL.of hu1, hkv0, fun d hd => ?_⟩
    have hmg : mergeK [] (kvsW names (rounds (edP names rs) 0)) = kvsW names (rounds (edP names rs) 0) := by
      rw [mergeK_nd (fun _ _ => rfl)]
      · rfl
      · have : (kvsW names (rounds (edP names rs) 0)).map (·.1) = names.map (Sum.inr : Str → Key) := by
          unfold kvsW
          rw [List.map_map]
          rfl
        rw [this]
        exact List.pairwise_map.mpr (hnd.imp fun h e => h (Sum.inr.inj e))
    rw [hmg]
    have smd := same_new hd (o := .dK (kvsW names (rounds (edP names rs) 0)))
    have hd0 : H d = none := sm1.free (sm2.free hd)
    have sm03 : Same H (upd H2 d (.dK (kvsW names (rounds (edP names rs) 0)))) := sm1.trans (sm2.trans smd)
    have hd3 : (upd H2 d (.dK (kvsW names (rounds (edP names rs) 0)))) d = some (.dK (kvsW names (rounds (edP names rs) 0))) := upd_same
    generalize (upd H2 d (.dK (kvsW names (rounds (edP names rs) 0)))) = H3 at smd sm03 hd3 ⊢
    clear smd hd hkv0 hu2 hu1 sm2 hD hl1 sm1 hp1
    -- while again
    refine ⟨fun m σ' H' => ∃ (b : Bool) (t : Nat) (x3 x4 x5 x6 : Option V), σ' = [some (.ref g), some (.ref d), some (.bl b), x3, x4, x5, x6] ∧ Same H H' ∧ H' d = some (.dK (kvsW names (rounds (edP names rs) t))) ∧ ((b = true ∧ t ≤ names.length ∧ m = names.length + 1 - t) ∨ (b = false ∧ rounds (edP names rs) t = muW (edP names rs) ∧ m = 0)), ⟨names.length + 1, true, 0, _, _, _, _, rfl, sm03, hd3, .inl ⟨rfl, Nat.zero_le _, rfl⟩⟩, ?_⟩
    clear hd3 sm03
    rintro m σ' H4 ⟨b, t, x3, x4, x5, x6, rfl, sm4, hd4, hb⟩
    refine ⟨_, rfl, _, rfl, ?_⟩
    rcases hb with ⟨rfl, ht, hm⟩ | ⟨rfl, hmu, _⟩
    · refine iteT ?_
      refine ⟨fun σ' H' => ∃ (b : Bool) (x3 x4 x5 x6 : Option V), σ' = [some (.ref g), some (.ref d), some (.bl b), x3, x4, x5, x6] ∧ Same H H' ∧ H' d = some (.dK (kvsW names (rounds (edP names rs) (t + 1)))) ∧ (b = false → rounds (edP names rs) (t + 1) = rounds (edP names rs) t) ∧ (rounds (edP names rs) t = muW (edP names rs) → b = false), ?_, ?_⟩
      · rintro σ' H' ⟨b, x3, x4, x5, x6, rfl, sm, hd', h1, h2⟩
        cases b with
        | true =>
          have htl : t < names.length := Nat.lt_of_not_le fun l => by
            have := h2 (rounds_mu hEf l)
            cases this
          exact ⟨names.length + 1 - (t + 1), by omega, true, t + 1, _, _, _, _, rfl, sm, hd', .inl ⟨rfl, htl, rfl⟩⟩
        | false =>
          have hst := rounds_stop hEf (h1 rfl)
          exact ⟨0, by omega, false, t + 1, _, _, _, _, rfl, sm, hd', .inr ⟨rfl, (h1 rfl).trans hst, rfl⟩⟩
      · -- a round
        generalize hw0 : rounds (edP names rs) t = w0 at hd4
        have hr1 : rounds (edP names rs) (t + 1) = (edP names rs).foldl relax w0 := by rw [← hw0]; rfl
        rw [hr1]
        refine ⟨_, rfl, g, _, _, rfl, sm4 _ _ hg, nm (by decide +kernel) (by decide +kernel) (by decide +kernel), g, names, rs, rfl, G.same sm4, fun p1 H5 hp1 sm5 hl5 => ?_⟩
        refine ⟨p1, rfl, ⟨_, SqL.of hl5⟩, for_list (K := K) (a := p1) (xs := names.map V.str) (fun i σ' H' => ∃ (b : Bool) (x3 x4 x5 x6 : Option V), σ' = [some (.ref g), some (.ref d), some (.bl b), x3, x4, x5, x6] ∧ Same H H' ∧ H' p1 = some (.lst (names.map V.str)) ∧ H' d = some (.dK (kvsW names (((names.take i).flatMap (edN rs)).foldl relax w0))) ∧ (b = false → ((names.take i).flatMap (edN rs)).foldl relax w0 = w0) ∧ (w0 = muW (edP names rs) → b = false)) ?_ ?_ ?_ ?_⟩
        · exact ⟨false, _, _, _, _, rfl, sm4.trans sm5, hl5, sm5 _ _ hd4, fun _ => rfl, fun _ => rfl⟩
        · rintro i σ' H' _ ⟨_, _, _, _, _, rfl, _, h, _⟩
          exact SqL.of h
        · rintro i x σ' H6 hi ⟨b, x3, x4, x5, x6, rfl, sm6, hl6, hd6, hb1, hb2⟩
          obtain ⟨n, hn, rfl⟩ := map_at hi
          have hnm := List.mem_of_getElem? hn
          have hsn := hsh.of n
          generalize hE1 : (names.take i).flatMap (edN rs) = E1 at hd6 hb1
          have hE2 : (names.take (i + 1)).flatMap (edN rs) = E1 ++ edN rs n := by
            rw [take_snoc hn, List.flatMap_append, hE1]
            simp
          rw [hE2]
          have hEin : ∀ p ∈ rulesOf rs n, (n, p.2) ∈ edP names rs := fun p hp => List.mem_flatMap.mpr ⟨n, hnm, List.mem_map.mpr ⟨p, hp, rfl⟩⟩
          refine ⟨_, rfl, g, _, _, rfl, sm6 _ _ hg, nm (by decide +kernel) (by decide +kernel) (by decide +kernel), _, rfl, g, names, rs, n, rfl, G.same sm6, hnm, by omega, fun p2 H7 nr => ?_⟩
          obtain ⟨hp2, sm7, us, hus, hpr⟩ := nr
          have hP7 : Paired (RuleAt H7) us (rulesOf rs n) := Paired.mapP hpr fun _ _ ⟨_, w, _, h3, h4⟩ => ⟨w, h3, h4⟩
          refine ⟨p2, rfl, ⟨_, SqL.of hus⟩, for_list (K := K) (a := p2) (xs := us.map V.ref) (fun j σ' H' => ∃ (b : Bool) (x4 x5 x6 : Option V), σ' = [some (.ref g), some (.ref d), some (.bl b), some (.str n), x4, x5, x6] ∧ Same H H' ∧ H' p1 = some (.lst (names.map V.str)) ∧ H' p2 = some (.lst (us.map V.ref)) ∧ Paired (RuleAt H') us (rulesOf rs n) ∧ H' d = some (.dK (kvsW names ((E1 ++ ((rulesOf rs n).take j).map fun p => (n, p.2)).foldl relax w0))) ∧ (b = false → (E1 ++ ((rulesOf rs n).take j).map fun p => (n, p.2)).foldl relax w0 = w0) ∧ (w0 = muW (edP names rs) → b = false)) ?_ ?_ ?_ ?_⟩
          · refine ⟨b, _, _, _, rfl, sm6.trans sm7, sm7 _ _ hl6, hus, hP7, ?_, ?_, hb2⟩
            · rw [List.take_zero, List.map_nil, List.append_nil]; exact sm7 _ _ hd6
            · rw [List.take_zero, List.map_nil, List.append_nil]; exact hb1
          · rintro i σ' H' _ ⟨_, _, _, _, rfl, _, _, h, _⟩
            exact SqL.of h
          · clear hd6 hb1 hb2 hl6 sm6 hP7 hpr hus sm7 hp2
            rintro j x σ' H8 hj ⟨b, x4, x5, x6, rfl, sm8, hl8, hus8, hP8, hd8, hb1, hb2⟩
            obtain ⟨u, hu1, rfl⟩ := map_at hj
            obtain ⟨r, hr2, w1, hw1, hw2⟩ := paired_get hP8 hu1
            have hrm := List.mem_of_getElem? hr2
            have hin2 := hin _ (mem_rulesOf.mp hrm)
            rw [take_snoc hr2, List.map_append, ← List.append_assoc, List.foldl_append]
            have hmuF : w0 = muW (edP names rs) → (E1 ++ ((rulesOf rs n).take j).map fun p => (n, p.2)).foldl relax w0 = w0 := fun h => hb1 (hb2 h)
            generalize hW : (E1 ++ ((rulesOf rs n).take j).map fun p => (n, p.2)).foldl relax w0 = W at hd8 hb1 hmuF ⊢
            show _
            refine ⟨u, _, rfl, SqT.of hw1, rfl, _, _, rfl, _, _, rfl, rfl, ?_⟩
            refine ⟨_, rfl, _, rfl, d, w1, kvsW names W, W, r.2, rfl, hd8, fun x hx => kvsW_val (hin2.2 x hx), hw2, Nat.le_trans (hsn.2 r hrm) (by decide), fun H9 sm9 => ?_⟩
            have hd9 := sm9 _ _ hd8
            have sm89 := sm8.trans sm9
            have hP9 : Paired (RuleAt H9) us (rulesOf rs n) := Paired.mapP hP8 fun _ _ h => h.same sm9
            have hl9 := sm9 _ _ hl8
            have hus9 := sm9 _ _ hus8
            refine ⟨_, rfl, rfl, _, rfl, ?_⟩
            have hrel : relax W (n, r.2) = match addW W r.2 with
              | none => W
              | some s => match W n with
                | none => fun m => if m = n then some (s + 1) else W m
                | some v => if s + 1 < v then (fun m => if m = n then some (s + 1) else W m) else W := rfl
            cases hs : addW W r.2 with
            | none =>
              refine iteF ?_
              rw [hs] at hrel
              simp only at hrel
              refine ⟨b, _, _, _, rfl, sm89, hl9, hus9, hP9, ?_, ?_, hb2⟩
              · show H9 d = some (.dK (kvsW names (relax W (n, r.2))))
                rw [hrel]; exact hd9
              · show b = false → relax W (n, r.2) = w0
                rw [hrel]; exact hb1
            | some s =>
              refine iteT ?_
              rw [hs] at hrel
              simp only at hrel
              have hvn : valV (kvsW names W) (Sum.inr n : Key) = some (optV (W n)) := kvsW_val hnm
              -- the writing of a less one
              have put : ∀ H2 : Hp, H2 = H9 → (relax W (n, r.2) = fun m => if m = n then some (s + 1) else W m) → (relax W (n, r.2) ≠ W) →
                  ∃ (b : Bool) (x4' x5' x6' : Option V), [some (V.ref g), some (V.ref d), some (V.bl true), some (V.str n), some (V.str r.1), some (V.ref w1), some (V.int (s : Int))] = [some (.ref g), some (.ref d), some (.bl b), some (.str n), x4', x5', x6'] ∧ Same H (upd H2 d (.dK (putK (kvsW names W) (Sum.inr n : Key) (.int ((s : Int) + 1))))) ∧ (upd H2 d (.dK (putK (kvsW names W) (Sum.inr n : Key) (.int ((s : Int) + 1))))) p1 = some (.lst (names.map V.str)) ∧ (upd H2 d (.dK (putK (kvsW names W) (Sum.inr n : Key) (.int ((s : Int) + 1))))) p2 = some (.lst (us.map V.ref)) ∧ Paired (RuleAt (upd H2 d (.dK (putK (kvsW names W) (Sum.inr n : Key) (.int ((s : Int) + 1)))))) us (rulesOf rs n) ∧ (upd H2 d (.dK (putK (kvsW names W) (Sum.inr n : Key) (.int ((s : Int) + 1))))) d = some (.dK (kvsW names (relax W (n, r.2)))) ∧ (b = false → relax W (n, r.2) = w0) ∧ (w0 = muW (edP names rs) → b = false) := fun H2 e1 e2 e3 => by
                subst e1
                refine ⟨true, _, _, _, rfl, same_mut sm89 hd0, by rw [upd_ne (ne_of hl9 hd9 (by intro z; cases z))]; exact hl9, by rw [upd_ne (ne_of hus9 hd9 (by intro z; cases z))]; exact hus9, Paired.mapP hP9 fun _ _ h => h.dict hd9, by rw [upd_same, kvsW_put hnm, e2], fun h => (by cases h), fun h => ?_⟩
                exfalso
                have hWm : W = muW (edP names rs) := (hmuF h).trans h
                rw [hWm] at e3
                exact e3 (relax_mu (hEin r hrm))
              refine ⟨_, rfl, _, rfl, d, _, rfl, .inl ⟨_, Sum.inr n, .inl hd9, rfl, hvn.symm⟩, rfl, _, rfl, ?_⟩
              cases hv : W n with
              | none =>
                refine iteT ?_
                rw [hv] at hrel
                simp only at hrel
                refine ⟨_, rfl, _, _, rfl, rfl, _, rfl, _, rfl, d, _, rfl, DPut.k (k := Sum.inr n) hd9 (sl1 (by rw [kvsW_len]; omega)), ?_⟩
                exact put _ rfl hrel fun z => by
                  have := congrFun (hrel.symm.trans z) n
                  simp only [if_true] at this
                  rw [hv] at this
                  cases this
              | some v =>
                refine iteF ?_
                rw [hv] at hrel hvn
                simp only at hrel
                refine ⟨_, rfl, _, _, rfl, rfl, _, rfl, _, rfl, d, _, rfl, .inl ⟨_, Sum.inr n, .inl hd9, rfl, hvn.symm⟩, _, _, rfl, rfl, _, rfl, iteB (fun hc => ?_) (fun hc => ?_)⟩
                · have hlt : s + 1 < v := by
                    have := of_decide_eq_true hc
                    omega
                  rw [if_pos hlt] at hrel
                  refine ⟨_, rfl, _, _, rfl, rfl, _, rfl, _, rfl, d, _, rfl, DPut.k (k := Sum.inr n) hd9 (sl1 (by rw [kvsW_len]; omega)), ?_⟩
                  exact put _ rfl hrel fun z => by
                    have := congrFun (hrel.symm.trans z) n
                    simp only [if_true] at this
                    rw [hv] at this
                    have := Option.some.inj this
                    omega
                · have hlt : ¬ s + 1 < v := by
                    have := of_decide_eq_false hc
                    omega
                  rw [if_neg hlt] at hrel
                  refine ⟨b, _, _, _, rfl, sm89, hl9, hus9, hP9, ?_, ?_, hb2⟩
                  · show H9 d = some (.dK (kvsW names (relax W (n, r.2))))
                    rw [hrel]; exact hd9
                  · show b = false → relax W (n, r.2) = w0
                    rw [hrel]; exact hb1
          · rintro σ' H8 ⟨b, x4, x5, x6, rfl, sm8, hl8, hus8, hP8, hd8, hb1, hb2⟩
            rw [List.length_map, paired_len hP8, List.take_length] at hd8 hb1
            exact ⟨b, _, _, _, _, rfl, sm8, hl8, hd8, hb1, hb2⟩
        · rintro σ' H6 ⟨b, x3, x4, x5, x6, rfl, sm6, hl6, hd6, hb1, hb2⟩
          rw [List.length_map, List.take_length] at hd6 hb1
          exact ⟨b, _, _, _, _, rfl, sm6, hd6, hb1, hb2⟩
    · refine iteF ?_
      rw [hmu, normW_edP fun r hr1 => (hin r hr1).1] at hd4
      exact ⟨_, rfl, q d H4 hd0 sm4 hd4⟩
end
section
variable {P : Program} {w : World} {K : PySem.W.Frag} {mg : Str → Option Value} {base : Heap} {A : Ad}
def sp_endless (C : Addr) : Sp := fun vs H Q _ => ∃ (g : Addr) (names : List Str) (rs : List Rule), vs = [.ref g] ∧ GramAt C H g names rs ∧ names.Nodup ∧ names.length ≤ 1000 ∧ (∀ r ∈ rs, r.1 ∈ names ∧ ∀ x ∈ r.2.2, x ∈ names) ∧ ShortR rs ∧ ∀ p H', H p = none → Same H H' → H' p = some (.lst ((endl names (normW rs)).map V.str)) → Q (.ref p) H'
theorem ok_endless (T : Txt K mg A) : FnOk P w K mg base CX0 3 A.a_endless A.d_endless ["grammar"] (sp_endless A.c_Grammar) := by
  have G_norms : FnOk P w K mg base CX0 2 A.a_norms A.d_norms ["grammar"] (sp_norms A.c_Grammar) := ok_norms T
  have G_Grammar_names : FnOk P w K mg base CX0 1 A.a_Grammar_names A.d_Grammar_names ["self"] (sp_G_names A.c_Grammar) := ok_Grammar_names T
  refine T.F_endless.ok sc_endless (fun vs H Q E h => ?_) (fun cdv A0 outer s0 H vs Q E hr h => ?_)
  · obtain ⟨_, _, _, rfl, _⟩ := h
    rfl
  · obtain ⟨g, names, rs, rfl, G, hnd, hnl, hin, hsh, q⟩ := h
    have hu := hu_of hr
    obtain ⟨dx, kn, st, od, hg⟩ := G.ins
    refine ⟨_, (pss_cons (ps_set (i := 1) sc_endless.nd rfl (Or.inr rfl) (pe_call G_norms (hr.mono (by decide)) (by rfl) T.g_norms T.F_norms.kp T.b_norms .nil pass0 (pa_cons (pv 0) pa_nil)))
 (pss_one (ps_ret (pe_lc (own := [("name", 2)]) (g := gName 2) (by rfl) sc_endless.nd (pi_list (pe_meth0 (pv 0) T.cl_Grammar T.m_Grammar_names G_Grammar_names (hr.mono (by decide)) T.b_Grammar_names .nil pass0)) (blkOk_by (own := [("name", 2)]) (N := ["grammar", "found", "name"]) (sc := defScope s_endless) (by decide +kernel)) (fun _ _ _ _ _ => (pg_name (i := 2) sc_endless.nd rfl (Or.inl rfl))) (fun _ _ _ _ _ => pts_one (pt_cmpR op_isN (pe_dget hu (pv 1) (pv 2) (fun _ _ => rfl)) pe_non (nomark _))) (fun _ _ _ _ _ => (pv 2)))))), ?_⟩
    refine ⟨_, rfl, g, names, rs, rfl, G, hnd, hnl, hin, hsh, fun d H1 _ sm1 hd1 => ?_⟩
    refine ⟨_, rfl, g, _, _, rfl, sm1 _ _ hg, gfs_no _ _ _ (by decide +kernel) (by decide +kernel) (by decide +kernel), g, names, rs, rfl, G.same sm1, fun p1 H2 hp1 sm2 hl2 => ?_⟩
    have sm12 := sm1.trans sm2
    refine ⟨p1, rfl, ⟨_, SqL.of hl2⟩, fun D hD => lc_list (K := K) (a := p1) (xs := names.map V.str) (fun i H' => Same H2 H' ∧ H' D = some (.lst ((endl (names.take i) (normW rs)).map V.str))) ?_ ?_ ?_ ?_⟩
    · exact ⟨same_new hD, upd_same⟩
    · rintro i H' _ ⟨sm, _⟩
      exact SqL.of (sm _ _ hl2)
    · rintro i x H' hi ⟨sm, h1⟩
      obtain ⟨n, hn, rfl⟩ := map_at hi
      have hnm := List.mem_of_getElem? hn
      have hv : valV (kvsW names (normW rs)) (Sum.inr n : Key) = some (optV (normW rs n)) := kvsW_val hnm
      refine ⟨rfl, _, rfl, _, rfl, d, _, rfl, .inl ⟨_, Sum.inr n, .inl (sm _ _ (sm2 _ _ hd1)), rfl, hv.symm⟩, rfl, _, rfl, ?_⟩
      rw [isNone_dec]
      have e : endl (names.take (i + 1)) (normW rs) = if (normW rs n).isNone = true then endl (names.take i) (normW rs) ++ [n] else endl (names.take i) (normW rs) := by
        rw [take_snoc hn]
        exact filter_snoc _ _ _
      have hle : (endl (names.take i) (normW rs)).length ≤ 1000 := by
        have h1 : (endl (names.take i) (normW rs)).length ≤ (names.take i).length := List.length_filter_le _ _
        rw [List.length_take] at h1
        omega
      refine iteB (fun hc => ?_) (fun hc => ?_)
      · rw [if_pos hc] at e
        refine ⟨_, rfl, _, h1, by rw [List.length_map]; exact sl1 (by omega), same_mut sm hD, ?_⟩
        rw [upd_same, e, List.map_append]
        rfl
      · rw [if_neg (by rw [hc]; exact Bool.false_ne_true)] at e
        rw [e]
        exact ⟨sm, h1⟩
    · rintro H3 ⟨sm3, h3⟩
      rw [List.length_map, List.take_length] at h3
      exact q D H3 (sm12.free hD) (sm12.trans sm3) h3
end
end SG
namespace SG
open PySem PySem.Spec PyProof.Rows L2 LamX
section
variable {P : Program} {w : World} {K : PySem.W.Frag} {mg : Str → Option Value} {base : Heap} {A : Ad}
def sp_each_once : Sp := fun vs H Q _ => ∃ (a : Addr) (ts : List Addr) (ps : List Step), vs = [.ref a] ∧ H a = some (.lst (ts.map V.ref)) ∧ Paired (RuleAt H) ts ps ∧ ps.length ≤ 1000000 ∧ ∀ p H' (us : List Addr), H p = none → Same H H' → H' p = some (.lst (us.map V.ref)) → Paired (fun t p => (t, p) ∈ ts.zip ps) us (each1 ps) → Q (.ref p) H'
theorem ok_each_once (T : Txt K mg A) : FnOk P w K mg base CX0 1 A.a_each_once A.d_each_once ["steps"] sp_each_once := by
  refine T.F_each_once.ok sc_each_once (fun vs H Q E h => ?_) (fun cdv A0 outer s0 H vs Q E hr h => ?_)
  · obtain ⟨_, _, _, rfl, _⟩ := h
    rfl
  · obtain ⟨a, ts, ps, rfl, ha, hp, hl, q⟩ := h
    have hu64 := hu64_of hr
    have htl : ts.length = ps.length := paired_len hp
    refine ⟨_, (pss_cons (ps_set (i := 1) sc_each_once.nd rfl (Or.inl rfl) (pe_lst pa_nil))
 (pss_cons (ps_for PassesOwn.never rfl (pi_list (pe_callB (id := "sorted") (r := rSortedG K) (cr_sortedG hu64) (by rfl) T.sorted (by decide +kernel) (pa_cons (pv 0) pa_nil))) (pg_name (i := 2) sc_each_once.nd rfl (Or.inl rfl))
 (pss_one (ps_if (PW.pt (pw_or (pt_cmpR (r := rEqP K) (op_eqP hu64) (pv 1) (pe_lst pa_nil) (nomark _)) (pw_or1 (pt_cmpR (r := rNeP K) (op_neP hu64) (pe_ix (r := rIxL K) ix_list (pv 1) (pe_un un_neg pe_int) (fun _ _ => rfl)) (pv 2) (nomark _))))) (pss_one (ps_expr (pe_bm PySem.F.plainAttrs_list PySem.F.slot_list_append PySem.F.type_list_append mt_append (pv 1) (pa_cons (pv 2) pa_nil)))) pss_nil)))
 (pss_one (ps_ret (pv 1))))), ?_⟩
    refine ⟨Nat.zero_le _, fun D hD => ?_⟩
    have smD := same_new hD (o := .lst [])
    refine ⟨_, rfl, Step, eRow, a, ts.map V.ref, ps, rfl, SqL.of (smD _ _ ha), dpAll_paired (F := RuleAt (upd H D (.lst []))) (fun t p h => dp_row h) (Paired.mapP hp fun _ _ h => h.same smD), alk_Row, srt_Row, fun p _ => Nat.le_trans (dep_Row p) (by decide), fun zs so hz1 hz2 hso => ?_⟩
    obtain ⟨ss, e1, hss, _⟩ := srt_refs_out (paired_zip hp) hz1 hz2
    rw [e1]
    have hsl : ss.length = ps.length := by rw [paired_len hss, (esort_perm eRow ps).length_eq]
    have sms := same_new hso (o := .lst (ss.map V.ref))
    have nsD : so ≠ D := (ne_of_none upd_same hso).symm
    have hso0 : H so = none := smD.free hso
    refine ⟨so, rfl, ⟨_, SqL.of upd_same⟩, for_list (K := K) (a := so) (xs := ss.map V.ref) (fun i σ' H' => ∃ (x2 : Option V) (us : List Addr), σ' = [some (.ref a), some (.ref D), x2] ∧ Same H H' ∧ H' so = some (.lst (ss.map V.ref)) ∧ H' D = some (.lst (us.map V.ref)) ∧ Paired (fun t p => (t, p) ∈ ts.zip ps) us (uniq ((esort eRow ps).take i))) ?_ ?_ ?_ ?_⟩
    · exact ⟨_, [], rfl, smD.trans sms, upd_same, sms _ _ upd_same, .nil⟩
    · rintro i σ' H' _ ⟨_, _, rfl, _, h, _⟩
      exact SqL.of h
    · rintro i x σ' H1 hi ⟨x2, us, rfl, sm, hs1, hD1, hP⟩
      obtain ⟨t, ht, rfl⟩ := map_at hi
      obtain ⟨p, hp1, hz⟩ := paired_get hss ht
      have hul : us.length ≤ i := by
        rw [paired_len hP]
        have h1 := (uniq_sub ((esort eRow ps).take i)).length_le
        rw [List.length_take] at h1
        omega
      have hil : i < ss.length := (List.getElem?_eq_some_iff.mp ht).1
      have htp := paired_of_zip hp hz
      have usAt : ∀ H2, Same H1 H2 → ListAt H2 D (uniq ((esort eRow ps).take i)) := fun H2 e => ⟨us, e _ _ hD1, Paired.mapP hP fun _ _ h => (paired_of_zip hp h).same (sm.trans e)⟩
      rw [take_snoc hp1]
      refine ⟨_, rfl, Nat.zero_le _, fun e he => ?_⟩
      have sm2 := same_new he (o := .lst [])
      refine ⟨eL eRow (uniq ((esort eRow ps).take i)), eL eRow [], dp_rows (usAt _ sm2), .lst (SqL.of upd_same) .nil, Nat.le_trans (dep_L dep_Row _) (by decide), _, rfl, ?_⟩
      rw [enc_L enc_Row]
      have sm02 := sm.trans sm2
      have hs2 := sm2 _ _ hs1
      have hD2 := sm2 _ _ hD1
      have us2 := usAt _ sm2
      have put : ∀ H2, Same H1 H2 → uniq ((esort eRow ps).take i ++ [p]) = uniq ((esort eRow ps).take i) ++ [p] →
          ∃ (x2 : Option V) (us' : List Addr), [some (V.ref a), some (V.ref D), some (V.ref t)] = [some (.ref a), some (.ref D), x2] ∧ Same H (upd H2 D (.lst (us.map V.ref ++ [V.ref t]))) ∧ (upd H2 D (.lst (us.map V.ref ++ [V.ref t]))) so = some (.lst (ss.map V.ref)) ∧ (upd H2 D (.lst (us.map V.ref ++ [V.ref t]))) D = some (.lst (us'.map V.ref)) ∧ Paired (fun t p => (t, p) ∈ ts.zip ps) us' (uniq ((esort eRow ps).take i ++ [p])) := fun H2 e eu =>
        ⟨_, us ++ [t], rfl, same_mut (sm.trans e) hD, by rw [upd_ne nsD]; exact e _ _ hs1, by rw [upd_same, List.map_append]; rfl, by rw [eu]; exact paired_app (F := fun t p => (t, p) ∈ ts.zip ps) hz hP⟩
      refine iteB (fun hc => ?_) (fun hc => ?_)
      · have e0 : uniq ((esort eRow ps).take i) = [] := by simpa using hc
        refine ⟨_, rfl, .inl ⟨rfl, _, SqL.of hD2⟩, _, rfl, D, _, _, rfl, rfl, hD2, by rw [List.length_map]; exact sl1 (by omega), ?_⟩
        refine put _ sm2 ?_
        rw [uniq_snoc, e0]
        rfl
      · have e0 : uniq ((esort eRow ps).take i) ≠ [] := by simpa using hc
        have eu : us ≠ [] := fun z => e0 (List.length_eq_zero_iff.mp (by rw [← paired_len hP, z]; rfl))
        obtain ⟨as, a1, bs, b1, g1, g2, g3⟩ := paired_back hP eu
        have hat : atI (us.map V.ref) (-1) = some (V.ref a1) := by
          rw [g1, List.map_append]
          exact atI_last _ _
        refine ⟨_, rfl, _, rfl, _, _, _, _, rfl, rfl, SqL.of hD2, hat, _, rfl, eRow b1, eRow p, dp_row ((paired_of_zip hp g3).same sm02), dp_row (htp.same sm02), Nat.le_trans (dep_Row _) (by decide), _, rfl, ?_⟩
        rw [enc_Row]
        refine iteB (fun hc2 => ?_) (fun hc2 => ?_)
        · have hne : b1 ≠ p := by simpa using hc2
          refine ⟨_, rfl, .inl ⟨rfl, _, SqL.of hD2⟩, _, rfl, D, _, _, rfl, rfl, hD2, by rw [List.length_map]; exact sl1 (by omega), ?_⟩
          refine put _ sm2 ?_
          rw [uniq_snoc, g2]
          unfold uniq1
          rw [if_neg]
          rw [List.getLast?_append]
          intro z
          exact hne (by simpa using z)
        · have hne : b1 = p := by simpa using hc2
          refine ⟨_, us, rfl, sm02, hs2, hD2, ?_⟩
          rw [uniq_snoc, g2]
          unfold uniq1
          rw [if_pos (by rw [List.getLast?_append, hne]; rfl), ← g2]
          exact hP
    · rintro σ' H1 ⟨x2, us, rfl, sm, hs1, hD1, hP⟩
      rw [List.length_map, hsl, ← (esort_perm eRow ps).length_eq, List.take_length] at hP
      exact ⟨_, rfl, q D H1 us hD sm hD1 hP⟩
end
section
variable {P : Program} {w : World} {K : PySem.W.Frag} {mg : Str → Option Value} {base : Heap} {A : Ad}
theorem new_rows_of {H H1 H2 : Hp} {D p : Addr} {ts us : List Addr} {ps : List Step} (hP : Paired (RowN H H1 D) ts ps) (sm : Same H1 H2) (smH : Same H H2) (hp : H p = none) (h2 : H2 p = some (.lst (us.map V.ref))) (hz : Paired (fun t p => (t, p) ∈ ts.zip ps) us (each1 ps)) : NewRows H H2 p (each1 ps) :=
  ⟨hp, smH, us, h2, Paired.mapP hz fun t q h => by
    obtain ⟨a1, _, w, a3, _, a5, a6⟩ := paired_of_zip hP h
    exact ⟨a1, w, a3, sm _ _ a5, sm _ _ a6⟩⟩
def sp_steps (C : Addr) (f : List Rule → List Str → List Step) : Sp := fun vs H Q _ => ∃ (g a : Addr) (names : List Str) (rs : List Rule) (row : List Str), vs = [.ref g, .ref a] ∧ GramAt C H g names rs ∧ H a = some (.lst (row.map V.str)) ∧ (∀ x ∈ row, x ∈ names) ∧ row.length ≤ 1000 ∧ ShortR rs ∧ ∀ p H', NewRows H H' p (f rs row) → Q (.ref p) H'
theorem ok_row_steps (T : Txt K mg A) : FnOk P w K mg base CX0 3 A.a_row_steps A.d_row_steps ["grammar", "row"] (sp_steps A.c_Grammar rowSteps) := by
  have G_look_at_names : FnOk P w K mg base CX0 2 A.a_look_at_names A.d_look_at_names ["grammar", "row"] (sp_look A.c_Grammar) := ok_look_at_names T
  have G_each_once : FnOk P w K mg base CX0 1 A.a_each_once A.d_each_once ["steps"] sp_each_once := ok_each_once T
  have G_Grammar_rules_of : FnOk P w K mg base CX0 1 A.a_Grammar_rules_of A.d_Grammar_rules_of ["self", "name"] (sp_G_rules_of A.c_Grammar) := ok_Grammar_rules_of T
  refine T.F_row_steps.ok sc_row_steps (fun vs H Q E h => ?_) (fun cdv A0 outer s0 H vs Q E hr h => ?_)
  · obtain ⟨_, _, _, _, _, rfl, _⟩ := h
    rfl
  · obtain ⟨g, a, names, rs, row, rfl, G, ha, hin, hrl, hsh, q⟩ := h
    have hu64 := hu64_of hr
    obtain ⟨dx, kn, st, od, hg⟩ := G.ins
    refine ⟨_, (pss_cons (ps_expr (pe_call G_look_at_names (hr.mono (by decide)) (by rfl) T.g_look_at_names T.F_look_at_names.kp T.b_look_at_names .nil pass0 (pa_cons (pv 0) (pa_cons (pv 1) pa_nil))))
 (pss_cons (ps_if (pt_cmpR (r := rEqP K) (op_eqP hu64) (pv 1) (pe_lst pa_nil) (nomark _)) (pss_one (ps_ret (pe_lst pa_nil))) pss_nil)
 (pss_one (ps_ret (pe_call G_each_once (hr.mono (by decide)) (by rfl) T.g_each_once T.F_each_once.kp T.b_each_once .nil pass0 (pa_cons (pe_lc (own := [("letter", 2), ("more", 3)]) (g := gTup K 2 (gCons (gName 2) (gCons (gName 3) gNil))) (by rfl) sc_row_steps.nd (pi_list (pe_meth (pv 0) T.cl_Grammar T.m_Grammar_rules_of G_Grammar_rules_of (hr.mono (by decide)) T.b_Grammar_rules_of .nil pass0 (pa_cons (pe_ix (r := rIxL K) ix_list (pv 1) pe_int (fun _ _ => rfl)) pa_nil))) (blkOk_by (own := [("letter", 2), ("more", 3)]) (N := ["grammar", "row", "letter", "more"]) (sc := defScope s_row_steps) (by decide +kernel)) (fun _ _ _ _ _ => (pg_tup (by rfl) (pgs_cons (pg_name (i := 2) sc_row_steps.nd rfl (Or.inl rfl)) (pgs_cons (pg_name (i := 3) sc_row_steps.nd rfl (Or.inl rfl)) pgs_nil)))) (fun _ _ _ _ _ => pts_nil) (fun _ _ _ _ _ => (pe_tup (pa_cons (pv 2) (pa_cons (pe_op op_cat (pv 3) (pe_slice (r := rSlL K) sl_list (pv 1) (po_some pe_int) po_none)) pa_nil))))) pa_nil)))))), ?_⟩
    refine ⟨_, rfl, _, rfl, g, a, names, rs, row, rfl, G, ha, hin, ?_⟩
    refine ⟨_, rfl, Nat.zero_le _, fun e he => ?_⟩
    have sm1 := same_new he (o := .lst [])
    have ha1 := sm1 _ _ ha
    refine ⟨eSs row, eSs [], dp_Ss ha1, .lst (SqL.of upd_same) .nil, Nat.le_trans (dep_Ss _) (by decide), _, rfl, ?_⟩
    rw [enc_Ss]
    refine iteB (fun hc => ?_) (fun hc => ?_)
    · have e0 : row = [] := by simpa using hc
      subst e0
      refine ⟨Nat.zero_le _, fun p hp => q p _ ⟨sm1.free hp, sm1.trans (same_new hp), [], upd_same, ?_⟩⟩
      rw [show rowSteps rs [] = [] from List.length_eq_zero_iff.mp (Nat.le_zero.mp (each1_len _))]
      exact .nil
    · cases row with
      | nil => simp at hc
      | cons n t =>
        have hsn := hsh.of n
        have hn := hin n List.mem_cons_self
        have ht1 : t.length ≤ 1000 := by simp at hrl; omega
        refine ⟨_, rfl, g, _, _, rfl, sm1 _ _ hg, gfs_no _ _ _ (by decide +kernel) (by decide +kernel) (by decide +kernel), _, rfl, _, _, _, _, rfl, rfl, SqL.of ha1, atI_nat (j := 0) rfl, g, names, rs, n, rfl, G.same sm1, hn, by omega, fun p1 H2 nr => ?_⟩
        obtain ⟨hp1, sm2, us, hus, hpr⟩ := nr
        have sm12 := sm1.trans sm2
        have ha2 := sm12 _ _ ha
        have hul : us.length ≤ 100 := by rw [paired_len hpr]; exact hsn.1
        refine ⟨p1, rfl, ⟨_, SqL.of hus⟩, fun D hD => lc_list (K := K) (a := p1) (xs := us.map V.ref) (fun i H' => Same H2 H' ∧ ∃ vs : List Addr, H' D = some (.lst (vs.map V.ref)) ∧ Paired (RowN H2 H' D) vs (((rulesOf rs n).take i).map fun p => (p.1, p.2 ++ t))) ?_ ?_ ?_ ?_⟩
        · exact ⟨same_new hD, [], upd_same, .nil⟩
        · rintro i H' _ ⟨sm, _⟩
          exact SqL.of (sm _ _ hus)
        · rintro i x H' hi ⟨sm, vs, hv1, hv2⟩
          obtain ⟨u0, hui, rfl⟩ := map_at hi
          obtain ⟨r, hr1, _, w0, _, hw1, hw2⟩ := paired_get hpr hui
          have hrl2 := hsn.2 r (List.mem_of_getElem? hr1)
          refine ⟨u0, _, rfl, SqT.of (sm _ _ hw1), rfl, _, _, rfl, _, _, rfl, rfl, rfl, tyes (iteT ?_)⟩
          refine ⟨_, rfl, _, rfl, _, rfl, _, rfl, a, _, rfl, SqL.of (sm _ _ ha2), fun c hc => ?_⟩
          have ec : cutV ((n :: t).map V.str) (some (1 : Int)) none = t.map V.str := by
            rw [show (1 : Int) = ((1 : Nat) : Int) from rfl, cut_ge]; rfl
          rw [ec]
          have smc := same_new hc (o := .lst (t.map V.str))
          have ncD : c ≠ D := fun z => by rw [z, hv1] at hc; cases hc
          refine ⟨w0, c, _, _, rfl, rfl, smc _ _ (sm _ _ hw2), upd_same, by rw [List.length_map, List.length_map]; exact sl2 (by omega), fun w hw => ⟨sl2 (by show 2 ≤ 1000000; decide), fun u hu3 => ?_⟩⟩
          have smw := same_new hw (o := .lst (r.2.map V.str ++ t.map V.str))
          have smu := same_new hu3 (o := .tup [.str r.1, .ref w])
          have smA := smc.trans (smw.trans smu)
          have nwD : w ≠ D := fun z => by rw [z, smc _ _ hv1] at hw; cases hw
          have nuD : u ≠ D := fun z => by rw [z, (smc.trans smw) _ _ hv1] at hu3; cases hu3
          have hwU := smu _ _ (upd_same : (upd (upd H' c (.lst (t.map V.str))) w (.lst (r.2.map V.str ++ t.map V.str))) w = _)
          refine ⟨_, smA _ _ hv1, by rw [List.length_map, paired_len hv2, List.length_map, List.length_take]; exact sl1 (by omega), same_mut (sm.trans smA) hD, vs ++ [u], by rw [upd_same, List.map_append]; rfl, ?_⟩
          rw [take_snoc hr1, List.map_append]
          refine paired_app (F := RowN H2 _ D) ⟨sm.free ((smc.trans smw).free hu3), nuD, w, sm.free (smc.free hw), nwD, ?_, ?_⟩ (Paired.mapP hv2 fun t r ⟨a1, a2, w, a3, a4, a5, a6⟩ => ⟨a1, a2, w, a3, a4, ?_, ?_⟩)
          · rw [upd_ne nuD, upd_same]
          · rw [upd_ne nwD, hwU, List.map_append]
          · rw [upd_ne a2]; exact smA _ _ a5
          · rw [upd_ne a4]; exact smA _ _ a6
        rintro H3 ⟨sm3, vs, hv1, hv2⟩
        rw [List.length_map, paired_len hpr, List.take_length] at hv2
        refine ⟨D, vs, _, rfl, hv1, Paired.mapP hv2 fun _ _ ⟨_, _, w, _, _, a5, a6⟩ => ⟨w, a5, a6⟩, by rw [List.length_map]; omega, fun p H4 us4 hp4 sm4 h4 hz => ?_⟩
        refine q p H4 (new_rows_of (D := D) (Paired.mapP hv2 fun _ _ ⟨a1, a2, w, a3, a4, a5, a6⟩ => ⟨sm12.free a1, a2, w, sm12.free a3, a4, a5, a6⟩) sm4 (sm12.trans (sm3.trans sm4)) (sm12.free (sm3.free hp4)) h4 hz)
theorem bagAt_at {rs : List Rule} {bag : List Str} {i : Nat} {n : Str} (h : bag[i]? = some n) : bagAt rs bag i = (rulesOf rs n).map fun p => (p.1, ssort (p.2 ++ (bag.take i ++ bag.drop (i + 1)))) := by
  unfold bagAt
  rw [h]
theorem ok_bag_steps (T : Txt K mg A) : FnOk P w K mg base CX0 3 A.a_bag_steps A.d_bag_steps ["grammar", "bag"] (sp_steps A.c_Grammar bagSteps) := by
  have G_look_at_names : FnOk P w K mg base CX0 2 A.a_look_at_names A.d_look_at_names ["grammar", "row"] (sp_look A.c_Grammar) := ok_look_at_names T
  have G_each_once : FnOk P w K mg base CX0 1 A.a_each_once A.d_each_once ["steps"] sp_each_once := ok_each_once T
  have G_Grammar_rules_of : FnOk P w K mg base CX0 1 A.a_Grammar_rules_of A.d_Grammar_rules_of ["self", "name"] (sp_G_rules_of A.c_Grammar) := ok_Grammar_rules_of T
  refine T.F_bag_steps.ok sc_bag_steps (fun vs H Q E h => ?_) (fun cdv A0 outer s0 H vs Q E hr h => ?_)
  · obtain ⟨_, _, _, _, _, rfl, _⟩ := h
    rfl
  · obtain ⟨g, a, names, rs, row, rfl, G, ha, hin, hrl, hsh, q⟩ := h
    have hu64 := hu64_of hr
    obtain ⟨dx, kn, st, od, hg⟩ := G.ins
    refine ⟨_, (pss_cons (ps_expr (pe_call G_look_at_names (hr.mono (by decide)) (by rfl) T.g_look_at_names T.F_look_at_names.kp T.b_look_at_names .nil pass0 (pa_cons (pv 0) (pa_cons (pv 1) pa_nil))))
 (pss_cons (ps_set (i := 2) sc_bag_steps.nd rfl (Or.inl rfl) (pe_lst pa_nil))
 (pss_cons (ps_for PassesOwn.never rfl (pi_enum (by rfl) T.enumerate (pa_cons (pv 1) pa_nil)) (pg_tup (by rfl) (pgs_cons (pg_name (i := 3) sc_bag_steps.nd rfl (Or.inl rfl)) (pgs_cons (pg_name (i := 4) sc_bag_steps.nd rfl (Or.inl rfl)) pgs_nil)))
 (pss_cons (ps_set (i := 5) sc_bag_steps.nd rfl (Or.inr rfl) (pe_op op_cat (pe_slice (r := rSlL K) sl_list (pv 1) po_none (po_some (pv 3))) (pe_slice (r := rSlL K) sl_list (pv 1) (po_some (pe_op op_add (pv 3) pe_int)) po_none)))
 (pss_one (ps_expr (pe_bm PySem.F.plainAttrs_list PySem.F.slot_list_extend PySem.F.type_list_extend mt_extend (pv 2) (pa_cons (pe_lc (own := [("letter", 6), ("more", 7)]) (g := gTup K 2 (gCons (gName 6) (gCons (gName 7) gNil))) (by rfl) sc_bag_steps.nd (pi_list (pe_meth (pv 0) T.cl_Grammar T.m_Grammar_rules_of G_Grammar_rules_of (hr.mono (by decide)) T.b_Grammar_rules_of .nil pass0 (pa_cons (pv 4) pa_nil))) (blkOk_by (own := [("letter", 6), ("more", 7)]) (N := ["grammar", "bag", "found", "at", "name", "rest", "letter", "more"]) (sc := defScope s_bag_steps) (by decide +kernel)) (fun _ _ _ _ _ => (pg_tup (by rfl) (pgs_cons (pg_name (i := 6) sc_bag_steps.nd rfl (Or.inl rfl)) (pgs_cons (pg_name (i := 7) sc_bag_steps.nd rfl (Or.inl rfl)) pgs_nil)))) (fun _ _ _ _ _ => pts_nil) (fun _ _ _ _ _ => (pe_tup (pa_cons (pv 6) (pa_cons (pe_callB (id := "sorted") (r := rSortedG K) (cr_sortedG hu64) (by rfl) T.sorted (by decide +kernel) (pa_cons (pe_op op_cat (pv 7) (pv 5)) pa_nil)) pa_nil))))) pa_nil))))))
 (pss_one (ps_ret (pe_call G_each_once (hr.mono (by decide)) (by rfl) T.g_each_once T.F_each_once.kp T.b_each_once .nil pass0 (pa_cons (pv 2) pa_nil))))))), ?_⟩
    refine ⟨_, rfl, _, rfl, g, a, names, rs, row, rfl, G, ha, hin, ?_⟩
    refine ⟨Nat.zero_le _, fun D hD => ?_⟩
    have smD := same_new hD (o := .lst [])
    refine ⟨_, rfl, a, _, rfl, SqL.of (smD _ _ ha), for_it (walk_enum (K := K) (a := a) (xs := row.map V.str)) (fun i σ' H' => ∃ (x3 x4 x5 x6 x7 : Option V) (us : List Addr), σ' = [some (.ref g), some (.ref a), some (.ref D), x3, x4, x5, x6, x7] ∧ Same H H' ∧ H' D = some (.lst (us.map V.ref)) ∧ us.length ≤ 100 * i ∧ Paired (RowN H H' D) us ((List.range i).flatMap (bagAt rs row))) ?_ ?_ ?_ ?_⟩
    · exact ⟨_, _, _, _, _, [], rfl, smD, upd_same, Nat.zero_le _, .nil⟩
    · rintro i σ' H' _ ⟨_, _, _, _, _, _, rfl, sm, _⟩
      exact SqL.of (sm _ _ ha)
    · rintro i x σ' H6 H7 hi ⟨x3, x4, x5, x6, x7, us, rfl, sm6, hD6, hul, hP⟩ ⟨T0, y1, y2, rfl, hT, rfl, e1, e2⟩
      have e1 := Option.some.inj e1
      subst e1
      obtain ⟨n, hni, rfl⟩ := map_at e2
      have hil : i < row.length := (List.getElem?_eq_some_iff.mp hni).1
      have smT := same_new hT (o := .tup [.int i, .str n])
      have nTD : T0 ≠ D := fun z => by rw [z, hD6] at hT; cases hT
      refine ⟨T0, _, rfl, SqT.of upd_same, rfl, _, _, rfl, _, _, rfl, rfl, ?_⟩
      have sm7 := sm6.trans smT
      have hD7 := smT _ _ hD6
      have hP7 : Paired (RowN H (upd H6 T0 (.tup [.int i, .str n])) D) us ((List.range i).flatMap (bagAt rs row)) := Paired.mapP hP fun _ _ ⟨a1, a2, w, a3, a4, a5, a6⟩ => ⟨a1, a2, w, a3, a4, smT _ _ a5, smT _ _ a6⟩
      generalize (upd H6 T0 (.tup [.int i, .str n])) = H7 at sm7 hD7 hP7 ⊢
      clear smT hT hP hD6 sm6 nTD
      -- rest
      refine ⟨_, rfl, _, rfl, _, rfl, a, _, rfl, SqL.of (sm7 _ _ ha), fun c1 hc1 => ?_⟩
      have sm1 := same_new hc1 (o := .lst (cutV (row.map V.str) none (some (i : Int))))
      have h1 : (upd H7 c1 (.lst (cutV (row.map V.str) none (some (i : Int))))) c1 = some (.lst ((row.take i).map V.str)) := by
        rw [upd_same, cut_lt, List.map_take]
      generalize (upd H7 c1 (.lst (cutV (row.map V.str) none (some (i : Int))))) = H8 at sm1 h1 ⊢
      refine ⟨_, rfl, _, rfl, _, _, rfl, rfl, _, rfl, a, _, rfl, SqL.of (sm1 _ _ (sm7 _ _ ha)), fun c2 hc2 => ?_⟩
      have sm2 := same_new hc2 (o := .lst (cutV (row.map V.str) (some ((i : Int) + 1)) none))
      have h2 : (upd H8 c2 (.lst (cutV (row.map V.str) (some ((i : Int) + 1)) none))) c2 = some (.lst ((row.drop (i + 1)).map V.str)) := by
        rw [upd_same, show ((i : Int) + 1) = ((i + 1 : Nat) : Int) by omega, cut_ge, List.map_drop]
      have h1' := sm2 _ _ h1
      generalize (upd H8 c2 (.lst (cutV (row.map V.str) (some ((i : Int) + 1)) none))) = H9 at sm2 h2 h1' ⊢
      refine ⟨c1, c2, _, _, rfl, rfl, h1', h2, by rw [List.length_map, List.length_map, List.length_take, List.length_drop]; exact sl2 (by omega), fun re hre => ?_⟩
      have sm3 := same_new hre (o := .lst ((row.take i).map V.str ++ (row.drop (i + 1)).map V.str))
      have h3 : (upd H9 re (.lst ((row.take i).map V.str ++ (row.drop (i + 1)).map V.str))) re = some (.lst ((row.take i ++ row.drop (i + 1)).map V.str)) := by rw [upd_same, List.map_append]
      have smR := sm1.trans (sm2.trans sm3)
      have sm07 := sm7.trans smR
      have hD10 := smR _ _ hD7
      have hP10 : Paired (RowN H (upd H9 re (.lst ((row.take i).map V.str ++ (row.drop (i + 1)).map V.str))) D) us ((List.range i).flatMap (bagAt rs row)) := Paired.mapP hP7 fun _ _ ⟨a1, a2, w, a3, a4, a5, a6⟩ => ⟨a1, a2, w, a3, a4, smR _ _ a5, smR _ _ a6⟩
      have hrest : (row.take i ++ row.drop (i + 1)).length ≤ 1000 := by rw [List.length_append, List.length_take, List.length_drop]; omega
      have hba := bagAt_at (rs := rs) hni
      generalize row.take i ++ row.drop (i + 1) = rest at h3 hrest hba
      generalize (upd H9 re (.lst ((row.take i).map V.str ++ (row.drop (i + 1)).map V.str))) = H10 at sm3 h3 sm07 hD10 hP10 ⊢
      clear smR h1' h2 h1 sm1 sm2 sm3 hc1 hc2 hre hP7 hD7 sm7
      have hsn := hsh.of n
      have hn := hin n (List.mem_of_getElem? hni)
      refine ⟨_, rfl, .inl ⟨rfl, _, SqL.of hD10⟩, _, rfl, g, _, _, rfl, sm07 _ _ hg, gfs_no _ _ _ (by decide +kernel) (by decide +kernel) (by decide +kernel), _, rfl, g, names, rs, n, rfl, G.same sm07, hn, by omega, fun p1 H2 nr => ?_⟩
      obtain ⟨hp1, sm2, vs, hvs, hpr⟩ := nr
      have hvl : vs.length ≤ 100 := by rw [paired_len hpr]; exact hsn.1
      have hre2 := sm2 _ _ h3
      have sm02 := sm07.trans sm2
      have hD2' := sm2 _ _ hD10
      refine ⟨p1, rfl, ⟨_, SqL.of hvs⟩, fun D2 hD2 => lc_list (K := K) (a := p1) (xs := vs.map V.ref) (fun i H' => Same H2 H' ∧ ∃ zs : List Addr, H' D2 = some (.lst (zs.map V.ref)) ∧ Paired (RowN H2 H' D2) zs (((rulesOf rs n).take i).map fun p => (p.1, ssort (p.2 ++ rest)))) ?_ ?_ ?_ ?_⟩
      · exact ⟨same_new hD2, [], upd_same, .nil⟩
      · rintro i H' _ ⟨sm, _⟩
        exact SqL.of (sm _ _ hvs)
      · rintro i2 x H' hi2 ⟨sm, ws, hv1, hv2⟩
        obtain ⟨u0, hui, rfl⟩ := map_at hi2
        obtain ⟨r, hr1, _, w0, _, hw1, hw2⟩ := paired_get hpr hui
        have hrl2 := hsn.2 r (List.mem_of_getElem? hr1)
        refine ⟨u0, _, rfl, SqT.of (sm _ _ hw1), rfl, _, _, rfl, _, _, rfl, rfl, rfl, tyes (iteT ?_)⟩
        refine ⟨_, rfl, _, rfl, _, rfl, w0, re, _, _, rfl, rfl, sm _ _ hw2, sm _ _ hre2, by rw [List.length_map, List.length_map]; exact sl2 (by omega), fun c hc => ?_⟩
        have smc := same_new hc (o := .lst (r.2.map V.str ++ rest.map V.str))
        have hcs : (upd H' c (.lst (r.2.map V.str ++ rest.map V.str))) c = some (.lst ((r.2 ++ rest).map V.str)) := by rw [upd_same, List.map_append]
        have ncD : c ≠ D2 := fun z => by rw [z, hv1] at hc; cases hc
        refine ⟨Str, PyData.str, c, _, r.2 ++ rest, rfl, SqL.of hcs, dpAll_strs _, alk_str, srt_str, fun _ _ => Nat.zero_le _, fun zs w hz1 hz2 hw => ?_⟩
        rw [srt_strs_out hz1 hz2]
        refine ⟨sl2 (by show 2 ≤ 1000000; decide), fun u hu3 => ?_⟩
        have smw := same_new hw (o := .lst ((ssort (r.2 ++ rest)).map V.str))
        have smu := same_new hu3 (o := .tup [.str r.1, .ref w])
        have smA := smc.trans (smw.trans smu)
        have nwD : w ≠ D2 := fun z => by rw [z, smc _ _ hv1] at hw; cases hw
        have nuD : u ≠ D2 := fun z => by rw [z, (smc.trans smw) _ _ hv1] at hu3; cases hu3
        have hwU := smu _ _ (upd_same : (upd (upd H' c (.lst (r.2.map V.str ++ rest.map V.str))) w (.lst ((ssort (r.2 ++ rest)).map V.str))) w = _)
        refine ⟨_, smA _ _ hv1, by rw [List.length_map, paired_len hv2, List.length_map, List.length_take]; exact sl1 (by omega), same_mut (sm.trans smA) hD2, ws ++ [u], by rw [upd_same, List.map_append]; rfl, ?_⟩
        rw [take_snoc hr1, List.map_append]
        refine paired_app (F := RowN H2 _ D2) ⟨sm.free ((smc.trans smw).free hu3), nuD, w, sm.free (smc.free hw), nwD, ?_, ?_⟩ (Paired.mapP hv2 fun t r ⟨a1, a2, w, a3, a4, a5, a6⟩ => ⟨a1, a2, w, a3, a4, ?_, ?_⟩)
        · rw [upd_ne nuD, upd_same]
        · rw [upd_ne nwD]; exact hwU
        · rw [upd_ne a2]; exact smA _ _ a5
        · rw [upd_ne a4]; exact smA _ _ a6
      rintro H3 ⟨sm3, zs, hz1, hz2⟩
      rw [List.length_map, paired_len hpr, List.take_length, ← hba] at hz2
      have hD3 := sm3 _ _ hD2'
      have hzl : zs.length ≤ 100 := by rw [paired_len hz2, hba, List.length_map]; exact hsn.1
      have hD0 : H2 D = some (.lst (us.map V.ref)) := hD2'
      refine ⟨D, D2, _, _, rfl, rfl, hD3, hz1, by rw [List.length_map, List.length_map]; exact sl2 (by omega), ?_⟩
      refine ⟨_, _, _, _, _, us ++ zs, rfl, same_mut (sm02.trans sm3) hD, by rw [upd_same, List.map_append], by rw [List.length_append]; omega, ?_⟩
      rw [flat_range_snoc]
      refine paired_append (F := RowN H _ D) (Paired.mapP hP10 fun _ _ ⟨a1, a2, w, a3, a4, a5, a6⟩ => ⟨a1, a2, w, a3, a4, ?_, ?_⟩) (Paired.mapP hz2 fun _ _ ⟨a1, a2, w, a3, a4, a5, a6⟩ => ⟨sm02.free a1, (ne_of_none hD0 a1).symm, w, sm02.free a3, (ne_of_none hD0 a3).symm, ?_, ?_⟩)
      · rw [upd_ne a2]; exact sm3 _ _ (sm2 _ _ a5)
      · rw [upd_ne a4]; exact sm3 _ _ (sm2 _ _ a6)
      · rw [upd_ne (ne_of_none hD0 a1).symm]; exact a5
      · rw [upd_ne (ne_of_none hD0 a3).symm]; exact a6
    · rintro σ' H1 ⟨x3, x4, x5, x6, x7, us, rfl, sm, hD1, hul, hP⟩
      rw [List.length_map] at hP hul
      have hPl := paired_len hP
      refine ⟨_, rfl, D, us, _, rfl, hD1, Paired.mapP hP fun _ _ ⟨_, _, w, _, _, a5, a6⟩ => ⟨w, a5, a6⟩, by rw [← hPl]; omega, fun p H4 us4 hp4 sm4 h4 hz => ?_⟩
      exact q p H4 (new_rows_of (D := D) hP sm4 (sm.trans sm4) (sm.free hp4) h4 hz)
/-- steps_of: of a row by the kind row, else of a bag -/
def stepsOf (kind : Str) (rs : List Rule) (one : List Str) : List Step := if kind = "row" then rowSteps rs one else bagSteps rs one
def sp_steps_of (C : Addr) : Sp := fun vs H Q _ => ∃ (g a : Addr) (kind : Str) (names : List Str) (rs : List Rule) (row : List Str), vs = [.ref g, .str kind, .ref a] ∧ GramAt C H g names rs ∧ H a = some (.lst (row.map V.str)) ∧ (∀ x ∈ row, x ∈ names) ∧ row.length ≤ 1000 ∧ ShortR rs ∧ ∀ p H', NewRows H H' p (stepsOf kind rs row) → Q (.ref p) H'
theorem ok_steps_of (T : Txt K mg A) : FnOk P w K mg base CX0 4 A.a_steps_of A.d_steps_of ["grammar", "kind", "one"] (sp_steps_of A.c_Grammar) := by
  have G_row_steps : FnOk P w K mg base CX0 3 A.a_row_steps A.d_row_steps ["grammar", "row"] (sp_steps A.c_Grammar rowSteps) := ok_row_steps T
  have G_bag_steps : FnOk P w K mg base CX0 3 A.a_bag_steps A.d_bag_steps ["grammar", "bag"] (sp_steps A.c_Grammar bagSteps) := ok_bag_steps T
  refine T.F_steps_of.ok sc_steps_of (fun vs H Q E h => ?_) (fun cdv A0 outer s0 H vs Q E hr h => ?_)
  · obtain ⟨_, _, _, _, _, _, rfl, _⟩ := h
    rfl
  · obtain ⟨g, a, kind, names, rs, row, rfl, G, ha, hin, hrl, hsh, q⟩ := h
    refine ⟨_, (pss_cons (ps_if (pt_cmpR op_eq (pv 1) pe_str (nomark _)) (pss_one (ps_ret (pe_call G_row_steps (hr.mono (by decide)) (by rfl) T.g_row_steps T.F_row_steps.kp T.b_row_steps .nil pass0 (pa_cons (pv 0) (pa_cons (pv 2) pa_nil))))) pss_nil)
 (pss_one (ps_ret (pe_call G_bag_steps (hr.mono (by decide)) (by rfl) T.g_bag_steps T.F_bag_steps.kp T.b_bag_steps .nil pass0 (pa_cons (pv 0) (pa_cons (pv 2) pa_nil)))))), ?_⟩
    refine ⟨_, rfl, rfl, _, rfl, iteB (fun hc => ?_) (fun hc => ?_)⟩
    · have e : kind = "row" := by
        have := of_decide_eq_true hc
        exact V.str.inj this
      refine ⟨_, rfl, _, rfl, g, a, names, rs, row, rfl, G, ha, hin, hrl, hsh, fun p H' nr => q p H' ?_⟩
      unfold stepsOf
      rw [if_pos e]
      exact nr
    · have e : ¬ kind = "row" := fun z => by
        have := of_decide_eq_false hc
        exact this (by rw [z])
      refine ⟨_, rfl, _, rfl, g, a, names, rs, row, rfl, G, ha, hin, hrl, hsh, fun p H' nr => q p H' ?_⟩
      unfold stepsOf
      rw [if_neg e]
      exact nr
end
end SG
namespace SG
open PySem PySem.Spec PyProof.Rows L2 LamX
section
variable {P : Program} {w : World} {K : PySem.W.Frag} {mg : Str → Option Value} {base : Heap} {A : Ad}
theorem ok__law_cell_at (T : Txt K mg A) : FnOk P w K mg base CX0 1 A.a__law_cell_at A.d__law_cell_at ["_law_script", "_law_k"] (sp_cell_at K) := by
  refine T.F__law_cell_at.ok sc__law_cell_at (fun vs H Q E h => ?_) (fun cdv A0 outer s0 H vs Q E hr h => ?_)
  · obtain ⟨_, _, _, rfl, _⟩ := h
    rfl
  · obtain ⟨a, ns, k, rfl, ha, q⟩ := h
    refine ⟨_, (pss_cons (ps_if (pt_cmpR op_lt (pv 1) (pe_callB (id := "len") (r := Evl.rLenS K) call_len_seq (by rfl) T.len (by decide +kernel) (pa_cons (pv 0) pa_nil)) (nomark _)) (pss_one (ps_ret (pe_ix (r := rIxL K) ix_list (pv 0) (pv 1) (fun _ _ => rfl)))) pss_nil)
 (pss_one (ps_ret pe_int))), ?_⟩
    refine ⟨_, rfl, _, rfl, _, _, rfl, .inl ha, _, _, rfl, rfl, _, rfl, iteB (fun h1 => ?_) (fun h1 => ?_)⟩
    · have hk : (k : Int) < ((ns.map V.int).length : Int) := of_decide_eq_true h1
      obtain ⟨v, hv, hm⟩ := atI_some (xs := ns.map V.int) (i := (k : Int)) (by omega) hk
      obtain ⟨z, _, rfl⟩ := List.mem_map.mp hm
      exact ⟨_, rfl, _, rfl, _, _, _, _, rfl, rfl, ha, hv, q z⟩
    · exact q 0
theorem ok__law_well (T : Txt K mg A) : FnOk P w K mg base CX0 1 A.a__law_well A.d__law_well ["_law_cell"] sp_wellC := by
  refine T.F__law_well.ok sc__law_well (fun vs H Q E h => ?_) (fun cdv A0 outer s0 H vs Q E hr h => ?_)
  · obtain ⟨_, rfl, _⟩ := h
    rfl
  · obtain ⟨c, rfl, q⟩ := h
    refine ⟨_, (pss_one (ps_ret (pe_lst (pa_cons (pe_op op_mul (pv 0) (pe_callTy (T := "int") call_int1 (by rfl) T.int_ (by decide +kernel) (pa_cons (pe_cmpR op_ge (pv 0) (pe_op op_pow pe_int pe_int) (nomark _)) pa_nil))) (pa_cons (pe_op op_mod (pv 0) pe_int) (pa_cons pe_int pa_nil)))))), ?_⟩
    refine ⟨_, rfl, _, rfl, _, _, rfl, rfl, ⟨by decide, by decide, by decide⟩, _, _, rfl, rfl, .inr ⟨_, rfl, _, _, rfl, rfl, ?_⟩⟩
    have e9 : ((10 : Int) ^ (18 : Int).toNat) = 1000000000000000000 := by decide
    refine ⟨.inr ⟨by split <;> decide, by split <;> decide⟩, _, rfl, _, _, rfl, rfl, lt0, sl2 (by show 3 ≤ 1000000; decide), fun p hp => q p _ hp (same_new hp) (wellC_of upd_same ?_ (Int.emod_nonneg _ (by decide)) (Int.emod_lt_of_pos _ (by decide)) (by decide) (by decide))⟩
    rw [e9]
    split
    · rename_i h
      have := of_decide_eq_true h
      omega
    · omega
theorem ok__law_draw (T : Txt K mg A) : FnOk P w K mg base CX0 1 A.a__law_draw A.d__law_draw ["_law_well_here", "_law_wide"] sp_drawC := by
  refine T.F__law_draw.ok sc__law_draw (fun vs H Q E h => ?_) (fun cdv A0 outer s0 H vs Q E hr h => ?_)
  · obtain ⟨_, _, _, rfl, _⟩ := h
    rfl
  · obtain ⟨s, k, n, rfl, hw, hn, hk, hk2, q⟩ := h
    obtain ⟨a, b, c, hs, ha, hb, hb2, hc, hcn⟩ := hw.nums
    refine ⟨_, (pss_cons (ps_if (pt_cmpR op_gt (pe_ix (r := rIxL K) ix_list (pv 0) pe_int (fun _ _ => rfl)) pe_int (nomark _)) (pss_cons (ps_set (i := 2) sc__law_draw.nd rfl (Or.inl rfl) (pe_op op_mod (pe_ix (r := rIxL K) ix_list (pv 0) pe_int (fun _ _ => rfl)) (pv 1)))
 (pss_cons (ps_asg (pe_op op_fdivW (pe_ix (r := rIxL K) ix_list (pv 0) pe_int (fun _ _ => rfl)) (pv 1)) (pg_sub (pv 0) pe_int set_list))
 (pss_one (ps_ret (pv 2))))) pss_nil)
 (pss_cons (ps_asg (pe_op op_add (pe_ix (r := rIxL K) ix_list (pv 0) pe_int (fun _ _ => rfl)) pe_int) (pg_sub (pv 0) pe_int set_list))
 (pss_cons (ps_set (i := 3) sc__law_draw.nd rfl (Or.inl rfl) (pe_op op_mod (pe_op op_mul (pe_op op_add (pe_op op_add (pe_ix (r := rIxL K) ix_list (pv 0) pe_int (fun _ _ => rfl)) (pe_op op_mul pe_int (pe_ix (r := rIxL K) ix_list (pv 0) pe_int (fun _ _ => rfl)))) pe_int) pe_int) pe_int))
 (pss_cons (ps_set (i := 3) sc__law_draw.nd rfl (Or.inl rfl) (pe_op op_mod (pe_op op_mul (pv 3) (pe_op op_add (pe_op op_fdiv (pv 3) pe_int) pe_int)) pe_int))
 (pss_one (ps_ret (pe_op op_mod (pe_op op_mod (pe_op op_mul (pv 3) (pe_op op_add (pe_op op_fdiv (pv 3) pe_int) pe_int)) pe_int) (pv 1)))))))), ?_⟩
    refine ⟨_, rfl, _, _, _, _, rfl, rfl, SqL.of hs, atI_nat (j := 0) rfl, _, _, rfl, rfl, _, rfl, ite2 (fun h1 => ?_) (fun h1 => ?_)⟩
    · refine ⟨_, rfl, _, _, _, _, rfl, rfl, SqL.of hs, atI_nat (j := 0) rfl, _, rfl, _, _, rfl, rfl, hk, ?_⟩
      refine ⟨_, rfl, _, _, _, _, rfl, rfl, SqL.of hs, atI_nat (j := 0) rfl, _, rfl, _, _, rfl, rfl, ⟨hk, Nat.lt_of_lt_of_le (PySem.Flt.log2_lt_of (by decide) (show k.natAbs < 2 ^ 30 by omega)) (by decide)⟩, ?_⟩
      refine ⟨_, rfl, s, _, _, 0, rfl, rfl, hs, rfl, ?_⟩
      refine ⟨_, rfl, q _ _ (Int.emod_nonneg _ (by omega)) (Int.emod_lt_of_pos _ hk) ((But.refl s H).own _) (wellC_of (a := a / k) (b := b) (c := c) upd_same ?_ hb hb2 hc (by omega))⟩
      exact Int.ediv_nonneg ha (by omega)
    · refine ⟨_, rfl, _, _, _, _, rfl, rfl, SqL.of hs, atI_nat (j := 2) rfl, _, _, rfl, rfl, ?_⟩
      refine ⟨_, rfl, s, _, _, 2, rfl, rfl, hs, rfl, ?_⟩
      have hs1 : (upd H s (.lst ([V.int a, V.int b, V.int c].set 2 (V.int (c + 1))))) s = some (.lst [.int a, .int b, .int (c + 1)]) := upd_same
      have hw1 : WellC (upd H s (.lst ([V.int a, V.int b, V.int c].set 2 (V.int (c + 1))))) s (n + 1) := wellC_of hs1 ha hb hb2 (by omega) (by omega)
      have hb1 : But s H (upd H s (.lst ([V.int a, V.int b, V.int c].set 2 (V.int (c + 1))))) := (But.refl s H).own _
      have q1 := fun j h0 h1 => q j _ h0 h1 hb1 hw1
      show _
      generalize (upd H s (.lst ([V.int a, V.int b, V.int c].set 2 (V.int (c + 1))))) = H1 at hs1 q1 ⊢
      have ix1 : atI [V.int a, V.int b, V.int (c + 1)] 1 = some (.int b) := atI_nat (j := 1) rfl
      have ix2 : atI [V.int a, V.int b, V.int (c + 1)] 2 = some (.int (c + 1)) := atI_nat (j := 2) rfl
      refine ⟨_, rfl, _, _, _, _, rfl, rfl, SqL.of hs1, ix1, _, rfl, _, _, _, _, rfl, rfl, SqL.of hs1, ix2, _, _, rfl, rfl, .inl ⟨by decide, by decide⟩, _, _, rfl, rfl, _, _, rfl, rfl, _, _, rfl, rfl, .inr ⟨by decide, by decide⟩, _, _, rfl, rfl, lt0, ?_⟩
      dsimp only
      have z0 := Int.emod_nonneg ((b + 7919 * (c + 1) + 1) * 48271) (show (2147483647 : Int) ≠ 0 by decide)
      have z1 := Int.emod_lt_of_pos ((b + 7919 * (c + 1) + 1) * 48271) (show (0 : Int) < 2147483647 by decide)
      generalize (b + 7919 * (c + 1) + 1) * 48271 % 2147483647 = z at z0 z1 ⊢
      refine ⟨_, rfl, _, rfl, _, _, rfl, rfl, ⟨by decide, by decide⟩, _, _, rfl, rfl, _, _, rfl, rfl, .inl ⟨by omega, by omega⟩, _, _, rfl, rfl, lt0, ?_⟩
      dsimp only
      have y0 := Int.emod_nonneg (z * (z / 1009 + 69621)) (show (2147483647 : Int) ≠ 0 by decide)
      have y1 := Int.emod_lt_of_pos (z * (z / 1009 + 69621)) (show (0 : Int) < 2147483647 by decide)
      generalize z * (z / 1009 + 69621) % 2147483647 = y at y0 y1 ⊢
      refine ⟨_, rfl, _, rfl, _, _, rfl, rfl, ⟨by decide, by decide⟩, _, _, rfl, rfl, _, _, rfl, rfl, .inl ⟨by omega, by omega⟩, _, _, rfl, rfl, lt0, _, rfl, _, _, rfl, rfl, hk, ?_⟩
      exact q1 _ (Int.emod_nonneg _ (by omega)) (Int.emod_lt_of_pos _ hk)
theorem ok__law_some (T : Txt K mg A) : FnOk P w K mg base CX0 2 A.a__law_some A.d__law_some ["_law_well_here", "_law_names", "_law_most"] sp_some := by
  have G__law_draw : FnOk P w K mg base CX0 1 A.a__law_draw A.d__law_draw ["_law_well_here", "_law_wide"] sp_drawC := ok__law_draw T
  refine T.F__law_some.ok sc__law_some (fun vs H Q E h => ?_) (fun cdv A0 outer s0 H vs Q E hr h => ?_)
  · obtain ⟨_, _, _, _, _, rfl, _⟩ := h
    rfl
  · obtain ⟨s, a, m, n, xs, rfl, hm, hw, hn, ha, hx0, hxl, q⟩ := h
    have has := hw.1.ne_strs ha
    refine ⟨_, (pss_one (ps_ret (pe_lc (own := [("_law_k", 3)]) (g := gName 3) (by rfl) sc__law_some.nd (pi_range1 (by rfl) T.range (pa_cons (pe_call G__law_draw (hr.mono (by decide)) (by rfl) T.g__law_draw T.F__law_draw.kp T.b__law_draw .nil pass0 (pa_cons (pv 0) (pa_cons (pe_op op_add (pv 2) pe_int) pa_nil))) pa_nil)) (blkOk_by (own := [("_law_k", 3)]) (N := ["_law_well_here", "_law_names", "_law_most", "_law_k"]) (sc := defScope s__law_some) (by decide +kernel)) (fun _ _ _ _ _ => (pg_name (i := 3) sc__law_some.nd rfl (Or.inl rfl))) (fun _ _ _ _ _ => pts_nil) (fun _ _ _ _ _ => (pe_ix (r := rIxL K) ix_list (pv 1) (pe_call G__law_draw (hr.mono (by decide)) (by rfl) T.g__law_draw T.F__law_draw.kp T.b__law_draw .nil pass0 (pa_cons (pv 0) (pa_cons (pe_callB (id := "len") (r := Evl.rLenS K) call_len_seq (by rfl) T.len (by decide +kernel) (pa_cons (pv 1) pa_nil)) pa_nil))) (fun _ _ => rfl)))))), ?_⟩
    refine ⟨_, rfl, _, rfl, _, _, rfl, rfl, s, _, n, rfl, hw, by omega, by omega, by omega, fun j H1 j0 j1 bt1 w1 => ?_⟩
    obtain ⟨cn, rfl⟩ : ∃ cn : Nat, j = (cn : Int) := ⟨j.toNat, (Int.toNat_of_nonneg j0).symm⟩
    refine ⟨(cn : Int), rfl, by omega, by omega, fun D hD => lc_range (fun j H' => ∃ row : List Str, But s H1 H' ∧ WellC H' s (n + 1 + j) ∧ H' D = some (.lst (row.map V.str)) ∧ row.length = j ∧ ∀ x ∈ row, x ∈ xs) ?_ ?_ ?_⟩
    · exact ⟨[], but_of_same (same_new hD), w1.same (same_new hD), upd_same, rfl, fun x h => by simp at h⟩
    · rintro j H2 hj ⟨row, bt2, w2, h2, hrl, hsub⟩
      have hj9 : j < cn := by simpa using hj
      have ha2 := (bt1.trans bt2) _ _ has ha
      refine ⟨rfl, tyes (iteT ?_)⟩
      refine ⟨_, rfl, _, rfl, _, rfl, _, _, rfl, .inl (SqL.of ha2), s, _, _, rfl, w2, by omega, by rw [List.length_map]; omega, by rw [List.length_map]; omega, fun i H3 i0 i1 bt3 w3 => ?_⟩
      obtain ⟨v, hv, hvm⟩ := atI_some i0 i1
      obtain ⟨o, ho, rfl⟩ := List.mem_map.mp hvm
      have h3 := bt3 _ _ (w2.1.ne_strs h2) h2
      refine ⟨_, _, _, _, rfl, rfl, SqL.of (bt3 _ _ has ha2), hv, _, h3, by rw [List.length_map]; exact sl1 (by omega), row ++ [o], (bt2.trans bt3).cell hD _, w3.cell w1 hD, by rw [upd_same, List.map_append]; rfl, by simp [hrl], fun x hx => ?_⟩
      rcases List.mem_append.mp hx with hx | hx
      · exact hsub x hx
      · rw [List.mem_singleton.mp hx]; exact ho
    rintro H2 ⟨row, bt2, w2, h2, hrl, hsub⟩
    have hrl' : row.length = cn := hrl
    exact q D H2 row (bt1.freeW w1.1 hD) (bt1.trans bt2) (w2.mono (by omega)) h2 (by omega) hsub
theorem ok__law_chain (T : Txt K mg A) : FnOk P w K mg base CX0 2 A.a__law_chain A.d__law_chain ["_law_well_here", "_law_many"] sp_chain := by
  have G__law_draw : FnOk P w K mg base CX0 1 A.a__law_draw A.d__law_draw ["_law_well_here", "_law_wide"] sp_drawC := ok__law_draw T
  refine T.F__law_chain.ok sc__law_chain (fun vs H Q E h => ?_) (fun cdv A0 outer s0 H vs Q E hr h => ?_)
  · obtain ⟨_, _, _, rfl, _⟩ := h
    rfl
  · obtain ⟨s, m, n, rfl, hm1, hm6, hw, hn, q⟩ := h
    have hu64 := hu64_of hr
    refine ⟨_, (pss_cons (ps_set (i := 2) sc__law_chain.nd rfl (Or.inr rfl) (pe_call G__law_draw (hr.mono (by decide)) (by rfl) T.g__law_draw T.F__law_draw.kp T.b__law_draw .nil pass0 (pa_cons (pv 0) (pa_cons pe_int pa_nil))))
 (pss_cons (ps_setLc (i := 3) (own := [("_law_k", 5)]) (g := gName 5) (by rfl) sc__law_chain.nd rfl rfl (sw_true rfl rfl rfl (by decide +kernel)) (pi_range1 (by rfl) T.range (pa_cons (pv 1) pa_nil)) (blkOk_by (own := [("_law_k", 5)]) (N := ["_law_well_here", "_law_many", "_law_start", "_law_left", "_law_found", "_law_k"]) (sc := defScope s__law_chain) (by decide +kernel)) (fun _ _ _ _ _ => (pg_name (i := 5) sc__law_chain.nd rfl (Or.inl rfl))) (fun _ _ _ _ _ => pts_nil) (fun _ _ _ _ _ => (pe_op op_repS (pe_ix (r := rIxS) ix_str pe_str (pe_op op_mod (pe_op op_add (pv 2) (pe_op op_mul pe_int (pv 5))) pe_int) (fun _ _ => rfl)) (pe_op op_add pe_int (pe_call G__law_draw (hr.mono (by decide)) (by rfl) T.g__law_draw T.F__law_draw.kp T.b__law_draw .nil pass0 (pa_cons (pv 0) (pa_cons pe_int pa_nil)))))))
 (pss_cons (ps_set (i := 4) sc__law_chain.nd rfl (Or.inl rfl) (pe_lst pa_nil))
 (pss_cons (ps_while PassesOwn.never (pt_cmpR (r := rNeP K) (op_neP hu64) (pv 3) (pe_lst pa_nil) (nomark _)) (pss_one (ps_expr (pe_bm PySem.F.plainAttrs_list PySem.F.slot_list_append PySem.F.type_list_append mt_append (pv 4) (pa_cons (pe_bm PySem.F.plainAttrs_list PySem.F.slot_list_pop PySem.F.type_list_pop mt_popAt (pv 3) (pa_cons (pe_call G__law_draw (hr.mono (by decide)) (by rfl) T.g__law_draw T.F__law_draw.kp T.b__law_draw .nil pass0 (pa_cons (pv 0) (pa_cons (pe_callB (id := "len") (r := Evl.rLenS K) call_len_seq (by rfl) T.len (by decide +kernel) (pa_cons (pv 3) pa_nil)) pa_nil))) pa_nil)) pa_nil)))))
 (pss_one (ps_ret (pv 4))))))), ?_⟩
    refine ⟨_, rfl, s, _, n, rfl, hw, by omega, by decide, by decide, fun f H1 f0 f1 bt1 w1 => ?_⟩
    refine ⟨_, rfl, (m : Int), rfl, by omega, by omega, fun D hD => lc_range (fun j H' => ∃ ls : List Str, But s H1 H' ∧ WellC H' s (n + 1 + j) ∧ H' D = some (.lst (ls.map V.str)) ∧ ls.length = j ∧ ∀ i x, ls[i]? = some x → ChainB f i x) ?_ ?_ ?_⟩
    · exact ⟨[], but_of_same (same_new hD), w1.same (same_new hD), upd_same, rfl, fun i x h => by simp at h⟩
    · rintro j H2 hj ⟨ls, bt2, w2, h2, hll, hch⟩
      have hj6 : j < m := by simpa using hj
      refine ⟨rfl, tyes (iteT ?_)⟩
      refine ⟨_, rfl, _, rfl, _, _, rfl, rfl, .inl ⟨by decide, by decide⟩, _, _, rfl, rfl, _, _, rfl, rfl, lt0, _, _, _, rfl, rfl, by decide +kernel, letter_at (by omega) (by omega), _, rfl, s, _, _, rfl, w2, by omega, by decide, by decide, fun k H3 k0 k1 bt3 w3 => ?_⟩
      have h3 := bt3 _ _ (w2.1.ne_strs h2) h2
      refine ⟨_, _, rfl, rfl, _, _, rfl, rfl, by omega, by omega, _, h3, by rw [List.length_map]; exact sl1 (by omega), ls ++ [_], (bt2.trans bt3).cell hD _, w3.cell w1 hD, by rw [upd_same, List.map_append]; rfl, by simp [hll], fun i x hi => ?_⟩
      rw [List.getElem?_append] at hi
      by_cases c : i < ls.length
      · rw [if_pos c] at hi
        exact hch i x hi
      · rw [if_neg c] at hi
        have hj0 : i - ls.length = 0 := by
          have := (List.getElem?_eq_some_iff.mp hi).1
          simp at this
          omega
        rw [hj0] at hi
        have e : _ = x := Option.some.inj hi
        have ej : i = j := by omega
        subst ej
        refine ⟨k.toNat, by omega, ?_⟩
        rw [← e, Int.zero_add, show (1 + k).toNat = k.toNat + 1 by omega]
    rintro H2 ⟨ls0, bt2, w2, h2, hll, hch⟩
    have hll : ls0.length = m := by simpa using hll
    refine ⟨Nat.zero_le _, fun F hF => ?_⟩
    have smF := same_new hF (o := .lst [])
    have hF3 : (upd H2 F (.lst [])) F = some (.lst (([] : List Str).map V.str)) := upd_same
    have h23 := smF _ _ h2
    have nDF : D ≠ F := ne_of_none h2 hF
    have hF0 : H F = none := (bt1.trans bt2).freeW w2.1 hF
    have hD0 : H D = none := bt1.freeW w1.1 hD
    have w23 := w2.same smF
    have bt3 := (bt1.trans bt2).same smF
    generalize (upd H2 F (.lst [])) = H3 at hF3 h23 w23 bt3 ⊢
    clear smF h2 w2 bt2 hF
    refine ⟨fun k σ' H' => ∃ ls fs : List Str, σ' = [some (.ref s), some (.int m), some (.int f), some (.ref D), some (.ref F), none] ∧ But s H H' ∧ WellC H' s (n + 1 + m + fs.length) ∧ H' D = some (.lst (ls.map V.str)) ∧ H' F = some (.lst (fs.map V.str)) ∧ (fs ++ ls).Perm ls0 ∧ k = ls.length, ⟨_, ls0, [], rfl, bt3, by simpa using w23, h23, hF3, List.Perm.refl _, rfl⟩, ?_⟩
    rintro k σ' H4 ⟨ls, fs, rfl, bt4, w4, hD4, hF4, hp, rfl⟩
    have hlen := hp.length_eq
    rw [List.length_append] at hlen
    refine ⟨_, rfl, Nat.zero_le _, fun ee he0 => ?_⟩
    have sme := same_new he0 (o := .lst [])
    refine ⟨eSs _, eSs [], dp_Ss (sme _ _ hD4), .lst (SqL.of upd_same) .nil, Nat.le_trans (dep_Ss _) (by decide), ?_⟩
    rw [enc_Ss]
    have bt5 := bt4.same sme
    have w5 := w4.same sme
    have hD5 := sme _ _ hD4
    have hF5 := sme _ _ hF4
    generalize (upd H4 ee (.lst [])) = H5 at bt5 w5 hD5 hF5 ⊢
    clear sme he0 hD4 hF4 w4 bt4
    refine ⟨_, rfl, ?_⟩
    cases ls with
    | nil =>
      refine iteF ?_
      rw [List.append_nil] at hp
      have hfl : fs.length = m := by rw [hp.length_eq, hll]
      exact ⟨_, rfl, q F H5 fs hF0 bt5 (w5.mono (by omega)) hF5 (areNames_perm hp.symm (chain_names hch (by omega) (by omega))) hfl⟩
    | cons l1 lr =>
      refine iteT ⟨fun σ' H' => ∃ ls fs : List Str, σ' = [some (.ref s), some (.int m), some (.int f), some (.ref D), some (.ref F), none] ∧ But s H H' ∧ WellC H' s (n + 1 + m + fs.length) ∧ H' D = some (.lst (ls.map V.str)) ∧ H' F = some (.lst (fs.map V.str)) ∧ (fs ++ ls).Perm ls0 ∧ ls.length = lr.length, ?_, ?_⟩
      · rintro σ' H' ⟨ls, fs, e1, e2, e3, e4, e5, e6, e7⟩
        exact ⟨lr.length, Nat.lt_succ_self _, ls, fs, e1, e2, e3, e4, e5, e6, e7.symm⟩
      · refine ⟨_, rfl, .inl ⟨rfl, _, SqL.of hF5⟩, _, rfl, .inl ⟨rfl, _, SqL.of hD5⟩, _, rfl, _, rfl, _, _, rfl, .inl (SqL.of hD5), s, _, _, rfl, w5, by omega, by rw [List.length_map, List.length_cons]; omega, by rw [List.length_map]; omega, fun j H6 j0 j1 bt6 w6 => ?_⟩
        have hD6 := bt6 _ _ (w5.1.ne_strs hD5) hD5
        have hF6 := bt6 _ _ (w5.1.ne_strs hF5) hF5
        obtain ⟨v, hv, _⟩ := atI_some j0 j1
        obtain ⟨i, hi, hiv, hil⟩ := atI_get hv
        obtain ⟨z, hz, rfl⟩ := map_at hiv
        have hlm : ((l1 :: lr).map V.str).length ≤ 6 := by rw [List.length_map]; omega
        refine ⟨D, (l1 :: lr).map V.str, j, i, V.str z, rfl, rfl, hD6, by omega, by omega, hi, hiv, ?_⟩
        have bt7 := (bt5.trans bt6).cell hD0 (.lst (((l1 :: lr).map V.str).eraseIdx i))
        have w7 := w6.cell (o := .lst (((l1 :: lr).map V.str).eraseIdx i)) hw hD0
        have hF7 : (upd H6 D (.lst (((l1 :: lr).map V.str).eraseIdx i))) F = some (.lst (fs.map V.str)) := by rw [upd_ne nDF.symm]; exact hF6
        have hD7 : (upd H6 D (.lst (((l1 :: lr).map V.str).eraseIdx i))) D = some (.lst (((l1 :: lr).eraseIdx i).map V.str)) := by
          rw [upd_same, List.eraseIdx_eq_take_drop_succ, List.eraseIdx_eq_take_drop_succ, List.map_append, List.map_take, List.map_drop]
        generalize (upd H6 D (.lst (((l1 :: lr).map V.str).eraseIdx i))) = H7 at bt7 w7 hF7 hD7 ⊢
        refine ⟨F, _, _, rfl, rfl, hF7, by rw [List.length_map]; exact sl1 (by omega), (l1 :: lr).eraseIdx i, fs ++ [z], rfl, bt7.cell hF0 _, ?_, by rw [upd_ne nDF]; exact hD7, by rw [upd_same, List.map_append]; rfl, ?_, ?_⟩
        · exact (w7.cell hw hF0).mono (by rw [List.length_append]; simp; omega)
        · have hi2 : i < (l1 :: lr).length := (List.getElem?_eq_some_iff.mp hz).1
          have h1 : (z :: (l1 :: lr).eraseIdx i).Perm (l1 :: lr) := by
            have e : l1 :: lr = (l1 :: lr).take i ++ z :: (l1 :: lr).drop (i + 1) := by
              conv => lhs; rw [← List.take_append_drop i (l1 :: lr), List.drop_eq_getElem_cons hi2]
              rw [(List.getElem?_eq_some_iff.mp hz).2]
            rw [List.eraseIdx_eq_take_drop_succ]
            conv => rhs; rw [e]
            exact List.perm_middle.symm
          have h2 : (fs ++ [z] ++ (l1 :: lr).eraseIdx i).Perm (fs ++ (l1 :: lr)) := by
            rw [List.append_assoc]
            exact (List.Perm.refl fs).append h1
          exact h2.trans hp
        · rw [List.length_eraseIdx_of_lt (List.getElem?_eq_some_iff.mp hz).1]
          rfl
end
end SG
namespace SG
open PySem PySem.Spec PyProof.Rows L2 LamX
section
variable {P : Program} {w : World} {K : PySem.W.Frag} {mg : Str → Option Value} {base : Heap} {A : Ad}
theorem sumN_cons (f : Str → Nat) (x : Str) (xs : List Str) : sumN f (x :: xs) = f x + sumN f xs := rfl
/-- the rules of a name, one of which tells its norm -/
def StepsX (wB : Str → Nat) (chain : List Str) (i b c : Nat) (ps : List Step) : Prop := ps.Nodup ∧ ps.length ≤ b ∧ (∀ p ∈ ps, isLetter p.1 = true ∧ p.2.length ≤ c ∧ ∀ x ∈ p.2, x ∈ chain) ∧ ∃ p ∈ ps, (∀ x ∈ p.2, x ∈ chain.take i) ∧ ∀ n, chain[i]? = some n → sumN wB p.2 + 1 = wB n
theorem StepsX.toW {wB : Str → Nat} {chain : List Str} {i b c : Nat} {ps : List Step} (h : StepsX wB chain i b c ps) : StepsW chain i b c ps := by
  obtain ⟨h1, h2, h3, p, h4, h5, _⟩ := h
  exact ⟨h1, h2, h3, p, h4, h5⟩
theorem sumN_congr {f g : Str → Nat} : ∀ {xs : List Str}, (∀ x ∈ xs, f x = g x) → sumN f xs = sumN g xs
  | [], _ => rfl
  | x :: t, h => by rw [sumN_cons, sumN_cons, h x List.mem_cons_self, sumN_congr fun y hy => h y (List.mem_cons_of_mem _ hy)]
theorem StepsX.ext {f g : Str → Nat} {chain : List Str} {i b c : Nat} {ps : List Step} (h : StepsX f chain i b c ps) (e : ∀ x ∈ chain.take (i + 1), f x = g x) : StepsX g chain i b c ps := by
  obtain ⟨h1, h2, h3, p, h4, h5, h6⟩ := h
  refine ⟨h1, h2, h3, p, h4, h5, fun n hn => ?_⟩
  have tk : chain.take (i + 1) = chain.take i ++ [n] := take_snoc hn
  rw [tk] at e
  rw [← sumN_congr (f := f) (g := g) fun x hx => e x (List.mem_append_left _ (h5 x hx)), ← e n (List.mem_append_right _ List.mem_cons_self)]
  exact h6 n hn
def wOf (kvs : List (Key × V)) (x : Str) : Nat := (intOf kvs x).toNat
theorem wOf_sum {kvs : List (Key × V)} : ∀ {row : List Str}, (∀ x ∈ row, 1 ≤ intOf kvs x) → (sumN (wOf kvs) row : Int) = (row.map (intOf kvs)).sum
  | [], _ => rfl
  | x :: t, h => by
    have h1 := h x List.mem_cons_self
    have h2 := wOf_sum (row := t) fun y hy => h y (List.mem_cons_of_mem _ hy)
    rw [sumN_cons, List.map_cons, List.sum_cons, ← h2]
    unfold wOf
    omega
/-- the rules of a world as they are drawn, then perhaps one name made of others -/
def MadeW (wB : Str → Nat) (b : Nat) (chain : List Str) (gs : List (List Step)) : Prop := ∃ gs0 : List (List Step), gs0.length = chain.length ∧ (∀ j ps, gs0[j]? = some ps → StepsX wB chain j b 2 ps) ∧
  (gs = gs0 ∨ ∃ (k jn : Nat) (kq sn : Str) (tail : List Str) (ps : List Step), chain[k]? = some kq ∧ jn < k ∧ chain[jn]? = some sn ∧ tail.length ≤ 1 ∧ (∀ x ∈ tail, x ∈ chain.take k) ∧ gs0[jn]? = some ps ∧ gs = gs0.set k (ps.map fun p => (p.1, p.2 ++ tail)))
def sp_world24 (Ts : List (Addr × Str)) : Sp := fun vs H Q _ => ∃ (s : Addr) (m b c n : Nat), vs = [.ref s, .int m, .int b, .int c] ∧ 1 ≤ m ∧ m ≤ 4 ∧ 1 ≤ b ∧ b ≤ 4 ∧ 1 ≤ c ∧ WellC H s n ∧ n ≤ 10000 ∧ Tabs Ts H ∧
  ∀ (wd : Addr) H' (names chain : List Str) (gs : List (List Step)) (wB : Str → Nat), ButX s H H' → H wd = none → Tabs Ts H' → WorldAt H' wd names chain gs → MadeW wB b chain gs → (∀ n ∈ chain, 1 ≤ wB n ∧ wB n ≤ c) → names.Perm chain → areNames chain = true → chain.length = m → WorldR chain b 3 gs → Q (.ref wd) H'
theorem any_row {ps : List Step} {p : Step} : ((ps.map eRow).any fun z => PyData.eqv z (eRow p)) = true ↔ p ∈ ps := by
  rw [List.any_eq_true]
  constructor
  · rintro ⟨z, hz, e⟩
    obtain ⟨q, hq, rfl⟩ := List.mem_map.mp hz
    rw [enc_Row] at e
    have e := of_decide_eq_true e
    exact e ▸ hq
  · intro h
    refine ⟨_, List.mem_map.mpr ⟨p, h, rfl⟩, ?_⟩
    rw [enc_Row]
    simp
theorem zip_strs {xs : List Str} : ∀ {y : V} {z : Str}, (y, z) ∈ (xs.map V.str).zip xs → y = V.str z ∧ z ∈ xs := fun {y z} h => by
  obtain ⟨i, hi⟩ := List.mem_iff_getElem?.mp h
  rw [List.getElem?_zip_eq_some] at hi
  obtain ⟨h1, h2⟩ := hi
  rw [List.getElem?_map, h2] at h1
  exact ⟨(Option.some.inj h1).symm, List.mem_of_getElem? h2⟩
theorem paired_has {α β : Type} {F : α → β → Prop} : ∀ {xs : List α} {ys : List β}, Paired F xs ys → ∀ {x : α}, x ∈ xs → ∃ y, F x y
  | _, _, .nil, x, h => by cases h
  | _, _, .cons h1 t, x, h => by
    rcases List.mem_cons.mp h with rfl | h
    · exact ⟨_, h1⟩
    · exact paired_has t h
theorem or_slices {σ : L2.St} {H : Hp} {Q : VK} {cl : Addr} {chain : List Str} {i : Nat} (h6 : σ[6]? = some (some (.ref cl))) (h9 : σ[9]? = some (some (.int (i : Int)))) (hcl : H cl = some (.lst (chain.map V.str))) (hi : i < chain.length)
    (h : ∀ (av : Addr) H9 (xs : List Str), Same H H9 → H9 av = some (.lst (xs.map V.str)) → 0 < xs.length → xs.length ≤ chain.length → (0 < i → xs = chain.take i) → Q (.ref av) H9) :
    tOrT K (tSl (rSlL K) (tVar 6) tNoPart (tPart (tVar 9))) (tSl (rSlL K) (tVar 6) tNoPart (tPart (tC (.int 1)))) σ H Q := by
  refine ⟨_, h6, _, h9, _, rfl, cl, _, rfl, SqL.of hcl, fun pa hpa => ?_⟩
  have sma := same_new hpa (o := .lst (cutV (chain.map V.str) none (some (i : Int))))
  have hpa8 : (upd H pa (.lst (cutV (chain.map V.str) none (some (i : Int))))) pa = some (.lst ((chain.take i).map V.str)) := by
    rw [upd_same, cut_lt, List.map_take]
  have hcl8 := sma _ _ hcl
  refine ⟨_, .inl ⟨_, SqL.of hpa8, rfl⟩, ?_⟩
  by_cases h0 : 0 < i
  · rw [if_pos]
    · exact h _ _ _ sma hpa8 (by rw [List.length_take]; omega) (by rw [List.length_take]; omega) fun _ => rfl
    · have : 0 < ((chain.take i).map V.str).length := by rw [List.length_map, List.length_take]; omega
      cases e : (chain.take i).map V.str with
      | nil => rw [e] at this; simp at this
      | cons _ _ => rfl
  · have e : i = 0 := by omega
    subst e
    rw [if_neg (by simp)]
    refine ⟨_, h6, 1, rfl, cl, _, rfl, SqL.of hcl8, fun pb hpb => ?_⟩
    have smb := same_new hpb (o := .lst (cutV (chain.map V.str) none (some ((1 : Nat) : Int))))
    refine h pb _ (chain.take 1) (sma.trans smb) ?_ (by rw [List.length_take]; omega) (by rw [List.length_take]; omega) fun h => absurd h (by decide)
    rw [upd_same, List.map_take, ← cut_lt]
    rfl
theorem ok__law_world (T : Txt K mg A) (TB : TabB base mg A.k_lam A.p_lam) : FnOk P w K mg base CX0 4 A.a__law_world A.d__law_world ["_law_well_here", "_law_many", "_law_wide", "_law_cap"] (sp_world24 (tabT A)) := by
  have G__law_draw : FnOk P w K mg base CX0 1 A.a__law_draw A.d__law_draw ["_law_well_here", "_law_wide"] sp_drawC := ok__law_draw T
  have G__law_some : FnOk P w K mg base CX0 2 A.a__law_some A.d__law_some ["_law_well_here", "_law_names", "_law_most"] sp_some := ok__law_some T
  have G__law_chain : FnOk P w K mg base CX0 2 A.a__law_chain A.d__law_chain ["_law_well_here", "_law_many"] sp_chain := ok__law_chain T
  refine fun_okC T.F__law_world sc__law_world (fun vs H Q E h => ?_) (fun cdv hc A0 outer s0 H vs Q E hr h => ?_)
  · obtain ⟨_, _, _, _, _, rfl, _⟩ := h
    rfl
  · obtain ⟨s, m, b, c, n, rfl, hm1, hm4, hb1, hb4, hc1, hw, hn, hT, q⟩ := h
    have hu := hu_of hr
    have hu64 := hu64_of hr
    refine ⟨_, (pss_cons (ps_set (i := 4) sc__law_world.nd rfl (Or.inr rfl) (pe_call G__law_draw (hr.mono (by decide)) (by rfl) T.g__law_draw T.F__law_draw.kp T.b__law_draw .nil pass0 (pa_cons (pv 0) (pa_cons pe_int pa_nil))))
 (pss_cons (ps_setLc (i := 5) (own := [("_law_k", 9)]) (g := gName 9) (by rfl) sc__law_world.nd rfl rfl (sw_true rfl rfl rfl (by decide +kernel)) (pi_range1 (by rfl) T.range (pa_cons (pe_op op_add pe_int (pe_call G__law_draw (hr.mono (by decide)) (by rfl) T.g__law_draw T.F__law_draw.kp T.b__law_draw .nil pass0 (pa_cons (pv 0) (pa_cons pe_int pa_nil)))) pa_nil)) (blkOk_by (own := [("_law_k", 9)]) (N := ["_law_well_here", "_law_many", "_law_wide", "_law_cap", "_law_start", "_law_letters", "_law_chain_here", "_law_rules", "_law_norm", "_law_k", "_law_name", "_law_row", "_law_j", "_law_rule", "_law_tail", "_law_source", "_law_part", "_law_letter"]) (sc := defScope s__law_world) (by decide +kernel)) (fun _ _ _ _ _ => (pg_name (i := 9) sc__law_world.nd rfl (Or.inl rfl))) (fun _ _ _ _ _ => pts_nil) (fun _ _ _ _ _ => (pe_ix (r := rIxS) ix_str pe_str (pe_op op_mod (pe_op op_add (pv 4) (pe_op op_mul pe_int (pv 9))) pe_int) (fun _ _ => rfl))))
 (pss_cons (ps_set (i := 6) sc__law_world.nd rfl (Or.inl rfl) (pe_call G__law_chain (hr.mono (by decide)) (by rfl) T.g__law_chain T.F__law_chain.kp T.b__law_chain .nil pass0 (pa_cons (pv 0) (pa_cons (pv 1) pa_nil))))
 (pss_cons (ps_set (i := 7) sc__law_world.nd rfl (Or.inl rfl) pe_dnewK)
 (pss_cons (ps_set (i := 8) sc__law_world.nd rfl (Or.inr rfl) pe_dnewK)
 (pss_cons (ps_for PassesOwn.never rfl (pi_enum (by rfl) T.enumerate (pa_cons (pv 6) pa_nil)) (pg_tup (by rfl) (pgs_cons (pg_name (i := 9) sc__law_world.nd rfl (Or.inl rfl)) (pgs_cons (pg_name (i := 10) sc__law_world.nd rfl (Or.inl rfl)) pgs_nil)))
 (pss_cons (ps_set (i := 11) sc__law_world.nd rfl (Or.inl rfl) (pe_call G__law_some (hr.mono (by decide)) (by rfl) T.g__law_some T.F__law_some.kp T.b__law_some .nil pass0 (pa_cons (pv 0) (pa_cons (pe_orT (pe_slice (r := rSlL K) sl_list (pv 6) po_none (po_some (pv 9))) (pe_one (pe_slice (r := rSlL K) sl_list (pv 6) po_none (po_some pe_int)))) (pa_cons (pe_op op_mul pe_int (pe_callTy (T := "int") call_int1 (by rfl) T.int_ (by decide +kernel) (pa_cons (pe_cmpR op_gt (pv 9) pe_int (nomark _)) pa_nil))) pa_nil)))))
 (pss_cons (ps_while PassesOwn.never (pt_cmpR op_ge (pe_callB (id := "sum") (r := rSum K) (cr_sum rfl) (by rfl) T.sum (by decide +kernel) (pa_cons (pe_lc (own := [("_law_part", 16)]) (g := gName 16) (by rfl) sc__law_world.nd (pi_list (pv 11)) (blkOk_by (own := [("_law_part", 16)]) (N := ["_law_well_here", "_law_many", "_law_wide", "_law_cap", "_law_start", "_law_letters", "_law_chain_here", "_law_rules", "_law_norm", "_law_k", "_law_name", "_law_row", "_law_j", "_law_rule", "_law_tail", "_law_source", "_law_part", "_law_letter"]) (sc := defScope s__law_world) (by decide +kernel)) (fun _ _ _ _ _ => (pg_name (i := 16) sc__law_world.nd rfl (Or.inl rfl))) (fun _ _ _ _ _ => pts_nil) (fun _ _ _ _ _ => (pe_dget hu (pv 8) (pv 16) (fun _ _ => rfl)))) pa_nil)) (pv 3) (nomark _)) (pss_one (ps_expr (pe_bm0 PySem.F.plainAttrs_list PySem.F.slot_list_pop PySem.F.type_list_pop mt_pop (pv 11)))))
 (pss_cons (ps_dput hu (pv 8) (pv 10) (pe_op op_add pe_int (pe_callB (id := "sum") (r := rSum K) (cr_sum rfl) (by rfl) T.sum (by decide +kernel) (pa_cons (pe_lc (own := [("_law_part", 16)]) (g := gName 16) (by rfl) sc__law_world.nd (pi_list (pv 11)) (blkOk_by (own := [("_law_part", 16)]) (N := ["_law_well_here", "_law_many", "_law_wide", "_law_cap", "_law_start", "_law_letters", "_law_chain_here", "_law_rules", "_law_norm", "_law_k", "_law_name", "_law_row", "_law_j", "_law_rule", "_law_tail", "_law_source", "_law_part", "_law_letter"]) (sc := defScope s__law_world) (by decide +kernel)) (fun _ _ _ _ _ => (pg_name (i := 16) sc__law_world.nd rfl (Or.inl rfl))) (fun _ _ _ _ _ => pts_nil) (fun _ _ _ _ _ => (pe_dget hu (pv 8) (pv 16) (fun _ _ => rfl)))) pa_nil))) rfl)
 (pss_one (ps_dput hu (pv 7) (pv 10) (pe_lst (pa_cons (pe_tup (pa_cons (pe_ix (r := rIxL K) ix_list (pv 5) (pe_call G__law_draw (hr.mono (by decide)) (by rfl) T.g__law_draw T.F__law_draw.kp T.b__law_draw .nil pass0 (pa_cons (pv 0) (pa_cons (pe_callB (id := "len") (r := Evl.rLenS K) call_len_seq (by rfl) T.len (by decide +kernel) (pa_cons (pv 5) pa_nil)) pa_nil))) (fun _ _ => rfl)) (pa_cons (pv 11) pa_nil))) pa_nil)) rfl))))))
 (pss_cons (ps_for PassesOwn.never rfl (pi_list (pv 6)) (pg_name (i := 10) sc__law_world.nd rfl (Or.inl rfl))
 (pss_one (ps_for PassesOwn.never rfl (pi_range1 (by rfl) T.range (pa_cons (pe_call G__law_draw (hr.mono (by decide)) (by rfl) T.g__law_draw T.F__law_draw.kp T.b__law_draw .nil pass0 (pa_cons (pv 0) (pa_cons (pv 2) pa_nil))) pa_nil)) (pg_name (i := 12) sc__law_world.nd rfl (Or.inl rfl))
 (pss_cons (ps_set (i := 13) sc__law_world.nd rfl (Or.inl rfl) (pe_tup (pa_cons (pe_ix (r := rIxL K) ix_list (pv 5) (pe_call G__law_draw (hr.mono (by decide)) (by rfl) T.g__law_draw T.F__law_draw.kp T.b__law_draw .nil pass0 (pa_cons (pv 0) (pa_cons (pe_callB (id := "len") (r := Evl.rLenS K) call_len_seq (by rfl) T.len (by decide +kernel) (pa_cons (pv 5) pa_nil)) pa_nil))) (fun _ _ => rfl)) (pa_cons (pe_call G__law_some (hr.mono (by decide)) (by rfl) T.g__law_some T.F__law_some.kp T.b__law_some .nil pass0 (pa_cons (pv 0) (pa_cons (pv 6) (pa_cons pe_int pa_nil)))) pa_nil))))
 (pss_one (ps_if (pt_cmpR (r := rNotInP K) (op_notInP hu64) (pv 13) (pe_dget hu (pv 7) (pv 10) (fun _ _ => rfl)) (by rfl)) (pss_one (ps_expr (pe_bm PySem.F.plainAttrs_list PySem.F.slot_list_append PySem.F.type_list_append mt_append (pe_dget hu (pv 7) (pv 10) (fun _ _ => rfl)) (pa_cons (pv 13) pa_nil)))) pss_nil))))))
 (Evl.pss_cut (ps_if (PW.pt (pw_and (pt_cmpR op_gt (pv 1) pe_int (nomark _)) (pw_and1 (pt_cmpR op_eq (pe_call G__law_draw (hr.mono (by decide)) (by rfl) T.g__law_draw T.F__law_draw.kp T.b__law_draw .nil pass0 (pa_cons (pv 0) (pa_cons pe_int pa_nil))) pe_int (nomark _))))) (pss_cons (ps_set (i := 9) sc__law_world.nd rfl (Or.inl rfl) (pe_op op_add pe_int (pe_call G__law_draw (hr.mono (by decide)) (by rfl) T.g__law_draw T.F__law_draw.kp T.b__law_draw .nil pass0 (pa_cons (pv 0) (pa_cons (pe_op op_sub (pv 1) pe_int) pa_nil)))))
 (pss_cons (ps_set (i := 14) sc__law_world.nd rfl (Or.inr rfl) (pe_call G__law_some (hr.mono (by decide)) (by rfl) T.g__law_some T.F__law_some.kp T.b__law_some .nil pass0 (pa_cons (pv 0) (pa_cons (pe_slice (r := rSlL K) sl_list (pv 6) po_none (po_some (pv 9))) (pa_cons pe_int pa_nil)))))
 (pss_cons (ps_set (i := 15) sc__law_world.nd rfl (Or.inl rfl) (pe_ix (r := rIxL K) ix_list (pv 6) (pe_call G__law_draw (hr.mono (by decide)) (by rfl) T.g__law_draw T.F__law_draw.kp T.b__law_draw .nil pass0 (pa_cons (pv 0) (pa_cons (pv 9) pa_nil))) (fun _ _ => rfl)))
 (pss_one (ps_dput hu (pv 7) (pe_ix (r := rIxL K) ix_list (pv 6) (pv 9) (fun _ _ => rfl)) (pe_lc (own := [("_law_letter", 17), ("_law_row", 11)]) (g := gTup K 2 (gCons (gName 17) (gCons (gName 11) gNil))) (by rfl) sc__law_world.nd (pi_list (pe_dget hu (pv 7) (pv 15) (fun _ _ => rfl))) (blkOk_by (own := [("_law_letter", 17), ("_law_row", 11)]) (N := ["_law_well_here", "_law_many", "_law_wide", "_law_cap", "_law_start", "_law_letters", "_law_chain_here", "_law_rules", "_law_norm", "_law_k", "_law_name", "_law_row", "_law_j", "_law_rule", "_law_tail", "_law_source", "_law_part", "_law_letter"]) (sc := defScope s__law_world) (by decide +kernel)) (fun _ _ _ _ _ => (pg_tup (by rfl) (pgs_cons (pg_name (i := 17) sc__law_world.nd rfl (Or.inl rfl)) (pgs_cons (pg_name (i := 11) sc__law_world.nd rfl (Or.inl rfl)) pgs_nil)))) (fun _ _ _ _ _ => pts_nil) (fun _ _ _ _ _ => (pe_tup (pa_cons (pv 17) (pa_cons (pe_op op_cat (pv 11) (pv 14)) pa_nil))))) rfl))))) pss_nil)
 (pss_one (ps_ret (pe_disp (pps_cons pe_str (pe_sortLam (T := tabT A) (key := fun b : Str => PyData.str (revS b)) (x := "_law_name") (by rfl) T.sorted (pv 6) TB (hc.symm.trans T.code_lam) List.mem_cons_self (fun p hp _ => by rw [List.mem_singleton.mp hp]; rfl) (hr.mono (by decide)) ⟨rfl, rfl, rfl, by decide +kernel, by decide +kernel, by decide +kernel⟩ rfl (fun _ _ _ _ _ _ => rfl) (keyB_rev (kx := fun b : Str => b) rfl (by decide +kernel) (by decide +kernel)) rs_keeps rs_of rvs_ext) (pps_cons pe_str (pv 7) pps_nil)) rfl rfl (fun h => by cases h) (by decide)))))))))))), ?_⟩
    -- the letters
    refine ⟨_, rfl, s, _, n, rfl, hw, by omega, by decide, by decide, fun f H1 f0 f1 bt1 w1 => ?_⟩
    refine ⟨_, rfl, s, _, _, rfl, w1, by omega, by decide, by decide, fun k H2 k0 k1 bt2 w2 => ?_⟩
    obtain ⟨kn, rfl⟩ : ∃ kn : Nat, k = (kn : Int) := ⟨k.toNat, (Int.toNat_of_nonneg k0).symm⟩
    refine ⟨_, _, rfl, rfl, (1 + kn : Int), rfl, by omega, by omega, fun L hL => lc_range (fun j H' => ∃ ls : List Str, Same H2 H' ∧ H' L = some (.lst (ls.map V.str)) ∧ ls.length = j ∧ ∀ x ∈ ls, isLetter x = true) ?_ ?_ ?_⟩
    · exact ⟨[], same_new hL, upd_same, rfl, fun x h => by simp at h⟩
    · rintro j H3 hj ⟨ls, sm3, h3, hll, hle⟩
      have hj9 : j < 9 := by omega
      refine ⟨rfl, tyes (iteT ?_)⟩
      refine ⟨_, rfl, _, rfl, _, _, rfl, rfl, .inl ⟨by decide, by decide⟩, _, _, rfl, rfl, _, _, rfl, rfl, lt0, _, _, _, rfl, rfl, by decide +kernel, letter_at (by omega) (by omega), _, h3, by rw [List.length_map]; exact sl1 (by omega), ls ++ [_], same_mut sm3 hL, by rw [upd_same, List.map_append]; rfl, by simp [hll], fun x hx => ?_⟩
      rcases List.mem_append.mp hx with hx | hx
      · exact hle x hx
      · rw [List.mem_singleton.mp hx]
        exact letter_ok _ (by omega)
    rintro H3 ⟨lets, sm3, h3, hll, hle⟩
    have hll : lets.length = 1 + kn := by
      have : lets.length = (1 + (kn : Int)).toNat := hll
      omega
    have w3 := w2.same sm3
    have bt3 := (bt1.trans bt2).same sm3
    clear w2 w1 bt1 bt2 sm3
    -- the chain
    refine ⟨_, rfl, _, rfl, s, m, _, rfl, hm1, by omega, w3, by omega, fun cl H4 chain cl0 bt4 w4 hcl hch hcm => ?_⟩
    have hlet := bt4 _ _ (w3.1.ne_strs h3) h3
    have bt04 := bt3.trans bt4
    have cnd := areNames_nd hch
    clear bt4 h3
    -- two dicts
    intro rd hrd
    intro nd hnd
    have hrd0 : H rd = none := bt04.freeW w4.1 hrd
    have nrn : nd ≠ rd := fun z => by rw [z, upd_same] at hnd; cases hnd
    have hnd4 : H4 nd = none := by rw [upd_ne nrn] at hnd; exact hnd
    have hnd0 : H nd = none := bt04.freeW w4.1 hnd4
    have sm5 : Same H4 (upd (upd H4 rd (.dK [])) nd (.dK [])) := (same_new hrd).trans (same_new hnd)
    have r0 : RulesT H (upd (upd H4 rd (.dK [])) nd (.dK [])) rd [] [] [] := ⟨by rw [upd_ne nrn.symm, upd_same]; rfl, rfl, List.nodup_nil, .nil⟩
    have n0 : (upd (upd H4 rd (.dK [])) nd (.dK [])) nd = some (.dK []) := upd_same
    have w5 := w4.same sm5
    have bt5 := bt04.same sm5
    have hcl5 := sm5 _ _ hcl
    have hlet5 := sm5 _ _ hlet
    generalize (upd (upd H4 rd (.dK [])) nd (.dK [])) = H5 at r0 n0 w5 bt5 hcl5 hlet5 ⊢
    clear sm5 hnd4 hnd hrd hlet hcl w4 bt04 bt3 w3
    refine ⟨_, rfl, cl, _, rfl, SqL.of hcl5, for_it (walk_enum (K := K) (a := cl) (xs := chain.map V.str)) (fun i σ' H' => ∃ (x9 x10 x11 : Option V) (kvs : List (Key × V)) (ls : List Addr) (gs : List (List Step)), σ' = [some (.ref s), some (.int m), some (.int b), some (.int c), some (.int f), some (.ref L), some (.ref cl), some (.ref rd), some (.ref nd), x9, x10, x11, none, none, none, none, none, none] ∧ But s H H' ∧ WellC H' s (1000 + n + 20 * i) ∧ H' cl = some (.lst (chain.map V.str)) ∧ H' L = some (.lst (lets.map V.str)) ∧ RulesT H H' rd (chain.take i) ls gs ∧ H' nd = some (.dK kvs) ∧ kvs.length ≤ i ∧ (∀ x ∈ chain.take i, valV kvs (Sum.inr x : Key) = some (.int (intOf kvs x)) ∧ 1 ≤ intOf kvs x ∧ intOf kvs x ≤ c) ∧ ∀ j ps, gs[j]? = some ps → StepsX (wOf kvs) chain j 1 2 ps) ?_ ?_ ?_ ?_⟩
    · exact ⟨_, _, _, [], [], [], rfl, bt5, w5.mono (by omega), hcl5, hlet5, r0, n0, Nat.le_refl _, fun x h => by simp at h, fun j ps h => by simp at h⟩
    · rintro i σ' H' _ ⟨_, _, _, _, _, _, rfl, _, _, h, _⟩
      exact SqL.of h
    · rintro i x σ' H6 H7 hi ⟨x9, x10, x11, kvs, ls, gs, rfl, bt6, w6, hcl6, hlet6, r6, hk6, hkl, hval, hst⟩ ⟨T0, y1, y2, rfl, hT0, rfl, e1, e2⟩
      have e1 := Option.some.inj e1
      subst e1
      obtain ⟨nk, hnk, rfl⟩ := map_at e2
      have hil : i < chain.length := (List.getElem?_eq_some_iff.mp hnk).1
      have smT := same_new hT0 (o := .tup [.int i, .str nk])
      refine ⟨T0, _, rfl, SqT.of upd_same, rfl, _, _, rfl, _, _, rfl, rfl, ?_⟩
      have bt7 := bt6.same smT
      have w7 := w6.same smT
      have hk7 := smT _ _ hk6
      have hcl7 := smT _ _ hcl6
      have hlet7 := smT _ _ hlet6
      have r7 := r6.same smT
      generalize (upd H6 T0 (.tup [.int i, .str nk])) = H7 at bt7 w7 hk7 hcl7 hlet7 r7 ⊢
      clear bt6 w6 hk6 smT hT0 hcl6 hlet6 r6
      -- the names ahead
      refine ⟨_, rfl, or_slices (i := i) rfl rfl hcl7 hil fun pa H8 xs sma hpa8 hx0 hxl hxi => ?_⟩
      have bt78 : But s H7 H8 := but_of_same sma
      have w8 := w7.same sma
      refine ⟨_, rfl, _, _, rfl, rfl, .inr ⟨_, rfl, _, _, rfl, rfl, ?_⟩⟩
      obtain ⟨cnt, hcnt, hc2, hc0⟩ : ∃ c : Nat, 2 * (if decide (0 < (i : Int)) = true then 1 else 0) = (c : Int) ∧ c ≤ 2 ∧ (0 < c → 0 < i) := by
        by_cases hi0 : 0 < i
        · refine ⟨2, ?_, Nat.le_refl _, fun _ => hi0⟩
          rw [decide_eq_true (show 0 < (i : Int) by omega), if_pos rfl]
          rfl
        · refine ⟨0, ?_, by omega, fun h => by omega⟩
          rw [decide_eq_false (show ¬ 0 < (i : Int) by omega), if_neg (by decide)]
          rfl
      refine ⟨.inl ⟨by omega, by omega⟩, s, pa, cnt, _, xs, congrArg (fun q => [V.ref s, V.ref pa, V.int q]) hcnt, by omega, w8, by omega, hpa8, hx0, by omega, fun ra H9 row0 ra0 bt9 w9 hra9 hrl0 hsub0 => ?_⟩
      have hra7 : H7 ra = none := sma.free ra0
      have bt79 : But s H7 H9 := bt78.trans bt9
      have hsub1 : ∀ x ∈ row0, x ∈ chain.take i := fun x hx => by
        have hp : 0 < row0.length := List.length_pos_of_mem hx
        rw [← hxi (hc0 (by omega))]
        exact hsub0 x hx
      clear bt9 bt78 w8 hpa8 sma ra0 hcnt hxi
      -- while too much
      refine ⟨fun k σ' H' => ∃ row : List Str, σ' = [some (.ref s), some (.int m), some (.int b), some (.int c), some (.int f), some (.ref L), some (.ref cl), some (.ref rd), some (.ref nd), some (.int (i : Int)), some (.str nk), some (.ref ra), none, none, none, none, none, none] ∧ But s H7 H' ∧ WellC H' s (1000 + n + 20 * i + 3) ∧ H' ra = some (.lst (row.map V.str)) ∧ row.length ≤ 2 ∧ (∀ x ∈ row, x ∈ chain.take i) ∧ k = row.length, ⟨_, row0, rfl, bt79, w9.mono (by omega), hra9, by omega, hsub1, rfl⟩, ?_⟩
      clear hra9 bt79 w9 H9 hrl0 hsub0 hsub1 row0
      rintro k σ' H9 ⟨row, rfl, bt9, w9, hra9, hrl, hsub, rfl⟩
      have hk9 := bt9 _ _ (w7.1.ne_dk hk7) hk7
      have hval' : ∀ x ∈ row, valV kvs (Sum.inr x : Key) = some (.int (intOf kvs x)) := fun x hx => (hval x (hsub x hx)).1
      refine ⟨_, rfl, ra, rfl, ⟨_, SqL.of hra9⟩, fun D hD => lc_scal (K := K) (ys := (row.map (intOf kvs)).map V.int) (SqL.of hra9) hD (by simp) (by rw [List.length_map]; omega) (fun _ => rfl) (fun i x y H' Q' g1 g2 sm k => ?_) (fun H12 sm12 hl12 => ?_)⟩
      · obtain ⟨x1, hx1, rfl⟩ := map_at g1
        have hx2 : (row.map (intOf kvs))[i]? = some (intOf kvs x1) := by rw [List.getElem?_map, hx1]; rfl
        have ey := map_get hx2 g2
        subst ey
        exact ⟨_, rfl, _, rfl, nd, _, rfl, .inl ⟨kvs, Sum.inr x1, .inl (sm _ _ hk9), rfl, (hval' x1 (List.mem_of_getElem? hx1)).symm⟩, k _ fun _ _ h => h⟩
      have hk12 := sm12 _ _ hk9
      have hra12 := sm12 _ _ hra9
      have w12 := w9.same sm12
      have bt12 := bt9.same sm12
      refine ⟨D, _, rfl, SqL.of hl12, _, rfl, _, _, rfl, rfl, _, rfl, iteB (fun hbig => ?_) (fun hsml => ?_)⟩
      · have hbig := of_decide_eq_true hbig
        cases hrow : row with
        | nil =>
          rw [hrow] at hbig
          have z : (([] : List Str).map (intOf kvs)).sum = 0 := rfl
          rw [z] at hbig
          omega
        | cons r1 rr =>
          rw [← hrow]
          have hne : row ≠ [] := by rw [hrow]; exact List.cons_ne_nil _ _
          obtain ⟨y, hy⟩ : ∃ y, row[row.length - 1]? = some y := ⟨_, List.getElem?_eq_getElem (by rw [hrow]; simp)⟩
          refine ⟨fun σ' H' => ∃ row2 : List Str, σ' = [some (.ref s), some (.int m), some (.int b), some (.int c), some (.int f), some (.ref L), some (.ref cl), some (.ref rd), some (.ref nd), some (.int (i : Int)), some (.str nk), some (.ref ra), none, none, none, none, none, none] ∧ But s H7 H' ∧ WellC H' s (1000 + n + 20 * i + 3) ∧ H' ra = some (.lst (row2.map V.str)) ∧ row2.length ≤ 2 ∧ (∀ x ∈ row2, x ∈ chain.take i) ∧ row2.length + 1 = row.length, ?_, ?_⟩
          · rintro σ' H' ⟨row2, e1, e2, e3, e4, e5, e6, e7⟩
            exact ⟨row2.length, by omega, row2, e1, e2, e3, e4, e5, e6, rfl⟩
          · refine ⟨_, rfl, .inl ⟨rfl, _, SqL.of hra12⟩, ra, _, .str y, rfl, rfl, hra12, by rw [List.length_map, List.getElem?_map, hy]; rfl, row.dropLast, rfl, bt12.cell hra7 _, w12.cell w7 hra7, by rw [upd_same, List.map_dropLast], by rw [List.length_dropLast]; omega, fun x hx => hsub x (List.dropLast_subset _ hx), by rw [List.length_dropLast]; rw [hrow]; simp⟩
      have hsml := of_decide_eq_false hsml
      clear hl12 sm12 hD hra9 hk9 w9 bt9
      -- its norm
      refine ⟨_, rfl, ra, rfl, ⟨_, SqL.of hra12⟩, fun D hD => lc_scal (K := K) (ys := (row.map (intOf kvs)).map V.int) (SqL.of hra12) hD (by simp) (by rw [List.length_map]; omega) (fun _ => rfl) (fun i x y H' Q' g1 g2 sm k => ?_) (fun H13 sm13 hl13 => ?_)⟩
      · obtain ⟨x1, hx1, rfl⟩ := map_at g1
        have hx2 : (row.map (intOf kvs))[i]? = some (intOf kvs x1) := by rw [List.getElem?_map, hx1]; rfl
        have ey := map_get hx2 g2
        subst ey
        exact ⟨_, rfl, _, rfl, nd, _, rfl, .inl ⟨kvs, Sum.inr x1, .inl (sm _ _ hk12), rfl, (hval' x1 (List.mem_of_getElem? hx1)).symm⟩, k _ fun _ _ h => h⟩
      have hk13 := sm13 _ _ hk12
      have hra13 := sm13 _ _ hra12
      have bt13 := bt12.same sm13
      have w13 := w12.same sm13
      have r13 := r7.but w7.1 bt13
      have hcl13 := bt13 _ _ (w7.1.ne_strs hcl7) hcl7
      have hlet13 := bt13 _ _ (w7.1.ne_strs hlet7) hlet7
      have bto13 := bt7.trans bt13
      have hra0 : H ra = none := bt7.freeW w7.1 hra7
      refine ⟨D, _, rfl, SqL.of hl13, _, _, rfl, rfl, _, rfl, _, rfl, nd, _, rfl, DPut.k (k := Sum.inr nk) hk13 (sl1 (by omega)), ?_⟩
      clear hl13 sm13 hD hra12 hk12 w12 bt12
      have hinew : intOf (putK kvs (Sum.inr nk : Key) (V.int (1 + (row.map (intOf kvs)).sum))) nk = 1 + (row.map (intOf kvs)).sum := by
        unfold intOf
        rw [valV_put, if_pos rfl]
      have hiold : ∀ x, x ≠ nk → intOf (putK kvs (Sum.inr nk : Key) (V.int (1 + (row.map (intOf kvs)).sum))) x = intOf kvs x := fun x e => by
        unfold intOf
        rw [valV_put, if_neg (fun q => e (Sum.inr.inj q))]
      have hwsum := wOf_sum (kvs := kvs) (row := row) fun x hx => (hval x (hsub x hx)).2.1
      have hsum0 : 0 ≤ (row.map (intOf kvs)).sum := by omega
      generalize hkv : putK kvs (Sum.inr nk : Key) (V.int (1 + (row.map (intOf kvs)).sum)) = kvs2
      rw [hkv] at hinew
      have hiold : ∀ x, x ≠ nk → intOf kvs2 x = intOf kvs x := fun x e => by rw [← hkv]; exact hiold x e
      have bt14 := bto13.cell hnd0 (.dK kvs2)
      have w14 : WellC (upd H13 nd (.dK kvs2)) s (1000 + n + 20 * i + 3) := w13.cell hw hnd0
      have k14 : But nd H13 (upd H13 nd (.dK kvs2)) := (But.refl nd H13).own _
      have nrd : rd ≠ nd := nrn.symm
      have r14 := r13.alien (alien_dk hk13) nrd k14
      have nra : ra ≠ nd := fun z => by rw [z, hk13] at hra13; cases hra13
      have ncl : cl ≠ nd := fun z => by rw [z, hk13] at hcl13; cases hcl13
      have nL : L ≠ nd := fun z => by rw [z, hk13] at hlet13; cases hlet13
      have hra14 := k14 _ _ nra hra13
      have hcl14 := k14 _ _ ncl hcl13
      have hlet14 := k14 _ _ nL hlet13
      have hk14 : (upd H13 nd (.dK kvs2)) nd = some (.dK kvs2) := upd_same
      generalize (upd H13 nd (.dK kvs2)) = H14 at bt14 w14 r14 hra14 hcl14 hlet14 hk14 ⊢
      clear k14 hk13 hra13 bt13 w13 r13 hcl13 hlet13 bto13
      -- its first step
      refine ⟨_, rfl, _, rfl, _, rfl, _, _, rfl, .inl (SqL.of hlet14), s, _, _, rfl, w14, by omega, by rw [List.length_map]; omega, by rw [List.length_map]; omega, fun j H15 j0 j1 bt15 w15 => ?_⟩
      obtain ⟨v, hv, hvm⟩ := atI_some j0 j1
      obtain ⟨c1, hcm, rfl⟩ := List.mem_map.mp hvm
      have hra15 := bt15 _ _ (w14.1.ne_strs hra14) hra14
      have hcl15 := bt15 _ _ (w14.1.ne_strs hcl14) hcl14
      have hlet15 := bt15 _ _ (w14.1.ne_strs hlet14) hlet14
      have hk15 := bt15 _ _ (w14.1.ne_dk hk14) hk14
      have r15 := r14.but w14.1 bt15
      have bto15 := bt14.trans bt15
      clear hra14 hcl14 hlet14 hk14 r14 bt14 bt15 w14
      refine ⟨_, _, _, _, rfl, rfl, SqL.of hlet15, hv, _, rfl, sl2 (by show 2 ≤ 1000000; decide), fun t ht => ?_⟩
      have smt := same_new ht (o := .tup [.str c1, .ref ra])
      have ht16 : (upd H15 t (.tup [.str c1, .ref ra])) t = some (.tup [.str c1, .ref ra]) := upd_same
      generalize (upd H15 t (.tup [.str c1, .ref ra])) = H16 at smt ht16 ⊢
      refine ⟨sl2 (by show 1 ≤ 1000000; decide), fun l hl => ?_⟩
      have sml := smt.trans (same_new hl (o := .lst [.ref t]))
      have ht17 := same_new hl (o := .lst [.ref t]) _ _ ht16
      have hl17 : (upd H16 l (.lst [.ref t])) l = some (.lst ([t].map V.ref)) := upd_same
      generalize (upd H16 l (.lst [.ref t])) = H17 at sml ht17 hl17 ⊢
      have hl15 : H15 l = none := smt.free hl
      have hl0 : H l = none := bto15.freeW w15.1 hl15
      have hlls : l ∉ ls := fun hm => by
        obtain ⟨ps, _, _, ts, h1, _⟩ := paired_has r15.2.2.2 hm
        rw [hl15] at h1
        cases h1
      have hla : ListAt H17 l [(c1, row)] := ⟨[t], hl17, .cons ⟨ra, ht17, sml _ _ hra15⟩ .nil⟩
      have r17 := r15.same sml
      have hgl : gs.length = i := by
        have h1 := paired_len r15.2.2.2
        rw [r15.2.1, List.length_take] at h1
        omega
      have etk : chain.take (i + 1) = chain.take i ++ [nk] := take_snoc hnk
      have hnn : nk ∉ chain.take i := fun hm => by
        rw [← List.take_append_drop (i + 1) chain, etk] at cnd
        have := (List.nodup_append.mp (List.nodup_append.mp cnd).1).2.2
        exact this nk hm nk (List.mem_singleton.mpr rfl) rfl
      have r18 := r17.put hla (List.cons_ne_nil _ _) hl0 hlls hnn
      refine ⟨_, rfl, _, rfl, rd, _, rfl, DPut.k (k := Sum.inr nk) r17.1 (sl1 (by rw [zipK_len r17.2.1, List.length_take]; omega)), ?_⟩
      have k18 : But rd H17 (upd H17 rd (.dK (putK (zipK (chain.take i) ls) (Sum.inr nk : Key) (V.ref l)))) := (But.refl rd H17).own _
      refine ⟨_, _, _, kvs2, ls ++ [l], gs ++ [[(c1, row)]], rfl, (bto15.same sml).cell hrd0 _, ((w15.same sml).cell hw hrd0).mono (by omega), k18 _ _ (fun z => ?_) (sml _ _ hcl15), k18 _ _ (fun z => ?_) (sml _ _ hlet15), by rw [etk]; exact r18, k18 _ _ nrn (sml _ _ hk15), ?_, fun x hx => ?_, fun j ps hj => ?_⟩
      · have := r15.1
        rw [← z, hcl15] at this
        cases this
      · have := r15.1
        rw [← z, hlet15] at this
        cases this
      · rw [← hkv]
        exact Nat.le_trans (putK_le _ _ _) (by omega)
      · rw [etk] at hx
        by_cases e : x = nk
        · rw [e, hinew]
          refine ⟨by rw [← hkv, valV_put, if_pos rfl], ?_, ?_⟩
          · have := hsum0
            omega
          · omega
        · rcases List.mem_append.mp hx with hx | hx
          · obtain ⟨h1, h2, h3⟩ := hval x hx
            rw [hiold x e]
            exact ⟨by rw [← hkv, valV_put, if_neg (fun q => e (Sum.inr.inj q))]; exact h1, h2, h3⟩
          · exact absurd (List.mem_singleton.mp hx) e
      · rw [List.getElem?_append] at hj
        by_cases cj : j < gs.length
        · rw [if_pos cj] at hj
          refine (hst j ps hj).ext fun x hx => ?_
          have hx2 : x ∈ chain.take i := by
            have e9 : chain.take (j + 1) = (chain.take i).take (j + 1) := by rw [List.take_take, Nat.min_eq_left (by omega)]
            rw [e9] at hx
            exact List.mem_of_mem_take hx
          unfold wOf
          rw [hiold x fun e => hnn (e ▸ hx2)]
        · rw [if_neg cj] at hj
          have hj0 : j - gs.length = 0 := by
            have := (List.getElem?_eq_some_iff.mp hj).1
            simp at this
            omega
          rw [hj0] at hj
          have e := Option.some.inj (show some [(c1, row)] = some ps from hj)
          have ej : j = i := by omega
          subst ej
          subst e
          refine ⟨List.nodup_cons.mpr ⟨List.not_mem_nil, List.nodup_nil⟩, Nat.le_refl _, fun p hp => ?_, (c1, row), List.mem_singleton.mpr rfl, hsub, fun n hn => ?_⟩
          · rw [List.mem_singleton.mp hp]
            exact ⟨hle c1 hcm, hrl, fun x hx => List.mem_of_mem_take (hsub x hx)⟩
          · rw [hnk] at hn
            obtain rfl := Option.some.inj hn
            have e1 : sumN (wOf kvs2) row = sumN (wOf kvs) row := sumN_congr fun x hx => by
              unfold wOf
              rw [hiold x fun e => hnn (e ▸ hsub x hx)]
            have e2 : wOf kvs2 nk = (1 + (row.map (intOf kvs)).sum).toNat := by
              unfold wOf
              rw [hinew]
            show sumN (wOf kvs2) row + 1 = wOf kvs2 nk
            rw [e1, e2, ← hwsum]
            omega
    rintro σ' H6 ⟨x9, x10, x11, kvs, ls, gs, rfl, bt6, w6, hcl6, hlet6, r6, _, _, hval, hst⟩
    rw [List.length_map, List.take_length] at r6 hval
    rw [List.length_map] at w6
    have w6 := w6.mono (m := 2000 + n) (by omega)
    have hwB : ∀ x ∈ chain, 1 ≤ wOf kvs x ∧ wOf kvs x ≤ c := fun x hx => by
      have h9 := hval x hx
      unfold wOf
      omega
    generalize wOf kvs = wB at hst hwB
    clear r0 n0 w5 bt5 hcl5 hlet5
    refine ⟨_, rfl, cl, rfl, ⟨_, SqL.of hcl6⟩, for_list (K := K) (a := cl) (xs := chain.map V.str) (fun i σ' H' => ∃ (x9 x10 x11 x12 x13 : Option V) (ls : List Addr) (gs : List (List Step)), σ' = [some (.ref s), some (.int m), some (.int b), some (.int c), some (.int f), some (.ref L), some (.ref cl), some (.ref rd), some (.ref nd), x9, x10, x11, x12, x13, none, none, none, none] ∧ But s H H' ∧ WellC H' s (2000 + n + 20 * i) ∧ H' cl = some (.lst (chain.map V.str)) ∧ H' L = some (.lst (lets.map V.str)) ∧ RulesT H H' rd chain ls gs ∧ ∀ j ps, gs[j]? = some ps → StepsX wB chain j (if j < i then b else 1) 2 ps) ?_ ?_ ?_ ?_⟩
    · exact ⟨_, _, _, _, _, ls, gs, rfl, bt6, w6, hcl6, hlet6, r6, fun j ps h => by rw [if_neg (Nat.not_lt_zero _)]; exact hst j ps h⟩
    · rintro i σ' H' _ ⟨_, _, _, _, _, _, _, rfl, _, _, h, _⟩
      exact SqL.of h
    · clear hst r6 hlet6 hcl6 w6 bt6
      rintro i x σ' H6 hi ⟨x9, x10, x11, x12, x13, ls, gs, rfl, bt6, w6, hcl6, hlet6, r6, hst⟩
      obtain ⟨nk, hnk, rfl⟩ := map_at hi
      have hil : i < chain.length := (List.getElem?_eq_some_iff.mp hnk).1
      refine ⟨_, rfl, _, rfl, s, _, _, rfl, w6, by omega, by omega, by omega, fun k H7 k0 k1 bt7 w7 => ?_⟩
      obtain ⟨cnt, rfl⟩ : ∃ kn : Nat, k = (kn : Int) := ⟨k.toNat, (Int.toNat_of_nonneg k0).symm⟩
      have hcl7 := bt7 _ _ (w6.1.ne_strs hcl6) hcl6
      have hlet7 := bt7 _ _ (w6.1.ne_strs hlet6) hlet6
      have r7 := r6.but w6.1 bt7
      refine ⟨(cnt : Int), rfl, by omega, by omega, for_range (fun k σ' H' => ∃ (x12 x13 : Option V) (ls : List Addr) (gs : List (List Step)), σ' = [some (.ref s), some (.int m), some (.int b), some (.int c), some (.int f), some (.ref L), some (.ref cl), some (.ref rd), some (.ref nd), x9, some (.str nk), x11, x12, x13, none, none, none, none] ∧ But s H H' ∧ WellC H' s (2000 + n + 20 * i + 1 + 4 * k) ∧ H' cl = some (.lst (chain.map V.str)) ∧ H' L = some (.lst (lets.map V.str)) ∧ RulesT H H' rd chain ls gs ∧ ∀ j ps, gs[j]? = some ps → StepsX wB chain j (if j < i then b else if j = i then 1 + k else 1) 2 ps) ?_ ?_ ?_⟩
      · refine ⟨_, _, ls, gs, rfl, bt6.trans bt7, w7, hcl7, hlet7, r7, fun j ps h => ?_⟩
        have := hst j ps h
        by_cases c1 : j < i
        · rw [if_pos c1] at this ⊢; exact this
        · rw [if_neg c1] at this ⊢
          split <;> exact this
      · clear hst r7 r6 hlet7 hlet6 hcl6 hcl7 w7 bt7 w6 bt6
        rintro k σ' H6 hk ⟨x12, x13, ls, gs, rfl, bt6, w6, hcl6, hlet6, r6, hst⟩
        have hk4 : k < 4 := by
          have : k < cnt := by simpa using hk
          omega
        refine ⟨_, rfl, _, rfl, _, rfl, _, _, rfl, .inl (SqL.of hlet6), s, _, _, rfl, w6, by omega, by rw [List.length_map]; omega, by rw [List.length_map]; omega, fun j H7 j0 j1 bt7 w7 => ?_⟩
        obtain ⟨v, hv, hvm⟩ := atI_some j0 j1
        obtain ⟨c1, hcm, rfl⟩ := List.mem_map.mp hvm
        have hcl7 := bt7 _ _ (w6.1.ne_strs hcl6) hcl6
        have hlet7 := bt7 _ _ (w6.1.ne_strs hlet6) hlet6
        have r7 := r6.but w6.1 bt7
        have bto7 := bt6.trans bt7
        refine ⟨_, _, _, _, rfl, rfl, SqL.of hlet7, hv, _, rfl, _, rfl, s, cl, 2, _, chain, rfl, by decide, w7, by omega, hcl7, by omega, by omega, fun ra H8 row ra0 bt8 w8 hra hrl hsub => ?_⟩
        have hcl8 := bt8 _ _ (w7.1.ne_strs hcl7) hcl7
        have hlet8 := bt8 _ _ (w7.1.ne_strs hlet7) hlet7
        have r8 := r7.but w7.1 bt8
        have bto8 := bto7.trans bt8
        refine ⟨sl2 (by show 2 ≤ 1000000; decide), fun t ht => ?_⟩
        have smt := same_new ht (o := .tup [.str c1, .ref ra])
        have ht9 : RuleAt (upd H8 t (.tup [.str c1, .ref ra])) t (c1, row) := ⟨ra, upd_same, smt _ _ hra⟩
        have hcl9 := smt _ _ hcl8
        have hlet9 := smt _ _ hlet8
        have r9 := r8.same smt
        have bto9 := bto8.same smt
        have w9 := w8.same smt
        generalize (upd H8 t (.tup [.str c1, .ref ra])) = H9 at ht9 hcl9 hlet9 r9 bto9 w9 ⊢
        clear smt ht hcl8 hlet8 r8 bto8 w8 hra bt8 ra0 hcl7 hlet7 r7 bto7 w7 bt7 bt6 w6 hcl6 hlet6 r6
        obtain ⟨l, ps, ts, hls, hgs, hval, hlt, hpp, hne⟩ := r9.look cnd hnk
        have hps := hst i ps hgs
        rw [if_neg (Nat.lt_irrefl _), if_pos rfl] at hps
        refine ⟨_, rfl, _, rfl, _, rfl, rd, _, rfl, .inl ⟨_, Sum.inr nk, .inl r9.1, rfl, hval.symm⟩, eRow (c1, row), ps.map eRow, dp_row ht9, .inl (dp_rows ⟨ts, hlt, hpp⟩), Nat.le_trans (dep_Row _) (by decide), _, rfl, ?_⟩
        by_cases hmem : (c1, row) ∈ ps
        · have ea : ((ps.map eRow).any fun z => PyData.eqv z (eRow (c1, row))) = true := any_row.mpr hmem
          rw [ea]
          refine iteF ⟨_, _, ls, gs, rfl, bto9, w9.mono (by omega), hcl9, hlet9, r9, fun j ps h => ?_⟩
          have := hst j ps h
          by_cases c1 : j < i
          · rw [if_pos c1] at this ⊢; exact this
          · rw [if_neg c1] at this ⊢
            by_cases c2 : j = i
            · rw [if_pos c2] at this ⊢
              exact ⟨this.1, Nat.le_succ_of_le this.2.1, this.2.2⟩
            · rw [if_neg c2] at this ⊢; exact this
        · have ea : ((ps.map eRow).any fun z => PyData.eqv z (eRow (c1, row))) = false := by
            cases e : ((ps.map eRow).any fun z => PyData.eqv z (eRow (c1, row))) with
            | false => rfl
            | true => exact absurd (any_row.mp e) hmem
          rw [ea]
          refine iteT ?_
          have tsl : ts.length ≤ 5 := by
            have h1 := paired_len hpp
            have h2 := hps.2.1
            omega
          refine ⟨_, rfl, _, rfl, rd, _, rfl, .inl ⟨_, Sum.inr nk, .inl r9.1, rfl, hval.symm⟩, .inl ⟨rfl, _, SqL.of hlt⟩, _, rfl, l, _, _, rfl, rfl, hlt, by rw [List.length_map]; exact sl1 (by omega), ?_⟩
          have r10 := r9.app hls hgs hlt hpp ht9
          have hl0 : H l = none := (paired_ix r9.2.2.2 hls hgs).1
          obtain ⟨t0, tr, ets⟩ : ∃ t0 tr, ts = t0 :: tr := by
            cases ts with
            | nil => cases hpp; exact absurd rfl hne
            | cons a b => exact ⟨a, b, rfl⟩
          have hcll : cl ≠ l := fun z => by
            rw [← z, hcl9] at hlt
            have e := HO.lst.inj (Option.some.inj hlt)
            rw [ets] at e
            cases hch2 : chain with
            | nil => rw [hch2] at e; cases e
            | cons a b => rw [hch2] at e; cases e
          have hLl : L ≠ l := fun z => by
            rw [← z, hlet9] at hlt
            have e := HO.lst.inj (Option.some.inj hlt)
            rw [ets] at e
            cases hch2 : lets with
            | nil => rw [hch2] at e; cases e
            | cons a b => rw [hch2] at e; cases e
          refine ⟨_, _, ls, gs.set i (ps ++ [(c1, row)]), rfl, bto9.cell hl0 _, (w9.cell hw hl0).mono (by omega), by rw [upd_ne hcll]; exact hcl9, by rw [upd_ne hLl]; exact hlet9, r10, fun j qs h => ?_⟩
          rw [List.getElem?_set] at h
          by_cases c2 : i = j
          · subst c2
            rw [if_pos rfl, if_pos (List.getElem?_eq_some_iff.mp hgs).1] at h
            obtain rfl := Option.some.inj h
            rw [if_neg (Nat.lt_irrefl _), if_pos rfl]
            obtain ⟨p1, p2, p3, p4, p5, p6⟩ := hps
            refine ⟨?_, by rw [List.length_append]; simp; omega, fun p hp => ?_, p4, List.mem_append_left _ p5, p6⟩
            · rw [List.nodup_append]
              refine ⟨p1, by simp, fun a ha b hb e => ?_⟩
              rw [List.mem_singleton] at hb
              exact hmem (hb ▸ e ▸ ha)
            · rcases List.mem_append.mp hp with hp | hp
              · exact p3 p hp
              · rw [List.mem_singleton.mp hp]
                exact ⟨hle c1 hcm, hrl, hsub⟩
          · rw [if_neg c2] at h
            have := hst j qs h
            by_cases c1 : j < i
            · rw [if_pos c1] at this ⊢; exact this
            · rw [if_neg c1, if_neg (Ne.symm c2)] at this ⊢; exact this
      · rintro σ' H6 ⟨x12, x13, ls, gs, rfl, bt6, w6, hcl6, hlet6, r6, hst⟩
        refine ⟨_, _, _, _, _, ls, gs, rfl, bt6, w6.mono (by omega), hcl6, hlet6, r6, fun j ps h => ?_⟩
        have := hst j ps h
        by_cases c1 : j < i
        · rw [if_pos c1] at this
          rw [if_pos (by omega)]; exact this
        · rw [if_neg c1] at this
          by_cases c2 : j = i
          · rw [if_pos c2] at this
            rw [if_pos (by omega)]
            exact ⟨this.1, by have := this.2.1; omega, this.2.2⟩
          · rw [if_neg c2] at this
            rw [if_neg (by omega)]; exact this
    · clear hst r6 hlet6 hcl6 w6 bt6
      rintro σ' H6 ⟨x9, x10, x11, x12, x13, ls, gs, rfl, bt6, w6, hcl6, hlet6, r6, hst⟩
      rw [List.length_map] at w6 hst
      have hst : ∀ j ps, gs[j]? = some ps → StepsX wB chain j b 2 ps := fun j ps h => by
        have h1 := paired_len r6.2.2.2
        have h2 := r6.2.1
        have h3 := (List.getElem?_eq_some_iff.mp h).1
        have := hst j ps h
        rw [if_pos (by omega)] at this
        exact this
      have w6 := w6.mono (m := 3000 + n) (by omega)
      -- perhaps one made as another
      refine ⟨fun σ' H' => ∃ (x9 x10 x11 x12 x13 x14 x15 : Option V) (ls : List Addr) (gs : List (List Step)), σ' = [some (.ref s), some (.int m), some (.int b), some (.int c), some (.int f), some (.ref L), some (.ref cl), some (.ref rd), some (.ref nd), x9, x10, x11, x12, x13, x14, x15, none, none] ∧ MadeW wB b chain gs ∧ But s H H' ∧ WellC H' s (4000 + n) ∧ H' cl = some (.lst (chain.map V.str)) ∧ RulesT H H' rd chain ls gs ∧ ∀ j ps, gs[j]? = some ps → StepsW chain j b 3 ps, ?_, ?_⟩
      · have hgl0 : gs.length = chain.length := by
          have h1 := paired_len r6.2.2.2
          have h2 := r6.2.1
          omega
        have hst3 : ∀ j ps, gs[j]? = some ps → StepsW chain j b 3 ps := fun j ps h => by
          obtain ⟨a1, a2, a3, a4⟩ := (hst j ps h).toW
          exact ⟨a1, a2, fun p hp => ⟨(a3 p hp).1, by have := (a3 p hp).2.1; omega, (a3 p hp).2.2⟩, a4⟩
        refine ⟨_, rfl, _, _, rfl, rfl, _, rfl, iteB (fun hm => ?_) (fun _ => iteF ⟨_, _, _, _, _, _, _, ls, gs, rfl, ⟨gs, hgl0, hst, .inl rfl⟩, bt6, w6.mono (by omega), hcl6, r6, hst3⟩)⟩
        have hm := of_decide_eq_true hm
        refine ⟨_, rfl, s, _, _, rfl, w6, by omega, by decide, by decide, fun k H7 k0 k1 bt7 w7 => ?_⟩
        have hcl7 := bt7 _ _ (w6.1.ne_strs hcl6) hcl6
        have r7 := r6.but w6.1 bt7
        have bto7 := bt6.trans bt7
        refine ⟨rfl, _, rfl, iteB (fun _ => ?_) (fun _ => ⟨_, _, _, _, _, _, _, ls, gs, rfl, ⟨gs, hgl0, hst, .inl rfl⟩, bto7, w7.mono (by omega), hcl7, r7, hst3⟩)⟩
        clear hst3 r6 hcl6 w6 bt6
        refine ⟨_, rfl, _, rfl, _, _, rfl, rfl, s, _, _, rfl, w7, by omega, by omega, by omega, fun kk H8 kk0 kk1 bt8 w8 => ?_⟩
        obtain ⟨kz, rfl⟩ : ∃ kn : Nat, kk = (kn : Int) := ⟨kk.toNat, (Int.toNat_of_nonneg kk0).symm⟩
        have hkz : 1 + kz < chain.length := by omega
        have hcl8 := bt8 _ _ (w7.1.ne_strs hcl7) hcl7
        have r8 := r7.but w7.1 bt8
        have bto8 := bto7.trans bt8
        have ek : (1 : Int) + (kz : Int) = ((1 + kz : Nat) : Int) := by omega
        refine ⟨_, _, rfl, rfl, _, rfl, _, rfl, _, rfl, _, rfl, cl, _, rfl, SqL.of hcl8, fun pa hpa => ?_⟩
        have sma := same_new hpa (o := .lst (cutV (chain.map V.str) none (some ((1 : Int) + (kz : Int)))))
        have hpa9 : (upd H8 pa (.lst (cutV (chain.map V.str) none (some ((1 : Int) + (kz : Int)))))) pa = some (.lst ((chain.take (1 + kz)).map V.str)) := by
          rw [upd_same, ek, cut_lt, List.map_take]
        show _
        generalize (upd H8 pa (.lst (cutV (chain.map V.str) none (some ((1 : Int) + (kz : Int)))))) = H9 at sma hpa9 ⊢
        have w9 := w8.same sma
        have hcl9 := sma _ _ hcl8
        have r9 := r8.same sma
        have bto9 := bto8.same sma
        refine ⟨s, pa, 1, _, chain.take (1 + kz), rfl, by decide, w9, by omega, hpa9, by rw [List.length_take]; omega, by rw [List.length_take]; omega, fun ta H10 tail ta0 bt10 w10 hta htl htsub => ?_⟩
        have hcl10 := bt10 _ _ (w9.1.ne_strs hcl9) hcl9
        have r10 := r9.but w9.1 bt10
        have bto10 := bto9.trans bt10
        clear bt10 r9 hcl9 bto9 w9 hpa9 sma hpa r8 hcl8 bto8 w8 bt8 r7 hcl7 bto7 w7 bt7
        refine ⟨_, rfl, _, rfl, _, rfl, s, _, _, rfl, w10, by omega, by omega, by omega, fun j H11 j0 j1 bt11 w11 => ?_⟩
        obtain ⟨jn, rfl⟩ : ∃ kn : Nat, j = (kn : Int) := ⟨j.toNat, (Int.toNat_of_nonneg j0).symm⟩
        have hjk : jn < 1 + kz := by omega
        have hcl11 := bt11 _ _ (w10.1.ne_strs hcl10) hcl10
        have hta11 := bt11 _ _ (w10.1.ne_strs hta) hta
        have r11 := r10.but w10.1 bt11
        have bto11 := bto10.trans bt11
        clear bt11 r10 hcl10 bto10 hta w10
        obtain ⟨sn, hsn⟩ : ∃ z, chain[jn]? = some z := ⟨_, List.getElem?_eq_getElem (by omega)⟩
        obtain ⟨kq, hkq⟩ : ∃ z, chain[1 + kz]? = some z := ⟨_, List.getElem?_eq_getElem hkz⟩
        refine ⟨_, _, _, _, rfl, rfl, SqL.of hcl11, atI_nat (j := jn) (by rw [List.getElem?_map, hsn]; rfl), ?_⟩
        obtain ⟨l, ps, ts, hls, hgs, hval, hlt, hpp, hne⟩ := r11.look cnd hsn
        have hps := hst jn ps hgs
        have hpl := paired_len hpp
        have tsl : ts.length ≤ 5 := by
          have h2 := hps.2.1
          omega
        refine ⟨_, rfl, _, rfl, rd, _, rfl, .inl ⟨_, Sum.inr sn, .inl r11.1, rfl, hval.symm⟩, l, rfl, ⟨_, SqL.of hlt⟩, fun D hD => lc_list (K := K) (a := l) (xs := ts.map V.ref) (fun i H' => ∃ us : List Addr, Same H11 H' ∧ H' D = some (.lst (us.map V.ref)) ∧ Paired (fun u (p : Step) => u ≠ D ∧ ∃ w, w ≠ D ∧ H' u = some (.tup [.str p.1, .ref w]) ∧ H' w = some (.lst (p.2.map V.str))) us ((ps.take i).map fun p => (p.1, p.2 ++ tail))) ?_ ?_ ?_ ?_⟩
        · exact ⟨[], same_new hD, upd_same, .nil⟩
        · rintro i H' _ ⟨us, sm, _⟩
          exact SqL.of (sm _ _ hlt)
        · rintro i x H12 hi ⟨us, sm12, h12, hp12⟩
          obtain ⟨t, ht, rfl⟩ := map_at hi
          have hil := (List.getElem?_eq_some_iff.mp ht).1
          obtain ⟨p, hp⟩ : ∃ p, ps[i]? = some p := ⟨_, List.getElem?_eq_getElem (by omega)⟩
          obtain ⟨wr, ht2, hwr⟩ := paired_ix hpp ht hp
          have hpl2 := (hps.2.2.1 p (List.mem_of_getElem? hp)).2.1
          refine ⟨t, _, rfl, SqT.of (sm12 _ _ ht2), rfl, _, _, rfl, _, _, rfl, rfl, rfl, tyes (iteT ?_)⟩
          refine ⟨_, rfl, _, rfl, _, rfl, wr, ta, _, _, rfl, rfl, sm12 _ _ hwr, sm12 _ _ hta11, by rw [List.length_map, List.length_map]; exact sl2 (by omega), fun q0 hq0 => ?_⟩
          have smq := same_new hq0 (o := .lst (p.2.map V.str ++ tail.map V.str))
          have hq13 : (upd H12 q0 (.lst (p.2.map V.str ++ tail.map V.str))) q0 = some (.lst ((p.2 ++ tail).map V.str)) := by rw [upd_same, List.map_append]
          generalize (upd H12 q0 (.lst (p.2.map V.str ++ tail.map V.str))) = H13 at smq hq13 ⊢
          refine ⟨sl2 (by show 2 ≤ 1000000; decide), fun u hu0 => ?_⟩
          have smu := same_new hu0 (o := .tup [.str p.1, .ref q0])
          have hu14 : (upd H13 u (.tup [.str p.1, .ref q0])) u = some (.tup [.str p.1, .ref q0]) := upd_same
          have sm1214 := smq.trans smu
          have hD14 := sm1214 _ _ h12
          have hq14 := smu _ _ hq13
          have nuD : u ≠ D := fun z => by rw [z, smq _ _ h12] at hu0; cases hu0
          have nqD : q0 ≠ D := fun z => by rw [z, h12] at hq0; cases hq0
          have hul : us.length ≤ 5 := by
            have := paired_len hp12
            rw [List.length_map, List.length_take] at this
            omega
          refine ⟨_, hD14, by rw [List.length_map]; exact sl1 (by omega), us ++ [u], same_mut (sm12.trans sm1214) hD, by rw [upd_same, List.map_append]; rfl, ?_⟩
          rw [take_snoc hp, List.map_append]
          refine paired_app ⟨nuD, q0, nqD, by rw [upd_ne nuD]; exact hu14, by rw [upd_ne nqD]; exact hq14⟩ (Paired.mapP hp12 fun u2 p2 ⟨a1, w2, a2, a3, a4⟩ => ⟨a1, w2, a2, by rw [upd_ne a1]; exact sm1214 _ _ a3, by rw [upd_ne a2]; exact sm1214 _ _ a4⟩)
        rintro H12 ⟨us, sm12, h12, hp12⟩
        rw [List.length_map, List.take_of_length_le (by omega)] at hp12
        have hla : ListAt H12 D (ps.map fun p => (p.1, p.2 ++ tail)) := ⟨us, h12, Paired.mapP hp12 fun _ _ ⟨_, w2, _, a3, a4⟩ => ⟨w2, a3, a4⟩⟩
        have r12 := r11.same sm12
        have hD0 : H D = none := bto11.freeW w11.1 hD
        have hDls : D ∉ ls := fun hm => by
          obtain ⟨_, _, _, _, h1, _⟩ := paired_has r11.2.2.2 hm
          rw [hD] at h1
          cases h1
        have hmne : (ps.map fun p : Step => (p.1, p.2 ++ tail)) ≠ [] := fun e => hne (List.map_eq_nil_iff.mp e)
        have r13 := r12.set cnd hkq hla hmne hD0 hDls
        have hat : atI (chain.map V.str) ((1 : Int) + (kz : Int)) = some (V.str kq) := by
          rw [ek]
          exact atI_nat (j := 1 + kz) (by rw [List.getElem?_map, hkq]; rfl)
        refine ⟨_, rfl, _, rfl, _, rfl, _, _, _, _, rfl, rfl, SqL.of (sm12 _ _ hcl11), hat, rd, _, rfl, DPut.k (k := Sum.inr kq) r12.1 (sl1 (by rw [zipK_len r12.2.1]; omega)), ?_⟩
        have ncl : cl ≠ rd := fun z => by
          have := r12.1
          rw [← z, sm12 _ _ hcl11] at this
          cases this
        have hgl : gs.length = chain.length := by
          have h1 := paired_len r11.2.2.2
          have h2 := r11.2.1
          omega
        refine ⟨_, _, _, _, _, _, _, _, _, rfl, ⟨gs, hgl0, hst, .inr ⟨1 + kz, jn, kq, sn, tail, ps, hkq, hjk, hsn, htl, htsub, hgs, rfl⟩⟩, (bto11.same sm12).cell hrd0 _, ((w11.same sm12).cell hw hrd0).mono (by omega), by rw [upd_ne ncl]; exact sm12 _ _ hcl11, r13, fun i qs hi => ?_⟩
        rw [List.getElem?_set] at hi
        by_cases c2 : 1 + kz = i
        · subst c2
          rw [if_pos rfl, if_pos (by omega)] at hi
          obtain rfl := Option.some.inj hi
          obtain ⟨a1, a2, a3, p4, a5, a6, _⟩ := hps
          refine ⟨?_, by rw [List.length_map]; exact a2, fun p hp => ?_, (p4.1, p4.2 ++ tail), List.mem_map.mpr ⟨p4, a5, rfl⟩, fun x hx => ?_⟩
          · refine List.Pairwise.map _ (fun p q (hpq : p ≠ q) e => hpq ?_) a1
            have e1 := congrArg Prod.fst e
            have e2 := List.append_cancel_right (congrArg Prod.snd e)
            exact Prod.ext e1 e2
          · obtain ⟨p0, hp0, rfl⟩ := List.mem_map.mp hp
            obtain ⟨b1, b2, b3⟩ := a3 p0 hp0
            refine ⟨b1, by show (p0.2 ++ tail).length ≤ 3; rw [List.length_append]; omega, fun x hx => ?_⟩
            rcases List.mem_append.mp hx with hx | hx
            · exact b3 x hx
            · exact List.mem_of_mem_take (htsub x hx)
          · rcases List.mem_append.mp hx with hx | hx
            · have h1 := a6 x hx
              have e3 : chain.take jn = (chain.take (1 + kz)).take jn := by rw [List.take_take, Nat.min_eq_left (by omega)]
              rw [e3] at h1
              exact List.mem_of_mem_take h1
            · exact htsub x hx
        · rw [if_neg c2] at hi
          obtain ⟨a1, a2, a3, a4⟩ := (hst i qs hi).toW
          exact ⟨a1, a2, fun p hp => ⟨(a3 p hp).1, by have := (a3 p hp).2.1; omega, (a3 p hp).2.2⟩, a4⟩
      · clear hst r6 hcl6 w6 bt6
        rintro σ' H6 ⟨x9, x10, x11, x12, x13, x14, x15, ls, gs, rfl, hmw, bt6, w6, hcl6, r6, hst⟩
        have hT6 := tabs_well hT hw.1 bt6
        refine fun p hp => ?_
        have smp := same_new hp (o := .dK [])
        have hp7 : (upd H6 p (.dK [])) p = some (.dK []) := upd_same
        have hcl7 := smp _ _ hcl6
        have r7 := r6.same smp
        have hT7 := tabs_same hT6 smp
        have bt7 := bt6.same smp
        have hp0 : H p = none := bt6.freeW w6.1 hp
        generalize (upd H6 p (.dK [])) = H7 at smp hp7 hcl7 r7 hT7 bt7 ⊢
        refine ⟨_, rfl, hT7, cl, chain.map V.str, chain, rfl, SqL.of hcl7, by rw [List.length_map], fun y hy => ?_, ?_, ?_, fun b _ => Nat.zero_le _, fun H8 nl eN hT8 hnl => ?_⟩
        · obtain ⟨y1, y2⟩ := y
          obtain ⟨h1, h2⟩ := zip_strs hy
          exact ⟨h1, Nat.le_trans (areNames_len hch _ h2) (by decide)⟩
        · intro d hd d' hd'
          obtain ⟨b, _, rfl⟩ := List.mem_map.mp hd
          obtain ⟨b', _, rfl⟩ := List.mem_map.mp hd'
          exact alk_str _ _
        · refine .inr fun d hd => ?_
          obtain ⟨b, _, rfl⟩ := List.mem_map.mp hd
          exact ⟨fun z => (by cases z), fun xs z => (by cases z)⟩
        · obtain ⟨names, hperm, hsk⟩ := sKey_strs (fun b : Str => PyData.str (revS b)) chain
          rw [hsk]
          have smn := same_new hnl (o := .lst (names.map V.str))
          have hn9 : (upd H8 nl (.lst (names.map V.str))) nl = some (.lst (names.map V.str)) := upd_same
          have hT9 := tabs_same hT8 smn
          have hp9 := smn _ _ (eN _ _ hp7 fun ps z => by cases z)
          have r9 : RulesT H (upd H8 nl (.lst (names.map V.str))) rd chain ls gs := by
            refine ⟨smn _ _ (eN _ _ r7.1 fun ps z => by cases z), r7.2.1, r7.2.2.1, Paired.mapP r7.2.2.2 fun l ps ⟨a, b, ts, c1, c2⟩ => ⟨a, b, ts, smn _ _ (eN.lst c1), Paired.mapP c2 fun t p ⟨w, d1, d2⟩ => ⟨w, smn _ _ (eN _ _ d1 fun ps z => by cases z), smn _ _ (eN.lst d2)⟩⟩⟩
          have bx9 : ButX s H (upd H8 nl (.lst (names.map V.str))) := ((butX_but bt7).trans (butX_ext eN)).trans (butX_same smn)
          generalize (upd H8 nl (.lst (names.map V.str))) = H9 at hn9 hT9 hp9 r9 bx9 ⊢
          refine ⟨_, rfl, hp9, [((Sum.inr "names" : Key), V.ref nl), ((Sum.inr "rules" : Key), V.ref rd)], rfl, (show 2 ≤ 15 by decide), ?_⟩
          have k10 : But p H9 (upd H9 p (.dK (mergeK [] [((Sum.inr "names" : Key), V.ref nl), ((Sum.inr "rules" : Key), V.ref rd)]))) := (But.refl p H9).own _
          have npr : rd ≠ p := fun z => by
            rw [← z] at hp0
            have h1 := bt7 rd
            rw [z] at r7
            rw [← z] at hp
            have := r6.1
            rw [hp] at this
            cases this
          have r10 := r9.alien (alien_dk hp9) npr k10
          have npn : nl ≠ p := fun z => by rw [z, hp9] at hn9; cases hn9
          refine q p _ names chain gs wB ?_ hp0 ?_ ⟨nl, rd, ls, by rw [upd_same]; rfl, k10 _ _ npn hn9, r10.1, r10.2.1, Paired.mapP r10.2.2.2 fun _ _ h => h.2.2⟩ hmw hwB hperm hch hcm ⟨?_, hst⟩
          · exact fun a o ha h t => k10 _ _ (fun z => by rw [z, hp0] at h; cases h) (bx9 a o ha h t)
          · exact tabs_dk hT9 hp9 _
          · have h1 := paired_len r9.2.2.2
            have h2 := r9.2.1
            omega
end
end SG
namespace SG
open PySem PySem.Spec PyProof.Rows L2 LamX
section
variable {P : Program} {w : World} {K : PySem.W.Frag} {mg : Str → Option Value} {base : Heap} {A : Ad}
theorem WorldAt.ext {H H' : Hp} {wd : Addr} {names chain : List Str} {gs : List (List Step)} (h : WorldAt H wd names chain gs) (e : ExtN H H') : WorldAt H' wd names chain gs := by
  obtain ⟨nl, rd, ls, h1, h2, h3, h4, h5⟩ := h
  exact ⟨nl, rd, ls, e _ _ h1 fun ps z => (by cases z), e.lst h2, e _ _ h3 fun ps z => (by cases z), h4, Paired.mapP h5 fun l ps ⟨ts, a, b⟩ => ⟨ts, e.lst a, Paired.mapP b fun t p ⟨w, c, d⟩ => ⟨w, e.tup c, e.lst d⟩⟩⟩
theorem paired_mapR {α β γ : Type} {F : α → β → Prop} (f : β → γ) : ∀ {xs : List α} {ys : List β}, Paired F xs ys → Paired (fun a c => ∃ b, f b = c ∧ F a b) xs (ys.map f)
  | _, _, .nil => .nil
  | _, _, .cons h t => .cons ⟨_, rfl, h⟩ (paired_mapR f t)
theorem names_val (nl rd : Addr) : valV [((Sum.inr "names" : Key), V.ref nl), ((Sum.inr "rules" : Key), V.ref rd)] (Sum.inr "names" : Key) = some (.ref nl) := rfl
theorem rules_val (nl rd : Addr) : valV [((Sum.inr "names" : Key), V.ref nl), ((Sum.inr "rules" : Key), V.ref rd)] (Sum.inr "rules" : Key) = some (.ref rd) := by
  have h : ¬ (("names" : Str) = "rules") := by decide +kernel
  rw [valV_neg (fun z => h (Sum.inr.inj z))]
  rfl
def sp_made (C : Addr) : Sp := fun vs H Q _ => ∃ (wd : Addr) (names chain : List Str) (gs : List (List Step)) (b : Nat), vs = [.ref wd] ∧ WorldAt H wd names chain gs ∧ WorldR chain b 3 gs ∧ b ≤ 4 ∧ names.Perm chain ∧ areNames chain = true ∧ ∀ g H', Same H H' → GramAt C H' g names (rulesW names (stepsW chain gs)) → Q (.ref g) H'
theorem ok__law_made (T : Txt K mg A) : FnOk P w K mg base CX0 6 A.a__law_made A.d__law_made ["_law_world_here"] (sp_made A.c_Grammar) := by
  have G_Grammar___init__ : FnOk P w K mg base CX0 4 A.a_Grammar___init__ A.d_Grammar___init__ ["self", "names", "rules"] (sp_G_init K A.c_Grammar) := ok_Grammar___init__ T
  refine T.F__law_made.ok sc__law_made (fun vs H Q E h => ?_) (fun cdv A0 outer s0 H vs Q E hr h => ?_)
  · obtain ⟨_, _, _, _, _, rfl, _⟩ := h
    rfl
  · obtain ⟨wd, names, chain, gs, b, rfl, W, hR, hb, hperm, hch, q⟩ := h
    have hu := hu_of hr
    have hu64 := hu64_of hr
    have cnd := areNames_nd hch
    have hnn := areNames_perm hperm.symm hch
    have nnd := areNames_nd hnn
    have hn6 := areNames_l6 hnn
    have hgood := world_good hR hb cnd hperm
    obtain ⟨nl, rd, ls, hwd, hnl, hrd, hll, hlp⟩ := W
    refine ⟨_, (pss_cons (ps_set (i := 1) sc__law_made.nd rfl (Or.inl rfl) (pe_lst pa_nil))
 (pss_cons (ps_for PassesOwn.never rfl (pi_list (pe_dget hu (pv 0) pe_str (fun _ _ => rfl))) (pg_name (i := 2) sc__law_made.nd rfl (Or.inr rfl))
 (pss_one (ps_set (i := 1) sc__law_made.nd rfl (Or.inl rfl) (pe_op op_cat (pv 1) (pe_lc (own := [("_law_letter", 3), ("_law_row", 4)]) (g := gTup K 2 (gCons (gName 3) (gCons (gName 4) gNil))) (by rfl) sc__law_made.nd (pi_list (pe_dget hu (pe_dget hu (pv 0) pe_str (fun _ _ => rfl)) (pv 2) (fun _ _ => rfl))) (blkOk_by (own := [("_law_letter", 3), ("_law_row", 4)]) (N := ["_law_world_here", "_law_told", "_law_name", "_law_letter", "_law_row"]) (sc := defScope s__law_made) (by decide +kernel)) (fun _ _ _ _ _ => (pg_tup (by rfl) (pgs_cons (pg_name (i := 3) sc__law_made.nd rfl (Or.inl rfl)) (pgs_cons (pg_name (i := 4) sc__law_made.nd rfl (Or.inl rfl)) pgs_nil)))) (fun _ _ _ _ _ => pts_nil) (fun _ _ _ _ _ => (pe_tup (pa_cons (pv 2) (pa_cons (pv 3) (pa_cons (pe_callTy (T := "list") (r := Evl.rListS K) call_list_of (by rfl) T.list_ (by decide +kernel) (pa_cons (pv 4) pa_nil)) pa_nil))))))))))
 (pss_one (ps_ret (pe_make T.mk_Grammar G_Grammar___init__ (hr.mono (by decide)) (by rfl) T.g_Grammar T.b_Grammar___init__ .nil pass0 (pa_cons (pe_callTy (T := "list") (r := Evl.rListS K) call_list_of (by rfl) T.list_ (by decide +kernel) (pa_cons (pe_dget hu (pv 0) pe_str (fun _ _ => rfl)) pa_nil)) (pa_cons (pv 1) pa_nil))))))), ?_⟩
    refine ⟨Nat.zero_le _, fun t0 ht0 => ?_⟩
    have sm0 := same_new ht0 (o := .lst [])
    have ht1 : (upd H t0 (.lst [])) t0 = some (.lst (([] : List Addr).map V.ref)) := upd_same
    generalize (upd H t0 (.lst [])) = H1 at sm0 ht1 ⊢
    refine ⟨_, rfl, wd, _, rfl, .inl ⟨_, Sum.inr "names", .inl (sm0 _ _ hwd), rfl, (names_val nl rd).symm⟩, nl, rfl, ⟨_, SqL.of (sm0 _ _ hnl)⟩, for_list (K := K) (a := nl) (xs := names.map V.str) (fun i σ' H' => ∃ (tl : Addr) (x2 : Option V), σ' = [some (.ref wd), some (.ref tl), x2, none, none] ∧ Same H H' ∧ TriosAt H' tl (rulesW (names.take i) (stepsW chain gs))) ?_ ?_ ?_ ?_⟩
    · exact ⟨t0, _, rfl, sm0, [], ht1, .nil⟩
    · rintro i σ' H' _ ⟨_, _, rfl, sm, _⟩
      exact SqL.of (sm _ _ hnl)
    · rintro i x σ' H2 hi ⟨tl, x2, rfl, sm2, us, hus, hup⟩
      obtain ⟨nk, hnk, rfl⟩ := map_at hi
      have hil : i < names.length := (List.getElem?_eq_some_iff.mp hnk).1
      obtain ⟨j, hj, hst⟩ := hR.at_ cnd (hperm.mem_iff.mp (List.mem_of_getElem? hnk))
      have hjl := (List.getElem?_eq_some_iff.mp hj).1
      have hgl : gs.length = chain.length := hR.1
      obtain ⟨ps, hps⟩ : ∃ ps, gs[j]? = some ps := ⟨_, List.getElem?_eq_getElem (by omega)⟩
      have hse := stepsW_at cnd hj hps
      rw [hse] at hst
      have hval : valV (zipK chain ls) (Sum.inr nk : Key) = some (.ref (ls[j]'(by omega))) := by
        rcases zipK_val hll.symm nk with ⟨_, e⟩ | ⟨j2, y, h1, h2, h3, _⟩
        · exact absurd (List.mem_of_getElem? hj) e
        · have e : j2 = j := nd_ix cnd h1 hj
          subst e
          rw [h3]
          obtain ⟨g1, g2⟩ := List.getElem?_eq_some_iff.mp h2
          rw [g2]
      have hla := paired_ix hlp (List.getElem?_eq_getElem (show j < ls.length by omega)) hps
      generalize ls[j]'(by omega) = l at hval hla
      obtain ⟨ts, hts, htp⟩ := hla
      have htl := paired_len htp
      have hrl0 := rulesW_len hR cnd (names.take i) fun x hx => hperm.mem_iff.mp (List.mem_of_mem_take hx)
      rw [List.length_take] at hrl0
      have hrl1 : (rulesW (names.take i) (stepsW chain gs)).length ≤ 24 := Nat.le_trans hrl0 (Nat.mul_le_mul (show min i names.length ≤ 6 by omega) hb)
      have hul := paired_len hup
      refine ⟨_, rfl, _, rfl, wd, _, rfl, .inl ⟨_, Sum.inr "rules", .inl (sm2 _ _ hwd), rfl, (rules_val nl rd).symm⟩, _, rfl, rd, _, rfl, .inl ⟨_, Sum.inr nk, .inl (sm2 _ _ hrd), rfl, hval.symm⟩, l, rfl, ⟨_, SqL.of (sm2 _ _ hts)⟩, fun D hD => lc_list (K := K) (a := l) (xs := ts.map V.ref) (fun i H' => ∃ vs : List Addr, Same H2 H' ∧ H' D = some (.lst (vs.map V.ref)) ∧ Paired (fun u (p : Step) => u ≠ D ∧ ∃ w, w ≠ D ∧ H' u = some (.tup [.str nk, .str p.1, .ref w]) ∧ H' w = some (.lst (p.2.map V.str))) vs (ps.take i)) ?_ ?_ ?_ ?_⟩
      · exact ⟨[], same_new hD, upd_same, .nil⟩
      · rintro i H' _ ⟨vs, sm, _⟩
        exact SqL.of (sm _ _ (sm2 _ _ hts))
      · rintro i x H3 hi3 ⟨vs, sm3, h3, hp3⟩
        obtain ⟨t, ht, rfl⟩ := map_at hi3
        obtain ⟨p, hp⟩ : ∃ p, ps[i]? = some p := ⟨_, List.getElem?_eq_getElem (by have := (List.getElem?_eq_some_iff.mp ht).1; omega)⟩
        obtain ⟨wr, ht2, hwr⟩ := paired_ix htp ht hp
        have sm23 := sm2.trans sm3
        refine ⟨t, _, rfl, SqT.of (sm23 _ _ ht2), rfl, _, _, rfl, _, _, rfl, rfl, rfl, tyes (iteT ?_)⟩
        refine ⟨_, rfl, _, rfl, _, rfl, wr, _, rfl, .inl (SqL.of (sm23 _ _ hwr)), fun q0 hq0 => ?_⟩
        have smq := same_new hq0 (o := .lst (p.2.map V.str))
        have hq4 : (upd H3 q0 (.lst (p.2.map V.str))) q0 = some (.lst (p.2.map V.str)) := upd_same
        generalize (upd H3 q0 (.lst (p.2.map V.str))) = H4 at smq hq4 ⊢
        refine ⟨sl2 (by show 3 ≤ 1000000; decide), fun u hu0 => ?_⟩
        have smu := same_new hu0 (o := .tup [.str nk, .str p.1, .ref q0])
        have hu5 : (upd H4 u (.tup [.str nk, .str p.1, .ref q0])) u = some (.tup [.str nk, .str p.1, .ref q0]) := upd_same
        have sm35 := smq.trans smu
        have hD5 := sm35 _ _ h3
        have hq5 := smu _ _ hq4
        have nuD : u ≠ D := fun z => by rw [z, smq _ _ h3] at hu0; cases hu0
        have nqD : q0 ≠ D := fun z => by rw [z, h3] at hq0; cases hq0
        have hvl : vs.length ≤ 5 := by
          have h1 := paired_len hp3
          rw [List.length_take] at h1
          have h2 := hst.2.1
          omega
        refine ⟨_, hD5, by rw [List.length_map]; exact sl1 (by omega), vs ++ [u], same_mut (sm3.trans sm35) hD, by rw [upd_same, List.map_append]; rfl, ?_⟩
        rw [take_snoc hp]
        refine paired_app ⟨nuD, q0, nqD, by rw [upd_ne nuD]; exact hu5, by rw [upd_ne nqD]; exact hq5⟩ (Paired.mapP hp3 fun u2 p2 ⟨a1, w2, a2, a3, a4⟩ => ⟨a1, w2, a2, by rw [upd_ne a1]; exact sm35 _ _ a3, by rw [upd_ne a2]; exact sm35 _ _ a4⟩)
      rintro H3 ⟨vs, sm3, h3, hp3⟩
      rw [List.length_map, List.take_of_length_le (by omega)] at hp3
      have hvl := paired_len hp3
      have hsl := hst.2.1
      refine ⟨tl, D, _, _, rfl, rfl, sm3 _ _ hus, h3, by rw [List.length_map, List.length_map]; exact sl2 (by omega), fun z hz => ?_⟩
      have smz := same_new hz (o := .lst (us.map V.ref ++ vs.map V.ref))
      refine ⟨z, _, rfl, (sm2.trans sm3).trans smz, us ++ vs, by rw [upd_same, List.map_append], ?_⟩
      have e : rulesW (names.take (i + 1)) (stepsW chain gs) = rulesW (names.take i) (stepsW chain gs) ++ ps.map fun p : Step => ((nk, p.1, p.2) : Rule) := by
        rw [take_snoc hnk]
        unfold rulesW
        rw [List.flatMap_append, List.flatMap_cons, List.flatMap_nil, List.append_nil, hse]
      rw [e]
      refine paired_append (Paired.mapP hup fun _ _ h => (h.same sm3).same smz) (Paired.mapP (paired_mapR _ hp3) fun u r ⟨p, e, _, w2, _, a3, a4⟩ => ?_)
      subst e
      exact ⟨w2, smz _ _ a3, smz _ _ a4⟩
    · rintro σ' H2 ⟨tl, x2, rfl, sm2, htr⟩
      rw [List.length_map, List.take_length] at htr
      have hrl := rulesW_len hR cnd names fun x hx => hperm.mem_iff.mp hx
      have hrl1 : (rulesW names (stepsW chain gs)).length ≤ 24 := Nat.le_trans hrl (Nat.mul_le_mul hn6 hb)
      refine ⟨_, rfl, wd, _, rfl, .inl ⟨_, Sum.inr "names", .inl (sm2 _ _ hwd), rfl, (names_val nl rd).symm⟩, nl, _, rfl, .inl (SqL.of (sm2 _ _ hnl)), fun mn hmn => ?_⟩
      have smn := same_new hmn (o := .lst (names.map V.str))
      have hmn3 : (upd H2 mn (.lst (names.map V.str))) mn = some (.lst (names.map V.str)) := upd_same
      have htr3 := htr.same smn
      generalize (upd H2 mn (.lst (names.map V.str))) = H3 at smn hmn3 htr3 ⊢
      refine ⟨_, rfl, ?_⟩
      intro g dx hg hdx ndg
      have smg : Same H3 (upd (upd H3 dx (.own g)) g (.ins A.c_Grammar dx [])) := (same_new hdx).trans (same_new (by rw [upd_ne ndg.symm]; exact hg))
      refine ⟨g, dx, mn, tl, names, _, rfl, upd_same, smg _ _ hmn3, hnn, fun x hx => Nat.le_trans (areNames_len hnn x hx) (by decide), htr3.same smg, hgood.rulesOk, by omega, fun r hr1 => ⟨by rw [isLetter_len (hgood.ok r hr1).2.1]; decide, by have := (hgood.ok r hr1).2.2.1; omega⟩, fun H11 kp11 hB => ⟨rfl, ?_⟩⟩
      obtain ⟨dx', kn', st, od, ls2, hB⟩ := hB
      have sm311 : Same H3 H11 := fun b o h => kp11 b o (smg _ _ h) (ne_of_none h hg)
      exact q g H11 ((sm2.trans smn).trans sm311) (hB.keep fun a o h _ => h)
def sp_two : Sp := fun vs H Q _ => ∃ (s a : Addr) (kind : Str) (m n : Nat) (xs : List Str), vs = [.ref s, .str kind, .ref a, .int m] ∧ 1 ≤ m ∧ m ≤ 20 ∧ WellC H s n ∧ n ≤ 1000000 ∧ H a = some (.lst (xs.map V.str)) ∧ 0 < xs.length ∧ xs.length ≤ 1000 ∧
  ∀ p H' (x y : Addr) (one other : List Str), But s H H' → WellC H' s (n + 200) → H' p = some (.tup [.ref x, .ref y]) → H' x = some (.lst (one.map V.str)) → H' y = some (.lst (other.map V.str)) → (∀ z ∈ one, z ∈ xs) → (∀ z ∈ other, z ∈ xs) → one.length ≤ m → other.length ≤ m + 1 → (kind = "bag" → ssort one = one ∧ ssort other = other) → Q (.ref p) H'
theorem ok__law_two (T : Txt K mg A) : FnOk P w K mg base CX0 3 A.a__law_two A.d__law_two ["_law_well_here", "_law_kind", "_law_names", "_law_most"] sp_two := by
  have G__law_draw : FnOk P w K mg base CX0 1 A.a__law_draw A.d__law_draw ["_law_well_here", "_law_wide"] sp_drawC := ok__law_draw T
  have G__law_some : FnOk P w K mg base CX0 2 A.a__law_some A.d__law_some ["_law_well_here", "_law_names", "_law_most"] sp_some := ok__law_some T
  refine T.F__law_two.ok sc__law_two (fun vs H Q E h => ?_) (fun cdv A0 outer s0 H vs Q E hr h => ?_)
  · obtain ⟨_, _, _, _, _, _, rfl, _⟩ := h
    rfl
  · obtain ⟨s, a, kind, m, n, xs, rfl, hm1, hm, hw, hn, ha, hx0, hxl, q⟩ := h
    have hu64 := hu64_of hr
    have has := hw.1.ne_strs ha
    refine ⟨_, (pss_cons (ps_set (i := 4) sc__law_two.nd rfl (Or.inl rfl) (pe_call G__law_some (hr.mono (by decide)) (by rfl) T.g__law_some T.F__law_some.kp T.b__law_some .nil pass0 (pa_cons (pv 0) (pa_cons (pv 2) (pa_cons (pv 3) pa_nil)))))
 (pss_cons (ps_set (i := 5) sc__law_two.nd rfl (Or.inl rfl) (pe_call G__law_draw (hr.mono (by decide)) (by rfl) T.g__law_draw T.F__law_draw.kp T.b__law_draw .nil pass0 (pa_cons (pv 0) (pa_cons pe_int pa_nil))))
 (pss_cons (ps_set (i := 6) sc__law_two.nd rfl (Or.inl rfl) (pe_ix (r := rIxL K) ix_list (pe_lst (pa_cons (pe_call G__law_some (hr.mono (by decide)) (by rfl) T.g__law_some T.F__law_some.kp T.b__law_some .nil pass0 (pa_cons (pv 0) (pa_cons (pv 2) (pa_cons (pv 3) pa_nil)))) (pa_cons (pe_op op_cat (pe_slice (r := rSlL K) sl_list (pv 4) po_none (po_some pe_int)) (pe_call G__law_some (hr.mono (by decide)) (by rfl) T.g__law_some T.F__law_some.kp T.b__law_some .nil pass0 (pa_cons (pv 0) (pa_cons (pv 2) (pa_cons (pe_op op_sub (pv 3) pe_int) pa_nil))))) (pa_cons (pe_callTy (T := "list") (r := Evl.rListS K) call_list_of (by rfl) T.list_ (by decide +kernel) (pa_cons (pv 4) pa_nil)) pa_nil)))) (pv 5) (fun _ _ => rfl)))
 (Evl.pss_cut (ps_if (pt_cmpR op_eq (pe_call G__law_draw (hr.mono (by decide)) (by rfl) T.g__law_draw T.F__law_draw.kp T.b__law_draw .nil pass0 (pa_cons (pv 0) (pa_cons pe_int pa_nil))) pe_int (nomark _)) (pss_one (ps_set (i := 6) sc__law_two.nd rfl (Or.inl rfl) (pe_op op_cat (pv 6) (pe_call G__law_some (hr.mono (by decide)) (by rfl) T.g__law_some T.F__law_some.kp T.b__law_some .nil pass0 (pa_cons (pv 0) (pa_cons (pv 2) (pa_cons pe_int pa_nil))))))) pss_nil)
 (pss_cons (ps_if (pt_cmpR op_eq (pv 1) pe_str (nomark _)) (pss_one (ps_ret (pe_tup (pa_cons (pe_callB (id := "sorted") (r := rSortedG K) (cr_sortedG hu64) (by rfl) T.sorted (by decide +kernel) (pa_cons (pv 4) pa_nil)) (pa_cons (pe_callB (id := "sorted") (r := rSortedG K) (cr_sortedG hu64) (by rfl) T.sorted (by decide +kernel) (pa_cons (pv 6) pa_nil)) pa_nil))))) pss_nil)
 (pss_one (ps_ret (pe_tup (pa_cons (pv 4) (pa_cons (pv 6) pa_nil)))))))))), ?_⟩
    refine ⟨_, rfl, _, rfl, _, rfl, s, a, m, n, xs, rfl, by omega, hw, by omega, ha, hx0, hxl, fun o H1 one o0 bt1 w1 ho hol hos => ?_⟩
    refine ⟨_, rfl, s, _, _, rfl, w1, by omega, by decide, by decide, fun way H2 y0 y1 bt2 w2 => ?_⟩
    have bt02 := bt1.trans bt2
    have ho2 := bt2 _ _ (w1.1.ne_strs ho) ho
    have ha2 := bt02 _ _ has ha
    refine ⟨_, rfl, _, rfl, _, rfl, s, a, m, _, xs, rfl, by omega, w2, by omega, ha2, hx0, hxl, fun u H3 un u0 bt3 w3 hu3 hul hus => ?_⟩
    have bt03 := bt02.trans bt3
    have ho3 := bt3 _ _ (w2.1.ne_strs ho2) ho2
    have ha3 := bt03 _ _ has ha
    refine ⟨_, rfl, 1, rfl, o, _, rfl, SqL.of ho3, fun c hc => ?_⟩
    have smc := same_new hc (o := .lst (cutV (one.map V.str) none (some ((1 : Nat) : Int))))
    have hc4 : (upd H3 c (.lst (cutV (one.map V.str) none (some ((1 : Nat) : Int))))) c = some (.lst ((one.take 1).map V.str)) := by rw [upd_same, cut_lt, List.map_take]
    have hu4 := smc _ _ hu3
    have w4 := w3.same smc
    have bt04 := bt03.same smc
    have ho4 := smc _ _ ho3
    have ha4 := smc _ _ ha3
    show _
    generalize (upd H3 c (.lst (cutV (one.map V.str) none (some ((1 : Nat) : Int))))) = H4 at hc4 hu4 w4 bt04 ho4 ha4 ⊢
    clear smc hc
    refine ⟨_, rfl, _, rfl, _, rfl, _, _, rfl, rfl, s, a, m - 1, _, xs, congrArg (fun q => [V.ref s, V.ref a, V.int q]) (by omega), by omega, w4, by omega, ha4, hx0, hxl, fun v H5 vn v0 bt5 w5 hv5 hvl hvs => ?_⟩
    have bt05 := bt04.trans bt5
    have ho5 := bt5 _ _ (w4.1.ne_strs ho4) ho4
    have hc5 := bt5 _ _ (w4.1.ne_strs hc4) hc4
    have hu5 := bt5 _ _ (w4.1.ne_strs hu4) hu4
    refine ⟨c, v, _, _, rfl, rfl, hc5, hv5, by rw [List.length_map, List.length_map, List.length_take]; exact sl2 (by omega), fun d hd => ?_⟩
    have smd := same_new hd (o := .lst ((one.take 1).map V.str ++ vn.map V.str))
    have hd6 : (upd H5 d (.lst ((one.take 1).map V.str ++ vn.map V.str))) d = some (.lst ((one.take 1 ++ vn).map V.str)) := by rw [upd_same, List.map_append]
    generalize (upd H5 d (.lst ((one.take 1).map V.str ++ vn.map V.str))) = H6 at smd hd6 ⊢
    have ho6 := smd _ _ ho5
    refine ⟨_, rfl, o, _, rfl, .inl (SqL.of ho6), fun e he => ?_⟩
    have sme := same_new he (o := .lst (one.map V.str))
    have he7 : (upd H6 e (.lst (one.map V.str))) e = some (.lst (one.map V.str)) := upd_same
    generalize (upd H6 e (.lst (one.map V.str))) = H7 at sme he7 ⊢
    refine ⟨sl2 (by show 3 ≤ 1000000; decide), fun li hli => ?_⟩
    have sml := same_new hli (o := .lst [.ref u, .ref d, .ref e])
    have hli8 : (upd H7 li (.lst [.ref u, .ref d, .ref e])) li = some (.lst [.ref u, .ref d, .ref e]) := upd_same
    have sm58 := (smd.trans sme).trans sml
    have hu8 := sm58 _ _ hu5
    have hd8 := sml _ _ (sme _ _ hd6)
    have he8 := sml _ _ he7
    have ho8 := sm58 _ _ ho5
    have w8 := w5.same sm58
    have bt08 := bt05.same sm58
    generalize (upd H7 li (.lst [.ref u, .ref d, .ref e])) = H8 at hli8 hu8 hd8 he8 ho8 w8 bt08 ⊢
    clear sm58 sml hli he7 sme he ho6 hd6 smd hd hu5 hc5 ho5 bt05 bt5 v0 hv5 w5 ha4 ho4 bt04 w4 hu4 hc4
    obtain ⟨val, hval, hvm⟩ := atI_some (xs := [V.ref u, V.ref d, V.ref e]) y0 (show way < 3 from y1)
    obtain ⟨ov, other, rfl, hov, hotl, hots⟩ : ∃ (ov : Addr) (other : List Str), val = .ref ov ∧ H8 ov = some (.lst (other.map V.str)) ∧ other.length ≤ m ∧ ∀ z ∈ other, z ∈ xs := by
      rcases List.mem_cons.mp hvm with rfl | hvm
      · exact ⟨u, un, rfl, hu8, hul, hus⟩
      rcases List.mem_cons.mp hvm with rfl | hvm
      · refine ⟨d, _, rfl, hd8, by rw [List.length_append, List.length_take]; omega, fun z hz => ?_⟩
        rcases List.mem_append.mp hz with hz | hz
        · exact hos z (List.mem_of_mem_take hz)
        · exact hvs z hz
      · rw [List.mem_singleton.mp hvm]
        exact ⟨e, one, rfl, he8, hol, hos⟩
    refine ⟨_, rfl, li, _, _, _, rfl, rfl, SqL.of hli8, hval, ?_⟩
    -- perhaps longer
    refine ⟨fun σ' H' => ∃ (ov : Addr) (other : List Str), σ' = [some (.ref s), some (.str kind), some (.ref a), some (.int m), some (.ref o), some (.int way), some (.ref ov)] ∧ But s H H' ∧ WellC H' s (n + 200) ∧ H' o = some (.lst (one.map V.str)) ∧ H' ov = some (.lst (other.map V.str)) ∧ other.length ≤ m + 1 ∧ ∀ z ∈ other, z ∈ xs, ?_, ?_⟩
    · refine ⟨_, rfl, s, _, _, rfl, w8, by omega, by decide, by decide, fun i H9 i0 i1 bt9 w9 => ?_⟩
      have bt09 := bt08.trans bt9
      have ho9 := bt9 _ _ (w8.1.ne_strs ho8) ho8
      have hov9 := bt9 _ _ (w8.1.ne_strs hov) hov
      have ha9 := bt09 _ _ has ha
      refine ⟨rfl, _, rfl, iteB (fun _ => ?_) (fun _ => ⟨ov, other, rfl, bt09, w9.mono (by omega), ho9, hov9, by omega, hots⟩)⟩
      refine ⟨_, rfl, _, rfl, _, rfl, s, a, 1, _, xs, rfl, by decide, w9, by omega, ha9, hx0, hxl, fun x H10 xn x0 bt10 w10 hx10 hxl2 hxs => ?_⟩
      have bt010 := bt09.trans bt10
      have ho10 := bt10 _ _ (w9.1.ne_strs ho9) ho9
      have hov10 := bt10 _ _ (w9.1.ne_strs hov9) hov9
      refine ⟨ov, x, _, _, rfl, rfl, hov10, hx10, by rw [List.length_map, List.length_map]; exact sl2 (by omega), fun z hz => ?_⟩
      have smz := same_new hz (o := .lst (other.map V.str ++ xn.map V.str))
      refine ⟨z, other ++ xn, rfl, bt010.same smz, (w10.same smz).mono (by omega), smz _ _ ho10, by rw [upd_same, List.map_append], by rw [List.length_append]; omega, fun y hy => ?_⟩
      rcases List.mem_append.mp hy with hy | hy
      · exact hots y hy
      · exact hxs y hy
    · clear hotl hots hov bt08 w8 ho8 he8 hd8 hu8 hli8 hval hvm
      rintro σ' H9 ⟨ov, other, rfl, bt09, w9, ho9, hov9, hotl, hots⟩
      refine ⟨_, rfl, rfl, _, rfl, iteB (fun _ => ?_) (fun hk => ?_)⟩
      · refine ⟨_, rfl, Str, PyData.str, o, _, one, rfl, SqL.of ho9, dpAll_strs _, alk_str, srt_str, fun _ _ => Nat.zero_le _, fun zs so hz1 hz2 hso => ?_⟩
        rw [srt_strs_out hz1 hz2]
        have sm1 := same_new hso (o := .lst ((ssort one).map V.str))
        have hs1 : (upd H9 so (.lst ((ssort one).map V.str))) so = some (.lst ((ssort one).map V.str)) := upd_same
        generalize (upd H9 so (.lst ((ssort one).map V.str))) = H10 at sm1 hs1 ⊢
        refine ⟨_, rfl, Str, PyData.str, ov, _, other, rfl, SqL.of (sm1 _ _ hov9), dpAll_strs _, alk_str, srt_str, fun _ _ => Nat.zero_le _, fun zs so2 hz1 hz2 hso2 => ?_⟩
        rw [srt_strs_out hz1 hz2]
        have sm2 := same_new hso2 (o := .lst ((ssort other).map V.str))
        have hs2 : (upd H10 so2 (.lst ((ssort other).map V.str))) so2 = some (.lst ((ssort other).map V.str)) := upd_same
        have hs12 := sm2 _ _ hs1
        generalize (upd H10 so2 (.lst ((ssort other).map V.str))) = H11 at sm2 hs2 hs12 ⊢
        refine ⟨sl2 (by show 2 ≤ 1000000; decide), fun p hp => ?_⟩
        have smp := same_new hp (o := .tup [.ref so, .ref so2])
        have sm := (sm1.trans sm2).trans smp
        exact q p _ so so2 _ _ (bt09.same sm) (w9.same sm) upd_same (smp _ _ hs12) (smp _ _ hs2) (fun z hz => hos z ((ssort_perm one).mem_iff.mp hz)) (fun z hz => hots z ((ssort_perm other).mem_iff.mp hz)) (by rw [(ssort_perm one).length_eq]; exact hol) (by rw [(ssort_perm other).length_eq]; exact hotl) fun _ => ⟨ssort_eq (ssort_perm one), ssort_eq (ssort_perm other)⟩
      · refine ⟨_, rfl, _, rfl, sl2 (by show 2 ≤ 1000000; decide), fun p hp => ?_⟩
        have smp := same_new hp (o := .tup [.ref o, .ref ov])
        refine q p _ o ov _ _ (bt09.same smp) (w9.same smp) upd_same (smp _ _ ho9) (smp _ _ hov9) hos hots hol hotl fun e => ?_
        subst e
        exact absurd rfl (of_decide_eq_false hk)
end
end SG
namespace SG
open PySem PySem.Spec PyProof.Rows L2 LamX
section
variable {P : Program} {w : World} {K : PySem.W.Frag} {mg : Str → Option Value} {base : Heap} {A : Ad}
/-- a world's dict: names, and rules by name -/
def WdAt (H : Hp) (wd : Addr) (names : List Str) (rs : List Rule) : Prop := ∃ (nl rd : Addr) (kw kvs : List (Key × V)), H wd = some (.dK kw) ∧ valV kw (Sum.inr "names" : Key) = some (.ref nl) ∧ valV kw (Sum.inr "rules" : Key) = some (.ref rd) ∧ H nl = some (.lst (names.map V.str)) ∧ H rd = some (.dK kvs) ∧
  ∀ n ∈ names, ∃ l ts, valV kvs (Sum.inr n : Key) = some (.ref l) ∧ H l = some (.lst (ts.map V.ref)) ∧ Paired (RuleAt H) ts (rulesOf rs n)
theorem WdAt.same {H H' : Hp} {wd : Addr} {names : List Str} {rs : List Rule} (h : WdAt H wd names rs) (e : Same H H') : WdAt H' wd names rs := by
  obtain ⟨nl, rd, kw, kvs, h1, v1, v2, h2, h3, h4⟩ := h
  refine ⟨nl, rd, kw, kvs, e _ _ h1, v1, v2, e _ _ h2, e _ _ h3, fun n hn => ?_⟩
  obtain ⟨l, ts, a, b, c⟩ := h4 n hn
  exact ⟨l, ts, a, e _ _ b, Paired.mapP c fun _ _ h => h.same e⟩
theorem WdAt.but {H H' : Hp} {wd s : Addr} {n : Nat} {names : List Str} {rs : List Rule} (h : WdAt H wd names rs) (w : WellAt H s n) (bt : But s H H') : WdAt H' wd names rs := by
  obtain ⟨nl, rd, kw, kvs, h1, v1, v2, h2, h3, h4⟩ := h
  have nr : ∀ {a : Addr} {xs : List Addr}, H a = some (.lst (xs.map V.ref)) → a ≠ s := fun {a xs} h z => by
    obtain ⟨x1, x2, x3, g1, _⟩ := w
    rw [z, g1] at h
    have e := HO.lst.inj (Option.some.inj h)
    cases xs with
    | nil => cases e
    | cons y t => cases (List.cons.inj e).1
  have nt : ∀ {a : Addr} {xs : List V}, H a = some (.tup xs) → a ≠ s := fun {a xs} h z => by
    obtain ⟨x1, x2, x3, g1, _⟩ := w
    rw [z, g1] at h
    cases h
  refine ⟨nl, rd, kw, kvs, bt _ _ (w.ne_dk h1) h1, v1, v2, bt _ _ (w.ne_strs h2) h2, bt _ _ (w.ne_dk h3) h3, fun n hn => ?_⟩
  obtain ⟨l, ts, a, b, c⟩ := h4 n hn
  exact ⟨l, ts, a, bt _ _ (nr b) b, Paired.mapP c fun _ _ ⟨x, h7, h8⟩ => ⟨x, bt _ _ (nt h7) h7, bt _ _ (w.ne_strs h8) h8⟩⟩
/-- found so far -/
def fndTo (kind : Str) (rs : List Rule) (row : List Str) (i : Nat) : List Step := if kind = "bag" then (List.range i).flatMap (bagAt rs row) else if i = 0 then [] else rowPuts rs row
theorem fndTo_len {kind : Str} {rs : List Rule} {row : List Str} (h : rs.length ≤ 100) (i : Nat) : (fndTo kind rs row i).length ≤ 100 * i := by
  unfold fndTo
  by_cases c : kind = "bag"
  · rw [if_pos c]
    exact flat_len (bagAt_len h row) i
  · rw [if_neg c]
    by_cases c2 : i = 0
    · rw [if_pos c2]
      exact Nat.zero_le _
    · rw [if_neg c2]
      have := rowPuts_len h row
      omega
theorem fndTo_steps {kind : Str} {rs : List Rule} {row : List Str} (hk : kind = "row" ∨ kind = "bag") {L : List Step} (nd : L.Nodup) (m : ∀ x, x ∈ L ↔ x ∈ fndTo kind rs row row.length) : esort eRow L = stepsOf kind rs row := by
  have nrb : ¬ (("row" : Str) = "bag") := by decide +kernel
  have nbr : ¬ (("bag" : Str) = "row") := by decide +kernel
  rw [each1_of nd m]
  unfold fndTo stepsOf
  rcases hk with rfl | rfl
  · rw [if_neg nrb, if_pos rfl]
    cases row with
    | nil => rfl
    | cons n t => rfl
  · rw [if_pos rfl, if_neg nbr]
    rfl
/-- a step that is new -/
def RuleF (H0 H : Hp) (t : Addr) (p : Step) : Prop := H0 t = none ∧ ∃ w, H0 w = none ∧ H t = some (.tup [.str p.1, .ref w]) ∧ H w = some (.lst (p.2.map V.str))
theorem RuleF.same {H0 H H' : Hp} {t : Addr} {p : Step} (e : Same H H') (h : RuleF H0 H t p) : RuleF H0 H' t p := by
  obtain ⟨a, w, b, c, d⟩ := h
  exact ⟨a, w, b, e _ _ c, e _ _ d⟩
theorem RuleF.at {H0 H : Hp} {t : Addr} {p : Step} (h : RuleF H0 H t p) : RuleAt H t p := by
  obtain ⟨a, w, b, c, d⟩ := h
  exact ⟨w, c, d⟩
def sp_lsteps : Sp := fun vs H Q _ => ∃ (wd a : Addr) (kind : Str) (names : List Str) (rs : List Rule) (row : List Str), vs = [.ref wd, .str kind, .ref a] ∧ WdAt H wd names rs ∧ (kind = "row" ∨ kind = "bag") ∧ H a = some (.lst (row.map V.str)) ∧ (∀ x ∈ row, x ∈ names) ∧ row.length ≤ 1000 ∧ ShortR rs ∧
  ∀ p H' (us : List Addr), Same H H' → H' p = some (.lst (us.map V.ref)) → Paired (RuleF H H') us (stepsOf kind rs row) → Q (.ref p) H'
theorem ok__law_steps (T : Txt K mg A) : FnOk P w K mg base CX0 1 A.a__law_steps A.d__law_steps ["_law_world_here", "_law_kind", "_law_one"] sp_lsteps := by
  refine T.F__law_steps.ok sc__law_steps (fun vs H Q E h => ?_) (fun cdv A0 outer s0 H vs Q E hr h => ?_)
  · obtain ⟨_, _, _, _, _, _, rfl, _⟩ := h
    rfl
  · obtain ⟨wd, a, kind, names, rs, row, rfl, W, hkind, ha, hin, hrl, hsh, q⟩ := h
    have hu := hu_of hr
    have hu64 := hu64_of hr
    refine ⟨_, (pss_cons (ps_set (i := 3) sc__law_steps.nd rfl (Or.inr rfl) (pe_lst pa_nil))
 (pss_cons (ps_for PassesOwn.never rfl (pi_enum (by rfl) T.enumerate (pa_cons (pv 2) pa_nil)) (pg_tup (by rfl) (pgs_cons (pg_name (i := 4) sc__law_steps.nd rfl (Or.inl rfl)) (pgs_cons (pg_name (i := 5) sc__law_steps.nd rfl (Or.inl rfl)) pgs_nil)))
 (pss_one (ps_if (pt_cmpR op_eq (pv 1) pe_str (nomark _)) (pss_cons (ps_set (i := 6) sc__law_steps.nd rfl (Or.inr rfl) (pe_op op_cat (pe_slice (r := rSlL K) sl_list (pv 2) po_none (po_some (pv 4))) (pe_slice (r := rSlL K) sl_list (pv 2) (po_some (pe_op op_add (pv 4) pe_int)) po_none)))
 (pss_one (ps_set (i := 3) sc__law_steps.nd rfl (Or.inr rfl) (pe_op op_cat (pv 3) (pe_lc (own := [("_law_letter", 7), ("_law_row", 8)]) (g := gTup K 2 (gCons (gName 7) (gCons (gName 8) gNil))) (by rfl) sc__law_steps.nd (pi_list (pe_dget hu (pe_dget hu (pv 0) pe_str (fun _ _ => rfl)) (pv 5) (fun _ _ => rfl))) (blkOk_by (own := [("_law_letter", 7), ("_law_row", 8)]) (N := ["_law_world_here", "_law_kind", "_law_one", "_law_found", "_law_at", "_law_name", "_law_rest", "_law_letter", "_law_row", "_law_k", "_law_step"]) (sc := defScope s__law_steps) (by decide +kernel)) (fun _ _ _ _ _ => (pg_tup (by rfl) (pgs_cons (pg_name (i := 7) sc__law_steps.nd rfl (Or.inl rfl)) (pgs_cons (pg_name (i := 8) sc__law_steps.nd rfl (Or.inl rfl)) pgs_nil)))) (fun _ _ _ _ _ => pts_nil) (fun _ _ _ _ _ => (pe_tup (pa_cons (pv 7) (pa_cons (pe_callB (id := "sorted") (r := rSortedG K) (cr_sortedG hu64) (by rfl) T.sorted (by decide +kernel) (pa_cons (pe_op op_cat (pv 8) (pv 6)) pa_nil)) pa_nil))))))))) (pss_one (ps_if (pt_cmpR op_eq (pv 4) pe_int (nomark _)) (pss_one (ps_set (i := 3) sc__law_steps.nd rfl (Or.inr rfl) (pe_op op_cat (pv 3) (pe_lc (own := [("_law_letter", 7), ("_law_row", 8)]) (g := gTup K 2 (gCons (gName 7) (gCons (gName 8) gNil))) (by rfl) sc__law_steps.nd (pi_list (pe_dget hu (pe_dget hu (pv 0) pe_str (fun _ _ => rfl)) (pv 5) (fun _ _ => rfl))) (blkOk_by (own := [("_law_letter", 7), ("_law_row", 8)]) (N := ["_law_world_here", "_law_kind", "_law_one", "_law_found", "_law_at", "_law_name", "_law_rest", "_law_letter", "_law_row", "_law_k", "_law_step"]) (sc := defScope s__law_steps) (by decide +kernel)) (fun _ _ _ _ _ => (pg_tup (by rfl) (pgs_cons (pg_name (i := 7) sc__law_steps.nd rfl (Or.inl rfl)) (pgs_cons (pg_name (i := 8) sc__law_steps.nd rfl (Or.inl rfl)) pgs_nil)))) (fun _ _ _ _ _ => pts_nil) (fun _ _ _ _ _ => (pe_tup (pa_cons (pv 7) (pa_cons (pe_op op_cat (pv 8) (pe_slice (r := rSlL K) sl_list (pv 2) (po_some pe_int) po_none)) pa_nil)))))))) pss_nil)))))
 (pss_one (ps_ret (pe_callB (id := "sorted") (r := rSortedG K) (cr_sortedG hu64) (by rfl) T.sorted (by decide +kernel) (pa_cons (pe_lc (own := [("_law_k", 9), ("_law_step", 10)]) (g := gTup K 2 (gCons (gName 9) (gCons (gName 10) gNil))) (by rfl) sc__law_steps.nd (pi_enum (by rfl) T.enumerate (pa_cons (pv 3) pa_nil)) (blkOk_by (own := [("_law_k", 9), ("_law_step", 10)]) (N := ["_law_world_here", "_law_kind", "_law_one", "_law_found", "_law_at", "_law_name", "_law_rest", "_law_letter", "_law_row", "_law_k", "_law_step"]) (sc := defScope s__law_steps) (by decide +kernel)) (fun _ _ _ _ _ => (pg_tup (by rfl) (pgs_cons (pg_name (i := 9) sc__law_steps.nd rfl (Or.inl rfl)) (pgs_cons (pg_name (i := 10) sc__law_steps.nd rfl (Or.inl rfl)) pgs_nil)))) (fun _ _ _ _ _ => pts_one (pt_cmpR (r := rNotInP K) (op_notInP hu64) (pv 10) (pe_slice (r := rSlL K) sl_list (pv 3) po_none (po_some (pv 9))) (by rfl))) (fun _ _ _ _ _ => (pv 10))) pa_nil)))))), ?_⟩
    refine ⟨Nat.zero_le _, fun f0 hf0 => ?_⟩
    have sm0 := same_new hf0 (o := .lst [])
    refine ⟨_, rfl, a, _, rfl, SqL.of (sm0 _ _ ha), for_it (walk_enum (K := K) (a := a) (xs := row.map V.str)) (fun i σ' H' => ∃ (x4 x5 x6 : Option V) (f : Addr) (us : List Addr), σ' = [some (.ref wd), some (.str kind), some (.ref a), some (.ref f), x4, x5, x6, none, none, none, none] ∧ Same H H' ∧ H' f = some (.lst (us.map V.ref)) ∧ Paired (RuleF H H') us (fndTo kind rs row i)) ?_ ?_ ?_ ?_⟩
    · refine ⟨_, _, _, f0, [], rfl, sm0, upd_same, ?_⟩
      have e : fndTo kind rs row 0 = [] := List.length_eq_zero_iff.mp (Nat.le_zero.mp (fndTo_len hsh.1 0))
      rw [e]
      exact .nil
    · rintro i σ' H' _ ⟨_, _, _, _, _, rfl, sm, _⟩
      exact SqL.of (sm _ _ ha)
    · clear sm0
      rintro i x σ' H6 H7 hi ⟨x4, x5, x6, f, us, rfl, sm6, hf6, hP⟩ ⟨T0, y1, y2, rfl, hT, rfl, e1, e2⟩
      have e1 := Option.some.inj e1
      subst e1
      obtain ⟨n, hni, rfl⟩ := map_at e2
      have hil : i < row.length := (List.getElem?_eq_some_iff.mp hni).1
      have hul : us.length ≤ 100000 := by
        have h1 := paired_len hP
        have h2 := fndTo_len (kind := kind) (row := row) hsh.1 i
        omega
      have smT := same_new hT (o := .tup [.int i, .str n])
      refine ⟨T0, _, rfl, SqT.of upd_same, rfl, _, _, rfl, _, _, rfl, rfl, ?_⟩
      have sm7 := sm6.trans smT
      have hf7 := smT _ _ hf6
      have hP7 := Paired.mapP hP fun _ _ h => RuleF.same smT h
      generalize (upd H6 T0 (.tup [.int i, .str n])) = H7 at sm7 hf7 hP7 ⊢
      clear smT hT hP hf6 sm6
      obtain ⟨nl, rd, kw, kvs, hwd, hvn, hvr, hnl, hrd, hlook⟩ := W.same sm7
      have hn := hin n (List.mem_of_getElem? hni)
      obtain ⟨l, ts, hval, hl, hlp⟩ := hlook n hn
      have hsn := hsh.of n
      have htl := paired_len hlp
      refine ⟨_, rfl, rfl, _, rfl, iteB (fun hc => ?_) (fun hc => ?_)⟩
      · have ek : kind = "bag" := V.str.inj (of_decide_eq_true hc)
        -- the rest
        refine ⟨_, rfl, _, rfl, _, rfl, a, _, rfl, SqL.of (sm7 _ _ ha), fun c1 hc1 => ?_⟩
        have sm1 := same_new hc1 (o := .lst (cutV (row.map V.str) none (some (i : Int))))
        have h1 : (upd H7 c1 (.lst (cutV (row.map V.str) none (some (i : Int))))) c1 = some (.lst ((row.take i).map V.str)) := by
          rw [upd_same, cut_lt, List.map_take]
        generalize (upd H7 c1 (.lst (cutV (row.map V.str) none (some (i : Int))))) = H8 at sm1 h1 ⊢
        refine ⟨_, rfl, _, rfl, _, _, rfl, rfl, _, rfl, a, _, rfl, SqL.of (sm1 _ _ (sm7 _ _ ha)), fun c2 hc2 => ?_⟩
        have sm2 := same_new hc2 (o := .lst (cutV (row.map V.str) (some ((i : Int) + 1)) none))
        have h2 : (upd H8 c2 (.lst (cutV (row.map V.str) (some ((i : Int) + 1)) none))) c2 = some (.lst ((row.drop (i + 1)).map V.str)) := by
          rw [upd_same, show ((i : Int) + 1) = ((i + 1 : Nat) : Int) by omega, cut_ge, List.map_drop]
        have h1' := sm2 _ _ h1
        generalize (upd H8 c2 (.lst (cutV (row.map V.str) (some ((i : Int) + 1)) none))) = H9 at sm2 h2 h1' ⊢
        refine ⟨c1, c2, _, _, rfl, rfl, h1', h2, by rw [List.length_map, List.length_map, List.length_take, List.length_drop]; exact sl2 (by omega), fun re hre => ?_⟩
        have sm3 := same_new hre (o := .lst ((row.take i).map V.str ++ (row.drop (i + 1)).map V.str))
        have h3 : (upd H9 re (.lst ((row.take i).map V.str ++ (row.drop (i + 1)).map V.str))) re = some (.lst ((row.take i ++ row.drop (i + 1)).map V.str)) := by rw [upd_same, List.map_append]
        have smR := sm1.trans (sm2.trans sm3)
        have hrest : (row.take i ++ row.drop (i + 1)).length ≤ 1000 := by rw [List.length_append, List.length_take, List.length_drop]; omega
        have hba := bagAt_at (rs := rs) hni
        have sm10 := sm7.trans smR
        have hf10 := smR _ _ hf7
        have hP10 := Paired.mapP hP7 fun _ _ h => RuleF.same smR h
        have hl10 := smR _ _ hl
        have hlp10 := Paired.mapP hlp fun _ _ h => RuleAt.same smR h
        have hwd10 := smR _ _ hwd
        have hrd10 := smR _ _ hrd
        generalize row.take i ++ row.drop (i + 1) = rest at h3 hrest hba
        generalize (upd H9 re (.lst ((row.take i).map V.str ++ (row.drop (i + 1)).map V.str))) = H10 at h3 sm10 hf10 hP10 hl10 hlp10 hwd10 hrd10 ⊢
        clear smR sm3 sm2 sm1 h1 h1' h2 hc1 hc2 hre hP7 hf7 hl hlp hwd hrd sm7 hlook hnl
        refine ⟨_, rfl, _, rfl, wd, _, rfl, .inl ⟨_, Sum.inr "rules", .inl hwd10, rfl, hvr.symm⟩, _, rfl, rd, _, rfl, .inl ⟨_, Sum.inr n, .inl hrd10, rfl, hval.symm⟩, l, rfl, ⟨_, SqL.of hl10⟩, fun D2 hD2 => lc_list (K := K) (a := l) (xs := ts.map V.ref) (fun i H' => Same H10 H' ∧ ∃ zs : List Addr, H' D2 = some (.lst (zs.map V.ref)) ∧ Paired (RowN H10 H' D2) zs (((rulesOf rs n).take i).map fun p => (p.1, ssort (p.2 ++ rest)))) ?_ ?_ ?_ ?_⟩
        · exact ⟨same_new hD2, [], upd_same, .nil⟩
        · rintro i H' _ ⟨sm, _⟩
          exact SqL.of (sm _ _ hl10)
        · rintro i2 x H' hi2 ⟨sm, ws, hv1, hv2⟩
          obtain ⟨u0, hui, rfl⟩ := map_at hi2
          obtain ⟨r, hr1, w0, hw1, hw2⟩ := paired_get hlp10 hui
          have hrl2 := hsn.2 r (List.mem_of_getElem? hr1)
          refine ⟨u0, _, rfl, SqT.of (sm _ _ hw1), rfl, _, _, rfl, _, _, rfl, rfl, rfl, tyes (iteT ?_)⟩
          refine ⟨_, rfl, _, rfl, _, rfl, w0, re, _, _, rfl, rfl, sm _ _ hw2, sm _ _ h3, by rw [List.length_map, List.length_map]; exact sl2 (by omega), fun c hc => ?_⟩
          have smc := same_new hc (o := .lst (r.2.map V.str ++ rest.map V.str))
          have hcs : (upd H' c (.lst (r.2.map V.str ++ rest.map V.str))) c = some (.lst ((r.2 ++ rest).map V.str)) := by rw [upd_same, List.map_append]
          have ncD : c ≠ D2 := fun z => by rw [z, hv1] at hc; cases hc
          refine ⟨Str, PyData.str, c, _, r.2 ++ rest, rfl, SqL.of hcs, dpAll_strs _, alk_str, srt_str, fun _ _ => Nat.zero_le _, fun zs w hz1 hz2 hw => ?_⟩
          rw [srt_strs_out hz1 hz2]
          refine ⟨sl2 (by show 2 ≤ 1000000; decide), fun u hu3 => ?_⟩
          have smw := same_new hw (o := .lst ((ssort (r.2 ++ rest)).map V.str))
          have smu := same_new hu3 (o := .tup [.str r.1, .ref w])
          have smA := smc.trans (smw.trans smu)
          have nwD : w ≠ D2 := fun z => by rw [z, smc _ _ hv1] at hw; cases hw
          have nuD : u ≠ D2 := fun z => by rw [z, (smc.trans smw) _ _ hv1] at hu3; cases hu3
          have hwU := smu _ _ (upd_same : (upd (upd H' c (.lst (r.2.map V.str ++ rest.map V.str))) w (.lst ((ssort (r.2 ++ rest)).map V.str))) w = _)
          refine ⟨_, smA _ _ hv1, by rw [List.length_map, paired_len hv2, List.length_map, List.length_take]; exact sl1 (by omega), same_mut (sm.trans smA) hD2, ws ++ [u], by rw [upd_same, List.map_append]; rfl, ?_⟩
          rw [take_snoc hr1, List.map_append]
          refine paired_app (F := RowN H10 _ D2) ⟨sm.free ((smc.trans smw).free hu3), nuD, w, sm.free (smc.free hw), nwD, ?_, ?_⟩ (Paired.mapP hv2 fun t r ⟨a1, a2, w, a3, a4, a5, a6⟩ => ⟨a1, a2, w, a3, a4, ?_, ?_⟩)
          · rw [upd_ne nuD, upd_same]
          · rw [upd_ne nwD]; exact hwU
          · rw [upd_ne a2]; exact smA _ _ a5
          · rw [upd_ne a4]; exact smA _ _ a6
        rintro H3 ⟨sm3, zs, hz1, hz2⟩
        rw [List.length_map, htl, List.take_length, ← hba] at hz2
        have hzl : zs.length ≤ 100 := by rw [paired_len hz2, hba, List.length_map]; exact hsn.1
        refine ⟨f, D2, _, _, rfl, rfl, sm3 _ _ hf10, hz1, by rw [List.length_map, List.length_map]; exact sl2 (by omega), fun f2 hf2 => ?_⟩
        have smF := same_new hf2 (o := .lst (us.map V.ref ++ zs.map V.ref))
        refine ⟨_, _, _, f2, us ++ zs, rfl, (sm10.trans sm3).trans smF, by rw [upd_same, List.map_append], ?_⟩
        have ef : fndTo kind rs row (i + 1) = fndTo kind rs row i ++ bagAt rs row i := by
          unfold fndTo
          rw [if_pos ek, if_pos ek, flat_range_snoc]
        rw [ef]
        refine paired_append (F := RuleF H _) (Paired.mapP hP10 fun _ _ h => RuleF.same (sm3.trans smF) h) (Paired.mapP hz2 fun _ _ ⟨a1, _, w, a3, _, a5, a6⟩ => ⟨sm10.free a1, w, sm10.free a3, smF _ _ a5, smF _ _ a6⟩)
      · have ek : ¬ kind = "bag" := fun z => of_decide_eq_false hc (by rw [z])
        refine ⟨_, rfl, rfl, _, rfl, ?_⟩
        by_cases i0 : i = 0
        · subst i0
          refine iteT ?_
          have efn : fndTo kind rs row 0 = [] := List.length_eq_zero_iff.mp (Nat.le_zero.mp (fndTo_len hsh.1 0))
          obtain ⟨t, et⟩ : ∃ t, row = n :: t := by
            cases row with
            | nil => simp at hil
            | cons a b => simp at hni; exact ⟨b, by rw [hni]⟩
          have ha7 := sm7 _ _ ha
          refine ⟨_, rfl, _, rfl, wd, _, rfl, .inl ⟨_, Sum.inr "rules", .inl hwd, rfl, hvr.symm⟩, _, rfl, rd, _, rfl, .inl ⟨_, Sum.inr n, .inl hrd, rfl, hval.symm⟩, l, rfl, ⟨_, SqL.of hl⟩, fun D2 hD2 => lc_list (K := K) (a := l) (xs := ts.map V.ref) (fun i H' => Same H7 H' ∧ ∃ zs : List Addr, H' D2 = some (.lst (zs.map V.ref)) ∧ Paired (RowN H7 H' D2) zs (((rulesOf rs n).take i).map fun p => (p.1, p.2 ++ t))) ?_ ?_ ?_ ?_⟩
          · exact ⟨same_new hD2, [], upd_same, .nil⟩
          · rintro i H' _ ⟨sm, _⟩
            exact SqL.of (sm _ _ hl)
          · rintro i2 x H' hi2 ⟨sm, ws, hv1, hv2⟩
            obtain ⟨u0, hui, rfl⟩ := map_at hi2
            obtain ⟨r, hr1, w0, hw1, hw2⟩ := paired_get hlp hui
            have hrl2 := hsn.2 r (List.mem_of_getElem? hr1)
            have htle : t.length ≤ 1000 := by rw [et] at hrl; simp at hrl; omega
            refine ⟨u0, _, rfl, SqT.of (sm _ _ hw1), rfl, _, _, rfl, _, _, rfl, rfl, rfl, tyes (iteT ?_)⟩
            refine ⟨_, rfl, _, rfl, _, rfl, _, rfl, a, _, rfl, SqL.of (sm _ _ ha7), fun c hc => ?_⟩
            have ec : cutV (row.map V.str) (some (1 : Int)) none = t.map V.str := by
              rw [show (1 : Int) = ((1 : Nat) : Int) from rfl, cut_ge, et]; rfl
            rw [ec]
            have smc := same_new hc (o := .lst (t.map V.str))
            have ncD : c ≠ D2 := fun z => by rw [z, hv1] at hc; cases hc
            refine ⟨w0, c, _, _, rfl, rfl, smc _ _ (sm _ _ hw2), upd_same, by rw [List.length_map, List.length_map]; exact sl2 (by omega), fun w hw => ⟨sl2 (by show 2 ≤ 1000000; decide), fun u hu3 => ?_⟩⟩
            have smw := same_new hw (o := .lst (r.2.map V.str ++ t.map V.str))
            have smu := same_new hu3 (o := .tup [.str r.1, .ref w])
            have smA := smc.trans (smw.trans smu)
            have nwD : w ≠ D2 := fun z => by rw [z, smc _ _ hv1] at hw; cases hw
            have nuD : u ≠ D2 := fun z => by rw [z, (smc.trans smw) _ _ hv1] at hu3; cases hu3
            have hwU := smu _ _ (upd_same : (upd (upd H' c (.lst (t.map V.str))) w (.lst (r.2.map V.str ++ t.map V.str))) w = _)
            refine ⟨_, smA _ _ hv1, by rw [List.length_map, paired_len hv2, List.length_map, List.length_take]; exact sl1 (by omega), same_mut (sm.trans smA) hD2, ws ++ [u], by rw [upd_same, List.map_append]; rfl, ?_⟩
            rw [take_snoc hr1, List.map_append]
            refine paired_app (F := RowN H7 _ D2) ⟨sm.free ((smc.trans smw).free hu3), nuD, w, sm.free (smc.free hw), nwD, ?_, ?_⟩ (Paired.mapP hv2 fun t r ⟨a1, a2, w, a3, a4, a5, a6⟩ => ⟨a1, a2, w, a3, a4, ?_, ?_⟩)
            · rw [upd_ne nuD, upd_same]
            · rw [upd_ne nwD, hwU, List.map_append]
            · rw [upd_ne a2]; exact smA _ _ a5
            · rw [upd_ne a4]; exact smA _ _ a6
          rintro H3 ⟨sm3, zs, hz1, hz2⟩
          rw [List.length_map, htl, List.take_length] at hz2
          have hzl : zs.length ≤ 100 := by rw [paired_len hz2, List.length_map]; exact hsn.1
          have hf3 := sm3 _ _ hf7
          refine ⟨f, D2, _, _, rfl, rfl, hf3, hz1, by rw [List.length_map, List.length_map]; exact sl2 (by omega), fun f2 hf2 => ?_⟩
          have smF := same_new hf2 (o := .lst (us.map V.ref ++ zs.map V.ref))
          refine ⟨_, _, _, f2, us ++ zs, rfl, (sm7.trans sm3).trans smF, by rw [upd_same, List.map_append], ?_⟩
          have ef : fndTo kind rs row (0 + 1) = fndTo kind rs row 0 ++ ((rulesOf rs n).map fun p => (p.1, p.2 ++ t)) := by
            rw [efn, List.nil_append]
            unfold fndTo
            rw [if_neg ek, if_neg (by decide), et]
            rfl
          rw [ef]
          refine paired_append (F := RuleF H _) (Paired.mapP hP7 fun _ _ h => RuleF.same (sm3.trans smF) h) (Paired.mapP hz2 fun _ _ ⟨a1, _, w, a3, _, a5, a6⟩ => ⟨sm7.free a1, w, sm7.free a3, smF _ _ a5, smF _ _ a6⟩)
        · have e0 : decide (V.int (i : Int) = V.int 0) = false := decide_eq_false fun z => by have := V.int.inj z; omega
          rw [e0]
          refine iteF ?_
          refine ⟨_, _, _, f, us, rfl, sm7, hf7, ?_⟩
          have ef : fndTo kind rs row (i + 1) = fndTo kind rs row i := by
            unfold fndTo
            rw [if_neg ek, if_neg ek, if_neg (by omega), if_neg i0]
          rw [ef]
          exact hP7
    · clear sm0
      rintro σ' H1 ⟨x4, x5, x6, f, us, rfl, sm1, hf1, hP⟩
      rw [List.length_map] at hP
      have hfl := fndTo_len (kind := kind) (row := row) hsh.1 row.length
      have hst := fun L nd m => fndTo_steps (rs := rs) (row := row) hkind (L := L) nd m
      generalize fndTo kind rs row row.length = ps at hP hfl hst
      have hul := paired_len hP
      refine ⟨_, rfl, f, _, rfl, SqL.of hf1, fun D hD => lc_it (walk_enum (K := K) (a := f) (xs := us.map V.ref)) (fun i H' => ∃ (L : List Step) (zs : List Addr), Same H1 H' ∧ H' D = some (.lst (zs.map V.ref)) ∧ Paired (RuleF H H1) zs L ∧ L.Nodup ∧ (∀ x, x ∈ L ↔ x ∈ ps.take i) ∧ L.length ≤ i) ?_ ?_ ?_ ?_⟩
      · exact ⟨[], [], same_new hD, upd_same, .nil, List.nodup_nil, fun x => by simp, Nat.le_refl _⟩
      · rintro i H' _ ⟨_, _, sm, _⟩
        exact SqL.of (sm _ _ hf1)
      · rintro i x H6 H7 hi ⟨L, zs, sm6, hD6, hz, nd, hm, hll⟩ ⟨T0, y1, y2, rfl, hT, rfl, e1, e2⟩
        have e1 := Option.some.inj e1
        subst e1
        obtain ⟨t, ht, rfl⟩ := map_at e2
        have hil := (List.getElem?_eq_some_iff.mp ht).1
        obtain ⟨p, hp⟩ : ∃ p, ps[i]? = some p := ⟨_, List.getElem?_eq_getElem (by omega)⟩
        have htp := paired_ix hP ht hp
        have smT := same_new hT (o := .tup [.int i, .ref t])
        refine ⟨T0, _, rfl, SqT.of upd_same, rfl, _, _, rfl, _, _, rfl, rfl, rfl, ?_⟩
        have sm7 := sm6.trans smT
        have hD7 := smT _ _ hD6
        generalize (upd H6 T0 (.tup [.int i, .ref t])) = H7 at sm7 hD7 ⊢
        refine ⟨_, rfl, _, rfl, _, rfl, _, rfl, f, _, rfl, SqL.of (sm7 _ _ hf1), fun c1 hc1 => ?_⟩
        have sm8 := same_new hc1 (o := .lst (cutV (us.map V.ref) none (some (i : Int))))
        have hc8 : (upd H7 c1 (.lst (cutV (us.map V.ref) none (some (i : Int))))) c1 = some (.lst ((us.take i).map V.ref)) := by
          rw [upd_same, cut_lt, List.map_take]
        have hD8 := sm8 _ _ hD7
        have sm18 := sm7.trans sm8
        generalize (upd H7 c1 (.lst (cutV (us.map V.ref) none (some (i : Int))))) = H8 at hc8 hD8 sm18 ⊢
        have hcut : ListAt H8 c1 (ps.take i) := ⟨us.take i, hc8, Paired.mapP (paired_take hP i) fun _ _ h => h.at.same sm18⟩
        refine ⟨eRow p, (ps.take i).map eRow, dp_row (htp.at.same sm18), .inl (dp_rows hcut), Nat.le_trans (dep_Row _) (by decide), _, rfl, ?_⟩
        have hzl := paired_len hz
        by_cases hmem : p ∈ ps.take i
        · rw [any_row.mpr hmem]
          refine iteF ⟨L, zs, sm18, hD8, hz, nd, fun x => ?_, by omega⟩
          rw [hm x, take_snoc hp, List.mem_append, List.mem_singleton]
          constructor
          · exact .inl
          · rintro (h | rfl)
            · exact h
            · exact hmem
        · have ea : (((ps.take i).map eRow).any fun z => PyData.eqv z (eRow p)) = false := by
            cases e : (((ps.take i).map eRow).any fun z => PyData.eqv z (eRow p)) with
            | false => rfl
            | true => exact absurd (any_row.mp e) hmem
          rw [ea]
          refine iteT ⟨_, rfl, _, hD8, by rw [List.length_map]; exact sl1 (by omega), L ++ [p], zs ++ [t], same_mut sm18 hD, by rw [upd_same, List.map_append]; rfl, paired_app (F := RuleF H H1) htp hz, ?_, fun x => ?_, by rw [List.length_append]; show _ + 1 ≤ _; omega⟩
          · rw [List.nodup_append]
            refine ⟨nd, List.nodup_cons.mpr ⟨List.not_mem_nil, List.nodup_nil⟩, fun a ha b hb e => ?_⟩
            rw [List.mem_singleton.mp hb] at e
            exact hmem ((hm p).mp (e ▸ ha))
          · rw [List.mem_append, hm x, take_snoc hp, List.mem_append]
      · rintro H2 ⟨L, zs, sm2, hD2, hz, nd, hm, hll⟩
        rw [List.length_map, hul, List.take_length] at hm
        have hz2 := Paired.mapP hz fun _ _ h => RuleF.same sm2 h
        refine ⟨Step, eRow, D, zs.map V.ref, L, rfl, SqL.of hD2, dpAll_paired (F := RuleF H H2) (fun t p h => dp_row h.at) hz2, alk_Row, srt_Row, fun p _ => Nat.le_trans (dep_Row p) (by decide), fun ys so hy1 hy2 hso => ?_⟩
        obtain ⟨ss, e1, hss, _⟩ := srt_refs_out hz2 hy1 hy2
        rw [e1]
        have sms := same_new hso (o := .lst (ss.map V.ref))
        rw [hst L nd hm] at hss
        exact q so _ ss ((sm1.trans sm2).trans sms) upd_same (Paired.mapP hss fun _ _ h => RuleF.same sms h)
end
section
variable {P : Program} {w : World} {K : PySem.W.Frag} {mg : Str → Option Value} {base : Heap} {A : Ad}
theorem world_look {H : Hp} {names chain : List Str} {gs : List (List Step)} {b : Nat} {rd : Addr} {ls : List Addr} (hll : ls.length = chain.length) (hlp : Paired (ListAt H) ls gs) (hR : WorldR chain b 3 gs) (cnd : chain.Nodup) (hperm : names.Perm chain) {n : Str} (hn : n ∈ names) :
    ∃ l ts, valV (zipK chain ls) (Sum.inr n : Key) = some (.ref l) ∧ H l = some (.lst (ts.map V.ref)) ∧ Paired (RuleAt H) ts (rulesOf (rulesW names (stepsW chain gs)) n) := by
  obtain ⟨j, hj, hst⟩ := hR.at_ cnd (hperm.mem_iff.mp hn)
  have hjl := (List.getElem?_eq_some_iff.mp hj).1
  have hgl : gs.length = chain.length := hR.1
  obtain ⟨ps, hps⟩ : ∃ ps, gs[j]? = some ps := ⟨_, List.getElem?_eq_getElem (by omega)⟩
  have hse := stepsW_at cnd hj hps
  have hro : rulesOf (rulesW names (stepsW chain gs)) n = ps := by
    rw [rulesOf_W _ _ (hperm.nodup_iff.mpr cnd), if_pos hn, hse]
  obtain ⟨l, hl⟩ : ∃ l, ls[j]? = some l := ⟨_, List.getElem?_eq_getElem (by omega)⟩
  obtain ⟨ts, h1, h2⟩ := paired_ix hlp hl hps
  refine ⟨l, ts, ?_, h1, by rw [hro]; exact h2⟩
  rcases zipK_val hll.symm n with ⟨_, e⟩ | ⟨j2, y, g1, g2, g3, _⟩
  · exact absurd (List.mem_of_getElem? hj) e
  · have e : j2 = j := nd_ix cnd g1 hj
    subst e
    rw [hl] at g2
    rw [g3, ← Option.some.inj g2]
end
end SG
namespace SG
open PySem PySem.Spec PyProof.Rows L2 LamX
section
variable {P : Program} {w : World} {K : PySem.W.Frag} {mg : Str → Option Value} {base : Heap} {A : Ad}
def sp_answers (C : Addr) : Sp := fun vs H Q _ => ∃ (g a : Addr) (kind z : Str) (names : List Str) (rs : List Rule) (row : List Str), vs = [.ref g, .str kind, .ref a, .str z] ∧ GramAt C H g names rs ∧ H a = some (.lst (row.map V.str)) ∧ (∀ x ∈ row, x ∈ names) ∧ row.length ≤ 1000 ∧ ShortR rs ∧ (stepsOf kind rs row).length ≤ 100000 ∧
  ∀ p H' (us : List Addr), Same H H' → H' p = some (.lst (us.map V.ref)) → Paired (fun u (r : List Str) => H u = none ∧ H' u = some (.lst (r.map V.str))) us (((stepsOf kind rs row).filter fun q => decide (q.1 = z)).map (·.2)) → Q (.ref p) H'
theorem ok_answers_to (T : Txt K mg A) : FnOk P w K mg base CX0 5 A.a_answers_to A.d_answers_to ["grammar", "kind", "one", "letter"] (sp_answers A.c_Grammar) := by
  have G_steps_of : FnOk P w K mg base CX0 4 A.a_steps_of A.d_steps_of ["grammar", "kind", "one"] (sp_steps_of A.c_Grammar) := ok_steps_of T
  refine T.F_answers_to.ok sc_answers_to (fun vs H Q E h => ?_) (fun cdv A0 outer s0 H vs Q E hr h => ?_)
  · obtain ⟨_, _, _, _, _, _, _, rfl, _⟩ := h
    rfl
  · obtain ⟨g, a, kind, z, names, rs, row, rfl, G, ha, hin, hrl, hsh, hsl, q⟩ := h
    refine ⟨_, (pss_one (ps_ret (pe_lc (own := [("by", 4), ("result", 5)]) (g := gTup K 2 (gCons (gName 4) (gCons (gName 5) gNil))) (by rfl) sc_answers_to.nd (pi_list (pe_call G_steps_of (hr.mono (by decide)) (by rfl) T.g_steps_of T.F_steps_of.kp T.b_steps_of .nil pass0 (pa_cons (pv 0) (pa_cons (pv 1) (pa_cons (pv 2) pa_nil))))) (blkOk_by (own := [("by", 4), ("result", 5)]) (N := ["grammar", "kind", "one", "letter", "by", "result"]) (sc := defScope s_answers_to) (by decide +kernel)) (fun _ _ _ _ _ => (pg_tup (by rfl) (pgs_cons (pg_name (i := 4) sc_answers_to.nd rfl (Or.inl rfl)) (pgs_cons (pg_name (i := 5) sc_answers_to.nd rfl (Or.inl rfl)) pgs_nil)))) (fun _ _ _ _ _ => pts_one (pt_cmpR op_eq (pv 4) (pv 3) (nomark _))) (fun _ _ _ _ _ => (pv 5))))), ?_⟩
    refine ⟨_, rfl, _, rfl, _, rfl, g, a, kind, names, rs, row, rfl, G, ha, hin, hrl, hsh, fun p H1 nr => ?_⟩
    obtain ⟨hp0, sm1, us, hus, hpr⟩ := nr
    have hpl := paired_len hpr
    refine ⟨p, rfl, ⟨_, SqL.of hus⟩, fun D hD => lc_list (K := K) (a := p) (xs := us.map V.ref) (fun i H' => ∃ vs : List Addr, Same H1 H' ∧ H' D = some (.lst (vs.map V.ref)) ∧ Paired (fun u (r : List Str) => H u = none ∧ H1 u = some (.lst (r.map V.str))) vs ((((stepsOf kind rs row).take i).filter fun q => decide (q.1 = z)).map (·.2))) ?_ ?_ ?_ ?_⟩
    · exact ⟨[], same_new hD, upd_same, .nil⟩
    · rintro i H' _ ⟨vs, sm, _⟩
      exact SqL.of (sm _ _ hus)
    · rintro i x H2 hi ⟨vs, sm2, h2, hp2⟩
      obtain ⟨u, hu, rfl⟩ := map_at hi
      obtain ⟨r1, hr1, _, w0, hw0, hw1, hw2⟩ := paired_get hpr hu
      refine ⟨u, _, rfl, SqT.of (sm2 _ _ hw1), rfl, _, _, rfl, _, _, rfl, rfl, rfl, ?_⟩
      refine ⟨_, rfl, _, rfl, rfl, _, rfl, ?_⟩
      have ec : decide (V.str r1.1 = V.str z) = decide (r1.1 = z) := by
        by_cases c : r1.1 = z
        · rw [decide_eq_true c, decide_eq_true (by rw [c])]
        · rw [decide_eq_false c, decide_eq_false (fun e => c (V.str.inj e))]
      rw [ec, take_snoc hr1, List.filter_append, List.map_append]
      have hvl : vs.length ≤ 100000 := by
        have h3 := paired_len hp2
        rw [List.length_map] at h3
        have h4 := List.length_filter_le (fun q : Step => decide (q.1 = z)) ((stepsOf kind rs row).take i)
        rw [List.length_take] at h4
        omega
      refine iteB (fun hc => ?_) (fun hc => ?_)
      · have e : [r1].filter (fun q : Step => decide (q.1 = z)) = [r1] := by simp [of_decide_eq_true hc]
        rw [e]
        exact ⟨_, rfl, _, h2, by rw [List.length_map]; exact sl1 (by omega), vs ++ [w0], same_mut sm2 hD, by rw [upd_same, List.map_append]; rfl, paired_app (F := fun u (r : List Str) => H u = none ∧ H1 u = some (.lst (r.map V.str))) ⟨hw0, hw2⟩ hp2⟩
      · have e : [r1].filter (fun q : Step => decide (q.1 = z)) = [] := by
          have := of_decide_eq_false hc
          simp [this]
        rw [e, List.map_nil, List.append_nil]
        exact ⟨vs, sm2, h2, hp2⟩
    rintro H2 ⟨vs, sm2, h2, hp2⟩
    rw [List.length_map, hpl, List.take_length] at hp2
    exact q D H2 vs (sm1.trans sm2) h2 (Paired.mapP hp2 fun _ _ h => ⟨h.1, sm2 _ _ h.2⟩)
def ordK (kind : Str) (x : List Str) : List Str := if kind = "row" then x else ssort x
def sp_in_order : Sp := fun vs H Q _ => ∃ (a : Addr) (kind : Str) (x : List Str), vs = [.str kind, .ref a] ∧ H a = some (.lst (x.map V.str)) ∧ x.length ≤ 1000 ∧ ∀ p H', H p = none → Same H H' → H' p = some (.lst ((ordK kind x).map V.str)) → Q (.ref p) H'
theorem ok_in_order (T : Txt K mg A) : FnOk P w K mg base CX0 1 A.a_in_order A.d_in_order ["kind", "one"] sp_in_order := by
  refine T.F_in_order.ok sc_in_order (fun vs H Q E h => ?_) (fun cdv A0 outer s0 H vs Q E hr h => ?_)
  · obtain ⟨_, _, _, rfl, _⟩ := h
    rfl
  · obtain ⟨a, kind, x, rfl, ha, hxl, q⟩ := h
    have hu64 := hu64_of hr
    refine ⟨_, (pss_cons (ps_if (pt_cmpR op_eq (pv 0) pe_str (nomark _)) (pss_one (ps_ret (pe_callTy (T := "list") (r := Evl.rListS K) call_list_of (by rfl) T.list_ (by decide +kernel) (pa_cons (pv 1) pa_nil)))) pss_nil)
 (pss_one (ps_ret (pe_callB (id := "sorted") (r := rSortedG K) (cr_sortedG hu64) (by rfl) T.sorted (by decide +kernel) (pa_cons (pv 1) pa_nil))))), ?_⟩
    refine ⟨_, rfl, rfl, _, rfl, iteB (fun hc => ?_) (fun hc => ?_)⟩
    · have e : kind = "row" := V.str.inj (of_decide_eq_true hc)
      refine ⟨_, rfl, a, _, rfl, .inl (SqL.of ha), fun p hp => ?_⟩
      refine q p _ hp (same_new hp) ?_
      unfold ordK
      rw [if_pos e]
      exact upd_same
    · have e : ¬ kind = "row" := fun z => (of_decide_eq_false hc) (by rw [z])
      refine ⟨_, rfl, Str, PyData.str, a, _, x, rfl, SqL.of ha, dpAll_strs _, alk_str, srt_str, fun _ _ => Nat.zero_le _, fun zs so hz1 hz2 hso => ?_⟩
      rw [srt_strs_out hz1 hz2]
      refine q so _ hso (same_new hso) ?_
      unfold ordK
      rw [if_neg e]
      exact upd_same
end
section
variable {P : Program} {w : World} {K : PySem.W.Frag} {mg : Str → Option Value} {base : Heap} {A : Ad}
def sp_pair : Sp := fun vs H Q _ => ∃ (a b : Addr) (kind : Str) (x y : List Str), vs = [.str kind, .ref a, .ref b] ∧ (kind = "row" ∨ kind = "bag") ∧ H a = some (.lst (x.map V.str)) ∧ H b = some (.lst (y.map V.str)) ∧ ∀ p p1 p2 H', Same H H' → H' p = some (.tup [.ref p1, .ref p2]) → H' p1 = some (.lst ((ordK kind x).map V.str)) → H' p2 = some (.lst ((ordK kind y).map V.str)) → (p1 = a ∨ H p1 = none) → (p2 = b ∨ H p2 = none) → Q (.ref p) H'
theorem ok__law_pair (T : Txt K mg A) : FnOk P w K mg base CX0 1 A.a__law_pair A.d__law_pair ["_law_kind", "_law_one", "_law_other"] sp_pair := by
  refine T.F__law_pair.ok sc__law_pair (fun vs H Q E h => ?_) (fun cdv A0 outer s0 H vs Q E hr h => ?_)
  · obtain ⟨_, _, _, _, _, rfl, _⟩ := h
    rfl
  · obtain ⟨a, b, kind, x, y, rfl, hk, ha, hb, q⟩ := h
    have hu64 := hu64_of hr
    refine ⟨_, (pss_cons (ps_if (pt_cmpR op_eq (pv 0) pe_str (nomark _)) (pss_one (ps_ret (pe_tup (pa_cons (pe_callB (id := "sorted") (r := rSortedG K) (cr_sortedG hu64) (by rfl) T.sorted (by decide +kernel) (pa_cons (pv 1) pa_nil)) (pa_cons (pe_callB (id := "sorted") (r := rSortedG K) (cr_sortedG hu64) (by rfl) T.sorted (by decide +kernel) (pa_cons (pv 2) pa_nil)) pa_nil))))) pss_nil)
 (pss_one (ps_ret (pe_tup (pa_cons (pv 1) (pa_cons (pv 2) pa_nil)))))), ?_⟩
    refine ⟨_, rfl, rfl, _, rfl, iteB (fun hc => ?_) (fun hc => ?_)⟩
    · have ek : kind = "bag" := V.str.inj (of_decide_eq_true hc)
      have eo : ∀ z, ordK kind z = ssort z := fun z => by unfold ordK; rw [ek, if_neg (by decide +kernel)]
      refine ⟨_, rfl, Str, PyData.str, a, _, x, rfl, SqL.of ha, dpAll_strs _, alk_str, srt_str, fun _ _ => Nat.zero_le _, fun zs p1 hz1 hz2 hp1 => ?_⟩
      rw [srt_strs_out hz1 hz2]
      have sm1 := same_new hp1 (o := .lst ((ssort x).map V.str))
      refine ⟨_, rfl, Str, PyData.str, b, _, y, rfl, SqL.of (sm1 _ _ hb), dpAll_strs _, alk_str, srt_str, fun _ _ => Nat.zero_le _, fun zs p2 hz1 hz2 hp2 => ?_⟩
      rw [srt_strs_out hz1 hz2]
      have sm2 := same_new hp2 (o := .lst ((ssort y).map V.str))
      refine ⟨sl2 (by show 2 ≤ 1000000; decide), fun p hp => ?_⟩
      have sm3 := same_new hp (o := .tup [.ref p1, .ref p2])
      refine q p p1 p2 _ ((sm1.trans sm2).trans sm3) upd_same ?_ ?_ (.inr hp1) (.inr (sm1.free hp2))
      · rw [eo]; exact sm3 _ _ (sm2 _ _ upd_same)
      · rw [eo]; exact sm3 _ _ upd_same
    · have ek : kind = "row" := hk.elim id fun e => absurd (by rw [e] : V.str kind = V.str "bag") (of_decide_eq_false hc)
      have eo : ∀ z, ordK kind z = z := fun z => by unfold ordK; rw [if_pos ek]
      refine ⟨_, rfl, _, rfl, sl2 (by show 2 ≤ 1000000; decide), fun p hp => ?_⟩
      have sm3 := same_new hp (o := .tup [.ref a, .ref b])
      refine q p a b _ sm3 upd_same ?_ ?_ (.inl rfl) (.inl rfl)
      · rw [eo]; exact sm3 _ _ ha
      · rw [eo]; exact sm3 _ _ hb
end
section
variable {P : Program} {w : World} {K : PySem.W.Frag} {mg : Str → Option Value} {base : Heap} {A : Ad}
def sp_lanswers : Sp := fun vs H Q _ => ∃ (wd a : Addr) (kind z : Str) (names : List Str) (rs : List Rule) (row : List Str), vs = [.ref wd, .str kind, .ref a, .str z] ∧ WdAt H wd names rs ∧ (kind = "row" ∨ kind = "bag") ∧ H a = some (.lst (row.map V.str)) ∧ (∀ x ∈ row, x ∈ names) ∧ row.length ≤ 1000 ∧ ShortR rs ∧ (stepsOf kind rs row).length ≤ 100000 ∧
  ∀ p H' (us : List Addr), H p = none → Same H H' → H' p = some (.lst (us.map V.ref)) → Paired (fun u (r : List Str) => H u = none ∧ H' u = some (.lst (r.map V.str))) us (((stepsOf kind rs row).filter fun q => decide (q.1 = z)).map (·.2)) → Q (.ref p) H'
theorem ok__law_answers (T : Txt K mg A) : FnOk P w K mg base CX0 2 A.a__law_answers A.d__law_answers ["_law_world_here", "_law_kind", "_law_one", "_law_letter"] sp_lanswers := by
  have G__law_steps : FnOk P w K mg base CX0 1 A.a__law_steps A.d__law_steps ["_law_world_here", "_law_kind", "_law_one"] sp_lsteps := ok__law_steps T
  refine T.F__law_answers.ok sc__law_answers (fun vs H Q E h => ?_) (fun cdv A0 outer s0 H vs Q E hr h => ?_)
  · obtain ⟨_, _, _, _, _, _, _, rfl, _⟩ := h
    rfl
  · obtain ⟨wd, a, kind, z, names, rs, row, rfl, W, hkind, ha, hin, hrl, hsh, hsl, q⟩ := h
    refine ⟨_, (pss_one (ps_ret (pe_lc (own := [("_law_by", 4), ("_law_result", 5)]) (g := gTup K 2 (gCons (gName 4) (gCons (gName 5) gNil))) (by rfl) sc__law_answers.nd (pi_list (pe_call G__law_steps (hr.mono (by decide)) (by rfl) T.g__law_steps T.F__law_steps.kp T.b__law_steps .nil pass0 (pa_cons (pv 0) (pa_cons (pv 1) (pa_cons (pv 2) pa_nil))))) (blkOk_by (own := [("_law_by", 4), ("_law_result", 5)]) (N := ["_law_world_here", "_law_kind", "_law_one", "_law_letter", "_law_by", "_law_result"]) (sc := defScope s__law_answers) (by decide +kernel)) (fun _ _ _ _ _ => (pg_tup (by rfl) (pgs_cons (pg_name (i := 4) sc__law_answers.nd rfl (Or.inl rfl)) (pgs_cons (pg_name (i := 5) sc__law_answers.nd rfl (Or.inl rfl)) pgs_nil)))) (fun _ _ _ _ _ => pts_one (pt_cmpR op_eq (pv 4) (pv 3) (nomark _))) (fun _ _ _ _ _ => (pv 5))))), ?_⟩
    refine ⟨_, rfl, _, rfl, _, rfl, wd, a, kind, names, rs, row, rfl, W, hkind, ha, hin, hrl, hsh, fun p H1 us sm1 hus hpr => ?_⟩
    have hpl := paired_len hpr
    refine ⟨p, rfl, ⟨_, SqL.of hus⟩, fun D hD => lc_list (K := K) (a := p) (xs := us.map V.ref) (fun i H' => ∃ vs : List Addr, Same H1 H' ∧ H' D = some (.lst (vs.map V.ref)) ∧ Paired (fun u (r : List Str) => H u = none ∧ H1 u = some (.lst (r.map V.str))) vs ((((stepsOf kind rs row).take i).filter fun q => decide (q.1 = z)).map (·.2))) ?_ ?_ ?_ ?_⟩
    · exact ⟨[], same_new hD, upd_same, .nil⟩
    · rintro i H' _ ⟨vs, sm, _⟩
      exact SqL.of (sm _ _ hus)
    · rintro i x H2 hi ⟨vs, sm2, h2, hp2⟩
      obtain ⟨u, hu, rfl⟩ := map_at hi
      obtain ⟨r1, hr1, _, w0, hw0, hw1, hw2⟩ := paired_get hpr hu
      refine ⟨u, _, rfl, SqT.of (sm2 _ _ hw1), rfl, _, _, rfl, _, _, rfl, rfl, rfl, ?_⟩
      refine ⟨_, rfl, _, rfl, rfl, _, rfl, ?_⟩
      have ec : decide (V.str r1.1 = V.str z) = decide (r1.1 = z) := by
        by_cases c : r1.1 = z
        · rw [decide_eq_true c, decide_eq_true (by rw [c])]
        · rw [decide_eq_false c, decide_eq_false (fun e => c (V.str.inj e))]
      rw [ec, take_snoc hr1, List.filter_append, List.map_append]
      have hvl : vs.length ≤ 100000 := by
        have h3 := paired_len hp2
        rw [List.length_map] at h3
        have h4 := List.length_filter_le (fun q : Step => decide (q.1 = z)) ((stepsOf kind rs row).take i)
        rw [List.length_take] at h4
        omega
      refine iteB (fun hc => ?_) (fun hc => ?_)
      · have e : [r1].filter (fun q : Step => decide (q.1 = z)) = [r1] := by simp [of_decide_eq_true hc]
        rw [e]
        exact ⟨_, rfl, _, h2, by rw [List.length_map]; exact sl1 (by omega), vs ++ [w0], same_mut sm2 hD, by rw [upd_same, List.map_append]; rfl, paired_app (F := fun u (r : List Str) => H u = none ∧ H1 u = some (.lst (r.map V.str))) ⟨hw0, hw2⟩ hp2⟩
      · have e : [r1].filter (fun q : Step => decide (q.1 = z)) = [] := by
          have := of_decide_eq_false hc
          simp [this]
        rw [e, List.map_nil, List.append_nil]
        exact ⟨vs, sm2, h2, hp2⟩
    rintro H2 ⟨vs, sm2, h2, hp2⟩
    rw [List.length_map, hpl, List.take_length] at hp2
    exact q D H2 vs (sm1.free hD) (sm1.trans sm2) h2 (Paired.mapP hp2 fun _ _ h => ⟨h.1, sm2 _ _ h.2⟩)
end
end SG
namespace SG
open PySem PySem.Spec PyProof.Rows L2 LamX
section
variable {P : Program} {w : World} {K : PySem.W.Frag} {mg : Str → Option Value} {base : Heap} {A : Ad}
theorem ne_dictN {H : Hp} {d : Addr} {xs : List NEnt} (hd : H d = some (dictN P w d xs)) {a : Addr} {o : HO} (h : H a = some o) (n : ∀ φ, o ≠ .ext φ) : a ≠ d := fun z => by
  rw [z, hd] at h
  exact n _ (Option.some.inj h).symm
theorem GramAt.butN {C : Addr} {H H' : Hp} {g d : Addr} {names : List Str} {rs : List Rule} {xs : List NEnt} (h : GramAt C H g names rs) (hd : H d = some (dictN P w d xs)) (b : But d H H') : GramAt C H' g names rs := by
  obtain ⟨dx, kn, st, od, ls, h1, h2, h3, h4⟩ := h.ex
  have k : ∀ {a : Addr} {o : HO}, H a = some o → (∀ φ, o ≠ .ext φ) → H' a = some o := fun h n => b _ _ (ne_dictN hd h n) h
  exact ⟨dx, kn, st, od, ls, k h1 fun φ z => (by cases z), k h2 fun φ z => (by cases z), ⟨k h3.1 fun φ z => (by cases z), Paired.mapP h3.2.1 fun _ _ ⟨ts, h5, h6⟩ => ⟨ts, k h5 fun φ z => (by cases z), Paired.mapP h6 fun _ _ ⟨x, h7, h8⟩ => ⟨x, k h7 fun φ z => (by cases z), k h8 fun φ z => (by cases z)⟩⟩, h3.2.2⟩, k h4 fun φ z => (by cases z)⟩
def rfs (g : Addr) (kind : Str) (d : Addr) : List (Str × V) := putF "found" (.ref d) (putF "kind" (.str kind) (putF "grammar" (.ref g) []))
theorem k_rkf : ¬ (("kind" : Str) = "found") := by decide +kernel
theorem k_rgf : ¬ (("grammar" : Str) = "found") := by decide +kernel
theorem k_rgk : ¬ (("grammar" : Str) = "kind") := by decide +kernel
theorem rfs_found (g : Addr) (k : Str) (d : Addr) : (rfs g k d).lookup ("found" : Str) = some (.ref d) := by
  unfold rfs
  rw [lookup_putF, if_pos rfl]
theorem rfs_kind (g : Addr) (k : Str) (d : Addr) : (rfs g k d).lookup ("kind" : Str) = some (.str k) := by
  unfold rfs
  rw [lookup_putF, if_neg k_rkf, lookup_putF, if_pos rfl]
theorem rfs_grammar (g : Addr) (k : Str) (d : Addr) : (rfs g k d).lookup ("grammar" : Str) = some (.ref g) := by
  unfold rfs
  rw [lookup_putF, if_neg k_rgf, lookup_putF, if_neg k_rgk, lookup_putF, if_pos rfl]
theorem rfs_no (g : Addr) (k : Str) (d : Addr) {m : Str} (h1 : ¬ m = "grammar") (h2 : ¬ m = "kind") (h3 : ¬ m = "found") : (rfs g k d).lookup m = none := by
  unfold rfs
  rw [lookup_putF, if_neg h3, lookup_putF, if_neg h2, lookup_putF, if_neg h1]
  rfl
/-- a Rounds instance and its dict -/
structure RdAt (P : Program) (w : World) (C : Addr) (H : Hp) (c g d : Addr) (kind : Str) (st : StepF) (xs : List NEnt) : Prop where
  ins : ∃ dx, H c = some (.ins C dx (rfs g kind d))
  dic : H d = some (dictN P w d xs)
  key : KeysN H xs
  rgt : RightR st xs
theorem RdAt.same {C : Addr} {H H' : Hp} {c g d : Addr} {kind : Str} {st : StepF} {xs : List NEnt} (h : RdAt P w C H c g d kind st xs) (e : Same H H') : RdAt P w C H' c g d kind st xs := by
  obtain ⟨dx, h1⟩ := h.ins
  exact ⟨⟨dx, e _ _ h1⟩, e _ _ h.dic, h.key.same e, h.rgt⟩
theorem RdAt.mutL {C : Addr} {H : Hp} {c g d D : Addr} {kind : Str} {st : StepF} {xs : List NEnt} (h : RdAt P w C H c g d kind st xs) {l : List V} (hD : H D = some (.lst l)) (l2 : List V) : RdAt P w C (upd H D (.lst l2)) c g d kind st xs := by
  obtain ⟨dx, h1⟩ := h.ins
  have n1 : c ≠ D := ne_of h1 hD fun z => by cases z
  have n2 : d ≠ D := (ne_dictN h.dic hD fun φ z => by cases z).symm
  exact ⟨⟨dx, by rw [upd_ne n1]; exact h1⟩, by rw [upd_ne n2]; exact h.dic, fun x hx => ⟨(h.key x hx).1.mutT (fun t xs e => ne_of e hD fun z => by cases z) _, (h.key x hx).2⟩, h.rgt⟩
def sp_R_init (P : Program) (w : World) (C : Addr) : Sp := fun vs H Q _ => ∃ (c dx g : Addr) (kind : Str), vs = [.ref c, .ref g, .str kind] ∧ H c = some (.ins C dx []) ∧ ∀ d H', (∀ b o, H b = some o → b ≠ c → H' b = some o) → H d = none → H' c = some (.ins C dx (rfs g kind d)) → H' d = some (dictN P w d []) → Q .non H'
theorem ok_Rounds___init__ (T : Txt K mg A) : FnOk P w K mg base CX0 1 A.a_Rounds___init__ A.d_Rounds___init__ ["self", "grammar", "kind"] (sp_R_init P w A.c_Rounds) := by
  refine T.F_Rounds___init__.ok sc_Rounds___init__ (fun vs H Q E h => ?_) (fun cdv A0 outer s H vs Q E hr h => ?_)
  · obtain ⟨_, _, _, _, rfl, _⟩ := h
    rfl
  · obtain ⟨c, dx, g, kind, rfl, hc, q⟩ := h
    refine ⟨_, (pss_cons (ps_fld (pv 0) (pv 1) rfl)
 (pss_cons (ps_fld (pv 0) (pv 2) rfl)
 (pss_one (ps_fld (pv 0) pe_dnewN rfl)))), ?_⟩
    refine ⟨_, rfl, _, rfl, c, A.c_Rounds, dx, [], rfl, hc, T.cl_Rounds, T.n_Rounds_grammar, by show 0 < 1000; decide, ?_⟩
    refine ⟨_, rfl, _, rfl, c, A.c_Rounds, dx, _, rfl, upd_same, T.cl_Rounds, T.n_Rounds_kind, ?_, ?_⟩
    · have h1 := length_putF "grammar" (V.ref g) ([] : List (Str × V))
      rw [List.length_nil] at h1
      omega
    intro d hd
    have ncd : c ≠ d := fun z => by rw [← z, upd_same] at hd; cases hd
    have hd0 : H d = none := by rw [upd_ne ncd.symm, upd_ne ncd.symm] at hd; exact hd
    refine ⟨_, rfl, c, A.c_Rounds, dx, _, rfl, same_new hd _ _ upd_same, T.cl_Rounds, T.n_Rounds_found, ?_, ?_⟩
    · have h1 := length_putF "grammar" (V.ref g) ([] : List (Str × V))
      have h2 := length_putF "kind" (V.str kind) (putF "grammar" (V.ref g) ([] : List (Str × V)))
      rw [List.length_nil] at h1
      omega
    · refine q d _ (fun b o h n => ?_) hd0 upd_same (by rw [upd_ne ncd.symm, upd_same]; rfl)
      rw [upd_ne n, upd_ne (ne_of_none h hd0), upd_ne n, upd_ne n]
      exact h
def RndsOk (CG : Addr) (H : Hp) (g : Addr) (kind : Str) (names : List Str) (rs : List Rule) (s : Nat) : Prop := GramAt CG H g names rs ∧ StepOk names (stepsOf kind rs) s ∧ s ≤ 1000 ∧ ShortR rs
/-- alike for m rounds, of k at most -/
def sp_alike (P : Program) (w : World) (CR CG : Addr) (k : Nat) : Sp := fun vs H Q _ => ∃ (c g d a b : Addr) (kind : Str) (m s : Nat) (names : List Str) (rs : List Rule) (xs : List NEnt) (x y : List Str) (F : Nat → List NEnt → Prop) (c0 : Nat), vs = [.ref c, .ref a, .ref b, .int m] ∧ RdAt P w CR H c g d kind (stepsOf kind rs) xs ∧ RndsOk CG H g kind names rs s ∧
  H a = some (.lst (x.map V.str)) ∧ H b = some (.lst (y.map V.str)) ∧ (∀ z ∈ x, z ∈ names) ∧ (∀ z ∈ y, z ∈ names) ∧ x.length + 2 * m ≤ 900 ∧ y.length + 2 * m ≤ 900 ∧ m ≤ k ∧ FitF names k F ∧ F (c0 + TW s m) xs ∧
  ∀ xs' H', But d H H' → RdAt P w CR H' c g d kind (stepsOf kind rs) xs' → GrowR xs xs' (m + 1) → F c0 xs' → Q (.bl (alW (stepsOf kind rs) m x y)) H'
def sp_met (P : Program) (w : World) (CR CG : Addr) (k : Nat) : Sp := fun vs H Q _ => ∃ (c g d a b : Addr) (kind : Str) (m s : Nat) (names : List Str) (rs : List Rule) (xs : List NEnt) (x y : List Str) (F : Nat → List NEnt → Prop) (c0 : Nat), vs = [.ref c, .ref a, .ref b, .int m] ∧ RdAt P w CR H c g d kind (stepsOf kind rs) xs ∧ RndsOk CG H g kind names rs s ∧
  H a = some (.lst (x.map V.str)) ∧ H b = some (.lst (y.map V.str)) ∧ (∀ z ∈ x, z ∈ names) ∧ (∀ z ∈ y, z ∈ names) ∧ x.length + 2 * (m + 1) ≤ 900 ∧ y.length + 2 * (m + 1) ≤ 900 ∧ m ≤ k ∧ FitF names k F ∧ F (c0 + s * s * TW s m) xs ∧
  ∀ xs' H', But d H H' → RdAt P w CR H' c g d kind (stepsOf kind rs) xs' → GrowR xs xs' (m + 1) → F c0 xs' → Q (.bl (metW (stepsOf kind rs) (alW (stepsOf kind rs) m) x y)) H'
theorem ok_all_met (T : Txt K mg A) (k n : Nat) (hn : 5 ≤ n) (G_Rounds_alike_for : FnOk P w K mg base CX0 n A.a_Rounds_alike_for A.d_Rounds_alike_for ["self", "one", "other", "many"] (sp_alike P w A.c_Rounds A.c_Grammar k)) : FnOk P w K mg base CX0 (n + 1) A.a_Rounds_all_met A.d_Rounds_all_met ["self", "one", "other", "many"] (sp_met P w A.c_Rounds A.c_Grammar k) := by
  have G_steps_of : FnOk P w K mg base CX0 4 A.a_steps_of A.d_steps_of ["grammar", "kind", "one"] (sp_steps_of A.c_Grammar) := ok_steps_of T
  have G_answers_to : FnOk P w K mg base CX0 5 A.a_answers_to A.d_answers_to ["grammar", "kind", "one", "letter"] (sp_answers A.c_Grammar) := ok_answers_to T
  refine T.F_Rounds_all_met.ok sc_Rounds_all_met (fun vs H Q E h => ?_) (fun cdv A0 outer s0 H vs Q E hr h => ?_)
  · obtain ⟨_, _, _, _, _, _, _, _, _, _, _, _, _, _, _, rfl, _⟩ := h
    rfl
  · obtain ⟨c, g, d, a, b, kind, m, s, names, rs, xs, x, y, F, c0, rfl, rd, ⟨G, hst, hs1, hsh⟩, ha, hb, hx, hy, hxl, hyl, hmk, hF, hcap, q⟩ := h
    obtain ⟨dx, hc⟩ := rd.ins
    generalize hT0 : TW s m = t at hcap
    rw [Nat.mul_assoc] at hcap
    refine ⟨_, (pss_cons (ps_for PassesOwn.never rfl (pi_list (pe_call G_steps_of (hr.mono (by omega)) (by rfl) T.g_steps_of T.F_steps_of.kp T.b_steps_of .nil pass0 (pa_cons (pe_fld (pv 0) rfl) (pa_cons (pe_fld (pv 0) rfl) (pa_cons (pv 1) pa_nil))))) (pg_tup (by rfl) (pgs_cons (pg_name (i := 4) sc_Rounds_all_met.nd rfl (Or.inl rfl)) (pgs_cons (pg_name (i := 5) sc_Rounds_all_met.nd rfl (Or.inr rfl)) pgs_nil)))
 (pss_cons (ps_set (i := 6) sc_Rounds_all_met.nd rfl (Or.inl rfl) (pe_call G_answers_to (hr.mono (by omega)) (by rfl) T.g_answers_to T.F_answers_to.kp T.b_answers_to .nil pass0 (pa_cons (pe_fld (pv 0) rfl) (pa_cons (pe_fld (pv 0) rfl) (pa_cons (pv 2) (pa_cons (pv 4) pa_nil))))))
 (pss_one (ps_if (pt_not (pt_val (pe_callB (id := "any") (r := rAny K) (cr_any rfl) (by rfl) T.any (by decide +kernel) (pa_cons (pe_lc (own := [("answer", 7)]) (g := gName 7) (by rfl) sc_Rounds_all_met.nd (pi_list (pv 6)) (blkOk_by (own := [("answer", 7)]) (N := ["self", "one", "other", "many", "letter", "result", "answers", "answer"]) (sc := defScope s_Rounds_all_met) (by decide +kernel)) (fun _ _ _ _ _ => (pg_name (i := 7) sc_Rounds_all_met.nd rfl (Or.inl rfl))) (fun _ _ _ _ _ => pts_nil) (fun _ _ _ _ _ => (pe_meth (pv 0) T.cl_Rounds T.m_Rounds_alike_for G_Rounds_alike_for (hr.mono (by omega)) T.b_Rounds_alike_for .nil pass0 (pa_cons (pv 5) (pa_cons (pv 7) (pa_cons (pv 3) pa_nil)))))) pa_nil)))) (pss_one (ps_ret pe_bl)) pss_nil))))
 (pss_one (ps_ret pe_bl))), ?_⟩
    refine ⟨_, rfl, c, A.c_Rounds, dx, _, _, rfl, hc, T.cl_Rounds, T.n_Rounds_grammar, rfs_grammar g kind d, _, rfl, c, A.c_Rounds, dx, _, _, rfl, hc, T.cl_Rounds, T.n_Rounds_kind, rfs_kind g kind d, _, rfl, g, a, kind, names, rs, x, rfl, G, ha, hx, by omega, hsh, fun p H1 nr => ?_⟩
    obtain ⟨hp0, sm1, us, hus, hpr⟩ := nr
    have hpl := paired_len hpr
    have hfx := hst.few x hx
    have rd1 := rd.same sm1
    refine ⟨p, rfl, ⟨_, SqL.of hus⟩, for_list (K := K) (a := p) (xs := us.map V.ref) (fun i σ' H' => ∃ (x4 x5 x6 : Option V) (xs' : List NEnt), σ' = [some (.ref c), some (.ref a), some (.ref b), some (.int m), x4, x5, x6, none] ∧ But d H1 H' ∧ RdAt P w A.c_Rounds H' c g d kind (stepsOf kind rs) xs' ∧ GrowR xs xs' (m + 1) ∧ F (c0 + (s - i) * (s * t)) xs' ∧ ∀ p ∈ (stepsOf kind rs x).take i, ∃ q ∈ stepsOf kind rs y, q.1 = p.1 ∧ alW (stepsOf kind rs) m p.2 q.2 = true) ?_ ?_ ?_ ?_⟩
    · exact ⟨_, _, _, xs, rfl, But.refl d H1, rd1, .refl _ _, hcap, fun p hp => by simp at hp⟩
    · rintro i σ' H' _ ⟨_, _, _, _, rfl, bt, _⟩
      exact SqL.of (bt _ _ (ne_dictN rd1.dic hus fun φ z => (by cases z)) hus)
    · rintro i v σ' H2 hi ⟨x4, x5, x6, xs2, rfl, bt2, rd2, gr2, hl2, hall⟩
      obtain ⟨u, hu, rfl⟩ := map_at hi
      have hil := (List.getElem?_eq_some_iff.mp hu).1
      obtain ⟨r1, hr1, _, w0, _, hw1, hw2⟩ := paired_get hpr hu
      have hmr : r1 ∈ stepsOf kind rs x := List.mem_of_getElem? hr1
      have hu2 := bt2 _ _ (ne_dictN rd1.dic hw1 fun φ z => (by cases z)) hw1
      have hw02 := bt2 _ _ (ne_dictN rd1.dic hw2 fun φ z => (by cases z)) hw2
      have hb2 := bt2 _ _ (ne_dictN rd1.dic (sm1 _ _ hb) fun φ z => (by cases z)) (sm1 _ _ hb)
      have G2 := (G.same sm1).butN rd1.dic bt2
      obtain ⟨dx2, hc2⟩ := rd2.ins
      refine ⟨u, _, rfl, SqT.of hu2, rfl, _, _, rfl, _, _, rfl, rfl, ?_⟩
      refine ⟨_, rfl, c, A.c_Rounds, dx2, _, _, rfl, hc2, T.cl_Rounds, T.n_Rounds_grammar, rfs_grammar g kind d, _, rfl, c, A.c_Rounds, dx2, _, _, rfl, hc2, T.cl_Rounds, T.n_Rounds_kind, rfs_kind g kind d, _, rfl, _, rfl, g, b, kind, r1.1, names, rs, y, rfl, G2, hb2, hy, by omega, hsh, by have := hst.few y hy; omega, fun p2 H3 vs sm3 hp2 hvs => ?_⟩
      replace hvs : Paired (fun u (r : List Str) => H3 u = some (.lst (r.map V.str))) vs (((stepsOf kind rs y).filter fun q => decide (q.1 = r1.1)).map (·.2)) := Paired.mapP hvs fun _ _ h => h.2
      have rd3 := rd2.same sm3
      have hvl := paired_len hvs
      have hfy := hst.few y hy
      have hl2' : F (c0 + (s - (i + 1)) * (s * t) + (s - 0) * t) xs2 := by
        have e1 : s - i = s - (i + 1) + 1 := by omega
        rw [e1, Nat.succ_mul, ← Nat.add_assoc] at hl2
        exact hl2
      have hvs9 : vs.length ≤ s := by
        rw [hvl, List.length_map]
        exact Nat.le_trans (List.length_filter_le _ _) hfy
      refine ⟨_, rfl, p2, rfl, ⟨_, SqL.of hp2⟩, fun D hD => lc_list (K := K) (a := p2) (xs := vs.map V.ref) (fun j H' => ∃ (xs' : List NEnt), But d H3 H' ∧ RdAt P w A.c_Rounds H' c g d kind (stepsOf kind rs) xs' ∧ GrowR xs2 xs' (m + 1) ∧ F (c0 + (s - (i + 1)) * (s * t) + (s - j) * t) xs' ∧ H' D = some (.lst ((((((stepsOf kind rs y).filter fun q => decide (q.1 = r1.1)).map (·.2)).take j).map fun z => alW (stepsOf kind rs) m r1.2 z).map V.bl))) ?_ ?_ ?_ ?_⟩
      · exact ⟨xs2, but_of_same (same_new hD), rd3.same (same_new hD), .refl _ _, hl2', upd_same⟩
      · rintro j H' _ ⟨_, bt, _⟩
        exact SqL.of (bt _ _ (ne_dictN rd3.dic hp2 fun φ z => (by cases z)) hp2)
      · rintro j v H4 hj ⟨xs4, bt4, rd4, gr4, hl4, h4⟩
        obtain ⟨w1, hw1j, rfl⟩ := map_at hj
        have hjl := (List.getElem?_eq_some_iff.mp hw1j).1
        obtain ⟨z, hz⟩ : ∃ z, ((((stepsOf kind rs y).filter fun q => decide (q.1 = r1.1)).map (·.2)))[j]? = some z := ⟨_, List.getElem?_eq_getElem (by omega)⟩
        have hw13 := paired_ix hvs hw1j hz
        have hw14 := bt4 _ _ (ne_dictN rd3.dic hw13 fun φ z => (by cases z)) hw13
        have hw04 := bt4 _ _ (ne_dictN rd3.dic (sm3 _ _ hw02) fun φ z => (by cases z)) (sm3 _ _ hw02)
        have G4 := (G2.same sm3).butN rd3.dic bt4
        obtain ⟨dx4, hc4⟩ := rd4.ins
        obtain ⟨q2, hq2, rfl⟩ := List.mem_map.mp (List.mem_of_getElem? hz)
        have hq3 := (List.mem_filter.mp hq2).1
        have c1 : F (c0 + (s - (i + 1)) * (s * t) + (s - (j + 1)) * t + t) xs4 := by
          have e2 : s - j = s - (j + 1) + 1 := by omega
          rw [e2, Nat.succ_mul, ← Nat.add_assoc] at hl4
          exact hl4
        refine ⟨rfl, tyes (iteT ?_)⟩
        refine ⟨_, rfl, c, dx4, _, rfl, hc4, rfs_no g kind d (by decide +kernel) (by decide +kernel) (by decide +kernel), _, rfl, _, rfl, _, rfl, c, g, d, w0, w1, kind, m, s, names, rs, xs4, r1.2, q2.2, F, c0 + (s - (i + 1)) * (s * t) + (s - (j + 1)) * t, rfl, rd4, ⟨G4, hst, hs1, hsh⟩, hw04, hw14, hst.inn x hx r1 hmr, hst.inn y hy q2 hq3, by have := hst.len x hx r1 hmr; omega, by have := hst.len y hy q2 hq3; omega, hmk, hF, by rw [hT0]; exact c1, fun xs5 H5 bt5 rd5 gr5 hl5 => ?_⟩
        have h5 := bt5 _ _ (ne_dictN rd4.dic h4 fun φ z => (by cases z)) h4
        have hD3 : H3 D = none := hD
        refine ⟨_, h5, by rw [List.length_map, List.length_map, List.length_take]; exact sl1 (by omega), xs5, (bt4.trans bt5).cell hD3 _, rd5.mutL h5 _, gr4.trans gr5 (Nat.le_refl _) (Nat.le_refl _), hl5, ?_⟩
        rw [upd_same, take_snoc hz, List.map_append, List.map_append]
        rfl
      rintro H4 ⟨xs4, bt4, rd4, gr4, hl4, h4⟩
      rw [List.length_map, hvl, List.take_length] at h4
      have bt24 : But d H1 H4 := (bt2.same sm3).trans bt4
      have gr24 := gr2.trans gr4 (Nat.le_refl _) (Nat.le_refl _)
      have hl24 : F (c0 + (s - (i + 1)) * (s * t)) xs4 := hF.le (Nat.le_add_right _ _) hl4
      have eany : (((((stepsOf kind rs y).filter fun q => decide (q.1 = r1.1)).map (·.2)).map fun z => alW (stepsOf kind rs) m r1.2 z).any id) = ((((stepsOf kind rs y).filter fun q => decide (q.1 = r1.1)).map (·.2)).any fun z => alW (stepsOf kind rs) m r1.2 z) := by
        rw [List.any_map]
        rfl
      refine ⟨D, _, rfl, SqL.of h4, _, rfl, ?_⟩
      rw [eany]
      cases hany : ((((stepsOf kind rs y).filter fun q => decide (q.1 = r1.1)).map (·.2)).any fun z => alW (stepsOf kind rs) m r1.2 z) with
      | true =>
        refine iteF ?_
        refine ⟨_, _, _, xs4, rfl, bt24, rd4, gr24, hl24, fun p hp => ?_⟩
        rw [take_snoc hr1] at hp
        rcases List.mem_append.mp hp with hp | hp
        · exact hall p hp
        · rw [List.mem_singleton.mp hp]
          obtain ⟨z, hz, h2⟩ := List.any_eq_true.mp hany
          obtain ⟨q2, hq2, rfl⟩ := List.mem_map.mp hz
          obtain ⟨h5, h6⟩ := List.mem_filter.mp hq2
          exact ⟨q2, h5, of_decide_eq_true h6, h2⟩
      | false =>
        refine iteT ?_
        have em : metW (stepsOf kind rs) (alW (stepsOf kind rs) m) x y = false := by
          cases e : metW (stepsOf kind rs) (alW (stepsOf kind rs) m) x y with
          | false => rfl
          | true =>
            unfold metW at e
            have := List.all_eq_true.mp e r1 hmr
            rw [hany] at this
            cases this
        have hq := q xs4 H4 ((but_of_same sm1).trans bt24) rd4 gr24 (hF.le (Nat.le_add_right _ _) hl24)
        rw [em] at hq
        exact hq
    · rintro σ' H2 ⟨x4, x5, x6, xs2, rfl, bt2, rd2, gr2, hl2, hall⟩
      rw [List.length_map] at hall
      rw [hpl, List.take_length] at hall
      have hq := q xs2 H2 ((but_of_same sm1).trans bt2) rd2 gr2 (hF.le (Nat.le_add_right _ _) hl2)
      rw [metW_iff.mpr hall] at hq
      exact hq
theorem ok_alike_for (T : Txt K mg A) (k n : Nat) (hn : 5 ≤ n) (G_Rounds_all_met : FnOk P w K mg base CX0 n A.a_Rounds_all_met A.d_Rounds_all_met ["self", "one", "other", "many"] (sp_met P w A.c_Rounds A.c_Grammar k)) : FnOk P w K mg base CX0 (n + 1) A.a_Rounds_alike_for A.d_Rounds_alike_for ["self", "one", "other", "many"] (sp_alike P w A.c_Rounds A.c_Grammar (k + 1)) := by
  refine T.F_Rounds_alike_for.ok sc_Rounds_alike_for (fun vs H Q E h => ?_) (fun cdv A0 outer s0 H vs Q E hr h => ?_)
  · obtain ⟨_, _, _, _, _, _, _, _, _, _, _, _, _, _, _, rfl, _⟩ := h
    rfl
  · obtain ⟨c, g, d, a, b, kind, m, s, names, rs, xs, x, y, F, c0, rfl, rd, ⟨G, hst, hs1, hsh⟩, ha, hb, hx, hy, hxl, hyl, hmk, hF, hcap, q⟩ := h
    have hu64 := hu64_of hr
    refine ⟨_, (pss_cons (ps_if (PW.pt (pw_or (pt_cmpR op_eq (pv 3) pe_int (nomark _)) (pw_or1 (pt_cmpR (r := rEqP K) (op_eqP hu64) (pv 1) (pv 2) (nomark _))))) (pss_one (ps_ret pe_bl)) pss_nil)
 (pss_cons (ps_set (i := 4) sc_Rounds_alike_for.nd rfl (Or.inl rfl) (pe_tup (pa_cons (pe_callTy (T := "tuple") call_tuple_of (by rfl) T.tuple_ (by decide +kernel) (pa_cons (pv 1) pa_nil)) (pa_cons (pe_callTy (T := "tuple") call_tuple_of (by rfl) T.tuple_ (by decide +kernel) (pa_cons (pv 2) pa_nil)) (pa_cons (pv 3) pa_nil)))))
 (Evl.pss_cut (ps_if (pt_cmpR (r := rInN P w true) (op_notInN hu64) (pv 4) (pe_fld (pv 0) rfl) (by rfl)) (pss_one (ps_asg (pe_and (pe_meth (pv 0) T.cl_Rounds T.m_Rounds_all_met G_Rounds_all_met (hr.mono (by omega)) T.b_Rounds_all_met .nil pass0 (pa_cons (pv 1) (pa_cons (pv 2) (pa_cons (pe_op op_sub (pv 3) pe_int) pa_nil)))) (pe_one (pe_meth (pv 0) T.cl_Rounds T.m_Rounds_all_met G_Rounds_all_met (hr.mono (by omega)) T.b_Rounds_all_met .nil pass0 (pa_cons (pv 2) (pa_cons (pv 1) (pa_cons (pe_op op_sub (pv 3) pe_int) pa_nil)))))) (pg_sub (pe_fld (pv 0) rfl) (pv 4) (set_dictN hu64)))) pss_nil)
 (pss_one (ps_ret (pe_ix (r := rIxN P w) (ix_dictN hu64) (pe_fld (pv 0) rfl) (pv 4) (fun _ _ => rfl))))))), ?_⟩
    refine ⟨_, rfl, rfl, _, rfl, ?_⟩
    cases m with
    | zero => exact iteT (iteT (q xs H (But.refl d H) rd (.refl _ _) (hF.le (Nat.le_add_right _ _) hcap)))
    | succ m =>
      have e0 : decide (V.int ((m + 1 : Nat) : Int) = V.int 0) = false := decide_eq_false fun z => by have := V.int.inj z; omega
      rw [e0]
      refine iteF ?_
      refine ⟨_, rfl, _, rfl, eSs x, eSs y, dp_Ss ha, dp_Ss hb, Nat.le_trans (dep_Ss _) (by decide), _, rfl, ?_⟩
      rw [enc_Ss]
      by_cases hxy : x = y
      · rw [decide_eq_true hxy]
        have hq := q xs H (But.refl d H) rd (.refl _ _) (hF.le (Nat.le_add_right _ _) hcap)
        rw [alW_iff.mpr (.inl hxy)] at hq
        exact iteT hq
      rw [decide_eq_false hxy]
      refine iteF ?_
      have ealw : alW (stepsOf kind rs) (m + 1) x y = (metW (stepsOf kind rs) (alW (stepsOf kind rs) m) x y && metW (stepsOf kind rs) (alW (stepsOf kind rs) m) y x) := by
        show (decide (x = y) || _) = _
        rw [decide_eq_false hxy, Bool.false_or]
      have etw : TW s (m + 1) = 1 + 2 * (s * s * TW s m) := by
        show 1 + 2 * (s * s) * TW s m = _
        rw [Nat.mul_assoc]
      rw [etw] at hcap
      generalize hU0 : s * s * TW s m = u0 at hcap
      have hcap1 : F (c0 + 1 + u0 + u0) xs := hF.le (by omega) hcap
      have hFk : FitF names k F := hF.mono (Nat.le_succ k)
      -- the key
      refine ⟨_, rfl, a, _, rfl, .inl ⟨SqL.of ha, fun t ht => ?_⟩⟩
      have sm1 := same_new ht (o := .tup (x.map V.str))
      refine ⟨_, rfl, b, _, rfl, .inl ⟨SqL.of (sm1 _ _ hb), fun t2 ht2 => ?_⟩⟩
      have sm2 := same_new ht2 (o := .tup (y.map V.str))
      refine ⟨_, rfl, sl2 (by show 3 ≤ 1000000; decide), fun u hu => ?_⟩
      have sm3 := same_new hu (o := .tup [.ref t, .ref t2, .int ((m + 1 : Nat) : Int)])
      have sm := (sm1.trans sm2).trans sm3
      have htt : (upd (upd (upd H t (.tup (x.map V.str))) t2 (.tup (y.map V.str))) u (.tup [.ref t, .ref t2, .int ((m + 1 : Nat) : Int)])) t = some (.tup (x.map V.str)) := sm3 _ _ (sm2 _ _ upd_same)
      have htt2 : (upd (upd (upd H t (.tup (x.map V.str))) t2 (.tup (y.map V.str))) u (.tup [.ref t, .ref t2, .int ((m + 1 : Nat) : Int)])) t2 = some (.tup (y.map V.str)) := sm3 _ _ upd_same
      have hut : (upd (upd (upd H t (.tup (x.map V.str))) t2 (.tup (y.map V.str))) u (.tup [.ref t, .ref t2, .int ((m + 1 : Nat) : Int)])) u = some (.tup [.ref t, .ref t2, .int ((m + 1 : Nat) : Int)]) := upd_same
      generalize (upd (upd (upd H t (.tup (x.map V.str))) t2 (.tup (y.map V.str))) u (.tup [.ref t, .ref t2, .int ((m + 1 : Nat) : Int)])) = H2 at sm htt htt2 hut ⊢
      clear sm1 sm2 sm3 ht ht2 hu
      have hnk : NK H2 (kR x y (m + 1)) (.ref u) := nk_kR hut htt htt2
      have hd8 : (kR x y (m + 1)).depth ≤ 8 := by rw [depth_kR]; decide
      have rd2 := rd.same sm
      have G2 := G.same sm
      have ha2 := sm _ _ ha
      have hb2 := sm _ _ hb
      obtain ⟨dx, hc2⟩ := rd2.ins
      refine ⟨fun σ' H' => ∃ xs' : List NEnt, σ' = [some (.ref c), some (.ref a), some (.ref b), some (.int ((m + 1 : Nat) : Int)), some (.ref u)] ∧ But d H H' ∧ RdAt P w A.c_Rounds H' c g d kind (stepsOf kind rs) xs' ∧ GrowR xs xs' (m + 1 + 1) ∧ F c0 xs' ∧ atN xs' (kR x y (m + 1)) = some (.bl (alW (stepsOf kind rs) (m + 1) x y)) ∧ NK H' (kR x y (m + 1)) (.ref u), ?_, ?_⟩
      · refine ⟨_, rfl, _, rfl, c, A.c_Rounds, dx, _, _, rfl, hc2, T.cl_Rounds, T.n_Rounds_found, rfs_found g kind d, kR x y (m + 1), u, d, xs, rfl, rfl, hnk, hd8, rd2.dic, rd2.key, _, rfl, ?_⟩
        rcases rightR_at rd2.rgt (x := x) (y := y) (m := m + 1) with e | e
        · rw [e]
          refine iteT ?_
          have em : ((m + 1 : Nat) : Int) - 1 = (m : Nat) := by omega
          refine ⟨_, rfl, c, dx, _, rfl, hc2, rfs_no g kind d (by decide +kernel) (by decide +kernel) (by decide +kernel), _, rfl, _, rfl, _, rfl, _, _, rfl, rfl, c, g, d, a, b, kind, m, s, names, rs, xs, x, y, F, c0 + 1 + u0, by show [V.ref c, V.ref a, V.ref b, V.int (((m + 1 : Nat) : Int) - 1)] = _; rw [em], rd2, ⟨G2, hst, hs1, hsh⟩, ha2, hb2, hx, hy, by omega, by omega, by omega, hFk, by rw [hU0]; exact hcap1, fun xs3 H3 bt3 rd3 gr3 hl3 => ?_⟩
          have hl31 : F (c0 + 1) xs3 := hF.le (Nat.le_add_right _ _) hl3
          refine ⟨_, rfl, ?_⟩
          cases hm1 : metW (stepsOf kind rs) (alW (stepsOf kind rs) m) x y with
          | false =>
            rw [hm1, Bool.false_and] at ealw
            refine iteF ?_
            obtain ⟨dx9, hc9⟩ := rd3.ins
            have hnk9 : NK H3 (kR x y (m + 1)) (.ref u) := nk_kR (bt3 _ _ (ne_dictN rd2.dic hut fun φ z => (by cases z)) hut) (bt3 _ _ (ne_dictN rd2.dic htt fun φ z => (by cases z)) htt) (bt3 _ _ (ne_dictN rd2.dic htt2 fun φ z => (by cases z)) htt2)
            have hno : atN xs3 (kR x y (m + 1)) = none := growR_no gr3 e
            refine ⟨_, rfl, c, A.c_Rounds, dx9, _, _, rfl, hc9, T.cl_Rounds, T.n_Rounds_found, rfs_found g kind d, _, rfl, kR x y (m + 1), u, d, xs3, rfl, rfl, hnk9, hd8, rd3.dic, rd3.key, hno, by rw [sizeLine_eq]; exact Nat.lt_of_lt_of_le (hF.few hl31) (by decide), ?_⟩
            have ncd : c ≠ d := ne_dictN rd3.dic hc9 fun φ z => (by cases z)
            have eval : V.bl false = V.bl (alW (stepsOf kind rs) (m + 1) x y) := congrArg V.bl ealw.symm
            rw [eval]
            refine ⟨xs3 ++ [(kR x y (m + 1), u, V.bl (alW (stepsOf kind rs) (m + 1) x y))], rfl, ((but_of_same sm).trans bt3).own _, ⟨⟨dx9, by rw [upd_ne ncd]; exact hc9⟩, upd_same, rd3.key.put rd3.dic hnk9 hd8, rightR_put rd3.rgt x y (m + 1) u⟩, ?_, hF.put _ _ hl31 hx hy (by omega) (by omega) (by omega) hno, ?_, hnk9.mut rd3.dic _⟩
            · intro e4 he
              rcases List.mem_append.mp he with he | he
              · rcases gr3 e4 he with h1 | ⟨x2, y2, m2, e1, e2⟩
                · exact .inl h1
                · exact .inr ⟨x2, y2, m2, e1, by omega⟩
              · rw [List.mem_singleton.mp he]
                exact .inr ⟨x, y, m + 1, rfl, by omega⟩
            · unfold atN at hno ⊢
              rw [List.find?_append, Option.map_eq_none_iff.mp hno]
              simp
          | true =>
            rw [hm1, Bool.true_and] at ealw
            refine iteT ?_
            obtain ⟨dx3, hc3⟩ := rd3.ins
            have ha3 := bt3 _ _ (ne_dictN rd2.dic ha2 fun φ z => (by cases z)) ha2
            have hb3 := bt3 _ _ (ne_dictN rd2.dic hb2 fun φ z => (by cases z)) hb2
            refine ⟨_, rfl, c, dx3, _, rfl, hc3, rfs_no g kind d (by decide +kernel) (by decide +kernel) (by decide +kernel), _, rfl, _, rfl, _, rfl, _, _, rfl, rfl, c, g, d, b, a, kind, m, s, names, rs, xs3, y, x, F, c0 + 1, by show [V.ref c, V.ref b, V.ref a, V.int (((m + 1 : Nat) : Int) - 1)] = _; rw [em], rd3, ⟨G2.butN rd2.dic bt3, hst, hs1, hsh⟩, hb3, ha3, hy, hx, by omega, by omega, by omega, hFk, by rw [hU0]; exact hl3, fun xs4 H4 bt4 rd4 gr4 hl41 => ?_⟩
            have bt24 := bt3.trans bt4
            have gr24 := gr3.trans gr4 (Nat.le_refl _) (Nat.le_refl _)
            obtain ⟨dx9, hc9⟩ := rd4.ins
            have hnk9 : NK H4 (kR x y (m + 1)) (.ref u) := nk_kR (bt24 _ _ (ne_dictN rd2.dic hut fun φ z => (by cases z)) hut) (bt24 _ _ (ne_dictN rd2.dic htt fun φ z => (by cases z)) htt) (bt24 _ _ (ne_dictN rd2.dic htt2 fun φ z => (by cases z)) htt2)
            have hno : atN xs4 (kR x y (m + 1)) = none := growR_no gr24 e
            refine ⟨_, rfl, c, A.c_Rounds, dx9, _, _, rfl, hc9, T.cl_Rounds, T.n_Rounds_found, rfs_found g kind d, _, rfl, kR x y (m + 1), u, d, xs4, rfl, rfl, hnk9, hd8, rd4.dic, rd4.key, hno, by rw [sizeLine_eq]; exact Nat.lt_of_lt_of_le (hF.few hl41) (by decide), ?_⟩
            have ncd : c ≠ d := ne_dictN rd4.dic hc9 fun φ z => (by cases z)
            have eval : V.bl (metW (stepsOf kind rs) (alW (stepsOf kind rs) m) y x) = V.bl (alW (stepsOf kind rs) (m + 1) x y) := congrArg V.bl ealw.symm
            rw [eval]
            refine ⟨xs4 ++ [(kR x y (m + 1), u, V.bl (alW (stepsOf kind rs) (m + 1) x y))], rfl, ((but_of_same sm).trans bt24).own _, ⟨⟨dx9, by rw [upd_ne ncd]; exact hc9⟩, upd_same, rd4.key.put rd4.dic hnk9 hd8, rightR_put rd4.rgt x y (m + 1) u⟩, ?_, hF.put _ _ hl41 hx hy (by omega) (by omega) (by omega) hno, ?_, hnk9.mut rd4.dic _⟩
            · intro e4 he
              rcases List.mem_append.mp he with he | he
              · rcases gr24 e4 he with h1 | ⟨x2, y2, m2, e1, e2⟩
                · exact .inl h1
                · exact .inr ⟨x2, y2, m2, e1, by omega⟩
              · rw [List.mem_singleton.mp he]
                exact .inr ⟨x, y, m + 1, rfl, by omega⟩
            · unfold atN at hno ⊢
              rw [List.find?_append, Option.map_eq_none_iff.mp hno]
              simp
        · rw [e]
          refine iteF ?_
          exact ⟨xs, rfl, but_of_same sm, rd2, .refl _ _, hF.le (by omega) hcap1, e, hnk⟩
      · rintro σ' H3 ⟨xs3, rfl, bt3, rd3, gr3, hl3, e3, hnk3⟩
        obtain ⟨dx3, hc3⟩ := rd3.ins
        exact ⟨_, rfl, c, A.c_Rounds, dx3, _, _, rfl, hc3, T.cl_Rounds, T.n_Rounds_found, rfs_found g kind d, _, rfl, kR x y (m + 1), u, d, xs3, _, rfl, rfl, hnk3, hd8, rd3.dic, rd3.key, e3, q xs3 H3 bt3 rd3 gr3 hl3⟩
end
end SG
namespace SG
open PySem PySem.Spec PyProof.Rows L2 LamX
section
variable {P : Program} {w : World} {K : PySem.W.Frag} {mg : Str → Option Value} {base : Heap} {A : Ad}
def spFalse : Sp := fun _ _ _ _ => False
theorem ok_all_met0 (T : Txt K mg A) : FnOk P w K mg base CX0 5 A.a_Rounds_all_met A.d_Rounds_all_met ["self", "one", "other", "many"] spFalse :=
  T.F_Rounds_all_met.ok sc_Rounds_all_met (fun vs H Q E h => h.elim) (fun cdv A0 outer s0 H vs Q E hr h => h.elim)
theorem ok_alike0 (T : Txt K mg A) : FnOk P w K mg base CX0 6 A.a_Rounds_alike_for A.d_Rounds_alike_for ["self", "one", "other", "many"] (sp_alike P w A.c_Rounds A.c_Grammar 0) := by
  have G_Rounds_all_met : FnOk P w K mg base CX0 5 A.a_Rounds_all_met A.d_Rounds_all_met ["self", "one", "other", "many"] spFalse := ok_all_met0 T
  refine T.F_Rounds_alike_for.ok sc_Rounds_alike_for (fun vs H Q E h => ?_) (fun cdv A0 outer s0 H vs Q E hr h => ?_)
  · obtain ⟨_, _, _, _, _, _, _, _, _, _, _, _, _, _, _, rfl, _⟩ := h
    rfl
  · obtain ⟨c, g, d, a, b, kind, m, s, names, rs, xs, x, y, F, c0, rfl, rd, _, ha, hb, hx, hy, hxl, hyl, hmk, hF, hcap, q⟩ := h
    have hu64 := hu64_of hr
    refine ⟨_, (pss_cons (ps_if (PW.pt (pw_or (pt_cmpR op_eq (pv 3) pe_int (nomark _)) (pw_or1 (pt_cmpR (r := rEqP K) (op_eqP hu64) (pv 1) (pv 2) (nomark _))))) (pss_one (ps_ret pe_bl)) pss_nil)
 (pss_cons (ps_set (i := 4) sc_Rounds_alike_for.nd rfl (Or.inl rfl) (pe_tup (pa_cons (pe_callTy (T := "tuple") call_tuple_of (by rfl) T.tuple_ (by decide +kernel) (pa_cons (pv 1) pa_nil)) (pa_cons (pe_callTy (T := "tuple") call_tuple_of (by rfl) T.tuple_ (by decide +kernel) (pa_cons (pv 2) pa_nil)) (pa_cons (pv 3) pa_nil)))))
 (Evl.pss_cut (ps_if (pt_cmpR (r := rInN P w true) (op_notInN hu64) (pv 4) (pe_fld (pv 0) rfl) (by rfl)) (pss_one (ps_asg (pe_and (pe_meth (pv 0) T.cl_Rounds T.m_Rounds_all_met G_Rounds_all_met (hr.mono (by decide)) T.b_Rounds_all_met .nil pass0 (pa_cons (pv 1) (pa_cons (pv 2) (pa_cons (pe_op op_sub (pv 3) pe_int) pa_nil)))) (pe_one (pe_meth (pv 0) T.cl_Rounds T.m_Rounds_all_met G_Rounds_all_met (hr.mono (by decide)) T.b_Rounds_all_met .nil pass0 (pa_cons (pv 2) (pa_cons (pv 1) (pa_cons (pe_op op_sub (pv 3) pe_int) pa_nil)))))) (pg_sub (pe_fld (pv 0) rfl) (pv 4) (set_dictN hu64)))) pss_nil)
 (pss_one (ps_ret (pe_ix (r := rIxN P w) (ix_dictN hu64) (pe_fld (pv 0) rfl) (pv 4) (fun _ _ => rfl))))))), ?_⟩
    refine ⟨_, rfl, rfl, _, rfl, ?_⟩
    cases m with
    | zero => exact iteT (iteT (q xs H (But.refl d H) rd (.refl _ _) (hF.le (Nat.le_add_right _ _) hcap)))
    | succ m => omega
theorem ok_alikes (T : Txt K mg A) : ∀ k, FnOk P w K mg base CX0 (2 * k + 6) A.a_Rounds_alike_for A.d_Rounds_alike_for ["self", "one", "other", "many"] (sp_alike P w A.c_Rounds A.c_Grammar k)
  | 0 => ok_alike0 T
  | k + 1 => ok_alike_for T k (2 * k + 6 + 1) (by omega) (ok_all_met T k (2 * k + 6) (by omega) (ok_alikes T k))
def sp_parted (P : Program) (w : World) (CR CG : Addr) (k : Nat) : Sp := fun vs H Q _ => ∃ (c g d a b : Addr) (kind : Str) (m s : Nat) (names : List Str) (rs : List Rule) (xs : List NEnt) (x y : List Str) (F : Nat → List NEnt → Prop) (c0 rr : Nat), vs = [.ref c, .ref a, .ref b, .int m] ∧ RdAt P w CR H c g d kind (stepsOf kind rs) xs ∧ RndsOk CG H g kind names rs s ∧
  H a = some (.lst (x.map V.str)) ∧ H b = some (.lst (y.map V.str)) ∧ (∀ z ∈ x, z ∈ names) ∧ (∀ z ∈ y, z ∈ names) ∧ x.length + 2 * rr ≤ 900 ∧ y.length + 2 * rr ≤ 900 ∧ rr ≤ k ∧ m ≤ 450 ∧ (m ≤ rr ∨ alW (stepsOf kind rs) rr x y = false) ∧ FitF names k F ∧ F (c0 + PW s rr) xs ∧
  ∀ xs' H', But d H H' → RdAt P w CR H' c g d kind (stepsOf kind rs) xs' → F c0 xs' → Q (rankV (rankW (stepsOf kind rs) x y m)) H'
theorem ok_parted_in (T : Txt K mg A) (k n : Nat) (hn : 6 ≤ n) (G_Rounds_alike_for : FnOk P w K mg base CX0 n A.a_Rounds_alike_for A.d_Rounds_alike_for ["self", "one", "other", "many"] (sp_alike P w A.c_Rounds A.c_Grammar k)) : FnOk P w K mg base CX0 (n + 1) A.a_Rounds_parted_in A.d_Rounds_parted_in ["self", "one", "other", "most"] (sp_parted P w A.c_Rounds A.c_Grammar k) := by
  refine T.F_Rounds_parted_in.ok sc_Rounds_parted_in (fun vs H Q E h => ?_) (fun cdv A0 outer s0 H vs Q E hr h => ?_)
  · obtain ⟨_, _, _, _, _, _, _, _, _, _, _, _, _, _, _, _, rfl, _⟩ := h
    rfl
  · obtain ⟨c, g, d, a, b, kind, m, s, names, rs, xs, x, y, F, c0, rr, rfl, rd, ⟨G, hst, hs1, hsh⟩, ha, hb, hx, hy, hxl, hyl, hmk, hm4, hstop, hF, hcap, q⟩ := h
    refine ⟨_, (pss_cons (ps_for PassesOwn.never rfl (pi_range2 (by rfl) T.range (pa_cons pe_int (pa_cons (pe_op op_add (pv 3) pe_int) pa_nil))) (pg_name (i := 4) sc_Rounds_parted_in.nd rfl (Or.inl rfl))
 (pss_one (ps_if (pt_not (pt_val (pe_meth (pv 0) T.cl_Rounds T.m_Rounds_alike_for G_Rounds_alike_for (hr.mono (by omega)) T.b_Rounds_alike_for .nil pass0 (pa_cons (pv 1) (pa_cons (pv 2) (pa_cons (pv 4) pa_nil)))))) (pss_one (ps_ret (pv 4))) pss_nil)))
 (pss_one (ps_ret pe_non))), ?_⟩
    refine ⟨_, rfl, _, _, rfl, rfl, 1, _, rfl, ⟨by decide, by decide, by omega, by omega⟩, ?_⟩
    have en : ((m : Int) + 1 - 1).toNat = m := by omega
    rw [en]
    refine for_range (fun i σ' H' => ∃ (x4 : Option V) (xs' : List NEnt), σ' = [some (.ref c), some (.ref a), some (.ref b), some (.int m), x4] ∧ But d H H' ∧ RdAt P w A.c_Rounds H' c g d kind (stepsOf kind rs) xs' ∧ F (c0 + (PW s rr - PW s i)) xs' ∧ alW (stepsOf kind rs) i x y = true) ?_ ?_ ?_
    · exact ⟨_, xs, rfl, But.refl d H, rd, hcap, rfl⟩
    · rintro i σ' H1 hi ⟨x4, xs1, rfl, bt1, rd1, hl1, hal⟩
      obtain ⟨dx1, hc1⟩ := rd1.ins
      have ei : (1 : Int) + (i : Int) = ((i + 1 : Nat) : Int) := by omega
      have hrr : i + 1 ≤ rr := by
        rcases hstop with h9 | h9
        · omega
        · by_cases c9 : i + 1 ≤ rr
          · exact c9
          · have := alW_le hal (show rr ≤ i by omega)
            rw [h9] at this
            cases this
      have hpw : PW s (i + 1) ≤ PW s rr := PW_le (by omega)
      have hpw1 : PW s (i + 1) = PW s i + TW s (i + 1) := rfl
      have ha1 := bt1 _ _ (ne_dictN rd.dic ha fun φ z => (by cases z)) ha
      have hb1 := bt1 _ _ (ne_dictN rd.dic hb fun φ z => (by cases z)) hb
      refine ⟨_, rfl, c, dx1, _, rfl, hc1, rfs_no g kind d (by decide +kernel) (by decide +kernel) (by decide +kernel), _, rfl, _, rfl, _, rfl, c, g, d, a, b, kind, i + 1, s, names, rs, xs1, x, y, F, c0 + (PW s rr - PW s (i + 1)), by show [V.ref c, V.ref a, V.ref b, V.int ((1 : Int) + (i : Int))] = _; rw [ei], rd1, ⟨G.butN rd.dic bt1, hst, hs1, hsh⟩, ha1, hb1, hx, hy, by omega, by omega, by omega, hF, hF.le (by omega) hl1, fun xs2 H2 bt2 rd2 _ hl2 => ?_⟩
      refine ⟨_, rfl, ?_⟩
      cases hal2 : alW (stepsOf kind rs) (i + 1) x y with
      | true => exact iteF ⟨_, xs2, rfl, bt1.trans bt2, rd2, hl2, rfl⟩
      | false =>
        refine iteT ⟨_, rfl, ?_⟩
        have er : rankW (stepsOf kind rs) x y m = some (i + 1) := rankW_some.mpr ⟨by omega, by omega, hal2, hal⟩
        have hq := q xs2 H2 (bt1.trans bt2) rd2 (hF.le (Nat.le_add_right _ _) hl2)
        rw [er] at hq
        show Q (V.int ((1 : Int) + (i : Int))) H2
        rw [ei]
        exact hq
    · rintro σ' H1 ⟨x4, xs1, rfl, bt1, rd1, hl1, hal⟩
      have hq := q xs1 H1 bt1 rd1 (hF.le (Nat.le_add_right _ _) hl1)
      rw [rankW_none.mpr hal] at hq
      exact hq
def sp_ends (C : Addr) : Sp := fun vs H Q _ => ∃ (g l : Addr) (names : List Str) (rs : List Rule) (as : List Addr) (rows : List (List Str)), vs = [.ref g, .ref l] ∧ GramAt C H g names rs ∧ names.Nodup ∧ names.length ≤ 1000 ∧ (∀ r ∈ rs, r.1 ∈ names ∧ ∀ x ∈ r.2.2, x ∈ names) ∧ ShortR rs ∧ EndsR names rs ∧ H l = some (.lst (as.map V.ref)) ∧ Paired (fun a (r : List Str) => H a = some (.lst (r.map V.str)) ∧ ∀ x ∈ r, x ∈ names) as rows ∧ ∀ H', Same H H' → Q .non H'
theorem ok_look_at_ends (T : Txt K mg A) : FnOk P w K mg base CX0 4 A.a_look_at_ends A.d_look_at_ends ["grammar", "rows"] (sp_ends A.c_Grammar) := by
  have G_look_at_names : FnOk P w K mg base CX0 2 A.a_look_at_names A.d_look_at_names ["grammar", "row"] (sp_look A.c_Grammar) := ok_look_at_names T
  have G_endless : FnOk P w K mg base CX0 3 A.a_endless A.d_endless ["grammar"] (sp_endless A.c_Grammar) := ok_endless T
  refine T.F_look_at_ends.ok sc_look_at_ends (fun vs H Q E h => ?_) (fun cdv A0 outer s0 H vs Q E hr h => ?_)
  · obtain ⟨_, _, _, _, _, _, rfl, _⟩ := h
    rfl
  · obtain ⟨g, a, names, rs, as, rows, rfl, G, hnd, hnl, hin, hsh, he, ha, hpr, q⟩ := h
    refine ⟨_, (pss_cons (ps_for PassesOwn.never rfl (pi_list (pv 1)) (pg_name (i := 2) sc_look_at_ends.nd rfl (Or.inl rfl))
 (pss_one (ps_expr (pe_call G_look_at_names (hr.mono (by decide)) (by rfl) T.g_look_at_names T.F_look_at_names.kp T.b_look_at_names .nil pass0 (pa_cons (pv 0) (pa_cons (pv 2) pa_nil))))))
 (pss_one (ps_for PassesOwn.never rfl (pi_list (pe_call G_endless (hr.mono (by decide)) (by rfl) T.g_endless T.F_endless.kp T.b_endless .nil pass0 (pa_cons (pv 0) pa_nil))) (pg_name (i := 3) sc_look_at_ends.nd rfl (Or.inl rfl))
 (pss_one ps_never)))), ?_⟩
    refine ⟨_, rfl, a, rfl, ⟨_, SqL.of ha⟩, for_list (K := K) (a := a) (xs := as.map V.ref) (fun i σ' H' => ∃ x2 : Option V, σ' = [some (.ref g), some (.ref a), x2, none] ∧ Same H H') ?_ ?_ ?_ ?_⟩
    · exact ⟨_, rfl, Same.refl _⟩
    · rintro i σ' H' _ ⟨_, rfl, sm⟩
      exact SqL.of (sm _ _ ha)
    · rintro i x σ' H' hi ⟨_, rfl, sm⟩
      obtain ⟨b, hb, rfl⟩ := map_at hi
      obtain ⟨row, _, h1, h2⟩ := paired_get hpr hb
      exact ⟨_, rfl, _, rfl, g, b, names, rs, row, rfl, G.same sm, sm _ _ h1, h2, _, rfl, sm⟩
    · rintro σ' H1 ⟨x2, rfl, sm1⟩
      refine ⟨_, rfl, g, names, rs, rfl, G.same sm1, hnd, hnl, hin, hsh, fun p H2 hp2 sm2 h2 => ?_⟩
      rw [endl_ends he] at h2
      refine ⟨p, rfl, ⟨_, SqL.of h2⟩, for_list (K := K) (a := p) (xs := []) (fun i σ' H' => σ' = [some (.ref g), some (.ref a), x2, none] ∧ H' = H2) ⟨rfl, rfl⟩ ?_ ?_ ?_⟩
      · rintro i σ' H' _ ⟨rfl, rfl⟩
        exact SqL.of h2
      · rintro i x σ' H' hi _
        simp at hi
      rintro σ' H' ⟨rfl, rfl⟩
      exact q _ (sm1.trans sm2)
/-- the rounds that part two, up to the most -/
def sp_rank (C : Addr) (k : Nat) : Sp := fun vs H Q _ => ∃ (g a b : Addr) (kind : Str) (m s : Nat) (names : List Str) (rs : List Rule) (x y : List Str) (F : Nat → List NEnt → Prop) (rr : Nat), vs = [.ref g, .str kind, .ref a, .ref b, .int m] ∧ RndsOk C H g kind names rs s ∧ names.Nodup ∧ names.length ≤ 1000 ∧ (∀ r ∈ rs, r.1 ∈ names ∧ ∀ x ∈ r.2.2, x ∈ names) ∧ EndsR names rs ∧
  H a = some (.lst (x.map V.str)) ∧ H b = some (.lst (y.map V.str)) ∧ (∀ z ∈ x, z ∈ names) ∧ (∀ z ∈ y, z ∈ names) ∧ x.length + 2 * rr ≤ 900 ∧ y.length + 2 * rr ≤ 900 ∧ rr ≤ k ∧ m ≤ 450 ∧ (m ≤ rr ∨ alW (stepsOf kind rs) rr (ordK kind x) (ordK kind y) = false) ∧ FitF names k F ∧ F (PW s rr) [] ∧
  ∀ H', Same H H' → Q (rankV (rankW (stepsOf kind rs) (ordK kind x) (ordK kind y) m)) H'
theorem ordK_in {kind : Str} {x : List Str} {names : List Str} (h : ∀ z ∈ x, z ∈ names) : ∀ z ∈ ordK kind x, z ∈ names := fun z hz => by
  unfold ordK at hz
  split at hz
  · exact h z hz
  · exact h z ((ssort_perm x).mem_iff.mp hz)
theorem ordK_len (kind : Str) (x : List Str) : (ordK kind x).length = x.length := by
  unfold ordK
  split
  · rfl
  · exact (ssort_perm x).length_eq
theorem ok_rank (T : Txt K mg A) (k : Nat) : FnOk P w K mg base CX0 (2 * k + 8) A.a_rank A.d_rank ["grammar", "kind", "one", "other", "most"] (sp_rank A.c_Grammar k) := by
  have G_look_at_ends : FnOk P w K mg base CX0 4 A.a_look_at_ends A.d_look_at_ends ["grammar", "rows"] (sp_ends A.c_Grammar) := ok_look_at_ends T
  have G_in_order : FnOk P w K mg base CX0 1 A.a_in_order A.d_in_order ["kind", "one"] sp_in_order := ok_in_order T
  have G_Rounds___init__ : FnOk P w K mg base CX0 1 A.a_Rounds___init__ A.d_Rounds___init__ ["self", "grammar", "kind"] (sp_R_init P w A.c_Rounds) := ok_Rounds___init__ T
  have G_Rounds_parted_in : FnOk P w K mg base CX0 (2 * k + 7) A.a_Rounds_parted_in A.d_Rounds_parted_in ["self", "one", "other", "most"] (sp_parted P w A.c_Rounds A.c_Grammar k) := ok_parted_in T k (2 * k + 6) (by omega) (ok_alikes T k)
  refine T.F_rank.ok sc_rank (fun vs H Q E h => ?_) (fun cdv A0 outer s0 H vs Q E hr h => ?_)
  · obtain ⟨_, _, _, _, _, _, _, _, _, _, _, _, rfl, _⟩ := h
    rfl
  · obtain ⟨g, a, b, kind, m, s, names, rs, x, y, F, rr, rfl, ⟨G, hst, hs1, hsh⟩, hnd, hnl, hin, he, ha, hb, hx, hy, hxl, hyl, hmk, hm4, hstop, hF, hcap, q⟩ := h
    refine ⟨_, (pss_cons (ps_expr (pe_call G_look_at_ends (hr.mono (by omega)) (by rfl) T.g_look_at_ends T.F_look_at_ends.kp T.b_look_at_ends .nil pass0 (pa_cons (pv 0) (pa_cons (pe_lst (pa_cons (pv 2) (pa_cons (pv 3) pa_nil))) pa_nil))))
 (pss_one (ps_ret (pe_meth (pe_make T.mk_Rounds G_Rounds___init__ (hr.mono (by omega)) (by rfl) T.g_Rounds T.b_Rounds___init__ .nil pass0 (pa_cons (pv 0) (pa_cons (pv 1) pa_nil))) T.cl_Rounds T.m_Rounds_parted_in G_Rounds_parted_in (hr.mono (by omega)) T.b_Rounds_parted_in .nil pass0 (pa_cons (pe_call G_in_order (hr.mono (by omega)) (by rfl) T.g_in_order T.F_in_order.kp T.b_in_order .nil pass0 (pa_cons (pv 1) (pa_cons (pv 2) pa_nil))) (pa_cons (pe_call G_in_order (hr.mono (by omega)) (by rfl) T.g_in_order T.F_in_order.kp T.b_in_order .nil pass0 (pa_cons (pv 1) (pa_cons (pv 3) pa_nil))) (pa_cons (pv 4) pa_nil))))))), ?_⟩
    refine ⟨_, rfl, _, rfl, _, rfl, sl2 (by show 2 ≤ 1000000; decide), fun l hl => ?_⟩
    have sml := same_new hl (o := .lst [.ref a, .ref b])
    refine ⟨g, l, names, rs, [a, b], [x, y], rfl, G.same sml, hnd, hnl, hin, hsh, he, upd_same, .cons ⟨sml _ _ ha, hx⟩ (.cons ⟨sml _ _ hb, hy⟩ .nil), fun H1 sm1 => ?_⟩
    have sm01 := sml.trans sm1
    refine ⟨_, rfl, _, rfl, fun c dx hc hdx ndc => ?_⟩
    have smc : Same H1 (upd (upd H1 dx (.own c)) c (.ins A.c_Rounds dx [])) := (same_new hdx).trans (same_new (by rw [upd_ne ndc.symm]; exact hc))
    have hcc : (upd (upd H1 dx (.own c)) c (.ins A.c_Rounds dx [])) c = some (.ins A.c_Rounds dx []) := upd_same
    have hc0 : H1 c = none := hc
    generalize (upd (upd H1 dx (.own c)) c (.ins A.c_Rounds dx [])) = H2 at smc hcc ⊢
    refine ⟨c, dx, g, kind, rfl, hcc, fun d H3 k3 hd hc3 hd3 => ⟨rfl, ?_⟩⟩
    have hd0 : H d = none := sm01.free (smc.free hd)
    have hc00 : H c = none := sm01.free hc0
    have sm3 : Same H H3 := fun b o h => k3 b o (smc _ _ (sm01 _ _ h)) (ne_of_none h hc00)
    have rd3 : RdAt P w A.c_Rounds H3 c g d kind (stepsOf kind rs) [] := ⟨⟨dx, hc3⟩, hd3, fun x hx => (nomatch hx), fun x hx => (nomatch hx)⟩
    clear k3 hd3 hcc smc
    refine ⟨c, dx, _, rfl, hc3, rfs_no g kind d (by decide +kernel) (by decide +kernel) (by decide +kernel), ?_⟩
    refine ⟨_, rfl, _, rfl, a, kind, x, rfl, sm3 _ _ ha, by omega, fun p H4 p0 sm4 hp => ?_⟩
    refine ⟨_, rfl, _, rfl, b, kind, y, rfl, sm4 _ _ (sm3 _ _ hb), by omega, fun p2 H5 p20 sm5 hp2 => ?_⟩
    have sm35 := sm4.trans sm5
    refine ⟨_, rfl, c, g, d, p, p2, kind, m, s, names, rs, [], ordK kind x, ordK kind y, F, 0, rr, rfl, rd3.same sm35, ⟨G.same (sm3.trans sm35), hst, hs1, hsh⟩, sm5 _ _ hp, hp2, ordK_in hx, ordK_in hy, by rw [ordK_len]; exact hxl, by rw [ordK_len]; exact hyl, hmk, hm4, hstop, hF, by rw [Nat.zero_add]; exact hcap, fun xs' H6 bt6 rd6 _ => ?_⟩
    exact q H6 (bt6.under hd0 (sm3.trans sm35))
end
end SG
namespace SG
open PySem PySem.Spec PyProof.Rows L2 LamX
section
variable {P : Program} {w : World} {K : PySem.W.Frag} {mg : Str → Option Value} {base : Heap} {A : Ad}
/-- a dict of what is known -/
structure MemAt (P : Program) (w : World) (H : Hp) (d : Addr) (st : StepF) (xs : List NEnt) : Prop where
  dic : H d = some (dictN P w d xs)
  key : KeysN H xs
  rgt : RightR st xs
theorem MemAt.same {H H' : Hp} {d : Addr} {st : StepF} {xs : List NEnt} (h : MemAt P w H d st xs) (e : Same H H') : MemAt P w H' d st xs := ⟨e _ _ h.dic, h.key.same e, h.rgt⟩
theorem WdAt.butN {H H' : Hp} {wd d : Addr} {names : List Str} {rs : List Rule} {xs : List NEnt} (h : WdAt H wd names rs) (hd : H d = some (dictN P w d xs)) (b : But d H H') : WdAt H' wd names rs := by
  obtain ⟨nl, rd, kw, kvs, h1, v1, v2, h2, h3, h4⟩ := h
  have k : ∀ {a : Addr} {o : HO}, H a = some o → (∀ φ, o ≠ .ext φ) → H' a = some o := fun h n => b _ _ (ne_dictN hd h n) h
  refine ⟨nl, rd, kw, kvs, k h1 fun φ z => (by cases z), v1, v2, k h2 fun φ z => (by cases z), k h3 fun φ z => (by cases z), fun n hn => ?_⟩
  obtain ⟨l, ts, a, b2, c⟩ := h4 n hn
  exact ⟨l, ts, a, k b2 fun φ z => (by cases z), Paired.mapP c fun _ _ ⟨x, h7, h8⟩ => ⟨x, k h7 fun φ z => (by cases z), k h8 fun φ z => (by cases z)⟩⟩
theorem RuleAt.butN {H H' : Hp} {t d : Addr} {p : Step} {xs : List NEnt} (h : RuleAt H t p) (hd : H d = some (dictN P w d xs)) (b : But d H H') : RuleAt H' t p := by
  obtain ⟨x, h7, h8⟩ := h
  exact ⟨x, b _ _ (ne_dictN hd h7 fun φ z => (by cases z)) h7, b _ _ (ne_dictN hd h8 fun φ z => (by cases z)) h8⟩
/-- room for the keys of a region of pairs -/
structure FitG (st : StepF) (Reg : Nat → List Str → List Str → Prop) (names : List Str) (k : Nat) (F : Nat → List NEnt → Prop) : Prop where
  down : ∀ {j : Nat} {xs : List NEnt}, F (j + 1) xs → F j xs
  few : ∀ {j : Nat} {xs : List NEnt}, F (j + 1) xs → xs.length + 1 ≤ 16000000
  put : ∀ {j : Nat} {xs : List NEnt} {x y : List Str} {m : Nat} (a : Addr) (v : V), F (j + 1) xs → (∀ z ∈ x, z ∈ names) → (∀ z ∈ y, z ∈ names) → x.length ≤ 900 → y.length ≤ 900 → m < k → atN xs (kR x y (m + 1)) = none → Reg (m + 1) x y → F j (xs ++ [(kR x y (m + 1), a, v)])
  clo : ∀ {m : Nat} {x y : List Str} {p q : Step}, Reg (m + 1) x y → p ∈ st x → q ∈ st y → q.1 = p.1 → Reg m p.2 q.2
  sym : ∀ {m : Nat} {x y : List Str}, Reg m x y → Reg m y x
theorem FitG.le {st : StepF} {Reg : Nat → List Str → List Str → Prop} {names : List Str} {k : Nat} {F : Nat → List NEnt → Prop} (f : FitG st Reg names k F) {i j : Nat} {xs : List NEnt} (h : i ≤ j) (a : F j xs) : F i xs := by
  induction h with
  | refl => exact a
  | step _ ih => exact ih (f.down a)
theorem FitG.mono {st : StepF} {Reg : Nat → List Str → List Str → Prop} {names : List Str} {k k' : Nat} {F : Nat → List NEnt → Prop} (f : FitG st Reg names k F) (h : k' ≤ k) : FitG st Reg names k' F := ⟨f.down, f.few, fun a v h1 h2 h3 h4 h5 h6 h7 h8 => f.put a v h1 h2 h3 h4 h5 (Nat.lt_of_lt_of_le h6 h) h7 h8, f.clo, f.sym⟩
theorem FitG.of {st : StepF} {names : List Str} {k : Nat} {F : Nat → List NEnt → Prop} (f : FitF names k F) : FitG st (fun _ _ _ => True) names k F := ⟨f.down, f.few, fun a v h1 h2 h3 h4 h5 h6 h7 _ => f.put a v h1 h2 h3 h4 h5 h6 h7, fun _ _ _ _ => trivial, fun _ => trivial⟩
def LokW (H : Hp) (wd : Addr) (kind : Str) (names : List Str) (rs : List Rule) (s : Nat) : Prop := WdAt H wd names rs ∧ (kind = "row" ∨ kind = "bag") ∧ StepOk names (stepsOf kind rs) s ∧ s ≤ 1000 ∧ ShortR rs
def sp_lalike (P : Program) (w : World) (k : Nat) : Sp := fun vs H Q _ => ∃ (wd d a b : Addr) (kind : Str) (m s : Nat) (names : List Str) (rs : List Rule) (xs : List NEnt) (x y : List Str) (Reg : Nat → List Str → List Str → Prop) (F : Nat → List NEnt → Prop) (c0 : Nat), vs = [.ref wd, .str kind, .ref a, .ref b, .int m, .ref d] ∧ LokW H wd kind names rs s ∧ MemAt P w H d (stepsOf kind rs) xs ∧
  H a = some (.lst (x.map V.str)) ∧ H b = some (.lst (y.map V.str)) ∧ (∀ z ∈ x, z ∈ names) ∧ (∀ z ∈ y, z ∈ names) ∧ x.length + 2 * m ≤ 900 ∧ y.length + 2 * m ≤ 900 ∧ m ≤ k ∧ FitG (stepsOf kind rs) Reg names k F ∧ Reg m x y ∧ F (c0 + TW s m) xs ∧
  ∀ xs' H', But d H H' → MemAt P w H' d (stepsOf kind rs) xs' → GrowR xs xs' (m + 1) → F c0 xs' → Q (.bl (alW (stepsOf kind rs) m x y)) H'
def sp_lmeets (P : Program) (w : World) (k : Nat) : Sp := fun vs H Q _ => ∃ (wd d a b : Addr) (kind : Str) (m s : Nat) (names : List Str) (rs : List Rule) (xs : List NEnt) (x y : List Str) (Reg : Nat → List Str → List Str → Prop) (F : Nat → List NEnt → Prop) (c0 : Nat), vs = [.ref wd, .str kind, .ref a, .ref b, .int m, .ref d] ∧ LokW H wd kind names rs s ∧ MemAt P w H d (stepsOf kind rs) xs ∧
  H a = some (.lst (x.map V.str)) ∧ H b = some (.lst (y.map V.str)) ∧ (∀ z ∈ x, z ∈ names) ∧ (∀ z ∈ y, z ∈ names) ∧ x.length + 2 * (m + 1) ≤ 900 ∧ y.length + 2 * (m + 1) ≤ 900 ∧ m ≤ k ∧ FitG (stepsOf kind rs) Reg names k F ∧ Reg (m + 1) x y ∧ F (c0 + s * s * TW s m) xs ∧
  ∀ xs' H', But d H H' → MemAt P w H' d (stepsOf kind rs) xs' → GrowR xs xs' (m + 1) → F c0 xs' → Q (.bl (metW (stepsOf kind rs) (alW (stepsOf kind rs) m) x y)) H'
theorem ok__law_meets (T : Txt K mg A) (k n : Nat) (hn : 1 ≤ n) (G__law_alike : FnOk P w K mg base CX0 n A.a__law_alike A.d__law_alike ["_law_world_here", "_law_kind", "_law_one", "_law_other", "_law_many", "_law_met"] (sp_lalike P w k)) : FnOk P w K mg base CX0 (n + 1) A.a__law_meets A.d__law_meets ["_law_world_here", "_law_kind", "_law_one", "_law_other", "_law_many", "_law_met"] (sp_lmeets P w k) := by
  have G__law_steps : FnOk P w K mg base CX0 1 A.a__law_steps A.d__law_steps ["_law_world_here", "_law_kind", "_law_one"] sp_lsteps := ok__law_steps T
  refine T.F__law_meets.ok sc__law_meets (fun vs H Q E h => ?_) (fun cdv A0 outer s0 H vs Q E hr h => ?_)
  · obtain ⟨_, _, _, _, _, _, _, _, _, _, _, _, _, _, _, rfl, _⟩ := h
    rfl
  · obtain ⟨wd, d, a, b, kind, m, s, names, rs, xs, x, y, Reg, F, c0, rfl, ⟨W, hkind, hst, hs1, hsh⟩, rd, ha, hb, hx, hy, hxl, hyl, hmk, hF, hreg, hcap, q⟩ := h
    generalize hT0 : TW s m = t at hcap
    rw [Nat.mul_assoc] at hcap
    refine ⟨_, (pss_cons (ps_set (i := 6) sc__law_meets.nd rfl (Or.inl rfl) (pe_call G__law_steps (hr.mono (by omega)) (by rfl) T.g__law_steps T.F__law_steps.kp T.b__law_steps .nil pass0 (pa_cons (pv 0) (pa_cons (pv 1) (pa_cons (pv 3) pa_nil)))))
 (pss_cons (ps_for PassesOwn.never rfl (pi_list (pe_call G__law_steps (hr.mono (by omega)) (by rfl) T.g__law_steps T.F__law_steps.kp T.b__law_steps .nil pass0 (pa_cons (pv 0) (pa_cons (pv 1) (pa_cons (pv 2) pa_nil))))) (pg_tup (by rfl) (pgs_cons (pg_name (i := 7) sc__law_meets.nd rfl (Or.inl rfl)) (pgs_cons (pg_name (i := 8) sc__law_meets.nd rfl (Or.inl rfl)) pgs_nil)))
 (pss_cons (ps_set (i := 9) sc__law_meets.nd rfl (Or.inl rfl) pe_bl)
 (pss_cons (ps_for PassesOwn.never rfl (pi_list (pv 6)) (pg_tup (by rfl) (pgs_cons (pg_name (i := 10) sc__law_meets.nd rfl (Or.inl rfl)) (pgs_cons (pg_name (i := 11) sc__law_meets.nd rfl (Or.inl rfl)) pgs_nil)))
 (pss_one (ps_set (i := 9) sc__law_meets.nd rfl (Or.inl rfl) (pe_or (pv 9) (pe_one (pe_and (pe_cmpR op_eq (pv 10) (pv 7) (nomark _)) (pe_one (pe_call G__law_alike (hr.mono (by omega)) (by rfl) T.g__law_alike T.F__law_alike.kp T.b__law_alike .nil pass0 (pa_cons (pv 0) (pa_cons (pv 1) (pa_cons (pv 8) (pa_cons (pv 11) (pa_cons (pv 4) (pa_cons (pv 5) pa_nil))))))))))))))
 (pss_one (ps_if (pt_not (pt_val (pv 9))) (pss_one (ps_ret pe_bl)) pss_nil)))))
 (pss_one (ps_ret pe_bl)))), ?_⟩
    refine ⟨_, rfl, _, rfl, _, rfl, wd, b, kind, names, rs, y, rfl, W, hkind, hb, hy, by omega, hsh, fun py H1 uy sm1 huy hpy => ?_⟩
    refine ⟨_, rfl, _, rfl, _, rfl, wd, a, kind, names, rs, x, rfl, W.same sm1, hkind, sm1 _ _ ha, hx, by omega, hsh, fun px H2 ux sm2 hux hpx => ?_⟩
    have sm12 := sm1.trans sm2
    have hfx := hst.few x hx
    have hfy := hst.few y hy
    have hxl' := paired_len hpx
    have hyl' := paired_len hpy
    have W2 := W.same sm12
    have rd2 := rd.same sm12
    have huy2 := sm2 _ _ huy
    have hpy2 := Paired.mapP hpy fun _ _ h => RuleAt.same sm2 (RuleF.at h)
    clear hpy huy sm2 sm1
    refine ⟨px, rfl, ⟨_, SqL.of hux⟩, for_list (K := K) (a := px) (xs := ux.map V.ref) (fun i σ' H' => ∃ (x7 x8 x9 x10 x11 : Option V) (xs' : List NEnt), σ' = [some (.ref wd), some (.str kind), some (.ref a), some (.ref b), some (.int m), some (.ref d), some (.ref py), x7, x8, x9, x10, x11] ∧ But d H2 H' ∧ MemAt P w H' d (stepsOf kind rs) xs' ∧ GrowR xs xs' (m + 1) ∧ F (c0 + (s - i) * (s * t)) xs' ∧ ∀ p ∈ (stepsOf kind rs x).take i, ∃ q ∈ stepsOf kind rs y, q.1 = p.1 ∧ alW (stepsOf kind rs) m p.2 q.2 = true) ?_ ?_ ?_ ?_⟩
    · exact ⟨_, _, _, _, _, xs, rfl, But.refl d H2, rd2, .refl _ _, hcap, fun p hp => by simp at hp⟩
    · rintro i σ' H' _ ⟨_, _, _, _, _, _, rfl, bt, _⟩
      exact SqL.of (bt _ _ (ne_dictN rd2.dic hux fun φ z => (by cases z)) hux)
    · rintro i v σ' H3 hi ⟨x7, x8, x9, x10, x11, xs3, rfl, bt3, rd3, gr3, hl3, hall⟩
      obtain ⟨u, hu, rfl⟩ := map_at hi
      have hil := (List.getElem?_eq_some_iff.mp hu).1
      obtain ⟨r1, hr1, hru⟩ := paired_get hpx hu
      have hmr : r1 ∈ stepsOf kind rs x := List.mem_of_getElem? hr1
      obtain ⟨w0, hr1a, hr2a⟩ := RuleF.at hru
      have hw1 := bt3 _ _ (ne_dictN rd2.dic hr1a fun φ z => (by cases z)) hr1a
      have hl3' : F (c0 + (s - (i + 1)) * (s * t) + (s - 0) * t) xs3 := by
        have e1 : s - i = s - (i + 1) + 1 := by omega
        rw [e1, Nat.succ_mul, ← Nat.add_assoc] at hl3
        exact hl3
      have huy3 := bt3 _ _ (ne_dictN rd2.dic huy2 fun φ z => (by cases z)) huy2
      refine ⟨u, _, rfl, SqT.of hw1, rfl, _, _, rfl, _, _, rfl, rfl, ?_⟩
      refine ⟨_, rfl, py, rfl, ⟨_, SqL.of huy3⟩, for_list (K := K) (a := py) (xs := uy.map V.ref) (fun j σ' H' => ∃ (x10 x11 : Option V) (xs' : List NEnt), σ' = [some (.ref wd), some (.str kind), some (.ref a), some (.ref b), some (.int m), some (.ref d), some (.ref py), some (.str r1.1), some (.ref w0), some (.bl (((stepsOf kind rs y).take j).any fun q => decide (q.1 = r1.1) && alW (stepsOf kind rs) m r1.2 q.2)), x10, x11] ∧ But d H2 H' ∧ MemAt P w H' d (stepsOf kind rs) xs' ∧ GrowR xs xs' (m + 1) ∧ F (c0 + (s - (i + 1)) * (s * t) + (s - j) * t) xs') ?_ ?_ ?_ ?_⟩
      · exact ⟨_, _, xs3, rfl, bt3, rd3, gr3, hl3'⟩
      · rintro j σ' H' _ ⟨_, _, _, rfl, bt, _⟩
        exact SqL.of (bt _ _ (ne_dictN rd2.dic huy2 fun φ z => (by cases z)) huy2)
      · clear hl3 hl3' gr3 rd3 huy3 hw1 bt3
        rintro j v σ' H4 hj ⟨x10, x11, xs4, rfl, bt4, rd4, gr4, hl4⟩
        obtain ⟨u2, hu2, rfl⟩ := map_at hj
        have hjl := (List.getElem?_eq_some_iff.mp hu2).1
        obtain ⟨q2, hq2, hqu⟩ := paired_get hpy2 hu2
        have hmq : q2 ∈ stepsOf kind rs y := List.mem_of_getElem? hq2
        obtain ⟨w1, hv1, hv2⟩ := hqu.butN rd2.dic bt4
        have hw2 := bt4 _ _ (ne_dictN rd2.dic hr2a fun φ z => (by cases z)) hr2a
        refine ⟨u2, _, rfl, SqT.of hv1, rfl, _, _, rfl, _, _, rfl, rfl, ?_⟩
        have c1 : F (c0 + (s - (i + 1)) * (s * t) + (s - (j + 1)) * t + t) xs4 := by
          have e2 : s - j = s - (j + 1) + 1 := by omega
          rw [e2, Nat.succ_mul, ← Nat.add_assoc] at hl4
          exact hl4
        have esn : (((stepsOf kind rs y).take (j + 1)).any fun q => decide (q.1 = r1.1) && alW (stepsOf kind rs) m r1.2 q.2) = ((((stepsOf kind rs y).take j).any fun q => decide (q.1 = r1.1) && alW (stepsOf kind rs) m r1.2 q.2) || (decide (q2.1 = r1.1) && alW (stepsOf kind rs) m r1.2 q2.2)) := by
          rw [take_snoc hq2, List.any_append]
          simp
        rw [esn]
        refine ⟨_, rfl, _, rfl, ?_⟩
        cases hg : (((stepsOf kind rs y).take j).any fun q => decide (q.1 = r1.1) && alW (stepsOf kind rs) m r1.2 q.2) with
        | true =>
          rw [Bool.true_or]
          refine iteT ?_
          exact ⟨_, _, xs4, rfl, bt4, rd4, gr4, hF.le (Nat.le_add_right _ _) c1⟩
        | false =>
          rw [Bool.false_or]
          refine iteF ?_
          refine ⟨_, rfl, _, rfl, rfl, _, rfl, ?_⟩
          by_cases hq1 : q2.1 = r1.1
          · rw [decide_eq_true hq1, decide_eq_true (show V.str q2.1 = V.str r1.1 by rw [hq1]), Bool.true_and]
            refine iteT ?_
            refine ⟨_, rfl, _, rfl, _, rfl, _, rfl, _, rfl, _, rfl, wd, d, w0, w1, kind, m, s, names, rs, xs4, r1.2, q2.2, Reg, F, c0 + (s - (i + 1)) * (s * t) + (s - (j + 1)) * t, rfl, ⟨W2.butN rd2.dic bt4, hkind, hst, hs1, hsh⟩, rd4, hw2, hv2, hst.inn x hx r1 hmr, hst.inn y hy q2 hmq, by have := hst.len x hx r1 hmr; omega, by have := hst.len y hy q2 hmq; omega, hmk, hF, hF.clo hreg hmr hmq hq1, by rw [hT0]; exact c1, fun xs5 H5 bt5 rd5 gr5 hl5 => ?_⟩
            exact ⟨_, _, xs5, rfl, bt4.trans bt5, rd5, gr4.trans gr5 (Nat.le_refl _) (Nat.le_refl _), hl5⟩
          · rw [decide_eq_false hq1, decide_eq_false (fun z => hq1 (V.str.inj z)), Bool.false_and]
            refine iteF ?_
            exact ⟨_, _, xs4, rfl, bt4, rd4, gr4, hF.le (Nat.le_add_right _ _) c1⟩
      · rintro σ' H4 ⟨x10, x11, xs4, rfl, bt4, rd4, gr4, hl4⟩
        rw [List.length_map] at hl4
        rw [List.length_map, hyl', List.take_length]
        have hl24 : F (c0 + (s - (i + 1)) * (s * t)) xs4 := hF.le (Nat.le_add_right _ _) hl4
        refine ⟨_, rfl, _, rfl, ?_⟩
        cases hany : ((stepsOf kind rs y).any fun q => decide (q.1 = r1.1) && alW (stepsOf kind rs) m r1.2 q.2) with
        | true =>
          refine iteF ?_
          refine ⟨_, _, _, _, _, xs4, rfl, bt4, rd4, gr4, hl24, fun p hp => ?_⟩
          rw [take_snoc hr1] at hp
          rcases List.mem_append.mp hp with hp | hp
          · exact hall p hp
          · rw [List.mem_singleton.mp hp]
            obtain ⟨q2, hq2, h2⟩ := List.any_eq_true.mp hany
            rw [Bool.and_eq_true, decide_eq_true_eq] at h2
            exact ⟨q2, hq2, h2.1, h2.2⟩
        | false =>
          refine iteT ?_
          have em : metW (stepsOf kind rs) (alW (stepsOf kind rs) m) x y = false := by
            cases e : metW (stepsOf kind rs) (alW (stepsOf kind rs) m) x y with
            | false => rfl
            | true =>
              obtain ⟨q2, hq2, h3, h4⟩ := metW_iff.mp e r1 hmr
              have : ((stepsOf kind rs y).any fun q => decide (q.1 = r1.1) && alW (stepsOf kind rs) m r1.2 q.2) = true := List.any_eq_true.mpr ⟨q2, hq2, by rw [decide_eq_true h3, h4]; rfl⟩
              rw [hany] at this
              cases this
          have hq := q xs4 H4 ((but_of_same sm12).trans bt4) rd4 gr4 (hF.le (Nat.le_add_right _ _) hl24)
          rw [em] at hq
          exact hq
    · rintro σ' H3 ⟨x7, x8, x9, x10, x11, xs3, rfl, bt3, rd3, gr3, hl3, hall⟩
      rw [List.length_map] at hall
      rw [hxl', List.take_length] at hall
      have hq := q xs3 H3 ((but_of_same sm12).trans bt3) rd3 gr3 (hF.le (Nat.le_add_right _ _) hl3)
      rw [metW_iff.mpr hall] at hq
      exact hq
theorem ok__law_alike_s (T : Txt K mg A) (k n : Nat) (hn : 1 ≤ n) (G__law_meets : FnOk P w K mg base CX0 n A.a__law_meets A.d__law_meets ["_law_world_here", "_law_kind", "_law_one", "_law_other", "_law_many", "_law_met"] (sp_lmeets P w k)) : FnOk P w K mg base CX0 (n + 1) A.a__law_alike A.d__law_alike ["_law_world_here", "_law_kind", "_law_one", "_law_other", "_law_many", "_law_met"] (sp_lalike P w (k + 1)) := by
  refine T.F__law_alike.ok sc__law_alike (fun vs H Q E h => ?_) (fun cdv A0 outer s0 H vs Q E hr h => ?_)
  · obtain ⟨_, _, _, _, _, _, _, _, _, _, _, _, _, _, _, rfl, _⟩ := h
    rfl
  · obtain ⟨wd, d, a, b, kind, m, s, names, rs, xs, x, y, Reg, F, c0, rfl, ⟨W, hkind, hst, hs1, hsh⟩, rd, ha, hb, hx, hy, hxl, hyl, hmk, hF, hreg, hcap, q⟩ := h
    have hu64 := hu64_of hr
    refine ⟨_, (pss_cons (ps_if (PW.pt (pw_or (pt_cmpR op_eq (pv 4) pe_int (nomark _)) (pw_or1 (pt_cmpR (r := rEqP K) (op_eqP hu64) (pv 2) (pv 3) (nomark _))))) (pss_one (ps_ret pe_bl)) pss_nil)
 (pss_cons (ps_set (i := 6) sc__law_alike.nd rfl (Or.inl rfl) (pe_tup (pa_cons (pe_callTy (T := "tuple") call_tuple_of (by rfl) T.tuple_ (by decide +kernel) (pa_cons (pv 2) pa_nil)) (pa_cons (pe_callTy (T := "tuple") call_tuple_of (by rfl) T.tuple_ (by decide +kernel) (pa_cons (pv 3) pa_nil)) (pa_cons (pv 4) pa_nil)))))
 (Evl.pss_cut (ps_if (pt_cmpR (r := rInN P w true) (op_notInN hu64) (pv 6) (pv 5) (by rfl)) (pss_cons (ps_set (i := 7) sc__law_alike.nd rfl (Or.inl rfl) (pe_call G__law_meets (hr.mono (by omega)) (by rfl) T.g__law_meets T.F__law_meets.kp T.b__law_meets .nil pass0 (pa_cons (pv 0) (pa_cons (pv 1) (pa_cons (pv 2) (pa_cons (pv 3) (pa_cons (pe_op op_sub (pv 4) pe_int) (pa_cons (pv 5) pa_nil))))))))
 (pss_one (ps_asg (pe_and (pv 7) (pe_one (pe_call G__law_meets (hr.mono (by omega)) (by rfl) T.g__law_meets T.F__law_meets.kp T.b__law_meets .nil pass0 (pa_cons (pv 0) (pa_cons (pv 1) (pa_cons (pv 3) (pa_cons (pv 2) (pa_cons (pe_op op_sub (pv 4) pe_int) (pa_cons (pv 5) pa_nil))))))))) (pg_sub (pv 5) (pv 6) (set_dictN hu64))))) pss_nil)
 (pss_one (ps_ret (pe_ix (r := rIxN P w) (ix_dictN hu64) (pv 5) (pv 6) (fun _ _ => rfl))))))), ?_⟩
    refine ⟨_, rfl, rfl, _, rfl, ?_⟩
    cases m with
    | zero => exact iteT (iteT (q xs H (But.refl d H) rd (.refl _ _) (hF.le (Nat.le_add_right _ _) hcap)))
    | succ m =>
      have e0 : decide (V.int ((m + 1 : Nat) : Int) = V.int 0) = false := decide_eq_false fun z => by have := V.int.inj z; omega
      rw [e0]
      refine iteF ?_
      refine ⟨_, rfl, _, rfl, eSs x, eSs y, dp_Ss ha, dp_Ss hb, Nat.le_trans (dep_Ss _) (by decide), _, rfl, ?_⟩
      rw [enc_Ss]
      by_cases hxy : x = y
      · rw [decide_eq_true hxy]
        have hq := q xs H (But.refl d H) rd (.refl _ _) (hF.le (Nat.le_add_right _ _) hcap)
        rw [alW_iff.mpr (.inl hxy)] at hq
        exact iteT hq
      rw [decide_eq_false hxy]
      refine iteF ?_
      have ealw : alW (stepsOf kind rs) (m + 1) x y = (metW (stepsOf kind rs) (alW (stepsOf kind rs) m) x y && metW (stepsOf kind rs) (alW (stepsOf kind rs) m) y x) := by
        show (decide (x = y) || _) = _
        rw [decide_eq_false hxy, Bool.false_or]
      have etw : TW s (m + 1) = 1 + 2 * (s * s * TW s m) := by
        show 1 + 2 * (s * s) * TW s m = _
        rw [Nat.mul_assoc]
      rw [etw] at hcap
      generalize hU0 : s * s * TW s m = u0 at hcap
      have hcap1 : F (c0 + 1 + u0 + u0) xs := hF.le (by omega) hcap
      have hFk : FitG (stepsOf kind rs) Reg names k F := hF.mono (Nat.le_succ k)
      -- the key
      refine ⟨_, rfl, a, _, rfl, .inl ⟨SqL.of ha, fun t ht => ?_⟩⟩
      have sm1 := same_new ht (o := .tup (x.map V.str))
      refine ⟨_, rfl, b, _, rfl, .inl ⟨SqL.of (sm1 _ _ hb), fun t2 ht2 => ?_⟩⟩
      have sm2 := same_new ht2 (o := .tup (y.map V.str))
      refine ⟨_, rfl, sl2 (by show 3 ≤ 1000000; decide), fun u hu => ?_⟩
      have sm3 := same_new hu (o := .tup [.ref t, .ref t2, .int ((m + 1 : Nat) : Int)])
      have sm := (sm1.trans sm2).trans sm3
      have htt : (upd (upd (upd H t (.tup (x.map V.str))) t2 (.tup (y.map V.str))) u (.tup [.ref t, .ref t2, .int ((m + 1 : Nat) : Int)])) t = some (.tup (x.map V.str)) := sm3 _ _ (sm2 _ _ upd_same)
      have htt2 : (upd (upd (upd H t (.tup (x.map V.str))) t2 (.tup (y.map V.str))) u (.tup [.ref t, .ref t2, .int ((m + 1 : Nat) : Int)])) t2 = some (.tup (y.map V.str)) := sm3 _ _ upd_same
      have hut : (upd (upd (upd H t (.tup (x.map V.str))) t2 (.tup (y.map V.str))) u (.tup [.ref t, .ref t2, .int ((m + 1 : Nat) : Int)])) u = some (.tup [.ref t, .ref t2, .int ((m + 1 : Nat) : Int)]) := upd_same
      generalize (upd (upd (upd H t (.tup (x.map V.str))) t2 (.tup (y.map V.str))) u (.tup [.ref t, .ref t2, .int ((m + 1 : Nat) : Int)])) = H2 at sm htt htt2 hut ⊢
      clear sm1 sm2 sm3 ht ht2 hu
      have hnk : NK H2 (kR x y (m + 1)) (.ref u) := nk_kR hut htt htt2
      have hd8 : (kR x y (m + 1)).depth ≤ 8 := by rw [depth_kR]; decide
      have rd2 := rd.same sm
      have W2 := W.same sm
      have ha2 := sm _ _ ha
      have hb2 := sm _ _ hb
      refine ⟨fun σ' H' => ∃ (x7 : Option V) (xs' : List NEnt), σ' = [some (.ref wd), some (.str kind), some (.ref a), some (.ref b), some (.int ((m + 1 : Nat) : Int)), some (.ref d), some (.ref u), x7] ∧ But d H H' ∧ MemAt P w H' d (stepsOf kind rs) xs' ∧ GrowR xs xs' (m + 1 + 1) ∧ F c0 xs' ∧ atN xs' (kR x y (m + 1)) = some (.bl (alW (stepsOf kind rs) (m + 1) x y)) ∧ NK H' (kR x y (m + 1)) (.ref u), ?_, ?_⟩
      · refine ⟨_, rfl, _, rfl, kR x y (m + 1), u, d, xs, rfl, rfl, hnk, hd8, rd2.dic, rd2.key, _, rfl, ?_⟩
        rcases rightR_at rd2.rgt (x := x) (y := y) (m := m + 1) with e | e
        · rw [e]
          refine iteT ?_
          have em : ((m + 1 : Nat) : Int) - 1 = (m : Nat) := by omega
          refine ⟨_, rfl, _, rfl, _, rfl, _, rfl, _, rfl, _, _, rfl, rfl, _, rfl, wd, d, a, b, kind, m, s, names, rs, xs, x, y, Reg, F, c0 + 1 + u0, by show [V.ref wd, V.str kind, V.ref a, V.ref b, V.int (((m + 1 : Nat) : Int) - 1), V.ref d] = _; rw [em], ⟨W2, hkind, hst, hs1, hsh⟩, rd2, ha2, hb2, hx, hy, by omega, by omega, by omega, hFk, hreg, by rw [hU0]; exact hcap1, fun xs3 H3 bt3 rd3 gr3 hl3 => ?_⟩
          have hl31 : F (c0 + 1) xs3 := hF.le (Nat.le_add_right _ _) hl3
          refine ⟨_, rfl, _, rfl, ?_⟩
          cases hm1 : metW (stepsOf kind rs) (alW (stepsOf kind rs) m) x y with
          | false =>
            rw [hm1, Bool.false_and] at ealw
            refine iteF ?_
            have hnk9 : NK H3 (kR x y (m + 1)) (.ref u) := nk_kR (bt3 _ _ (ne_dictN rd2.dic hut fun φ z => (by cases z)) hut) (bt3 _ _ (ne_dictN rd2.dic htt fun φ z => (by cases z)) htt) (bt3 _ _ (ne_dictN rd2.dic htt2 fun φ z => (by cases z)) htt2)
            have hno : atN xs3 (kR x y (m + 1)) = none := growR_no gr3 e
            refine ⟨_, rfl, _, rfl, kR x y (m + 1), u, d, xs3, rfl, rfl, hnk9, hd8, rd3.dic, rd3.key, hno, by rw [sizeLine_eq]; exact Nat.lt_of_lt_of_le (hF.few hl31) (by decide), ?_⟩
            have eval : V.bl false = V.bl (alW (stepsOf kind rs) (m + 1) x y) := congrArg V.bl ealw.symm
            rw [eval]
            refine ⟨_, xs3 ++ [(kR x y (m + 1), u, V.bl (alW (stepsOf kind rs) (m + 1) x y))], rfl, ((but_of_same sm).trans bt3).own _, ⟨upd_same, rd3.key.put rd3.dic hnk9 hd8, rightR_put rd3.rgt x y (m + 1) u⟩, ?_, hF.put _ _ hl31 hx hy (by omega) (by omega) (by omega) hno hreg, ?_, hnk9.mut rd3.dic _⟩
            · intro e4 he
              rcases List.mem_append.mp he with he | he
              · rcases gr3 e4 he with h1 | ⟨x2, y2, m2, e1, e2⟩
                · exact .inl h1
                · exact .inr ⟨x2, y2, m2, e1, by omega⟩
              · rw [List.mem_singleton.mp he]
                exact .inr ⟨x, y, m + 1, rfl, by omega⟩
            · unfold atN at hno ⊢
              rw [List.find?_append, Option.map_eq_none_iff.mp hno]
              simp
          | true =>
            rw [hm1, Bool.true_and] at ealw
            refine iteT ?_
            have ha3 := bt3 _ _ (ne_dictN rd2.dic ha2 fun φ z => (by cases z)) ha2
            have hb3 := bt3 _ _ (ne_dictN rd2.dic hb2 fun φ z => (by cases z)) hb2
            refine ⟨_, rfl, _, rfl, _, rfl, _, rfl, _, rfl, _, _, rfl, rfl, _, rfl, wd, d, b, a, kind, m, s, names, rs, xs3, y, x, Reg, F, c0 + 1, by show [V.ref wd, V.str kind, V.ref b, V.ref a, V.int (((m + 1 : Nat) : Int) - 1), V.ref d] = _; rw [em], ⟨W2.butN rd2.dic bt3, hkind, hst, hs1, hsh⟩, rd3, hb3, ha3, hy, hx, by omega, by omega, by omega, hFk, hF.sym hreg, by rw [hU0]; exact hl3, fun xs4 H4 bt4 rd4 gr4 hl41 => ?_⟩
            have bt24 := bt3.trans bt4
            have gr24 := gr3.trans gr4 (Nat.le_refl _) (Nat.le_refl _)
            have hnk9 : NK H4 (kR x y (m + 1)) (.ref u) := nk_kR (bt24 _ _ (ne_dictN rd2.dic hut fun φ z => (by cases z)) hut) (bt24 _ _ (ne_dictN rd2.dic htt fun φ z => (by cases z)) htt) (bt24 _ _ (ne_dictN rd2.dic htt2 fun φ z => (by cases z)) htt2)
            have hno : atN xs4 (kR x y (m + 1)) = none := growR_no gr24 e
            refine ⟨_, rfl, _, rfl, kR x y (m + 1), u, d, xs4, rfl, rfl, hnk9, hd8, rd4.dic, rd4.key, hno, by rw [sizeLine_eq]; exact Nat.lt_of_lt_of_le (hF.few hl41) (by decide), ?_⟩
            have eval : V.bl (metW (stepsOf kind rs) (alW (stepsOf kind rs) m) y x) = V.bl (alW (stepsOf kind rs) (m + 1) x y) := congrArg V.bl ealw.symm
            rw [eval]
            refine ⟨_, xs4 ++ [(kR x y (m + 1), u, V.bl (alW (stepsOf kind rs) (m + 1) x y))], rfl, ((but_of_same sm).trans bt24).own _, ⟨upd_same, rd4.key.put rd4.dic hnk9 hd8, rightR_put rd4.rgt x y (m + 1) u⟩, ?_, hF.put _ _ hl41 hx hy (by omega) (by omega) (by omega) hno hreg, ?_, hnk9.mut rd4.dic _⟩
            · intro e4 he
              rcases List.mem_append.mp he with he | he
              · rcases gr24 e4 he with h1 | ⟨x2, y2, m2, e1, e2⟩
                · exact .inl h1
                · exact .inr ⟨x2, y2, m2, e1, by omega⟩
              · rw [List.mem_singleton.mp he]
                exact .inr ⟨x, y, m + 1, rfl, by omega⟩
            · unfold atN at hno ⊢
              rw [List.find?_append, Option.map_eq_none_iff.mp hno]
              simp
        · rw [e]
          refine iteF ?_
          exact ⟨_, xs, rfl, but_of_same sm, rd2, .refl _ _, hF.le (by omega) hcap1, e, hnk⟩
      · rintro σ' H3 ⟨x7, xs3, rfl, bt3, rd3, gr3, hl3, e3, hnk3⟩
        exact ⟨_, rfl, _, rfl, kR x y (m + 1), u, d, xs3, _, rfl, rfl, hnk3, hd8, rd3.dic, rd3.key, e3, q xs3 H3 bt3 rd3 gr3 hl3⟩
theorem ok__law_meets0 (T : Txt K mg A) : FnOk P w K mg base CX0 1 A.a__law_meets A.d__law_meets ["_law_world_here", "_law_kind", "_law_one", "_law_other", "_law_many", "_law_met"] spFalse :=
  T.F__law_meets.ok sc__law_meets (fun vs H Q E h => h.elim) (fun cdv A0 outer s0 H vs Q E hr h => h.elim)
theorem ok__law_alike0 (T : Txt K mg A) : FnOk P w K mg base CX0 2 A.a__law_alike A.d__law_alike ["_law_world_here", "_law_kind", "_law_one", "_law_other", "_law_many", "_law_met"] (sp_lalike P w 0) := by
  have G__law_meets : FnOk P w K mg base CX0 1 A.a__law_meets A.d__law_meets ["_law_world_here", "_law_kind", "_law_one", "_law_other", "_law_many", "_law_met"] spFalse := ok__law_meets0 T
  refine T.F__law_alike.ok sc__law_alike (fun vs H Q E h => ?_) (fun cdv A0 outer s0 H vs Q E hr h => ?_)
  · obtain ⟨_, _, _, _, _, _, _, _, _, _, _, _, _, _, _, rfl, _⟩ := h
    rfl
  · obtain ⟨wd, d, a, b, kind, m, s, names, rs, xs, x, y, Reg, F, c0, rfl, _, rd, ha, hb, hx, hy, hxl, hyl, hmk, hF, hreg, hcap, q⟩ := h
    have hu64 := hu64_of hr
    refine ⟨_, (pss_cons (ps_if (PW.pt (pw_or (pt_cmpR op_eq (pv 4) pe_int (nomark _)) (pw_or1 (pt_cmpR (r := rEqP K) (op_eqP hu64) (pv 2) (pv 3) (nomark _))))) (pss_one (ps_ret pe_bl)) pss_nil)
 (pss_cons (ps_set (i := 6) sc__law_alike.nd rfl (Or.inl rfl) (pe_tup (pa_cons (pe_callTy (T := "tuple") call_tuple_of (by rfl) T.tuple_ (by decide +kernel) (pa_cons (pv 2) pa_nil)) (pa_cons (pe_callTy (T := "tuple") call_tuple_of (by rfl) T.tuple_ (by decide +kernel) (pa_cons (pv 3) pa_nil)) (pa_cons (pv 4) pa_nil)))))
 (Evl.pss_cut (ps_if (pt_cmpR (r := rInN P w true) (op_notInN hu64) (pv 6) (pv 5) (by rfl)) (pss_cons (ps_set (i := 7) sc__law_alike.nd rfl (Or.inl rfl) (pe_call G__law_meets (hr.mono (by decide)) (by rfl) T.g__law_meets T.F__law_meets.kp T.b__law_meets .nil pass0 (pa_cons (pv 0) (pa_cons (pv 1) (pa_cons (pv 2) (pa_cons (pv 3) (pa_cons (pe_op op_sub (pv 4) pe_int) (pa_cons (pv 5) pa_nil))))))))
 (pss_one (ps_asg (pe_and (pv 7) (pe_one (pe_call G__law_meets (hr.mono (by decide)) (by rfl) T.g__law_meets T.F__law_meets.kp T.b__law_meets .nil pass0 (pa_cons (pv 0) (pa_cons (pv 1) (pa_cons (pv 3) (pa_cons (pv 2) (pa_cons (pe_op op_sub (pv 4) pe_int) (pa_cons (pv 5) pa_nil))))))))) (pg_sub (pv 5) (pv 6) (set_dictN hu64))))) pss_nil)
 (pss_one (ps_ret (pe_ix (r := rIxN P w) (ix_dictN hu64) (pv 5) (pv 6) (fun _ _ => rfl))))))), ?_⟩
    refine ⟨_, rfl, rfl, _, rfl, ?_⟩
    cases m with
    | zero => exact iteT (iteT (q xs H (But.refl d H) rd (.refl _ _) (hF.le (Nat.le_add_right _ _) hcap)))
    | succ m => omega
theorem ok__law_alikes (T : Txt K mg A) : ∀ k, FnOk P w K mg base CX0 (2 * k + 2) A.a__law_alike A.d__law_alike ["_law_world_here", "_law_kind", "_law_one", "_law_other", "_law_many", "_law_met"] (sp_lalike P w k)
  | 0 => ok__law_alike0 T
  | k + 1 => ok__law_alike_s T k (2 * k + 2 + 1) (by omega) (ok__law_meets T k (2 * k + 2) (by omega) (ok__law_alikes T k))
def sp_lparted (k : Nat) : Sp := fun vs H Q _ => ∃ (wd a b : Addr) (kind : Str) (m s : Nat) (names : List Str) (rs : List Rule) (x y : List Str) (F : Nat → List NEnt → Prop), vs = [.ref wd, .str kind, .ref a, .ref b, .int m] ∧ LokW H wd kind names rs s ∧
  H a = some (.lst (x.map V.str)) ∧ H b = some (.lst (y.map V.str)) ∧ (∀ z ∈ x, z ∈ names) ∧ (∀ z ∈ y, z ∈ names) ∧ x.length + 2 * m ≤ 900 ∧ y.length + 2 * m ≤ 900 ∧ m ≤ k ∧ FitF names k F ∧ F (PW s m) [] ∧ ∀ H', Same H H' → Q (rankV (rankW (stepsOf kind rs) x y m)) H'
theorem ok__law_parted (T : Txt K mg A) (k : Nat) : FnOk P w K mg base CX0 (2 * k + 3) A.a__law_parted A.d__law_parted ["_law_world_here", "_law_kind", "_law_one", "_law_other", "_law_most"] (sp_lparted k) := by
  have G__law_alike : FnOk P w K mg base CX0 (2 * k + 2) A.a__law_alike A.d__law_alike ["_law_world_here", "_law_kind", "_law_one", "_law_other", "_law_many", "_law_met"] (sp_lalike P w k) := ok__law_alikes T k
  refine T.F__law_parted.ok sc__law_parted (fun vs H Q E h => ?_) (fun cdv A0 outer s0 H vs Q E hr h => ?_)
  · obtain ⟨_, _, _, _, _, _, _, _, _, _, _, rfl, _⟩ := h
    rfl
  · obtain ⟨wd, a, b, kind, m, s, names, rs, x, y, F, rfl, ⟨W, hkind, hst, hs1, hsh⟩, ha, hb, hx, hy, hxl, hyl, hmk, hF, hcap, q⟩ := h
    refine ⟨_, (pss_cons (ps_set (i := 5) sc__law_parted.nd rfl (Or.inl rfl) pe_dnewN)
 (pss_cons (ps_for PassesOwn.never rfl (pi_range2 (by rfl) T.range (pa_cons pe_int (pa_cons (pe_op op_add (pv 4) pe_int) pa_nil))) (pg_name (i := 6) sc__law_parted.nd rfl (Or.inl rfl))
 (pss_one (ps_if (pt_not (pt_val (pe_call G__law_alike (hr.mono (by omega)) (by rfl) T.g__law_alike T.F__law_alike.kp T.b__law_alike .nil pass0 (pa_cons (pv 0) (pa_cons (pv 1) (pa_cons (pv 2) (pa_cons (pv 3) (pa_cons (pv 6) (pa_cons (pv 5) pa_nil))))))))) (pss_one (ps_ret (pv 6))) pss_nil)))
 (pss_one (ps_ret pe_non)))), ?_⟩
    intro d hd
    have smd := same_new hd (o := dictN P w d [])
    have rd0 : MemAt P w (upd H d (dictN P w d [])) d (stepsOf kind rs) [] := ⟨upd_same, fun x hx => (nomatch hx), fun x hx => (nomatch hx)⟩
    have W0 := W.same smd
    have ha0 := smd _ _ ha
    have hb0 := smd _ _ hb
    refine ⟨_, rfl, _, _, rfl, rfl, 1, _, rfl, ⟨by decide, by decide, by omega, by omega⟩, ?_⟩
    have en : ((m : Int) + 1 - 1).toNat = m := by omega
    rw [en]
    refine for_range (fun i σ' H' => ∃ (x6 : Option V) (xs' : List NEnt), σ' = [some (.ref wd), some (.str kind), some (.ref a), some (.ref b), some (.int m), some (.ref d), x6] ∧ But d (upd H d (dictN P w d [])) H' ∧ MemAt P w H' d (stepsOf kind rs) xs' ∧ F (PW s m - PW s i) xs' ∧ alW (stepsOf kind rs) i x y = true) ?_ ?_ ?_
    · exact ⟨_, [], rfl, But.refl d (upd H d (dictN P w d [])), rd0, hcap, rfl⟩
    · rintro i σ' H1 hi ⟨x6, xs1, rfl, bt1, rd1, hl1, hal⟩
      have ei : (1 : Int) + (i : Int) = ((i + 1 : Nat) : Int) := by omega
      have hpw : PW s (i + 1) ≤ PW s m := PW_le (by omega)
      have hpw1 : PW s (i + 1) = PW s i + TW s (i + 1) := rfl
      have ha1 := bt1 _ _ (ne_dictN rd0.dic ha0 fun φ z => (by cases z)) ha0
      have hb1 := bt1 _ _ (ne_dictN rd0.dic hb0 fun φ z => (by cases z)) hb0
      refine ⟨_, rfl, _, rfl, _, rfl, _, rfl, _, rfl, _, rfl, wd, d, a, b, kind, i + 1, s, names, rs, xs1, x, y, (fun _ _ _ => True), F, PW s m - PW s (i + 1), by show [V.ref wd, V.str kind, V.ref a, V.ref b, V.int ((1 : Int) + (i : Int)), V.ref d] = _; rw [ei], ⟨W0.butN rd0.dic bt1, hkind, hst, hs1, hsh⟩, rd1, ha1, hb1, hx, hy, by omega, by omega, by omega, FitG.of hF, trivial, hF.le (by omega) hl1, fun xs2 H2 bt2 rd2 _ hl2 => ?_⟩
      refine ⟨_, rfl, ?_⟩
      cases hal2 : alW (stepsOf kind rs) (i + 1) x y with
      | true => exact iteF ⟨_, xs2, rfl, bt1.trans bt2, rd2, hl2, rfl⟩
      | false =>
        refine iteT ⟨_, rfl, ?_⟩
        have er : rankW (stepsOf kind rs) x y m = some (i + 1) := rankW_some.mpr ⟨by omega, by omega, hal2, hal⟩
        have hq := q H2 ((bt1.trans bt2).under hd smd)
        rw [er] at hq
        show Q (V.int ((1 : Int) + (i : Int))) H2
        rw [ei]
        exact hq
    · rintro σ' H1 ⟨x6, xs1, rfl, bt1, rd1, hl1, hal⟩
      have hq := q H1 (bt1.under hd smd)
      rw [rankW_none.mpr hal] at hq
      exact hq
end
end SG
namespace SG
open PySem PySem.Spec PyProof.Rows L2 LamX
section
variable {P : Program} {w : World} {K : PySem.W.Frag} {mg : Str → Option Value} {base : Heap} {A : Ad}
def sp_lnorms : Sp := fun vs H Q _ => ∃ (wd : Addr) (names : List Str) (rs : List Rule), vs = [.ref wd] ∧ WdAt H wd names rs ∧ GoodR names rs ∧ EndsR names rs ∧ names.length ≤ 3 ∧
  ∀ d H' (kvs : List (Key × V)), Same H H' → H' d = some (.dK kvs) → (∀ n ∈ names, valV kvs (Sum.inr n : Key) = some (.int (nrmW rs n : Nat))) → Q (.ref d) H'
/-- what is known before turn t + 1 is over: names whose norms are t at most, some of norm t + 1 -/
def KnA (names : List Str) (f : Str → Nat) (kvs : List (Key × V)) (t : Nat) : Prop := ∀ n ∈ names, ∀ v, valV kvs (Sum.inr n : Key) = some v → v = .int (f n : Nat) ∧ f n ≤ t
def KnB (names : List Str) (f : Str → Nat) (kvs : List (Key × V)) (t : Nat) : Prop := ∀ n ∈ names, f n ≤ t → valV kvs (Sum.inr n : Key) = some (.int (f n : Nat))
theorem sum_ints {f : Str → Nat} : ∀ row : List Str, (row.map fun x => ((f x : Nat) : Int)).sum = ((sumN f row : Nat) : Int)
  | [] => rfl
  | x :: t => by
    rw [List.map_cons, List.sum_cons, sum_ints t]
    show ((f x : Nat) : Int) + ((sumN f t : Nat) : Int) = (((f x + sumN f t : Nat)) : Int)
    omega
theorem ok__law_norms (T : Txt K mg A) : FnOk P w K mg base CX0 1 A.a__law_norms A.d__law_norms ["_law_world_here"] sp_lnorms := by
  refine T.F__law_norms.ok sc__law_norms (fun vs H Q E h => ?_) (fun cdv A0 outer s0 H vs Q E hr h => ?_)
  · obtain ⟨_, _, _, rfl, _⟩ := h
    rfl
  · obtain ⟨wd, names, rs, rfl, WD, hgood, hends, hn3, q⟩ := h
    have hu := hu_of hr
    have hu64 := hu64_of hr
    obtain ⟨nl, rd, kw, kvs0, hwd, hvn, hvr, hnl, hrd, hlook0⟩ := WD
    have hlook := fun {n : Str} (hn : n ∈ names) => hlook0 n hn
    have hfew : ∀ n, (rulesOf rs n).length ≤ 4 := hgood.few
    obtain ⟨f, hf⟩ : ∃ f, f = nrmW rs := ⟨_, rfl⟩
    have f1 : ∀ n ∈ names, 1 ≤ f n := fun n hn => by rw [hf]; exact nrm_pos hgood hends hn
    have f2 : ∀ n ∈ names, f n ≤ 13 := fun n hn => by rw [hf]; exact nrm_13 hgood hends hn3 hn
    have f3 : ∀ n, ∀ p ∈ rulesOf rs n, f n ≤ 1 + sumN f p.2 := fun n p hp => by rw [hf]; exact nrm_le hgood hends hp
    have f4 : ∀ n ∈ names, ∃ p ∈ rulesOf rs n, f n = 1 + sumN f p.2 := fun n hn => by rw [hf]; exact nrm_row hgood hends hn
    rw [← hf] at q
    have hpin : ∀ n, ∀ p ∈ rulesOf rs n, p.2.length ≤ 3 ∧ ∀ x ∈ p.2, x ∈ names := fun n p hp => ⟨(hgood.ok _ (mem_rulesOf.mp hp)).2.2.1, (hgood.ok _ (mem_rulesOf.mp hp)).2.2.2⟩
    have sumle : ∀ {row : List Str} {x : Str}, x ∈ row → f x ≤ sumN f row := fun {row} {x} hx => by
      induction row with
      | nil => cases hx
      | cons y t ih =>
        show f x ≤ f y + sumN f t
        rcases List.mem_cons.mp hx with rfl | hx
        · omega
        · have := ih hx
          omega
    clear hf hgood hends hlook0
    refine ⟨_, (pss_cons (ps_set (i := 1) sc__law_norms.nd rfl (Or.inr rfl) pe_dnewK)
 (pss_cons (ps_for PassesOwn.never rfl (pi_range2 (by rfl) T.range (pa_cons pe_int (pa_cons pe_int pa_nil))) (pg_name (i := 2) sc__law_norms.nd rfl (Or.inl rfl))
 (pss_one (ps_for PassesOwn.never rfl (pi_list (pe_dget hu (pv 0) pe_str (fun _ _ => rfl))) (pg_name (i := 3) sc__law_norms.nd rfl (Or.inl rfl))
 (pss_one (ps_for PassesOwn.never rfl (pi_list (pe_dget hu (pe_dget hu (pv 0) pe_str (fun _ _ => rfl)) (pv 3) (fun _ _ => rfl))) (pg_tup (by rfl) (pgs_cons (pg_name (i := 4) sc__law_norms.nd rfl (Or.inl rfl)) (pgs_cons (pg_name (i := 5) sc__law_norms.nd rfl (Or.inl rfl)) pgs_nil)))
 (pss_one (ps_if (PW.pt (pw_and (pt_cmp (pc_dnotin hu (pv 3) (pv 1))) (pw_and1 (pt_val (pe_callB (id := "all") (r := rAll K) (cr_all rfl) (by rfl) T.all (by decide +kernel) (pa_cons (pe_lc (own := [("_law_part", 6)]) (g := gName 6) (by rfl) sc__law_norms.nd (pi_list (pv 5)) (blkOk_by (own := [("_law_part", 6)]) (N := ["_law_world_here", "_law_found", "_law_turn", "_law_name", "_law_letter", "_law_row", "_law_part"]) (sc := defScope s__law_norms) (by decide +kernel)) (fun _ _ _ _ _ => (pg_name (i := 6) sc__law_norms.nd rfl (Or.inl rfl))) (fun _ _ _ _ _ => pts_nil) (fun _ _ _ _ _ => (pe_cmp (pc_din hu (pv 6) (pv 1)) rfl))) pa_nil)))))) (pss_one (ps_if (pt_cmpR op_eq (pe_op op_add pe_int (pe_callB (id := "sum") (r := rSum K) (cr_sum rfl) (by rfl) T.sum (by decide +kernel) (pa_cons (pe_lc (own := [("_law_part", 6)]) (g := gName 6) (by rfl) sc__law_norms.nd (pi_list (pv 5)) (blkOk_by (own := [("_law_part", 6)]) (N := ["_law_world_here", "_law_found", "_law_turn", "_law_name", "_law_letter", "_law_row", "_law_part"]) (sc := defScope s__law_norms) (by decide +kernel)) (fun _ _ _ _ _ => (pg_name (i := 6) sc__law_norms.nd rfl (Or.inl rfl))) (fun _ _ _ _ _ => pts_nil) (fun _ _ _ _ _ => (pe_dget hu (pv 1) (pv 6) (fun _ _ => rfl)))) pa_nil))) (pv 2) (nomark _)) (pss_one (ps_dput hu (pv 1) (pv 3) (pv 2) rfl)) pss_nil)) pss_nil)))))))
 (pss_one (ps_ret (pv 1))))), ?_⟩
    intro d hd
    have smd := same_new hd (o := .dK [])
    have hd1 : (upd H d (.dK [])) d = some (.dK []) := upd_same
    generalize (upd H d (.dK [])) = H1 at smd hd1 ⊢
    refine ⟨1, 40, rfl, ⟨by decide, by decide, by decide, by decide⟩, ?_⟩
    refine for_range (fun k σ' H' => ∃ (x2 x3 x4 x5 : Option V) (kvs : List (Key × V)), σ' = [some (.ref wd), some (.ref d), x2, x3, x4, x5, none] ∧ Same H H' ∧ H' d = some (.dK kvs) ∧ kvs.length ≤ 12 * k ∧ KnA names f kvs k ∧ KnB names f kvs k) ?_ ?_ ?_
    · exact ⟨_, _, _, _, [], rfl, smd, hd1, Nat.le_refl _, fun n _ v h => (nomatch h), fun n hn h => absurd (f1 n hn) (by omega)⟩
    · clear smd hd1 H1
      rintro k σ' H1 hk ⟨x2, x3, x4, x5, kvs, rfl, sm1, hd1, hkl, hA, hB⟩
      have hk39 : k < 39 := hk
      refine ⟨_, rfl, wd, _, rfl, .inl ⟨_, Sum.inr "names", .inl (sm1 _ _ hwd), rfl, hvn.symm⟩, nl, rfl, ⟨_, SqL.of (sm1 _ _ hnl)⟩, for_list (K := K) (a := nl) (xs := names.map V.str) (fun i σ' H' => ∃ (x3 x4 x5 : Option V) (kvs : List (Key × V)), σ' = [some (.ref wd), some (.ref d), some (.int (1 + (k : Int))), x3, x4, x5, none] ∧ Same H H' ∧ H' d = some (.dK kvs) ∧ kvs.length ≤ 12 * k + 4 * i ∧ KnA names f kvs (k + 1) ∧ KnB names f kvs k ∧ KnB (names.take i) f kvs (k + 1)) ?_ ?_ ?_ ?_⟩
      · exact ⟨_, _, _, kvs, rfl, sm1, hd1, by omega, fun n hn v h => ⟨(hA n hn v h).1, by have := (hA n hn v h).2; omega⟩, hB, fun n hn => by simp at hn⟩
      · rintro i σ' H' _ ⟨_, _, _, _, rfl, sm, _⟩
        exact SqL.of (sm _ _ hnl)
      · clear hA hB hkl hd1 sm1 kvs x2 x3 x4 x5 H1
        rintro i x σ' H1 hi ⟨x3, x4, x5, kvs, rfl, sm1, hd1, hkl, hA, hB, hC⟩
        obtain ⟨nk, hnk, rfl⟩ := map_at hi
        have hil : i < names.length := (List.getElem?_eq_some_iff.mp hnk).1
        have hnm := List.mem_of_getElem? hnk
        obtain ⟨l, ts, hval, hl, hpp⟩ := hlook hnm
        have hpl := paired_len hpp
        have hps4 := hfew nk
        obtain ⟨ps, hpsE⟩ : ∃ ps, ps = rulesOf rs nk := ⟨_, rfl⟩
        rw [← hpsE] at hpp hpl hps4
        refine ⟨_, rfl, wd, _, rfl, .inl ⟨_, Sum.inr "rules", .inl (sm1 _ _ hwd), rfl, hvr.symm⟩, _, rfl, rd, _, rfl, .inl ⟨_, Sum.inr nk, .inl (sm1 _ _ hrd), rfl, hval.symm⟩, l, rfl, ⟨_, SqL.of (sm1 _ _ hl)⟩, for_list (K := K) (a := l) (xs := ts.map V.ref) (fun j σ' H' => ∃ (x4 x5 : Option V) (kvs : List (Key × V)), σ' = [some (.ref wd), some (.ref d), some (.int (1 + (k : Int))), some (.str nk), x4, x5, none] ∧ Same H H' ∧ H' d = some (.dK kvs) ∧ kvs.length ≤ 12 * k + 4 * i + j ∧ KnA names f kvs (k + 1) ∧ KnB names f kvs k ∧ KnB (names.take i) f kvs (k + 1) ∧ ∀ p ∈ ps.take j, 1 + sumN f p.2 = k + 1 → valV kvs (Sum.inr nk : Key) ≠ none) ?_ ?_ ?_ ?_⟩
        · exact ⟨_, _, kvs, rfl, sm1, hd1, by omega, hA, hB, hC, fun p hp => by simp at hp⟩
        · rintro j σ' H' _ ⟨_, _, _, rfl, sm, _⟩
          exact SqL.of (sm _ _ hl)
        · clear hA hB hC hkl hd1 sm1 kvs x3 x4 x5 H1
          rintro j x σ' H1 hj ⟨x4, x5, kvs, rfl, sm1, hd1, hkl, hA, hB, hC, hD⟩
          obtain ⟨t, ht, rfl⟩ := map_at hj
          have hjl := (List.getElem?_eq_some_iff.mp ht).1
          obtain ⟨p, hp⟩ : ∃ p, ps[j]? = some p := ⟨_, List.getElem?_eq_getElem (by omega)⟩
          obtain ⟨wr, ht2, hwr⟩ := paired_ix hpp ht hp
          have hpm : p ∈ rulesOf rs nk := hpsE ▸ List.mem_of_getElem? hp
          obtain ⟨hp3, hpn⟩ := hpin nk p hpm
          refine ⟨t, _, rfl, SqT.of (sm1 _ _ ht2), rfl, _, _, rfl, _, _, rfl, rfl, ?_⟩
          refine ⟨_, rfl, _, rfl, d, _, rfl, .inl ⟨kvs, Sum.inr nk, .inl hd1, rfl, rfl⟩, ?_⟩
          refine ⟨_, rfl, ?_⟩
          cases hfound : valV kvs (Sum.inr nk : Key) with
          | some v =>
            refine iteF ⟨_, _, kvs, rfl, sm1, hd1, by omega, hA, hB, hC, fun p' _ _ => ?_⟩
            rw [hfound]
            exact fun z => (by cases z)
          | none =>
            refine iteT ?_
            refine ⟨_, rfl, wr, rfl, ⟨_, SqL.of (sm1 _ _ hwr)⟩, fun D hD2 => lc_scal (K := K) (ys := (p.2.map fun x => (valV kvs (Sum.inr x : Key)).isSome).map V.bl) (SqL.of (sm1 _ _ hwr)) hD2 (by simp) (by rw [List.length_map]; omega) (fun _ => rfl) (fun i x y H' Q' g1 g2 sm k => ?_) (fun H2 sm2 hl2 => ?_)⟩
            · obtain ⟨x1, hx1, rfl⟩ := map_at g1
              have hx2 : (p.2.map fun x => (valV kvs (Sum.inr x : Key)).isSome)[i]? = some (valV kvs (Sum.inr x1 : Key)).isSome := by rw [List.getElem?_map, hx1]; rfl
              have ey := map_get hx2 g2
              subst ey
              exact ⟨_, rfl, _, rfl, d, _, rfl, .inl ⟨kvs, Sum.inr x1, .inl (sm _ _ hd1), rfl, rfl⟩, k _ fun _ _ h => h⟩
            have hd2 := sm2 _ _ hd1
            have sm12 := sm1.trans sm2
            refine ⟨D, _, rfl, SqL.of hl2, _, rfl, ?_⟩
            cases hall : ((p.2.map fun x => (valV kvs (Sum.inr x : Key)).isSome).all id) with
            | false =>
              refine iteF ⟨_, _, kvs, rfl, sm12, hd2, by omega, hA, hB, hC, fun p' hp' he => ?_⟩
              rw [take_snoc hp] at hp'
              rcases List.mem_append.mp hp' with hp' | hp'
              · exact hD p' hp' he
              · rw [List.mem_singleton.mp hp'] at he
                exfalso
                have : ((p.2.map fun x => (valV kvs (Sum.inr x : Key)).isSome).all id) = true := by
                  rw [List.all_eq_true]
                  intro bb hbb
                  obtain ⟨x, hx, rfl⟩ := List.mem_map.mp hbb
                  rw [hB x (hpn x hx) (by have := sumle (row := p.2) hx; omega)]
                  rfl
                rw [this] at hall
                cases hall
            | true =>
              refine iteT ?_
              have hvx : ∀ x ∈ p.2, valV kvs (Sum.inr x : Key) = some (.int (f x : Nat)) := fun x hx => by
                have h1 := List.all_eq_true.mp hall _ (List.mem_map.mpr ⟨x, hx, rfl⟩)
                cases hv : valV kvs (Sum.inr x : Key) with
                | none => rw [hv] at h1; cases h1
                | some v => rw [(hA x (hpn x hx) v hv).1]
              have hwr2 := sm12 _ _ hwr
              refine ⟨_, rfl, wr, rfl, ⟨_, SqL.of hwr2⟩, fun D3 hD3 => lc_scal (K := K) (ys := (p.2.map fun x => ((f x : Nat) : Int)).map V.int) (SqL.of hwr2) hD3 (by simp) (by rw [List.length_map]; omega) (fun _ => rfl) (fun i x y H' Q' g1 g2 sm k => ?_) (fun H3 sm3 hl3 => ?_)⟩
              · obtain ⟨x1, hx1, rfl⟩ := map_at g1
                have hx2 : (p.2.map fun x => ((f x : Nat) : Int))[i]? = some ((f x1 : Nat) : Int) := by rw [List.getElem?_map, hx1]; rfl
                have ey := map_get hx2 g2
                subst ey
                exact ⟨_, rfl, _, rfl, d, _, rfl, .inl ⟨kvs, Sum.inr x1, .inl (sm _ _ hd2), rfl, (hvx x1 (List.mem_of_getElem? hx1)).symm⟩, k _ fun _ _ h => h⟩
              have hd3 := sm3 _ _ hd2
              have sm13 := sm12.trans sm3
              refine ⟨D3, _, rfl, SqL.of hl3, _, _, rfl, rfl, _, rfl, rfl, _, rfl, ?_⟩
              rw [sum_ints]
              have ed : decide (V.int (1 + ((sumN f p.2 : Nat) : Int)) = V.int (1 + (k : Int))) = decide (sumN f p.2 = k) := by
                by_cases c : sumN f p.2 = k
                · rw [decide_eq_true c, decide_eq_true (by rw [c])]
                · rw [decide_eq_false c, decide_eq_false (fun z => c (by have := V.int.inj z; omega))]
              show _
              rw [ed]
              refine iteB (fun hc => ?_) (fun hc => ?_)
              · have hc := of_decide_eq_true hc
                have hfk : f nk = k + 1 := by
                  have h1 := f3 nk p hpm
                  by_cases h2 : f nk ≤ k
                  · rw [hB nk hnm h2] at hfound
                    cases hfound
                  · omega
                have ev : V.int (1 + (k : Int)) = V.int ((f nk : Nat) : Int) := by rw [hfk]; congr 1; omega
                refine ⟨_, rfl, _, rfl, _, rfl, d, _, rfl, DPut.k (k := Sum.inr nk) hd3 (sl1 (by omega)), ?_⟩
                refine ⟨_, _, putK kvs (Sum.inr nk : Key) (V.int (1 + (k : Int))), rfl, same_mut sm13 hd, upd_same, Nat.le_trans (putK_le _ _ _) (by omega), fun n hn v hv => ?_, fun n hn hle => ?_, fun n hn hle => ?_, fun p' _ _ => ?_⟩
                · rw [valV_put] at hv
                  by_cases e : n = nk
                  · rw [if_pos (by rw [e])] at hv
                    rw [← Option.some.inj hv, e]
                    exact ⟨ev, by omega⟩
                  · rw [if_neg (fun z => e (Sum.inr.inj z))] at hv
                    exact hA n hn v hv
                · rw [valV_put, if_neg (fun z => by rw [Sum.inr.inj z] at hle; omega)]
                  exact hB n hn hle
                · rw [valV_put]
                  by_cases e : n = nk
                  · rw [if_pos (by rw [e]), e, ev]
                  · rw [if_neg (fun z => e (Sum.inr.inj z))]
                    exact hC n hn hle
                · rw [valV_put, if_pos rfl]
                  exact fun z => (by cases z)
              · have hc := of_decide_eq_false hc
                refine ⟨_, _, kvs, rfl, sm13, hd3, by omega, hA, hB, hC, fun p' hp' he => ?_⟩
                rw [take_snoc hp] at hp'
                rcases List.mem_append.mp hp' with hp' | hp'
                · exact hD p' hp' he
                · rw [List.mem_singleton.mp hp'] at he
                  omega
        · clear hA hB hC hkl hd1 sm1
          rintro σ' H1 ⟨x4, x5, kvs, rfl, sm1, hd1, hkl, hA, hB, hC, hD⟩
          rw [List.length_map] at hD hkl
          rw [hpl, List.take_length] at hD
          refine ⟨_, _, _, kvs, rfl, sm1, hd1, by omega, hA, hB, fun n hn hle => ?_⟩
          rw [take_snoc hnk] at hn
          rcases List.mem_append.mp hn with hn | hn
          · exact hC n hn hle
          · have e := List.mem_singleton.mp hn
            subst e
            by_cases h2 : f n ≤ k
            · exact hB n hnm h2
            · obtain ⟨p, hp, hpe⟩ := f4 n hnm
              have h3 := hD p (hpsE ▸ hp) (by omega)
              cases hv : valV kvs (Sum.inr n : Key) with
              | none => exact absurd hv h3
              | some v => rw [(hA n hnm v hv).1]
      · clear hA hB hkl hd1 sm1
        rintro σ' H1 ⟨x3, x4, x5, kvs, rfl, sm1, hd1, hkl, hA, hB, hC⟩
        rw [List.length_map] at hkl
        rw [List.length_map, List.take_length] at hC
        exact ⟨_, _, _, _, kvs, rfl, sm1, hd1, by omega, hA, hC⟩
    · rintro σ' H1 ⟨x2, x3, x4, x5, kvs, rfl, sm1, hd1, hkl, hA, hB⟩
      exact ⟨_, rfl, q d H1 kvs sm1 hd1 fun n hn => hB n hn (Nat.le_trans (f2 n hn) (by decide))⟩
def sp_weight : Sp := fun vs H Q _ => ∃ (d a : Addr) (kvs : List (Key × V)) (f : Str → Nat) (row : List Str), vs = [.ref d, .ref a] ∧ H d = some (.dK kvs) ∧ (∀ x ∈ row, valV kvs (Sum.inr x : Key) = some (.int (f x : Nat))) ∧ H a = some (.lst (row.map V.str)) ∧ row.length ≤ 1000 ∧ ∀ H', Same H H' → Q (.int (sumN f row : Nat)) H'
theorem ok__law_weight (T : Txt K mg A) : FnOk P w K mg base CX0 1 A.a__law_weight A.d__law_weight ["_law_norm", "_law_one"] sp_weight := by
  refine T.F__law_weight.ok sc__law_weight (fun vs H Q E h => ?_) (fun cdv A0 outer s0 H vs Q E hr h => ?_)
  · obtain ⟨_, _, _, _, _, rfl, _⟩ := h
    rfl
  · obtain ⟨d, a, kvs, f, row, rfl, hd, hv, ha, hrl, q⟩ := h
    have hu := hu_of hr
    refine ⟨_, (pss_one (ps_ret (pe_callB (id := "sum") (r := rSum K) (cr_sum rfl) (by rfl) T.sum (by decide +kernel) (pa_cons (pe_lc (own := [("_law_name", 2)]) (g := gName 2) (by rfl) sc__law_weight.nd (pi_list (pv 1)) (blkOk_by (own := [("_law_name", 2)]) (N := ["_law_norm", "_law_one", "_law_name"]) (sc := defScope s__law_weight) (by decide +kernel)) (fun _ _ _ _ _ => (pg_name (i := 2) sc__law_weight.nd rfl (Or.inl rfl))) (fun _ _ _ _ _ => pts_nil) (fun _ _ _ _ _ => (pe_dget hu (pv 0) (pv 2) (fun _ _ => rfl)))) pa_nil)))), ?_⟩
    refine ⟨_, rfl, a, rfl, ⟨_, SqL.of ha⟩, fun D hD => lc_scal (K := K) (ys := (row.map fun x => ((f x : Nat) : Int)).map V.int) (SqL.of ha) hD (by simp) (by rw [List.length_map]; omega) (fun _ => rfl) (fun i x y H' Q' g1 g2 sm k => ?_) (fun H3 sm3 hl3 => ?_)⟩
    · obtain ⟨x1, hx1, rfl⟩ := map_at g1
      have hx2 : (row.map fun x => ((f x : Nat) : Int))[i]? = some ((f x1 : Nat) : Int) := by rw [List.getElem?_map, hx1]; rfl
      have ey := map_get hx2 g2
      subst ey
      exact ⟨_, rfl, _, rfl, d, _, rfl, .inl ⟨kvs, Sum.inr x1, .inl (sm _ _ hd), rfl, (hv x1 (List.mem_of_getElem? hx1)).symm⟩, k _ fun _ _ h => h⟩
    refine ⟨D, _, rfl, SqL.of hl3, ?_⟩
    rw [sum_ints]
    exact q H3 sm3
end
end SG
namespace SG
open PySem PySem.Spec PyProof.Rows L2 LamX
section
variable {P : Program} {w : World} {K : PySem.W.Frag} {mg : Str → Option Value} {base : Heap} {A : Ad}
theorem kindU (kind : Str) : (∀ x, ordK kind x = x) ∧ kind = "row" ∨ (∀ x, ordK kind x = ssort x) ∧ ¬ kind = "row" := by
  by_cases c : kind = "row"
  · exact .inl ⟨fun x => by unfold ordK; rw [if_pos c], c⟩
  · exact .inr ⟨fun x => by unfold ordK; rw [if_neg c], c⟩
theorem ordK_perm (kind : Str) (x : List Str) : (ordK kind x).Perm x := by
  rcases kindU kind with ⟨e, _⟩ | ⟨e, _⟩
  · rw [e]
  · rw [e]; exact ssort_perm x
theorem ordK_idem (kind : Str) (x : List Str) : ordK kind (ordK kind x) = ordK kind x := by
  rcases kindU kind with ⟨e, _⟩ | ⟨e, _⟩
  · rw [e, e]
  · rw [e, e, ssort_eq (ssort_perm x)]
theorem ordK_mem {kind : Str} {x : List Str} {names : List Str} (h : ∀ z ∈ x, z ∈ names) : ∀ z ∈ ordK kind x, z ∈ names := fun z hz => h z ((ordK_perm kind x).mem_iff.mp hz)
theorem ordK_length (kind : Str) (x : List Str) : (ordK kind x).length = x.length := (ordK_perm kind x).length_eq
theorem stepsOf_o (kind : Str) (rs : List Rule) (x : List Str) : stepsOf kind rs (ordK kind x) = stepsOf kind rs x := by
  rcases kindU kind with ⟨e, _⟩ | ⟨e, c⟩
  · rw [e]
  · rw [e]
    unfold stepsOf
    rw [if_neg c, if_neg c, bagSteps_perm rs (ssort_perm x)]
theorem stepsOf_res {kind : Str} {rs : List Rule} {x : List Str} {p : Step} (h : p ∈ stepsOf kind rs x) : ordK kind p.2 = p.2 := by
  rcases kindU kind with ⟨e, _⟩ | ⟨e, c⟩
  · exact e _
  · rw [e]
    unfold stepsOf at h
    rw [if_neg c] at h
    obtain ⟨n, hn, q, hq, rfl⟩ := mem_bagSteps.mp h
    exact ssort_eq (ssort_perm _)
theorem sumN_perm {f : Str → Nat} {x y : List Str} (h : x.Perm y) : sumN f x = sumN f y := (h.map f).sum_nat
theorem sumN_o (f : Str → Nat) (kind : Str) (x : List Str) : sumN f (ordK kind x) = sumN f x := sumN_perm (ordK_perm kind x)
theorem ansW_o (kind : Str) (rs : List Rule) (x : List Str) (z : Str) : ansW (stepsOf kind rs) (ordK kind x) z = ansW (stepsOf kind rs) x z := by
  unfold ansW
  rw [stepsOf_o]
theorem sdW_o (kind : Str) (sd : Nat) (x y : List Str) : sdW sd (ordK kind x) (ordK kind y) = ordK kind (sdW sd x y) := by
  unfold sdW
  split <;> rfl
/-- a row of a play -/
def PlAt (H : Hp) (t : Addr) (q : PRow) : Prop := ∃ a b c, H t = some (.tup [.ref a, .ref b, .int (q.sd : Int), .str q.z, .ref c]) ∧ H a = some (.lst (q.x.map V.str)) ∧ H b = some (.lst (q.y.map V.str)) ∧ H c = some (.lst (q.r.map V.str))
theorem PlAt.same {H H' : Hp} {t : Addr} {q : PRow} (h : PlAt H t q) (e : Same H H') : PlAt H' t q := by
  obtain ⟨a, b, c, h1, h2, h3, h4⟩ := h
  exact ⟨a, b, c, e _ _ h1, e _ _ h2, e _ _ h3, e _ _ h4⟩
theorem dp_pl {H : Hp} {t : Addr} {q : PRow} (h : PlAt H t q) : Dp K H (.ref t) (eP q) := by
  obtain ⟨a, b, c, h1, h2, h3, h4⟩ := h
  exact .tup (SqT.of h1) (.cons (dp_Ss h2) (.cons (dp_Ss h3) (.cons (.int _) (.cons (.str _) (.cons (dp_Ss h4) .nil)))))
theorem PlAt.butN {H H' : Hp} {t d : Addr} {q : PRow} {xs : List NEnt} (h : PlAt H t q) (hd : H d = some (dictN P w d xs)) (b : But d H H') : PlAt H' t q := by
  obtain ⟨a, b1, c, h1, h2, h3, h4⟩ := h
  have k : ∀ {a : Addr} {o : HO}, H a = some o → (∀ φ, o ≠ .ext φ) → H' a = some o := fun h n => b _ _ (ne_dictN hd h n) h
  exact ⟨a, b1, c, k h1 fun φ z => (by cases z), k h2 fun φ z => (by cases z), k h3 fun φ z => (by cases z), k h4 fun φ z => (by cases z)⟩
/-- of names alone -/
structure PRowN (names : List Str) (q : PRow) : Prop where
  x : ∀ z ∈ q.x, z ∈ names
  y : ∀ z ∈ q.y, z ∈ names
  r : ∀ z ∈ q.r, z ∈ names
  sd : q.sd ≤ 1
  xl : q.x.length ≤ 900
  yl : q.y.length ≤ 900
  rl : q.r.length ≤ 900
def sp_plist (C : Addr) : Sp := fun vs H Q _ => ∃ (g a : Addr) (names : List Str) (rs : List Rule) (x : List Str), vs = [.ref g, .ref a] ∧ GramAt C H g names rs ∧ H a = some (.lst (x.map V.str)) ∧ (∀ z ∈ x, z ∈ names) ∧ x.length ≤ 1000 ∧ ∀ H', Same H H' → Q (.bl true) H'
theorem all_true {n : Nat} : ((List.replicate n true).all id) = true := by
  rw [List.all_eq_true]
  intro x hx
  rw [(List.mem_replicate.mp hx).2]
  rfl
theorem ok_is_played_list (T : Txt K mg A) : FnOk P w K mg base CX0 2 A.a_is_played_list A.d_is_played_list ["grammar", "thing"] (sp_plist A.c_Grammar) := by
  have G_Grammar_has : FnOk P w K mg base CX0 1 A.a_Grammar_has A.d_Grammar_has ["self", "name"] (sp_G_has A.c_Grammar) := ok_Grammar_has T
  refine T.F_is_played_list.ok sc_is_played_list (fun vs H Q E h => ?_) (fun cdv A0 outer s0 H vs Q E hr h => ?_)
  · obtain ⟨_, _, _, _, _, rfl, _⟩ := h
    rfl
  · obtain ⟨g, a, names, rs, x, rfl, G, ha, hx, hxl, q⟩ := h
    refine ⟨_, (pss_one (ps_ret (pe_and (pe_callB (id := "isinstance") (r := rIsi K) call_isi (by rfl) T.isinstance (by decide +kernel) (pa_cons (pv 1) (pa_cons (pe_bltn (v := .ty "list") (by rfl) T.list_ (by decide +kernel) rfl) pa_nil))) (pe_one (pe_callB (id := "all") (r := rAll K) (cr_all rfl) (by rfl) T.all (by decide +kernel) (pa_cons (pe_lc (own := [("name", 2)]) (g := gName 2) (by rfl) sc_is_played_list.nd (pi_list (pv 1)) (blkOk_by (own := [("name", 2)]) (N := ["grammar", "thing", "name"]) (sc := defScope s_is_played_list) (by decide +kernel)) (fun _ _ _ _ _ => (pg_name (i := 2) sc_is_played_list.nd rfl (Or.inl rfl))) (fun _ _ _ _ _ => pts_nil) (fun _ _ _ _ _ => (pe_and (pe_callB (id := "isinstance") (r := rIsi K) call_isi (by rfl) T.isinstance (by decide +kernel) (pa_cons (pv 2) (pa_cons (pe_bltn (v := .ty "str") (by rfl) T.str_ (by decide +kernel) rfl) pa_nil))) (pe_one (pe_meth (pv 0) T.cl_Grammar T.m_Grammar_has G_Grammar_has (hr.mono (by decide)) T.b_Grammar_has .nil pass0 (pa_cons (pv 2) pa_nil)))))) pa_nil)))))), ?_⟩
    refine ⟨_, rfl, _, _, _, _, true, rfl, .ty _, .base (.lst ha), kit_ty (by decide +kernel), _, rfl, iteT ?_⟩
    refine ⟨_, rfl, a, rfl, ⟨_, SqL.of ha⟩, fun D hD => lc_list (K := K) (a := a) (xs := x.map V.str) (fun i H' => Same H H' ∧ H' D = some (.lst ((List.replicate i true).map V.bl))) ?_ ?_ ?_ ?_⟩
    · exact ⟨same_new hD, upd_same⟩
    · rintro i H' _ ⟨sm, _⟩
      exact SqL.of (sm _ _ ha)
    · rintro i v H1 hi ⟨sm1, h1⟩
      obtain ⟨n, hn, rfl⟩ := map_at hi
      have hil := (List.getElem?_eq_some_iff.mp hn).1
      obtain ⟨dx, kn, stt, od, hg⟩ := (G.same sm1).ins
      refine ⟨rfl, tyes (iteT ?_)⟩
      refine ⟨_, rfl, _, _, _, _, true, rfl, .ty _, .base (.str _), kit_ty (by decide +kernel), _, rfl, iteT ?_⟩
      refine ⟨_, rfl, g, _, _, rfl, hg, gfs_no _ _ _ (by decide +kernel) (by decide +kernel) (by decide +kernel), _, rfl, g, names, rs, n, rfl, G.same sm1, ?_⟩
      rw [decide_eq_true (hx n (List.mem_of_getElem? hn))]
      exact ⟨_, h1, by rw [List.length_map, List.length_replicate]; exact sl1 (by omega), same_mut sm1 hD, by rw [upd_same, List.replicate_succ', List.map_append]; rfl⟩
    · rintro H1 ⟨sm1, h1⟩
      rw [List.length_map] at h1
      refine ⟨D, _, rfl, SqL.of h1, ?_⟩
      rw [all_true]
      exact q H1 sm1
def sp_prow (C : Addr) : Sp := fun vs H Q _ => ∃ (g t : Addr) (names : List Str) (rs : List Rule) (q : PRow), vs = [.ref g, .ref t] ∧ GramAt C H g names rs ∧ PlAt H t q ∧ PRowN names q ∧ ∀ H', Same H H' → Q (.bl true) H'
theorem ok_is_played_row (T : Txt K mg A) : FnOk P w K mg base CX0 3 A.a_is_played_row A.d_is_played_row ["grammar", "thing"] (sp_prow A.c_Grammar) := by
  have G_is_played_list : FnOk P w K mg base CX0 2 A.a_is_played_list A.d_is_played_list ["grammar", "thing"] (sp_plist A.c_Grammar) := ok_is_played_list T
  refine T.F_is_played_row.ok sc_is_played_row (fun vs H Q E h => ?_) (fun cdv A0 outer s0 H vs Q E hr h => ?_)
  · obtain ⟨_, _, _, _, _, rfl, _⟩ := h
    rfl
  · obtain ⟨g, t, names, rs, q, rfl, G, hp, hn, qq⟩ := h
    obtain ⟨a, b, c, ht, ha, hb, hc⟩ := hp
    have hsd : q.sd = 0 ∨ q.sd = 1 := by have := hn.sd; omega
    refine ⟨_, (pss_cons (ps_if (PW.pt (pw_or (pt_not (pt_val (pe_callB (id := "isinstance") (r := rIsi K) call_isi (by rfl) T.isinstance (by decide +kernel) (pa_cons (pv 1) (pa_cons (pe_bltn (v := .ty "tuple") (by rfl) T.tuple_ (by decide +kernel) rfl) pa_nil))))) (pw_or (pt_cmpR op_ne (pe_callB (id := "len") (r := Evl.rLenS K) call_len_seq (by rfl) T.len (by decide +kernel) (pa_cons (pv 1) pa_nil)) pe_int (nomark _)) (pw_or1 (pt_not (pt_val (pe_callB (id := "isinstance") (r := rIsi K) call_isi (by rfl) T.isinstance (by decide +kernel) (pa_cons (pe_ix (r := rIxT K) ix_tup (pv 1) pe_int (fun _ _ => rfl)) (pa_cons (pe_bltn (v := .ty "str") (by rfl) T.str_ (by decide +kernel) rfl) pa_nil))))))))) (pss_one (ps_ret pe_bl)) pss_nil)
 (pss_cons (ps_if (PW.pt (pw_or (pt_not (pt_val (pe_callB (id := "isinstance") (r := rIsi K) call_isi (by rfl) T.isinstance (by decide +kernel) (pa_cons (pe_ix (r := rIxT K) ix_tup (pv 1) pe_int (fun _ _ => rfl)) (pa_cons (pe_bltn (v := .ty "int") (by rfl) T.int_ (by decide +kernel) rfl) pa_nil))))) (pw_or (pt_val (pe_callB (id := "isinstance") (r := rIsi K) call_isi (by rfl) T.isinstance (by decide +kernel) (pa_cons (pe_ix (r := rIxT K) ix_tup (pv 1) pe_int (fun _ _ => rfl)) (pa_cons (pe_bltn (v := .ty "bool") (by rfl) T.bool_ (by decide +kernel) rfl) pa_nil)))) (pw_or1 (pt_not (pt_chain op_le op_le pe_int (pe_ix (r := rIxT K) ix_tup (pv 1) pe_int (fun _ _ => rfl)) pe_int)))))) (pss_one (ps_ret pe_bl)) pss_nil)
 (pss_one (ps_ret (pe_callB (id := "all") (r := rAll K) (cr_all rfl) (by rfl) T.all (by decide +kernel) (pa_cons (pe_lc (own := [("at", 2)]) (g := gName 2) (by rfl) sc_is_played_row.nd (pi_list (pe_lst (pa_cons pe_int (pa_cons pe_int (pa_cons pe_int pa_nil))))) (blkOk_by (own := [("at", 2)]) (N := ["grammar", "thing", "at"]) (sc := defScope s_is_played_row) (by decide +kernel)) (fun _ _ _ _ _ => (pg_name (i := 2) sc_is_played_row.nd rfl (Or.inl rfl))) (fun _ _ _ _ _ => pts_nil) (fun _ _ _ _ _ => (pe_call G_is_played_list (hr.mono (by decide)) (by rfl) T.g_is_played_list T.F_is_played_list.kp T.b_is_played_list .nil pass0 (pa_cons (pv 0) (pa_cons (pe_ix (r := rIxT K) ix_tup (pv 1) (pv 2) (fun _ _ => rfl)) pa_nil))))) pa_nil)))))), ?_⟩
    refine ⟨_, rfl, _, _, _, _, true, rfl, .ty _, .base (.tup ht), kit_ty (by decide +kernel), _, rfl, iteF ?_⟩
    refine ⟨_, rfl, t, _, rfl, .inr (SqT.of ht), rfl, _, rfl, iteF ?_⟩
    refine ⟨_, rfl, _, _, _, _, rfl, rfl, SqT.of ht, atI_nat (j := 3) rfl, _, _, _, _, true, rfl, .ty _, .base (.str _), kit_ty (by decide +kernel), _, rfl, iteF ?_⟩
    refine ⟨_, rfl, _, _, _, _, rfl, rfl, SqT.of ht, atI_nat (j := 2) rfl, _, _, _, _, true, rfl, .ty _, .base (.int _), kit_ty (by decide +kernel), _, rfl, iteF ?_⟩
    refine ⟨_, rfl, _, _, _, _, rfl, rfl, SqT.of ht, atI_nat (j := 2) rfl, _, _, _, _, false, rfl, .ty _, .base (.int _), kit_ty (by decide +kernel), _, rfl, iteF ?_⟩
    refine ⟨_, rfl, _, _, _, _, rfl, rfl, SqT.of ht, atI_nat (j := 2) rfl, _, _, rfl, rfl, _, rfl, ?_⟩
    rw [decide_eq_true (show (0 : Int) ≤ (q.sd : Int) by omega)]
    refine iteT ⟨_, _, rfl, rfl, _, rfl, iteNE (decide_eq_true (show (q.sd : Int) ≤ 1 by omega)) ?_⟩
    refine ⟨sl2 (by show 3 ≤ 1000000; decide), fun l hl => ?_⟩
    have sml := same_new hl (o := .lst [V.int 0, V.int 1, V.int 4])
    have hll : (upd H l (.lst [V.int 0, V.int 1, V.int 4])) l = some (.lst [V.int 0, V.int 1, V.int 4]) := upd_same
    generalize (upd H l (.lst [V.int 0, V.int 1, V.int 4])) = H1 at sml hll ⊢
    refine ⟨l, rfl, ⟨_, SqL.of hll⟩, fun D hD => lc_list (K := K) (a := l) (xs := [V.int 0, V.int 1, V.int 4]) (fun i H' => Same H1 H' ∧ H' D = some (.lst ((List.replicate i true).map V.bl))) ?_ ?_ ?_ ?_⟩
    · exact ⟨same_new hD, upd_same⟩
    · rintro i H' _ ⟨sm, _⟩
      exact SqL.of (sm _ _ hll)
    · rintro i v H2 hi ⟨sm2, h2⟩
      have sm02 := sml.trans sm2
      have hil : i < 3 := (List.getElem?_eq_some_iff.mp hi).1
      have fin : ∀ (u : Addr) (row : List Str) (j : Nat), v = .int (j : Int) → [V.ref a, V.ref b, V.int (q.sd : Int), V.str q.z, V.ref c][j]? = some (V.ref u) → H u = some (.lst (row.map V.str)) → (∀ z ∈ row, z ∈ names) → row.length ≤ 900 → tCall (sp_plist A.c_Grammar) [] E0 (tCons (tVar 0) (tCons (tOp (rIxT K) (tVar 1) (tVar 2)) tNil)) [some (V.ref g), some (V.ref t), some v] H2 (fun x H3 => ∃ ys, H3 D = some (.lst ys) ∧ ys.length + 1 ≤ sizeLine ∧ (Same H1 (upd H3 D (.lst (ys ++ [x]))) ∧ (upd H3 D (.lst (ys ++ [x]))) D = some (.lst ((List.replicate (i + 1) true).map V.bl)))) := fun u row j ev hj hu2 hin hrl => by
        subst ev
        refine ⟨_, rfl, _, rfl, _, rfl, _, _, _, _, rfl, rfl, SqT.of (sm02 _ _ ht), atI_nat (j := j) hj, g, u, names, rs, row, rfl, G.same sm02, sm02 _ _ hu2, hin, by omega, fun H3 sm3 => ?_⟩
        exact ⟨_, sm3 _ _ h2, by rw [List.length_map, List.length_replicate]; exact sl1 (by omega), same_mut (sm2.trans sm3) hD, by rw [upd_same, List.replicate_succ', List.map_append]; rfl⟩
      refine ⟨rfl, tyes (iteT ?_)⟩
      have : i = 0 ∨ i = 1 ∨ i = 2 := by omega
      rcases this with rfl | rfl | rfl
      · exact fin a q.x 0 (Option.some.inj hi).symm rfl ha hn.x hn.xl
      · exact fin b q.y 1 (Option.some.inj hi).symm rfl hb hn.y hn.yl
      · exact fin c q.r 4 (Option.some.inj hi).symm rfl hc hn.r hn.rl
    · rintro H2 ⟨sm2, h2⟩
      refine ⟨D, _, rfl, SqL.of h2, ?_⟩
      rw [all_true]
      exact qq H2 (sml.trans sm2)
end
section
variable {P : Program} {w : World} {K : PySem.W.Frag} {mg : Str → Option Value} {base : Heap} {A : Ad}
def kTw (q : Two2) : NestedKey := .tup [kRow q.1, kRow q.2]
theorem kTw_inj {p q : Two2} (h : kTw p = kTw q) : p = q := by
  unfold kTw at h
  have h1 := NestedKey.tup.inj h
  have h2 := List.cons.inj h1
  have h3 := List.cons.inj h2.2
  exact Prod.ext (kRow_inj h2.1) (kRow_inj h3.1)
theorem depth_kTw (q : Two2) : (kTw q).depth ≤ 8 := by
  unfold kTw
  rw [NestedKey.depth, NestedKey.depthAll, NestedKey.depthAll, NestedKey.depthAll, depth_row, depth_row]
  decide
theorem nk_kTw {H : Hp} {t t2 u : Addr} {x y : List Str} (h : H u = some (.tup [.ref t, .ref t2])) (h1 : H t = some (.tup (x.map V.str))) (h2 : H t2 = some (.tup (y.map V.str))) : NK H (kTw (x, y)) (.ref u) := .tup h (.cons (nk_row h1) (.cons (nk_row h2) .nil))
theorem atN_some {xs : List NEnt} {ah : List Two2} (h : xs.map (·.1) = ah.map kTw) (q : Two2) : (atN xs (kTw q)).isSome = decide (q ∈ ah) := by
  have e : (atN xs (kTw q)).isSome = true ↔ q ∈ ah := by
    unfold atN
    rw [Option.isSome_map, List.find?_isSome]
    constructor
    · rintro ⟨z, hz, h1⟩
      have h2 : z.1 ∈ ah.map kTw := by rw [← h]; exact List.mem_map.mpr ⟨z, hz, rfl⟩
      obtain ⟨p, hp, h3⟩ := List.mem_map.mp h2
      rw [of_decide_eq_true h1] at h3
      rw [← kTw_inj h3]
      exact hp
    · intro hq
      have h2 : kTw q ∈ xs.map (·.1) := by rw [h]; exact List.mem_map.mpr ⟨q, hq, rfl⟩
      obtain ⟨z, hz, h3⟩ := List.mem_map.mp h2
      exact ⟨z, hz, decide_eq_true h3⟩
  by_cases c : q ∈ ah
  · rw [e.mpr c, decide_eq_true c]
  · rw [decide_eq_false c]
    cases c2 : (atN xs (kTw q)).isSome with
    | false => rfl
    | true => exact absurd (e.mp c2) c
theorem atN_none {xs : List NEnt} {ah : List Two2} (h : xs.map (·.1) = ah.map kTw) {q : Two2} (hq : q ∉ ah) : atN xs (kTw q) = none := by
  have := atN_some h q
  rw [decide_eq_false hq] at this
  exact Option.isNone_iff_eq_none.mp (by rw [← Option.not_isSome, this]; rfl)
def pfs (g : Addr) (kind : Str) (kn d : Addr) : List (Str × V) := putF "ahead" (.ref d) (putF "known" (.ref kn) (putF "kind" (.str kind) (putF "grammar" (.ref g) [])))
theorem pk1 : ¬ (("grammar" : Str) = "ahead") := by decide +kernel
theorem pk2 : ¬ (("grammar" : Str) = "known") := by decide +kernel
theorem pk3 : ¬ (("grammar" : Str) = "kind") := by decide +kernel
theorem pk4 : ¬ (("kind" : Str) = "ahead") := by decide +kernel
theorem pk5 : ¬ (("kind" : Str) = "known") := by decide +kernel
theorem pk6 : ¬ (("known" : Str) = "ahead") := by decide +kernel
theorem pfs_grammar (g : Addr) (k : Str) (kn d : Addr) : (pfs g k kn d).lookup ("grammar" : Str) = some (.ref g) := by
  unfold pfs
  rw [lookup_putF, if_neg pk1, lookup_putF, if_neg pk2, lookup_putF, if_neg pk3, lookup_putF, if_pos rfl]
theorem pfs_kind (g : Addr) (k : Str) (kn d : Addr) : (pfs g k kn d).lookup ("kind" : Str) = some (.str k) := by
  unfold pfs
  rw [lookup_putF, if_neg pk4, lookup_putF, if_neg pk5, lookup_putF, if_pos rfl]
theorem pfs_known (g : Addr) (k : Str) (kn d : Addr) : (pfs g k kn d).lookup ("known" : Str) = some (.ref kn) := by
  unfold pfs
  rw [lookup_putF, if_neg pk6, lookup_putF, if_pos rfl]
theorem pfs_ahead (g : Addr) (k : Str) (kn d : Addr) : (pfs g k kn d).lookup ("ahead" : Str) = some (.ref d) := by
  unfold pfs
  rw [lookup_putF, if_pos rfl]
theorem pfs_no (g : Addr) (k : Str) (kn d : Addr) {m : Str} (h1 : ¬ m = "grammar") (h2 : ¬ m = "kind") (h3 : ¬ m = "known") (h4 : ¬ m = "ahead") : (pfs g k kn d).lookup m = none := by
  unfold pfs
  rw [lookup_putF, if_neg h4, lookup_putF, if_neg h3, lookup_putF, if_neg h2, lookup_putF, if_neg h1]
  rfl
/-- a Playing instance -/
structure PyAt (P : Program) (w : World) (C : Addr) (H : Hp) (c g kn d : Addr) (kind : Str) (names : List Str) (rs : List Rule) (ah : List Two2) : Prop where
  ins : ∃ dx, H c = some (.ins C dx (pfs g kind kn d))
  kno : H kn = some (.dK (kvsW names (normW rs)))
  dic : ∃ xs, H d = some (dictN P w d xs) ∧ KeysN H xs ∧ xs.map (·.1) = ah.map kTw
theorem PyAt.same {C : Addr} {H H' : Hp} {c g kn d : Addr} {kind : Str} {names : List Str} {rs : List Rule} {ah : List Two2} (h : PyAt P w C H c g kn d kind names rs ah) (e : Same H H') : PyAt P w C H' c g kn d kind names rs ah := by
  obtain ⟨dx, h1⟩ := h.ins
  obtain ⟨xs, h2, h3, h4⟩ := h.dic
  exact ⟨⟨dx, e _ _ h1⟩, e _ _ h.kno, xs, e _ _ h2, h3.same e, h4⟩
theorem PyAt.mutL {C : Addr} {H : Hp} {c g kn d D : Addr} {kind : Str} {names : List Str} {rs : List Rule} {ah : List Two2} (h : PyAt P w C H c g kn d kind names rs ah) {l : List V} (hD : H D = some (.lst l)) (l2 : List V) : PyAt P w C (upd H D (.lst l2)) c g kn d kind names rs ah := by
  obtain ⟨dx, h1⟩ := h.ins
  obtain ⟨xs, h2, h3, h4⟩ := h.dic
  have n1 : c ≠ D := ne_of h1 hD fun z => by cases z
  have n2 : d ≠ D := (ne_dictN h2 hD fun φ z => by cases z).symm
  have n3 : kn ≠ D := ne_of h.kno hD fun z => by cases z
  exact ⟨⟨dx, by rw [upd_ne n1]; exact h1⟩, by rw [upd_ne n3]; exact h.kno, xs, by rw [upd_ne n2]; exact h2, fun x hx => ⟨(h3 x hx).1.mutT (fun t xs e => ne_of e hD fun z => by cases z) _, (h3 x hx).2⟩, h4⟩
theorem GramAt.insN {C CG : Addr} {H H' : Hp} {g c : Addr} {dx : Addr} {names : List Str} {rs : List Rule} (h : GramAt CG H g names rs) (hc : H c = some (.ins C dx [])) (b : But c H H') : GramAt CG H' g names rs := by
  obtain ⟨dx2, kn, st, od, ls, h1, h2, h3, h4⟩ := h.ex
  have k : ∀ {a : Addr} {o : HO}, H a = some o → o ≠ .ins C dx [] → H' a = some o := fun {a} {o} h n => b _ _ (fun z => n (by rw [z, hc] at h; exact (Option.some.inj h).symm)) h
  refine ⟨dx2, kn, st, od, ls, k h1 fun z => ?_, k h2 fun z => (by cases z), ⟨k h3.1 fun z => (by cases z), Paired.mapP h3.2.1 fun _ _ ⟨ts, h5, h6⟩ => ⟨ts, k h5 fun z => (by cases z), Paired.mapP h6 fun _ _ ⟨x, h7, h8⟩ => ⟨x, k h7 fun z => (by cases z), k h8 fun z => (by cases z)⟩⟩, h3.2.2⟩, k h4 fun z => (by cases z)⟩
  cases z
def sp_P_init (P : Program) (w : World) (C CG : Addr) : Sp := fun vs H Q _ => ∃ (c dx g : Addr) (kind : Str) (names : List Str) (rs : List Rule), vs = [.ref c, .ref g, .str kind] ∧ H c = some (.ins C dx []) ∧ GramAt CG H g names rs ∧ names.Nodup ∧ names.length ≤ 1000 ∧ (∀ r ∈ rs, r.1 ∈ names ∧ ∀ x ∈ r.2.2, x ∈ names) ∧ ShortR rs ∧ ∀ kn d H', (∀ b o, H b = some o → b ≠ c → H' b = some o) → H d = none → H kn = none → PyAt P w C H' c g kn d kind names rs [] → Q .non H'
theorem ok_Playing___init__ (T : Txt K mg A) : FnOk P w K mg base CX0 3 A.a_Playing___init__ A.d_Playing___init__ ["self", "grammar", "kind"] (sp_P_init P w A.c_Playing A.c_Grammar) := by
  have G_norms : FnOk P w K mg base CX0 2 A.a_norms A.d_norms ["grammar"] (sp_norms A.c_Grammar) := ok_norms T
  refine T.F_Playing___init__.ok sc_Playing___init__ (fun vs H Q E h => ?_) (fun cdv A0 outer s H vs Q E hr h => ?_)
  · obtain ⟨_, _, _, _, _, _, rfl, _⟩ := h
    rfl
  · obtain ⟨c, dx, g, kind, names, rs, rfl, hc, G, nnd, hnl, hin, hsh, q⟩ := h
    refine ⟨_, (pss_cons (ps_fld (pv 0) (pv 1) rfl)
 (pss_cons (ps_fld (pv 0) (pv 2) rfl)
 (pss_cons (ps_fld (pv 0) (pe_call G_norms (hr.mono (by decide)) (by rfl) T.g_norms T.F_norms.kp T.b_norms .nil pass0 (pa_cons (pv 1) pa_nil)) rfl)
 (pss_one (ps_fld (pv 0) pe_dnewN rfl))))), ?_⟩
    have hl0 : ([] : List (Str × V)).length = 0 := rfl
    have h1 := length_putF "grammar" (V.ref g) ([] : List (Str × V))
    have h2 := length_putF "kind" (V.str kind) (putF "grammar" (V.ref g) ([] : List (Str × V)))
    have h3 := fun kn => length_putF "known" (V.ref kn) (putF "kind" (V.str kind) (putF "grammar" (V.ref g) ([] : List (Str × V))))
    rw [hl0] at h1
    refine ⟨_, rfl, _, rfl, c, A.c_Playing, dx, [], rfl, hc, T.cl_Playing, T.n_Playing_grammar, by show 0 < 1000; decide, ?_⟩
    refine ⟨_, rfl, _, rfl, c, A.c_Playing, dx, _, rfl, upd_same, T.cl_Playing, T.n_Playing_kind, by omega, ?_⟩
    have b2 : But c H (upd (upd H c (.ins A.c_Playing dx (putF "grammar" (.ref g) []))) c (.ins A.c_Playing dx (putF "kind" (.str kind) (putF "grammar" (.ref g) [])))) := ((But.refl c H).own _).own _
    have hc2 : (upd (upd H c (.ins A.c_Playing dx (putF "grammar" (.ref g) []))) c (.ins A.c_Playing dx (putF "kind" (.str kind) (putF "grammar" (.ref g) [])))) c = some (.ins A.c_Playing dx (putF "kind" (.str kind) (putF "grammar" (.ref g) []))) := upd_same
    have G2 := G.insN hc b2
    generalize (upd (upd H c (.ins A.c_Playing dx (putF "grammar" (.ref g) []))) c (.ins A.c_Playing dx (putF "kind" (.str kind) (putF "grammar" (.ref g) [])))) = H2 at b2 hc2 G2 ⊢
    refine ⟨_, rfl, g, names, rs, rfl, G2, nnd, hnl, hin, hsh, fun kn H3 hkn sm3 hkn3 => ?_⟩
    have hc3 := sm3 _ _ hc2
    refine ⟨_, rfl, c, A.c_Playing, dx, _, rfl, hc3, T.cl_Playing, T.n_Playing_known, by omega, ?_⟩
    have nck : c ≠ kn := ne_of_none hc2 hkn
    intro d hd
    have ncd : c ≠ d := fun z => by rw [← z, upd_same] at hd; cases hd
    have hd3 : H3 d = none := by rw [upd_ne ncd.symm] at hd; exact hd
    have nkd : kn ≠ d := ne_of_none hkn3 hd3
    have h3 := h3 kn
    refine ⟨_, rfl, c, A.c_Playing, dx, _, rfl, same_new hd _ _ upd_same, T.cl_Playing, T.n_Playing_ahead, by omega, ?_⟩
    have hfr : ∀ {a : Addr}, a ≠ c → H2 a = none → H a = none := fun {a} n h => by
      cases e : H a with
      | none => rfl
      | some o => rw [b2 _ _ n e] at h; cases h
    refine q kn d _ (fun b o h n => ?_) (hfr ncd.symm (sm3.free hd3)) (hfr nck.symm hkn) ⟨⟨dx, upd_same⟩, ?_, [], ?_, fun x hx => (nomatch hx), rfl⟩
    · have h9 := sm3 _ _ (b2 b o n h)
      rw [upd_ne n, upd_ne (ne_of_none h9 hd3), upd_ne n]
      exact h9
    · rw [upd_ne nck.symm, upd_ne nkd, upd_ne nck.symm]
      exact hkn3
    · rw [upd_ne ncd.symm, upd_same]
      rfl
def sp_P_key (P : Program) (w : World) (C : Addr) : Sp := fun vs H Q _ => ∃ (c g kn d a b : Addr) (kind : Str) (names : List Str) (rs : List Rule) (ah : List Two2) (x y : List Str), vs = [.ref c, .ref a, .ref b] ∧ PyAt P w C H c g kn d kind names rs ah ∧ H a = some (.lst (x.map V.str)) ∧ H b = some (.lst (y.map V.str)) ∧ x.length ≤ 1000 ∧ y.length ≤ 1000 ∧
  ∀ u t t2 H', Same H H' → H' u = some (.tup [.ref t, .ref t2]) → H' t = some (.tup ((ordK kind x).map V.str)) → H' t2 = some (.tup ((ordK kind y).map V.str)) → Q (.ref u) H'
theorem ok_Playing_key_of (T : Txt K mg A) : FnOk P w K mg base CX0 2 A.a_Playing_key_of A.d_Playing_key_of ["self", "one", "other"] (sp_P_key P w A.c_Playing) := by
  have G_in_order : FnOk P w K mg base CX0 1 A.a_in_order A.d_in_order ["kind", "one"] sp_in_order := ok_in_order T
  refine T.F_Playing_key_of.ok sc_Playing_key_of (fun vs H Q E h => ?_) (fun cdv A0 outer s H vs Q E hr h => ?_)
  · obtain ⟨_, _, _, _, _, _, _, _, _, _, _, _, rfl, _⟩ := h
    rfl
  · obtain ⟨c, g, kn, d, a, b, kind, names, rs, ah, x, y, rfl, py, ha, hb, hx, hy, q⟩ := h
    obtain ⟨dx, hc⟩ := py.ins
    refine ⟨_, (pss_one (ps_ret (pe_tup (pa_cons (pe_callTy (T := "tuple") call_tuple_of (by rfl) T.tuple_ (by decide +kernel) (pa_cons (pe_call G_in_order (hr.mono (by decide)) (by rfl) T.g_in_order T.F_in_order.kp T.b_in_order .nil pass0 (pa_cons (pe_fld (pv 0) rfl) (pa_cons (pv 1) pa_nil))) pa_nil)) (pa_cons (pe_callTy (T := "tuple") call_tuple_of (by rfl) T.tuple_ (by decide +kernel) (pa_cons (pe_call G_in_order (hr.mono (by decide)) (by rfl) T.g_in_order T.F_in_order.kp T.b_in_order .nil pass0 (pa_cons (pe_fld (pv 0) rfl) (pa_cons (pv 2) pa_nil))) pa_nil)) pa_nil))))), ?_⟩
    refine ⟨_, rfl, c, A.c_Playing, dx, _, _, rfl, hc, T.cl_Playing, T.n_Playing_kind, pfs_kind g kind kn d, _, rfl, a, kind, x, rfl, ha, hx, fun p1 H1 hp1 sm1 h1 => ?_⟩
    refine ⟨p1, _, rfl, .inl ⟨SqL.of h1, fun t ht => ?_⟩⟩
    have smt := same_new ht (o := .tup ((ordK kind x).map V.str))
    have ht1 : (upd H1 t (.tup ((ordK kind x).map V.str))) t = some (.tup ((ordK kind x).map V.str)) := upd_same
    generalize (upd H1 t (.tup ((ordK kind x).map V.str))) = H2 at smt ht1 ⊢
    have sm2 := sm1.trans smt
    refine ⟨_, rfl, c, A.c_Playing, dx, _, _, rfl, sm2 _ _ hc, T.cl_Playing, T.n_Playing_kind, pfs_kind g kind kn d, _, rfl, b, kind, y, rfl, sm2 _ _ hb, hy, fun p2 H3 hp2 sm3 h3 => ?_⟩
    refine ⟨p2, _, rfl, .inl ⟨SqL.of h3, fun t2 ht2 => ?_⟩⟩
    have smt2 := same_new ht2 (o := .tup ((ordK kind y).map V.str))
    have ht3 : (upd H3 t2 (.tup ((ordK kind y).map V.str))) t2 = some (.tup ((ordK kind y).map V.str)) := upd_same
    have ht13 := smt2 _ _ (sm3 _ _ ht1)
    generalize (upd H3 t2 (.tup ((ordK kind y).map V.str))) = H4 at smt2 ht3 ht13 ⊢
    refine ⟨sl2 (by show 2 ≤ 1000000; decide), fun u hu => ?_⟩
    have smu := same_new hu (o := .tup [.ref t, .ref t2])
    exact q u t t2 _ (sm2.trans (sm3.trans (smt2.trans smu))) upd_same (smu _ _ ht13) (smu _ _ ht3)
theorem known_val {names : List Str} {rs : List Rule} (he : EndsR names rs) {row : List Str} (h : ∀ x ∈ row, x ∈ names) : optV (addW (normW rs) row) = V.int ((sumN (nrmW rs) row : Nat) : Int) := by
  rw [addW_sum fun x hx => nrm_some he (h x hx)]
  rfl
theorem dec_int (a b : Nat) : decide (V.int (a : Int) = V.int (b : Int)) = decide (a = b) := by
  by_cases c : a = b
  · rw [decide_eq_true c, decide_eq_true (by rw [c])]
  · rw [decide_eq_false c, decide_eq_false fun z => c (by have := V.int.inj z; omega)]
def sp_P_parts (P : Program) (w : World) (C : Addr) : Sp := fun vs H Q _ => ∃ (c g kn d a b : Addr) (kind : Str) (names : List Str) (rs : List Rule) (ah : List Two2) (r y : List Str) (sd : Nat), vs = [.ref c, .ref a, .ref b, .int (sd : Int)] ∧ PyAt P w C H c g kn d kind names rs ah ∧ EndsR names rs ∧ H a = some (.lst (r.map V.str)) ∧ H b = some (.lst (y.map V.str)) ∧ (∀ z ∈ r, z ∈ names) ∧ (∀ z ∈ y, z ∈ names) ∧ r.length ≤ 1000 ∧ y.length ≤ 1000 ∧
  ∀ H', Same H H' → Q (.bl (decide (sumN (nrmW rs) r ≠ sumN (nrmW rs) y) || decide (pairS sd (ordK kind r) (ordK kind y) ∈ ah))) H'
theorem ok_Playing_parts (T : Txt K mg A) : FnOk P w K mg base CX0 3 A.a_Playing_parts A.d_Playing_parts ["self", "result", "answer", "side"] (sp_P_parts P w A.c_Playing) := by
  have G_added_up : FnOk P w K mg base CX0 1 A.a_added_up A.d_added_up ["norms", "row"] sp_added := ok_added_up T
  have G_Playing_key_of : FnOk P w K mg base CX0 2 A.a_Playing_key_of A.d_Playing_key_of ["self", "one", "other"] (sp_P_key P w A.c_Playing) := ok_Playing_key_of T
  refine T.F_Playing_parts.ok sc_Playing_parts (fun vs H Q E h => ?_) (fun cdv A0 outer s H vs Q E hr h => ?_)
  · obtain ⟨_, _, _, _, _, _, _, _, _, _, _, _, _, rfl, _⟩ := h
    rfl
  · obtain ⟨c, g, kn, d, a, b, kind, names, rs, ah, r, y, sd, rfl, py, he, ha, hb, hr1, hy, hrl, hyl, q⟩ := h
    have hu64 := hu64_of hr
    obtain ⟨dx, hc⟩ := py.ins
    refine ⟨_, (pss_cons (ps_if (pt_cmpR op_ne (pe_call G_added_up (hr.mono (by decide)) (by rfl) T.g_added_up T.F_added_up.kp T.b_added_up .nil pass0 (pa_cons (pe_fld (pv 0) rfl) (pa_cons (pv 1) pa_nil))) (pe_call G_added_up (hr.mono (by decide)) (by rfl) T.g_added_up T.F_added_up.kp T.b_added_up .nil pass0 (pa_cons (pe_fld (pv 0) rfl) (pa_cons (pv 2) pa_nil))) (nomark _)) (pss_one (ps_ret pe_bl)) pss_nil)
 (pss_cons (ps_if (pt_cmpR op_eq (pv 3) pe_int (nomark _)) (pss_one (ps_ret (pe_cmpR (r := rInN P w false) (op_inN hu64) (pe_meth (pv 0) T.cl_Playing T.m_Playing_key_of G_Playing_key_of (hr.mono (by decide)) T.b_Playing_key_of .nil pass0 (pa_cons (pv 1) (pa_cons (pv 2) pa_nil))) (pe_fld (pv 0) rfl) (by rfl)))) pss_nil)
 (pss_one (ps_ret (pe_cmpR (r := rInN P w false) (op_inN hu64) (pe_meth (pv 0) T.cl_Playing T.m_Playing_key_of G_Playing_key_of (hr.mono (by decide)) T.b_Playing_key_of .nil pass0 (pa_cons (pv 2) (pa_cons (pv 1) pa_nil))) (pe_fld (pv 0) rfl) (by rfl)))))), ?_⟩
    refine ⟨_, rfl, c, A.c_Playing, dx, _, _, rfl, hc, T.cl_Playing, T.n_Playing_known, pfs_known g kind kn d, _, rfl, kn, a, _, normW rs, r, rfl, py.kno, fun x hx => kvsW_val (hr1 x hx), ha, by omega, fun H1 sm1 => ?_⟩
    refine ⟨_, rfl, c, A.c_Playing, dx, _, _, rfl, sm1 _ _ hc, T.cl_Playing, T.n_Playing_known, pfs_known g kind kn d, _, rfl, kn, b, _, normW rs, y, rfl, sm1 _ _ py.kno, fun x hx => kvsW_val (hy x hx), sm1 _ _ hb, by omega, fun H2 sm2 => ?_⟩
    rw [known_val he hr1, known_val he hy]
    have sm02 := sm1.trans sm2
    have py2 := py.same sm02
    have hc2 := sm02 _ _ hc
    have ha2 := sm02 _ _ ha
    have hb2 := sm02 _ _ hb
    refine ⟨rfl, _, rfl, ?_⟩
    have e1 : (!decide (V.int ((sumN (nrmW rs) r : Nat) : Int) = V.int ((sumN (nrmW rs) y : Nat) : Int))) = decide (sumN (nrmW rs) r ≠ sumN (nrmW rs) y) := by
      rw [dec_int, ← decide_not]
    rw [e1]
    refine iteB (fun hc1 => ?_) (fun hc1 => ?_)
    · have hq := q H2 sm02
      rw [hc1, Bool.true_or] at hq
      exact hq
    · rw [hc1] at q
      have q : ∀ H', Same H H' → Q (.bl (decide (pairS sd (ordK kind r) (ordK kind y) ∈ ah))) H' := fun H' sm => by
        have := q H' sm
        rwa [Bool.false_or] at this
      obtain ⟨xs, hd, hk, hm⟩ := py2.dic
      refine ⟨_, rfl, rfl, _, rfl, ?_⟩
      by_cases c0 : sd = 0
      · subst c0
        refine iteT ?_
        refine ⟨_, rfl, c, dx, _, rfl, hc2, pfs_no g kind kn d (by decide +kernel) (by decide +kernel) (by decide +kernel) (by decide +kernel), _, rfl, _, rfl, c, g, kn, d, a, b, kind, names, rs, ah, r, y, rfl, py2, ha2, hb2, hrl, hyl, fun u t t2 H3 sm3 hu3 ht3 ht23 => ?_⟩
        refine ⟨_, rfl, c, A.c_Playing, dx, _, _, rfl, sm3 _ _ hc2, T.cl_Playing, T.n_Playing_ahead, pfs_ahead g kind kn d, kTw (ordK kind r, ordK kind y), u, d, xs, rfl, rfl, nk_kTw hu3 ht3 ht23, depth_kTw _, sm3 _ _ hd, hk.same sm3, ?_⟩
        rw [atN_some hm, Bool.false_xor]
        exact q H3 (sm02.trans sm3)
      · have e0 : decide (V.int (sd : Int) = V.int 0) = false := decide_eq_false fun z => c0 (by have := V.int.inj z; omega)
        rw [e0]
        refine iteF ?_
        refine ⟨_, rfl, c, dx, _, rfl, hc2, pfs_no g kind kn d (by decide +kernel) (by decide +kernel) (by decide +kernel) (by decide +kernel), _, rfl, _, rfl, c, g, kn, d, b, a, kind, names, rs, ah, y, r, rfl, py2, hb2, ha2, hyl, hrl, fun u t t2 H3 sm3 hu3 ht3 ht23 => ?_⟩
        refine ⟨_, rfl, c, A.c_Playing, dx, _, _, rfl, sm3 _ _ hc2, T.cl_Playing, T.n_Playing_ahead, pfs_ahead g kind kn d, kTw (ordK kind y, ordK kind r), u, d, xs, rfl, rfl, nk_kTw hu3 ht3 ht23, depth_kTw _, sm3 _ _ hd, hk.same sm3, ?_⟩
        rw [atN_some hm, Bool.false_xor]
        have hq := q H3 (sm02.trans sm3)
        unfold pairS at hq
        rw [if_neg c0] at hq
        exact hq
theorem PyAt.butR {C : Addr} {H H' : Hp} {c g kn d : Addr} {kind : Str} {names : List Str} {rs : List Rule} {ah : List Two2} (h : PyAt P w C H c g kn d kind names rs ah) (b : But d H H') : ∀ {a : Addr} {o : HO}, H a = some o → (∀ φ, o ≠ .ext φ) → H' a = some o := fun {a} {o} h1 n => by
  obtain ⟨xs, h2, _, _⟩ := h.dic
  exact b _ _ (ne_dictN h2 h1 n) h1
def sp_P_takes (P : Program) (w : World) (C CG : Addr) : Sp := fun vs H Q _ => ∃ (c g kn d t : Addr) (kind : Str) (names : List Str) (rs : List Rule) (ah : List Two2) (row : PRow), vs = [.ref c, .ref t] ∧ PyAt P w C H c g kn d kind names rs ah ∧ GramAt CG H g names rs ∧ EndsR names rs ∧ ShortR rs ∧ PlAt H t row ∧ PRowN names row ∧ (∀ x, (∀ z ∈ x, z ∈ names) → (stepsOf kind rs x).length ≤ 1000 ∧ ∀ p ∈ stepsOf kind rs x, (∀ z ∈ p.2, z ∈ names) ∧ p.2.length ≤ x.length + 2) ∧ ah.length ≤ 1000000 ∧
  ∀ H' ah', But d H H' → PyAt P w C H' c g kn d kind names rs ah' → ah' = (if okRowW (stepsOf kind rs) (nrmW rs) (ordK kind) ah row = true then ah ++ [twoO (ordK kind) row] else ah) → Q (.bl (okRowW (stepsOf kind rs) (nrmW rs) (ordK kind) ah row)) H'
theorem ok_Playing_takes (T : Txt K mg A) : FnOk P w K mg base CX0 6 A.a_Playing_takes A.d_Playing_takes ["self", "row"] (sp_P_takes P w A.c_Playing A.c_Grammar) := by
  have G_in_order : FnOk P w K mg base CX0 1 A.a_in_order A.d_in_order ["kind", "one"] sp_in_order := ok_in_order T
  have G_steps_of : FnOk P w K mg base CX0 4 A.a_steps_of A.d_steps_of ["grammar", "kind", "one"] (sp_steps_of A.c_Grammar) := ok_steps_of T
  have G_answers_to : FnOk P w K mg base CX0 5 A.a_answers_to A.d_answers_to ["grammar", "kind", "one", "letter"] (sp_answers A.c_Grammar) := ok_answers_to T
  have G_Playing_key_of : FnOk P w K mg base CX0 2 A.a_Playing_key_of A.d_Playing_key_of ["self", "one", "other"] (sp_P_key P w A.c_Playing) := ok_Playing_key_of T
  have G_Playing_parts : FnOk P w K mg base CX0 3 A.a_Playing_parts A.d_Playing_parts ["self", "result", "answer", "side"] (sp_P_parts P w A.c_Playing) := ok_Playing_parts T
  refine T.F_Playing_takes.ok sc_Playing_takes (fun vs H Q E h => ?_) (fun cdv A0 outer s H vs Q E hr h => ?_)
  · obtain ⟨_, _, _, _, _, _, _, _, _, _, rfl, _⟩ := h
    rfl
  · obtain ⟨c, g, kn, d, t, kind, names, rs, ah, row, rfl, py, G, he, hsh, hp, hn, hst, hal, q⟩ := h
    have hu64 := hu64_of hr
    obtain ⟨a, b, r, ht, ha, hb, hrr⟩ := hp
    obtain ⟨dx, hc⟩ := py.ins
    have hsd : row.sd = 0 ∨ row.sd = 1 := by have := hn.sd; omega
    refine ⟨_, (pss_cons (ps_asg (pv 1) (pg_tup (by rfl) (pgs_cons (pg_name (i := 2) sc_Playing_takes.nd rfl (Or.inl rfl)) (pgs_cons (pg_name (i := 3) sc_Playing_takes.nd rfl (Or.inl rfl)) (pgs_cons (pg_name (i := 4) sc_Playing_takes.nd rfl (Or.inl rfl)) (pgs_cons (pg_name (i := 5) sc_Playing_takes.nd rfl (Or.inl rfl)) (pgs_cons (pg_name (i := 6) sc_Playing_takes.nd rfl (Or.inl rfl)) pgs_nil)))))))
 (pss_cons (ps_set (i := 7) sc_Playing_takes.nd rfl (Or.inl rfl) (pe_meth (pv 0) T.cl_Playing T.m_Playing_key_of G_Playing_key_of (hr.mono (by decide)) T.b_Playing_key_of .nil pass0 (pa_cons (pv 2) (pa_cons (pv 3) pa_nil))))
 (pss_cons (ps_set (i := 8) sc_Playing_takes.nd rfl (Or.inl rfl) (pe_call G_steps_of (hr.mono (by decide)) (by rfl) T.g_steps_of T.F_steps_of.kp T.b_steps_of .nil pass0 (pa_cons (pe_fld (pv 0) rfl) (pa_cons (pe_fld (pv 0) rfl) (pa_cons (pe_ix (r := rIxL K) ix_list (pe_lst (pa_cons (pv 2) (pa_cons (pv 3) pa_nil))) (pv 4) (fun _ _ => rfl)) pa_nil)))))
 (pss_cons (ps_if (PW.pt (pw_or (pt_cmpR (r := rInN P w false) (op_inN hu64) (pv 7) (pe_fld (pv 0) rfl) (by rfl)) (pw_or1 (pt_cmpR (r := rNotInP K) (op_notInP hu64) (pe_tup (pa_cons (pv 5) (pa_cons (pe_call G_in_order (hr.mono (by decide)) (by rfl) T.g_in_order T.F_in_order.kp T.b_in_order .nil pass0 (pa_cons (pe_fld (pv 0) rfl) (pa_cons (pv 6) pa_nil))) pa_nil))) (pv 8) (by rfl))))) (pss_one (ps_ret pe_bl)) pss_nil)
 (pss_cons (ps_for PassesOwn.never rfl (pi_list (pe_call G_answers_to (hr.mono (by decide)) (by rfl) T.g_answers_to T.F_answers_to.kp T.b_answers_to .nil pass0 (pa_cons (pe_fld (pv 0) rfl) (pa_cons (pe_fld (pv 0) rfl) (pa_cons (pe_ix (r := rIxL K) ix_list (pe_lst (pa_cons (pv 2) (pa_cons (pv 3) pa_nil))) (pe_op op_sub pe_int (pv 4)) (fun _ _ => rfl)) (pa_cons (pv 5) pa_nil)))))) (pg_name (i := 9) sc_Playing_takes.nd rfl (Or.inl rfl))
 (pss_one (ps_if (pt_not (pt_val (pe_meth (pv 0) T.cl_Playing T.m_Playing_parts G_Playing_parts (hr.mono (by decide)) T.b_Playing_parts .nil pass0 (pa_cons (pv 6) (pa_cons (pv 9) (pa_cons (pv 4) pa_nil)))))) (pss_one (ps_ret pe_bl)) pss_nil)))
 (pss_cons (ps_asg pe_bl (pg_sub (pe_fld (pv 0) rfl) (pv 7) (set_dictN hu64)))
 (pss_one (ps_ret pe_bl)))))))), ?_⟩
    refine ⟨_, rfl, t, _, rfl, SqT.of ht, rfl, _, _, rfl, _, _, rfl, _, _, rfl, _, _, rfl, _, _, rfl, rfl, ?_⟩
    refine ⟨_, rfl, c, dx, _, rfl, hc, pfs_no g kind kn d (by decide +kernel) (by decide +kernel) (by decide +kernel) (by decide +kernel), _, rfl, _, rfl, c, g, kn, d, a, b, kind, names, rs, ah, row.x, row.y, rfl, py, ha, hb, by have := hn.xl; omega, by have := hn.yl; omega, fun u t1 t2 H1 sm1 hu1 ht1 ht2 => ?_⟩
    have hc1 := sm1 _ _ hc
    -- the steps
    refine ⟨_, rfl, c, A.c_Playing, dx, _, _, rfl, hc1, T.cl_Playing, T.n_Playing_grammar, pfs_grammar g kind kn d, _, rfl, c, A.c_Playing, dx, _, _, rfl, hc1, T.cl_Playing, T.n_Playing_kind, pfs_kind g kind kn d, ?_⟩
    refine ⟨_, rfl, _, rfl, sl2 (by show 2 ≤ 1000000; decide), fun l hl => ?_⟩
    have sml := same_new hl (o := .lst [.ref a, .ref b])
    have hll : (upd H1 l (.lst [.ref a, .ref b])) l = some (.lst [.ref a, .ref b]) := upd_same
    generalize (upd H1 l (.lst [.ref a, .ref b])) = H2 at sml hll ⊢
    have sm02 := sm1.trans sml
    obtain ⟨sa, hsa, hsav⟩ : ∃ sa : Addr, atI [V.ref a, V.ref b] (row.sd : Int) = some (.ref sa) ∧ H sa = some (.lst ((sdW row.sd row.x row.y).map V.str)) := by
      rcases hsd with e | e
      · rw [e]; exact ⟨a, rfl, ha⟩
      · rw [e]; exact ⟨b, rfl, hb⟩
    obtain ⟨oa, hoa, hoav⟩ : ∃ sa : Addr, atI [V.ref a, V.ref b] (1 - (row.sd : Int)) = some (.ref sa) ∧ H sa = some (.lst ((sdW row.sd row.y row.x).map V.str)) := by
      rcases hsd with e | e
      · rw [e]; exact ⟨b, rfl, hb⟩
      · rw [e]; exact ⟨a, rfl, ha⟩
    have hsn : ∀ z ∈ sdW row.sd row.x row.y, z ∈ names := by
      unfold sdW; split
      · exact hn.x
      · exact hn.y
    have hon : ∀ z ∈ sdW row.sd row.y row.x, z ∈ names := by
      unfold sdW; split
      · exact hn.y
      · exact hn.x
    have hsl : (sdW row.sd row.x row.y).length ≤ 900 := by
      unfold sdW; split
      · exact hn.xl
      · exact hn.yl
    have hol : (sdW row.sd row.y row.x).length ≤ 900 := by
      unfold sdW; split
      · exact hn.yl
      · exact hn.xl
    refine ⟨_, rfl, l, _, _, _, rfl, rfl, SqL.of hll, hsa, g, sa, kind, names, rs, sdW row.sd row.x row.y, rfl, G.same sm02, sm02 _ _ hsav, hsn, by omega, hsh, fun ps H3 nr => ?_⟩
    obtain ⟨_, sm3, us, hus, hpr⟩ := nr
    have sm03 := sm02.trans sm3
    have hc3 := sm03 _ _ hc
    have py3 := py.same sm03
    obtain ⟨xs, hd3, hk3, hm3⟩ := py3.dic
    have hu3 := (sml.trans sm3) _ _ hu1
    have ht13 := (sml.trans sm3) _ _ ht1
    have ht23 := (sml.trans sm3) _ _ ht2
    have hnk := nk_kTw hu3 ht13 ht23
    refine ⟨_, rfl, _, rfl, c, A.c_Playing, dx, _, _, rfl, hc3, T.cl_Playing, T.n_Playing_ahead, pfs_ahead g kind kn d, kTw (ordK kind row.x, ordK kind row.y), u, d, xs, rfl, rfl, hnk, depth_kTw _, hd3, hk3, _, rfl, ?_⟩
    rw [atN_some hm3, Bool.false_xor]
    have bt03 := but_of_same (s := d) sm03
    by_cases ck : (ordK kind row.x, ordK kind row.y) ∈ ah
    · rw [decide_eq_true ck]
      refine iteT (iteT ?_)
      have ef : okRowW (stepsOf kind rs) (nrmW rs) (ordK kind) ah row = false := by
        unfold okRowW
        rw [decide_eq_false (fun z => z ck), Bool.false_and]
      have hq := q H3 ah bt03 py3 (by rw [ef]; rfl)
      rw [ef] at hq
      exact hq
    rw [decide_eq_false ck]
    refine iteF ?_
    refine ⟨_, rfl, _, rfl, c, A.c_Playing, dx, _, _, rfl, hc3, T.cl_Playing, T.n_Playing_kind, pfs_kind g kind kn d, _, rfl, r, kind, row.r, rfl, sm03 _ _ hrr, by have := hn.rl; omega, fun r1 H4 hr10 sm4 hr4 => ?_⟩
    refine ⟨sl2 (by show 2 ≤ 1000000; decide), fun tt htt => ?_⟩
    have smt := same_new htt (o := .tup [.str row.z, .ref r1])
    have htt5 : (upd H4 tt (.tup [.str row.z, .ref r1])) tt = some (.tup [.str row.z, .ref r1]) := upd_same
    have hr5 := smt _ _ hr4
    generalize (upd H4 tt (.tup [.str row.z, .ref r1])) = H5 at smt htt5 hr5 ⊢
    have sm35 := sm4.trans smt
    have sm05 := sm03.trans sm35
    have hstp : Paired (RuleAt H5) us (stepsOf kind rs (sdW row.sd row.x row.y)) := Paired.mapP hpr fun _ _ ⟨_, wv, _, g1, g2⟩ => ⟨wv, sm35 _ _ g1, sm35 _ _ g2⟩
    refine ⟨_, rfl, eRow (row.z, ordK kind row.r), (stepsOf kind rs (sdW row.sd row.x row.y)).map eRow, dp_row ⟨r1, htt5, hr5⟩, .inl (.lst (SqL.of (sm35 _ _ hus)) (dpAll_paired (F := RuleAt H5) (fun t p h => dp_row h) hstp)), Nat.le_trans (dep_Row _) (by decide), _, rfl, ?_⟩
    have py5 := py.same sm05
    have bt05 := but_of_same (s := d) sm05
    have hc5 := sm05 _ _ hc
    by_cases cm : (row.z, ordK kind row.r) ∈ stepsOf kind rs (sdW row.sd row.x row.y)
    · rw [any_row.mpr cm]
      refine iteF ?_
      have hok : okRowW (stepsOf kind rs) (nrmW rs) (ordK kind) ah row = (ansW (stepsOf kind rs) (sdW row.sd row.y row.x) row.z).all fun v => decide (sumN (nrmW rs) (ordK kind row.r) ≠ sumN (nrmW rs) v) || decide (pairS row.sd (ordK kind row.r) v ∈ ah) := by
        unfold okRowW
        rw [decide_eq_true ck, Bool.true_and, sdW_o, sdW_o, ansW_o, ansW_o, decide_eq_true (mem_ansW.mpr cm), Bool.true_and]
      rw [hok] at q
      clear hok
      refine ⟨_, rfl, c, A.c_Playing, dx, _, _, rfl, hc5, T.cl_Playing, T.n_Playing_grammar, pfs_grammar g kind kn d, _, rfl, c, A.c_Playing, dx, _, _, rfl, hc5, T.cl_Playing, T.n_Playing_kind, pfs_kind g kind kn d, ?_⟩
      refine ⟨_, rfl, _, rfl, sl2 (by show 2 ≤ 1000000; decide), fun l2 hl2 => ?_⟩
      have sml2 := same_new hl2 (o := .lst [.ref a, .ref b])
      have hll2 : (upd H5 l2 (.lst [.ref a, .ref b])) l2 = some (.lst [.ref a, .ref b]) := upd_same
      generalize (upd H5 l2 (.lst [.ref a, .ref b])) = H6 at sml2 hll2 ⊢
      have sm06 := sm05.trans sml2
      refine ⟨_, rfl, _, _, rfl, rfl, l2, _, _, _, rfl, rfl, SqL.of hll2, hoa, _, rfl, g, oa, kind, row.z, names, rs, sdW row.sd row.y row.x, rfl, G.same sm06, sm06 _ _ hoav, hon, by omega, hsh, by have := (hst _ hon).1; omega, fun pa H7 vs7 sm7 hpa hvs => ?_⟩
      have hvs : Paired (fun u (r : List Str) => H6 u = none ∧ H7 u = some (.lst (r.map V.str))) vs7 (ansW (stepsOf kind rs) (sdW row.sd row.y row.x) row.z) := hvs
      have sm07 := sm06.trans sm7
      have hvl := paired_len hvs
      have hans : ∀ v ∈ ansW (stepsOf kind rs) (sdW row.sd row.y row.x) row.z, (∀ z ∈ v, z ∈ names) ∧ v.length ≤ 902 ∧ ordK kind v = v := fun v hv => by
        have h1 := mem_ansW.mp hv
        have h2 := (hst _ hon).2 _ h1
        exact ⟨h2.1, by have := h2.2; show v.length ≤ 902; have h3 : v.length ≤ (sdW row.sd row.y row.x).length + 2 := this; omega, stepsOf_res h1⟩
      refine ⟨pa, rfl, ⟨_, SqL.of hpa⟩, for_list (K := K) (a := pa) (xs := vs7.map V.ref) (fun i σ' H' => ∃ x9 : Option V, σ' = [some (.ref c), some (.ref t), some (.ref a), some (.ref b), some (.int (row.sd : Int)), some (.str row.z), some (.ref r), some (.ref u), some (.ref ps), x9] ∧ Same H7 H' ∧ ((ansW (stepsOf kind rs) (sdW row.sd row.y row.x) row.z).take i).all (fun v => decide (sumN (nrmW rs) (ordK kind row.r) ≠ sumN (nrmW rs) v) || decide (pairS row.sd (ordK kind row.r) v ∈ ah)) = true) ?_ ?_ ?_ ?_⟩
      · exact ⟨_, rfl, Same.refl _, rfl⟩
      · rintro i σ' H' _ ⟨_, rfl, sm, _⟩
        exact SqL.of (sm _ _ hpa)
      · rintro i v σ' H8 hi ⟨x9, rfl, sm8, hall⟩
        obtain ⟨w1, hw1, rfl⟩ := map_at hi
        obtain ⟨v1, hv1, _, hv3⟩ := L2.paired_get hvs hw1
        obtain ⟨g1, g2, g3⟩ := hans v1 (List.mem_of_getElem? hv1)
        have sm08 := sm07.trans sm8
        refine ⟨_, rfl, c, dx, _, rfl, sm08 _ _ hc, pfs_no g kind kn d (by decide +kernel) (by decide +kernel) (by decide +kernel) (by decide +kernel), _, rfl, _, rfl, _, rfl, c, g, kn, d, r, w1, kind, names, rs, ah, row.r, v1, row.sd, rfl, py.same sm08, he, sm08 _ _ hrr, sm8 _ _ hv3, hn.r, g1, by have := hn.rl; omega, by omega, fun H9 sm9 => ?_⟩
        have eb : (decide (sumN (nrmW rs) row.r ≠ sumN (nrmW rs) v1) || decide (pairS row.sd (ordK kind row.r) (ordK kind v1) ∈ ah)) = (decide (sumN (nrmW rs) (ordK kind row.r) ≠ sumN (nrmW rs) v1) || decide (pairS row.sd (ordK kind row.r) v1 ∈ ah)) := by rw [g3, sumN_o]
        rw [eb]
        refine ⟨_, rfl, ?_⟩
        cases hb1 : (decide (sumN (nrmW rs) (ordK kind row.r) ≠ sumN (nrmW rs) v1) || decide (pairS row.sd (ordK kind row.r) v1 ∈ ah)) with
        | true =>
          refine iteF ⟨_, rfl, sm8.trans sm9, ?_⟩
          rw [take_snoc hv1, List.all_append, hall, Bool.true_and, List.all_cons, hb1]
          rfl
        | false =>
          refine iteT ?_
          have ef : ((ansW (stepsOf kind rs) (sdW row.sd row.y row.x) row.z).all fun v => decide (sumN (nrmW rs) (ordK kind row.r) ≠ sumN (nrmW rs) v) || decide (pairS row.sd (ordK kind row.r) v ∈ ah)) = false := by
            rw [List.all_eq_false]
            exact ⟨v1, List.mem_of_getElem? hv1, by rw [hb1]; exact Bool.false_ne_true⟩
          rw [ef] at q
          exact q H9 ah (but_of_same (sm08.trans sm9)) (py.same (sm08.trans sm9)) rfl
      · rintro σ' H8 ⟨x9, rfl, sm8, hall⟩
        rw [List.length_map, hvl, List.take_length] at hall
        rw [hall] at q
        have sm08 := sm07.trans sm8
        have py8 := py.same sm08
        obtain ⟨xs8, hd8, hk8, hm8⟩ := py8.dic
        have hc8 := sm08 _ _ hc
        have sm38 : Same H3 H8 := sm35.trans (sml2.trans (sm7.trans sm8))
        have hnk8 := hnk.same sm38
        have hno := atN_none hm8 ck
        have hx8 : xs8.length = ah.length := by
          have := congrArg List.length hm8
          rw [List.length_map, List.length_map] at this
          exact this
        refine ⟨_, rfl, c, A.c_Playing, dx, _, _, rfl, hc8, T.cl_Playing, T.n_Playing_ahead, pfs_ahead g kind kn d, _, rfl, kTw (ordK kind row.x, ordK kind row.y), u, d, xs8, rfl, rfl, hnk8, depth_kTw _, hd8, hk8, hno, by rw [sizeLine_eq]; exact Nat.lt_of_le_of_lt (show xs8.length ≤ 1000000 by omega) (by decide), ?_⟩
        have ncd : c ≠ d := ne_dictN hd8 hc8 fun φ z => (by cases z)
        have nkd : kn ≠ d := ne_dictN hd8 py8.kno fun φ z => (by cases z)
        refine q _ (ah ++ [twoO (ordK kind) row]) ((but_of_same sm08).own _) ⟨⟨dx, by rw [upd_ne ncd]; exact hc8⟩, by rw [upd_ne nkd]; exact py8.kno, xs8 ++ [(kTw (ordK kind row.x, ordK kind row.y), u, V.bl true)], upd_same, hk8.put hd8 hnk8 (depth_kTw _), ?_⟩ rfl
        rw [List.map_append, List.map_append, hm8]
        rfl
    · have ea : ((((stepsOf kind rs (sdW row.sd row.x row.y)).map eRow).any fun z => PyData.eqv z (eRow (row.z, ordK kind row.r)))) = false := by
        cases e : ((((stepsOf kind rs (sdW row.sd row.x row.y)).map eRow).any fun z => PyData.eqv z (eRow (row.z, ordK kind row.r)))) with
        | false => rfl
        | true => exact absurd (any_row.mp e) cm
      rw [ea]
      refine iteT ?_
      have ef : okRowW (stepsOf kind rs) (nrmW rs) (ordK kind) ah row = false := by
        unfold okRowW
        rw [sdW_o, ansW_o, decide_eq_false (fun z => cm (mem_ansW.mp z)), Bool.false_and, Bool.and_false]
      have hq := q H5 ah bt05 py5 (by rw [ef]; rfl)
      rw [ef] at hq
      exact hq
end
end SG
namespace SG
open PySem PySem.Spec PyProof.Rows L2 LamX
section
variable {P : Program} {w : World} {K : PySem.W.Frag} {mg : Str → Option Value} {base : Heap} {A : Ad}
theorem paired_unsnoc {α β : Type} {F : α → β → Prop} : ∀ {xs : List α} {ys : List β} {z : β}, Paired F xs (ys ++ [z]) → ∃ us u, xs = us ++ [u] ∧ Paired F us ys ∧ F u z
  | [], ys, z, h => by
    have := paired_len h
    simp at this
  | x :: xs, [], z, h => by
    cases h with
    | cons h1 t => cases t with
      | nil => exact ⟨[], x, rfl, .nil, h1⟩
  | x :: xs, y :: ys, z, h => by
    cases h with
    | cons h1 t =>
      obtain ⟨us, u, rfl, h2, h3⟩ := paired_unsnoc t
      exact ⟨x :: us, u, rfl, .cons h1 h2, h3⟩
/-- steps are few, of names, two longer at most -/
def StepsF (names : List Str) (st : StepF) : Prop := ∀ x, (∀ z ∈ x, z ∈ names) → (st x).length ≤ 1000 ∧ ∀ p ∈ st x, (∀ z ∈ p.2, z ∈ names) ∧ p.2.length ≤ x.length + 2
theorem stepsF_of {names : List Str} {st : StepF} {s : Nat} (h : StepOk names st s) (hs : s ≤ 1000) : StepsF names st := fun x hx => ⟨Nat.le_trans (h.few x hx) hs, fun p hp => ⟨h.inn x hx p hp, h.len x hx p hp⟩⟩
def sp_play (C : Addr) : Sp := fun vs H Q _ => ∃ (g a b pl : Addr) (kind : Str) (names : List Str) (rs : List Rule) (x y : List Str) (ts : List Addr) (play : List PRow), vs = [.ref g, .str kind, .ref a, .ref b, .ref pl] ∧ GramAt C H g names rs ∧ names.Nodup ∧ names.length ≤ 1000 ∧ (∀ r ∈ rs, r.1 ∈ names ∧ ∀ x ∈ r.2.2, x ∈ names) ∧ ShortR rs ∧ EndsR names rs ∧ StepsF names (stepsOf kind rs) ∧ H a = some (.lst (x.map V.str)) ∧ H b = some (.lst (y.map V.str)) ∧ (∀ z ∈ x, z ∈ names) ∧ (∀ z ∈ y, z ∈ names) ∧ x.length ≤ 900 ∧ y.length ≤ 900 ∧
  H pl = some (.lst (ts.map V.ref)) ∧ Paired (PlAt H) ts play ∧ (∀ q ∈ play, PRowN names q) ∧ play.length ≤ 100000 ∧ ∀ H', Same H H' → Q (.bl (goodPlay (stepsOf kind rs) (nrmW rs) (ordK kind) x y play)) H'
abbrev eTw : Two2 → PyData := e2 (eT PyData.str) (eT PyData.str)
theorem enc_Tw : Enc eTw := enc_2 (enc_T enc_str) (enc_T enc_str)
theorem dp_Tw {H : Hp} {u t t2 : Addr} {x y : List Str} (h : H u = some (.tup [.ref t, .ref t2])) (h1 : H t = some (.tup (x.map V.str))) (h2 : H t2 = some (.tup (y.map V.str))) : Dp K H (.ref u) (eTw (x, y)) := .tup (SqT.of h) (.cons (.tup (SqT.of h1) (dpAll_strs _)) (.cons (.tup (SqT.of h2) (dpAll_strs _)) .nil))
theorem ok_play_holds (T : Txt K mg A) : FnOk P w K mg base CX0 9 A.a_play_holds A.d_play_holds ["grammar", "kind", "one", "other", "play"] (sp_play A.c_Grammar) := by
  have G_look_at_ends : FnOk P w K mg base CX0 4 A.a_look_at_ends A.d_look_at_ends ["grammar", "rows"] (sp_ends A.c_Grammar) := ok_look_at_ends T
  have G_is_played_row : FnOk P w K mg base CX0 3 A.a_is_played_row A.d_is_played_row ["grammar", "thing"] (sp_prow A.c_Grammar) := ok_is_played_row T
  have G_Playing___init__ : FnOk P w K mg base CX0 3 A.a_Playing___init__ A.d_Playing___init__ ["self", "grammar", "kind"] (sp_P_init P w A.c_Playing A.c_Grammar) := ok_Playing___init__ T
  have G_added_up : FnOk P w K mg base CX0 1 A.a_added_up A.d_added_up ["norms", "row"] sp_added := ok_added_up T
  have G_Playing_takes : FnOk P w K mg base CX0 6 A.a_Playing_takes A.d_Playing_takes ["self", "row"] (sp_P_takes P w A.c_Playing A.c_Grammar) := ok_Playing_takes T
  have G_Playing_key_of : FnOk P w K mg base CX0 2 A.a_Playing_key_of A.d_Playing_key_of ["self", "one", "other"] (sp_P_key P w A.c_Playing) := ok_Playing_key_of T
  refine T.F_play_holds.ok sc_play_holds (fun vs H Q E h => ?_) (fun cdv A0 outer s H vs Q E hr h => ?_)
  · obtain ⟨_, _, _, _, _, _, _, _, _, _, _, rfl, _⟩ := h
    rfl
  · obtain ⟨g, a, b, pl, kind, names, rs, x, y, ts, play, rfl, G, nnd, hnl, hin, hsh, he, hst, ha, hb, hx, hy, hxl, hyl, hpl, hpp, hpn, hlen, q⟩ := h
    have hu64 := hu64_of hr
    have htl := paired_len hpp
    refine ⟨_, (pss_cons (ps_expr (pe_call G_look_at_ends (hr.mono (by decide)) (by rfl) T.g_look_at_ends T.F_look_at_ends.kp T.b_look_at_ends .nil pass0 (pa_cons (pv 0) (pa_cons (pe_lst (pa_cons (pv 2) (pa_cons (pv 3) pa_nil))) pa_nil))))
 (pss_cons (ps_if (PW.pt (pw_or (pt_not (pt_val (pe_callB (id := "isinstance") (r := rIsi K) call_isi (by rfl) T.isinstance (by decide +kernel) (pa_cons (pv 4) (pa_cons (pe_bltn (v := .ty "list") (by rfl) T.list_ (by decide +kernel) rfl) pa_nil))))) (pw_or1 (pt_not (pt_val (pe_callB (id := "all") (r := rAll K) (cr_all rfl) (by rfl) T.all (by decide +kernel) (pa_cons (pe_lc (own := [("row", 6)]) (g := gName 6) (by rfl) sc_play_holds.nd (pi_list (pv 4)) (blkOk_by (own := [("row", 6)]) (N := ["grammar", "kind", "one", "other", "play", "playing", "row"]) (sc := defScope s_play_holds) (by decide +kernel)) (fun _ _ _ _ _ => (pg_name (i := 6) sc_play_holds.nd rfl (Or.inl rfl))) (fun _ _ _ _ _ => pts_nil) (fun _ _ _ _ _ => (pe_call G_is_played_row (hr.mono (by decide)) (by rfl) T.g_is_played_row T.F_is_played_row.kp T.b_is_played_row .nil pass0 (pa_cons (pv 0) (pa_cons (pv 6) pa_nil))))) pa_nil))))))) (pss_one (ps_ret pe_bl)) pss_nil)
 (pss_cons (ps_set (i := 5) sc_play_holds.nd rfl (Or.inr rfl) (pe_make T.mk_Playing G_Playing___init__ (hr.mono (by decide)) (by rfl) T.g_Playing T.b_Playing___init__ .nil pass0 (pa_cons (pv 0) (pa_cons (pv 1) pa_nil))))
 (pss_cons (ps_if (pt_cmpR (r := rEqP K) (op_eqP hu64) (pv 4) (pe_lst pa_nil) (nomark _)) (pss_one (ps_ret (pe_cmpR op_ne (pe_call G_added_up (hr.mono (by decide)) (by rfl) T.g_added_up T.F_added_up.kp T.b_added_up .nil pass0 (pa_cons (pe_fld (pv 5) rfl) (pa_cons (pv 2) pa_nil))) (pe_call G_added_up (hr.mono (by decide)) (by rfl) T.g_added_up T.F_added_up.kp T.b_added_up .nil pass0 (pa_cons (pe_fld (pv 5) rfl) (pa_cons (pv 3) pa_nil))) (nomark _)))) pss_nil)
 (pss_cons (ps_if (pt_not (pt_val (pe_callB (id := "all") (r := rAll K) (cr_all rfl) (by rfl) T.all (by decide +kernel) (pa_cons (pe_lc (own := [("row", 6)]) (g := gName 6) (by rfl) sc_play_holds.nd (pi_list (pv 4)) (blkOk_by (own := [("row", 6)]) (N := ["grammar", "kind", "one", "other", "play", "playing", "row"]) (sc := defScope s_play_holds) (by decide +kernel)) (fun _ _ _ _ _ => (pg_name (i := 6) sc_play_holds.nd rfl (Or.inl rfl))) (fun _ _ _ _ _ => pts_nil) (fun _ _ _ _ _ => (pe_meth (pv 5) T.cl_Playing T.m_Playing_takes G_Playing_takes (hr.mono (by decide)) T.b_Playing_takes .nil pass0 (pa_cons (pv 6) pa_nil)))) pa_nil)))) (pss_one (ps_ret pe_bl)) pss_nil)
 (pss_one (ps_ret (pe_cmpR (r := rEqP K) (op_eqP hu64) (pe_meth (pv 5) T.cl_Playing T.m_Playing_key_of G_Playing_key_of (hr.mono (by decide)) T.b_Playing_key_of .nil pass0 (pa_cons (pe_ix (r := rIxT K) ix_tup (pe_ix (r := rIxL K) ix_list (pv 4) (pe_un un_neg pe_int) (fun _ _ => rfl)) pe_int (fun _ _ => rfl)) (pa_cons (pe_ix (r := rIxT K) ix_tup (pe_ix (r := rIxL K) ix_list (pv 4) (pe_un un_neg pe_int) (fun _ _ => rfl)) pe_int (fun _ _ => rfl)) pa_nil))) (pe_meth (pv 5) T.cl_Playing T.m_Playing_key_of G_Playing_key_of (hr.mono (by decide)) T.b_Playing_key_of .nil pass0 (pa_cons (pv 2) (pa_cons (pv 3) pa_nil))) (nomark _))))))))), ?_⟩
    refine ⟨_, rfl, _, rfl, _, rfl, sl2 (by show 2 ≤ 1000000; decide), fun l hl => ?_⟩
    have sml := same_new hl (o := .lst [.ref a, .ref b])
    refine ⟨g, l, names, rs, [a, b], [x, y], rfl, G.same sml, nnd, hnl, hin, hsh, he, upd_same, .cons ⟨sml _ _ ha, hx⟩ (.cons ⟨sml _ _ hb, hy⟩ .nil), fun H1 sm1 => ?_⟩
    have sm01 := sml.trans sm1
    clear sml sm1 hl
    have hpl1 := sm01 _ _ hpl
    refine ⟨_, rfl, _, _, _, _, true, rfl, .ty _, .base (.lst hpl1), kit_ty (by decide +kernel), _, rfl, iteF ?_⟩
    refine ⟨_, rfl, pl, rfl, ⟨_, SqL.of hpl1⟩, fun D hD => lc_list (K := K) (a := pl) (xs := ts.map V.ref) (fun i H' => Same H1 H' ∧ H' D = some (.lst ((List.replicate i true).map V.bl))) ?_ ?_ ?_ ?_⟩
    · exact ⟨same_new hD, upd_same⟩
    · rintro i H' _ ⟨sm, _⟩
      exact SqL.of (sm _ _ hpl1)
    · rintro i v H2 hi ⟨sm2, h2⟩
      obtain ⟨t, ht, rfl⟩ := map_at hi
      have hil := (List.getElem?_eq_some_iff.mp ht).1
      obtain ⟨row, hr1, hr2⟩ := L2.paired_get hpp ht
      have sm02 := sm01.trans sm2
      refine ⟨rfl, tyes (iteT ?_)⟩
      refine ⟨_, rfl, _, rfl, g, t, names, rs, row, rfl, G.same sm02, hr2.same sm02, hpn row (List.mem_of_getElem? hr1), fun H3 sm3 => ?_⟩
      exact ⟨_, sm3 _ _ h2, by rw [List.length_map, List.length_replicate]; exact sl1 (by omega), same_mut (sm2.trans sm3) hD, by rw [upd_same, List.replicate_succ', List.map_append]; rfl⟩
    rintro H2 ⟨sm2, h2⟩
    refine ⟨D, _, rfl, SqL.of h2, _, rfl, iteNE all_true ?_⟩
    have sm02 := sm01.trans sm2
    clear h2 sm2 sm01 hpl1 hD
    -- Playing
    refine ⟨_, rfl, _, rfl, fun c dx hc hdx ndc => ?_⟩
    have smc : Same H2 (upd (upd H2 dx (.own c)) c (.ins A.c_Playing dx [])) := (same_new hdx).trans (same_new (by rw [upd_ne ndc.symm]; exact hc))
    have hcc : (upd (upd H2 dx (.own c)) c (.ins A.c_Playing dx [])) c = some (.ins A.c_Playing dx []) := upd_same
    generalize (upd (upd H2 dx (.own c)) c (.ins A.c_Playing dx [])) = H3 at smc hcc ⊢
    have G3 := G.same (sm02.trans smc)
    refine ⟨c, dx, g, kind, names, rs, rfl, hcc, G3, nnd, hnl, hin, hsh, fun kn d H4 k4 hd hkn py4 => ⟨rfl, ?_⟩⟩
    have hc0 : H c = none := sm02.free hc
    have hd0 : H d = none := sm02.free (smc.free hd)
    have sm04 : Same H H4 := fun b o h => k4 b o (smc _ _ (sm02 _ _ h)) (ne_of_none h hc0)
    clear k4 hcc smc G3 hdx ndc hc
    obtain ⟨dx4, hc4⟩ := py4.ins
    have hpl4 := sm04 _ _ hpl
    have hpp4 := Paired.mapP hpp fun _ _ h => PlAt.same h sm04
    have ha4 := sm04 _ _ ha
    have hb4 := sm04 _ _ hb
    refine ⟨_, rfl, Nat.zero_le _, fun e hee => ?_⟩
    have sme := same_new hee (o := .lst [])
    refine ⟨eL eP play, eL eP [], .lst (SqL.of (sme _ _ hpl4)) (dpAll_paired (F := PlAt _) (fun t p h => dp_pl h) (Paired.mapP hpp4 fun _ _ h => PlAt.same h sme)), .lst (SqL.of upd_same) .nil, Nat.le_trans (dep_L dep_P _) (by decide), _, rfl, ?_⟩
    rw [enc_L enc_P]
    have sm05 := sm04.trans sme
    have py5 := py4.same sme
    have hc5 := sme _ _ hc4
    have ha5 := sme _ _ ha4
    have hb5 := sme _ _ hb4
    generalize (upd H4 e (.lst [])) = H5 at sm05 py5 hc5 ha5 hb5 ⊢
    clear sme hpp4 hpl4 ha4 hb4 hc4 py4 sm04
    by_cases c0 : play = []
    · rw [decide_eq_true c0]
      refine iteT ?_
      refine ⟨_, rfl, c, A.c_Playing, dx4, _, _, rfl, hc5, T.cl_Playing, T.n_Playing_known, pfs_known g kind kn d, _, rfl, kn, a, _, normW rs, x, rfl, py5.kno, fun z hz => kvsW_val (hx z hz), ha5, by omega, fun H6 sm6 => ?_⟩
      refine ⟨_, rfl, c, A.c_Playing, dx4, _, _, rfl, sm6 _ _ hc5, T.cl_Playing, T.n_Playing_known, pfs_known g kind kn d, _, rfl, kn, b, _, normW rs, y, rfl, sm6 _ _ py5.kno, fun z hz => kvsW_val (hy z hz), sm6 _ _ hb5, by omega, fun H7 sm7 => ?_⟩
      rw [known_val he hx, known_val he hy]
      refine ⟨rfl, ?_⟩
      have hq := q H7 ((sm05.trans sm6).trans sm7)
      unfold goodPlay at hq
      rw [if_pos c0] at hq
      show Q (V.bl (!decide (V.int ((sumN (nrmW rs) x : Nat) : Int) = V.int ((sumN (nrmW rs) y : Nat) : Int)))) H7
      rw [dec_int, ← decide_not]
      exact hq
    rw [decide_eq_false c0]
    refine iteF ?_
    -- all taken
    have hpl5 := sm05 _ _ hpl
    refine ⟨_, rfl, pl, rfl, ⟨_, SqL.of hpl5⟩, fun D hD => lc_list (K := K) (a := pl) (xs := ts.map V.ref) (fun i H' => ∃ (ah : List Two2) (bs : List Bool), But d H5 H' ∧ PyAt P w A.c_Playing H' c g kn d kind names rs ah ∧ ah.length ≤ i ∧ H' D = some (.lst (bs.map V.bl)) ∧ bs.length = i ∧ bs.all id = goodRows (stepsOf kind rs) (nrmW rs) (ordK kind) [] (play.take i) ∧ (bs.all id = true → ah = (play.take i).map (twoO (ordK kind)))) ?_ ?_ ?_ ?_⟩
    · exact ⟨[], [], but_of_same (same_new hD), py5.same (same_new hD), Nat.le_refl _, upd_same, rfl, rfl, fun _ => rfl⟩
    · rintro i H' _ ⟨ah, bs, bt, _⟩
      exact SqL.of (py5.butR bt hpl5 fun φ z => (by cases z))
    · rintro i v H6 hi ⟨ah, bs, bt6, py6, hahl, h6, hbl, hall, hah⟩
      obtain ⟨t, ht, rfl⟩ := map_at hi
      have hil := (List.getElem?_eq_some_iff.mp ht).1
      obtain ⟨row, hr1, hr2⟩ := L2.paired_get hpp ht
      obtain ⟨xs5, hd5, _, _⟩ := py5.dic
      obtain ⟨dx6, hc6⟩ := py6.ins
      have hD0 : H5 D = none := hD
      refine ⟨rfl, tyes (iteT ?_)⟩
      refine ⟨_, rfl, c, dx6, _, rfl, hc6, pfs_no g kind kn d (by decide +kernel) (by decide +kernel) (by decide +kernel) (by decide +kernel), _, rfl, c, g, kn, d, t, kind, names, rs, ah, row, rfl, py6, (G.same sm05).butN hd5 bt6, he, hsh, (hr2.same sm05).butN hd5 bt6, hpn row (List.mem_of_getElem? hr1), hst, by omega, fun H7 ah7 bt7 py7 e7 => ?_⟩
      have h7 := py6.butR bt7 h6 fun φ z => (by cases z)
      refine ⟨_, h7, by rw [List.length_map, hbl]; exact sl1 (by omega), ah7, bs ++ [_], (bt6.trans bt7).cell hD0 _, py7.mutL h7 _, ?_, by rw [upd_same, List.map_append]; rfl, by rw [List.length_append, hbl]; rfl, ?_, fun hb1 => ?_⟩
      · rw [e7]
        split
        · rw [List.length_append]; show _ + 1 ≤ _; omega
        · omega
      · rw [List.all_append, take_snoc hr1, goodRows_snoc, ← hall, List.nil_append]
        cases hb1 : bs.all id with
        | false => rw [Bool.false_and, Bool.false_and]
        | true => rw [← hah hb1, List.all_cons, List.all_nil, Bool.and_true]; rfl
      · rw [List.all_append, Bool.and_eq_true] at hb1
        have hb2 : okRowW (stepsOf kind rs) (nrmW rs) (ordK kind) ah row = true := by
          have := hb1.2
          rw [List.all_cons, List.all_nil, Bool.and_true] at this
          exact this
        rw [e7, if_pos hb2, hah hb1.1, take_snoc hr1, List.map_append]
        rfl
    rintro H6 ⟨ah, bs, bt6, py6, hahl, h6, hbl, hall, hah⟩
    rw [List.length_map, htl, List.take_length] at hall
    have sm06 : Same H H6 := bt6.under hd0 sm05
    refine ⟨D, bs, rfl, SqL.of h6, _, rfl, ?_⟩
    cases hb1 : bs.all id with
    | false =>
      refine iteT ?_
      have hq := q H6 sm06
      unfold goodPlay at hq
      rw [if_neg c0, ← hall, hb1, Bool.false_and] at hq
      exact hq
    | true =>
      refine iteF ?_
      obtain ⟨rows, last, rfl⟩ : ∃ rows last, play = rows ++ [last] := ⟨_, _, (List.dropLast_concat_getLast c0).symm⟩
      obtain ⟨us, t, rfl, _, hlast⟩ := SG.paired_unsnoc hpp
      obtain ⟨p1, p2, p3, hp1, hp2, hp3, hp4⟩ := hlast.same sm06
      have hln := hpn last (List.mem_append_right _ List.mem_cons_self)
      obtain ⟨dx6, hc6⟩ := py6.ins
      have hpl6 := sm06 _ _ hpl
      have hat : atI ((us ++ [t]).map V.ref) (-1) = some (V.ref t) := by rw [List.map_append]; exact atI_last _ _
      refine ⟨_, rfl, c, dx6, _, rfl, hc6, pfs_no g kind kn d (by decide +kernel) (by decide +kernel) (by decide +kernel) (by decide +kernel), _, rfl, _, rfl, pl, _, _, _, rfl, rfl, SqL.of hpl6, hat, t, _, _, _, rfl, rfl, SqT.of hp1, atI_nat (j := 0) rfl, _, rfl, _, rfl, pl, _, _, _, rfl, rfl, SqL.of hpl6, hat, t, _, _, _, rfl, rfl, SqT.of hp1, atI_nat (j := 1) rfl, c, g, kn, d, p1, p2, kind, names, rs, ah, last.x, last.y, rfl, py6, hp2, hp3, by have := hln.xl; omega, by have := hln.yl; omega, fun u t1 t2 H7 sm7 hu7 ht7 ht27 => ?_⟩
      have sm07 := sm06.trans sm7
      refine ⟨_, rfl, c, dx6, _, rfl, sm7 _ _ hc6, pfs_no g kind kn d (by decide +kernel) (by decide +kernel) (by decide +kernel) (by decide +kernel), _, rfl, _, rfl, c, g, kn, d, a, b, kind, names, rs, ah, x, y, rfl, py6.same sm7, sm07 _ _ ha, sm07 _ _ hb, by omega, by omega, fun u2 t3 t4 H8 sm8 hu8 ht8 ht28 => ?_⟩
      refine ⟨eTw (ordK kind last.x, ordK kind last.y), eTw (ordK kind x, ordK kind y), dp_Tw (sm8 _ _ hu7) (sm8 _ _ ht7) (sm8 _ _ ht27), dp_Tw hu8 ht8 ht28, Nat.le_trans (dep_2 (dep_T dep_str) (dep_T dep_str) _) (by decide), ?_⟩
      rw [enc_Tw]
      have hq := q H8 (sm07.trans sm8)
      unfold goodPlay at hq
      rw [if_neg c0, ← hall, hb1, Bool.true_and, List.map_append, List.map_cons, List.map_nil, List.getLast?_concat] at hq
      have e9 : decide ((ordK kind last.x, ordK kind last.y) = (ordK kind x, ordK kind y)) = decide (some (twoO (ordK kind) last) = some (ordK kind x, ordK kind y)) := decide_eq_decide.mpr ⟨fun z => congrArg some z, fun z => Option.some.inj z⟩
      rw [e9]
      exact hq
end
end SG
namespace SG
open PySem PySem.Spec PyProof.Rows L2 LamX
section
/-! ### what may change -/
def Keep (M : List Addr) (H H' : Hp) : Prop := ∀ a o, a ∉ M → H a = some o → H' a = some o
theorem Keep.refl (M : List Addr) (H : Hp) : Keep M H H := fun _ _ _ h => h
theorem Keep.trans {M : List Addr} {H H1 H2 : Hp} (a : Keep M H H1) (b : Keep M H1 H2) : Keep M H H2 := fun x o n h => b x o n (a x o n h)
theorem Keep.same {M : List Addr} {H H1 H2 : Hp} (a : Keep M H H1) (b : Same H1 H2) : Keep M H H2 := fun x o n h => b x o (a x o n h)
theorem keep_same {M : List Addr} {H H' : Hp} (e : Same H H') : Keep M H H' := fun a o _ h => e a o h
theorem Keep.mono {M N : List Addr} {H H' : Hp} (k : Keep M H H') (h : ∀ x ∈ M, x ∈ N) : Keep N H H' := fun a o n ha => k a o (fun z => n (h a z)) ha
theorem Keep.put {M : List Addr} {H H' : Hp} {x : Addr} (k : Keep M H H') (hx : x ∈ M) (o : HO) : Keep M H (upd H' x o) := fun a u n ha => by rw [upd_ne (fun z => n (by rw [z]; exact hx))]; exact k a u n ha
theorem Keep.cell {M : List Addr} {H H' : Hp} {x : Addr} (k : Keep M H H') (hx : H x = none) (o : HO) : Keep M H (upd H' x o) := fun a u n ha => by rw [upd_ne (ne_of_none ha hx)]; exact k a u n ha
theorem Keep.free {M : List Addr} {H H' : Hp} {p : Addr} (k : Keep M H H') (hn : p ∉ M) (hp : H' p = none) : H p = none := by
  cases h : H p with
  | none => rfl
  | some o => rw [k p o hn h] at hp; cases hp
def NoM (M : List Addr) (R : Hp → Prop) (H : Hp) : Prop := ∀ H', Keep M H H' → R H'
theorem NoM.at {M : List Addr} {R : Hp → Prop} {H : Hp} (h : NoM M R H) : R H := h H (Keep.refl M H)
theorem NoM.keep {M : List Addr} {R : Hp → Prop} {H H' : Hp} (h : NoM M R H) (k : Keep M H H') : NoM M R H' := fun H2 k2 => h H2 (k.trans k2)
theorem NoM.same {M : List Addr} {R : Hp → Prop} {H H' : Hp} (h : NoM M R H) (e : Same H H') : NoM M R H' := h.keep (keep_same e)
theorem NoM.grow {M : List Addr} {R : Hp → Prop} {H H' : Hp} {x : Addr} (h : NoM M R H) (e : Same H H') (hx : H x = none) : NoM (x :: M) R H' := fun H2 k => h H2 fun a o n ha => k a o (fun z => by
  rcases List.mem_cons.mp z with z | z
  · rw [z, hx] at ha; cases ha
  · exact n z) (e a o ha)
theorem NoM.but {M : List Addr} {R : Hp → Prop} {H H' : Hp} {s : Addr} {n : Nat} (hR : ∀ H1 H2, R H1 → WellAt H1 s n → But s H1 H2 → R H2) (h : NoM M R H) (w : WellAt H s n) (bt : But s H H') : NoM M R H' := fun H2 k => by
  have h3 := h (fun a => if a = s then H s else H2 a) (fun a o na ha => by
    show (if a = s then H s else H2 a) = some o
    by_cases c : a = s
    · rw [if_pos c, ← c]; exact ha
    · rw [if_neg c]; exact k a o na (bt a o c ha))
  refine hR _ H2 h3 ?_ ?_
  · obtain ⟨a, b, c, g1, g2⟩ := w
    exact ⟨a, b, c, by show (if s = s then H s else H2 s) = _; rw [if_pos rfl]; exact g1, g2⟩
  · intro a o na ha
    have ha : (if a = s then H s else H2 a) = some o := ha
    rw [if_neg na] at ha
    exact ha
end
section
variable {P : Program} {w : World} {K : PySem.W.Frag} {mg : Str → Option Value} {base : Heap} {A : Ad}
theorem any_bl (b : Bool) (bs : List Bool) : ((bs.map PyData.bool).any fun z => PyData.eqv z (PyData.bool b)) = decide (b ∈ bs) := by
  induction bs with
  | nil => rfl
  | cons c t ih =>
    rw [List.map_cons, List.any_cons, ih]
    cases b <;> cases c <;> simp [PyData.eqv]
theorem dp_bls {H : Hp} {D : Addr} {bs : List Bool} (h : H D = some (.lst (bs.map V.bl))) : Dp K H (.ref D) (.list (bs.map PyData.bool)) := by
  refine .lst (SqL.of h) ?_
  clear h
  induction bs with
  | nil => exact .nil
  | cons c t ih => exact .cons (.bl _) ih
theorem MemAt.butR {H H' : Hp} {d : Addr} {st : StepF} {xs : List NEnt} (h : MemAt P w H d st xs) (b : But d H H') : ∀ {a : Addr} {o : HO}, H a = some o → (∀ φ, o ≠ .ext φ) → H' a = some o := fun {a} {o} h1 n => b _ _ (ne_dictN h.dic h1 n) h1
theorem MemAt.mutL {H : Hp} {d D : Addr} {st : StepF} {xs : List NEnt} (h : MemAt P w H d st xs) {l : List V} (hD : H D = some (.lst l)) (l2 : List V) : MemAt P w (upd H D (.lst l2)) d st xs := by
  have n2 : d ≠ D := (ne_dictN h.dic hD fun φ z => by cases z).symm
  exact ⟨by rw [upd_ne n2]; exact h.dic, fun x hx => ⟨(h.key x hx).1.mutT (fun t xs e => ne_of e hD fun z => by cases z) _, (h.key x hx).2⟩, h.rgt⟩
/-- room that a region gives, whatever is counted -/
structure Memo (P : Program) (w : World) (H : Hp) (d : Addr) (kind : Str) (names : List Str) (rs : List Rule) (k : Nat) (Reg : Nat → List Str → List Str → Prop) (F : List NEnt → Prop) : Prop where
  fit : FitG (stepsOf kind rs) Reg names k (fun _ => F)
  mem : ∃ xs, MemAt P w H d (stepsOf kind rs) xs ∧ F xs
theorem Memo.same {H H' : Hp} {d : Addr} {kind : Str} {names : List Str} {rs : List Rule} {k : Nat} {Reg : Nat → List Str → List Str → Prop} {F : List NEnt → Prop} (h : Memo P w H d kind names rs k Reg F) (e : Same H H') : Memo P w H' d kind names rs k Reg F := by
  obtain ⟨xs, h1, h2⟩ := h.mem
  exact ⟨h.fit, xs, h1.same e, h2⟩
theorem Memo.mutL {H : Hp} {d D : Addr} {kind : Str} {names : List Str} {rs : List Rule} {k : Nat} {Reg : Nat → List Str → List Str → Prop} {F : List NEnt → Prop} (h : Memo P w H d kind names rs k Reg F) {l : List V} (hD : H D = some (.lst l)) (l2 : List V) : Memo P w (upd H D (.lst l2)) d kind names rs k Reg F := by
  obtain ⟨xs, h1, h2⟩ := h.mem
  exact ⟨h.fit, xs, h1.mutL hD l2, h2⟩
theorem Memo.butR {H H' : Hp} {d : Addr} {kind : Str} {names : List Str} {rs : List Rule} {k : Nat} {Reg : Nat → List Str → List Str → Prop} {F : List NEnt → Prop} (h : Memo P w H d kind names rs k Reg F) (b : But d H H') : ∀ {a : Addr} {o : HO}, H a = some o → (∀ φ, o ≠ .ext φ) → H' a = some o := fun h1 n => by
  obtain ⟨xs, h2, _⟩ := h.mem
  exact h2.butR b h1 n
theorem Memo.wd {H H' : Hp} {d wd : Addr} {kind : Str} {names : List Str} {rs : List Rule} {k : Nat} {Reg : Nat → List Str → List Str → Prop} {F : List NEnt → Prop} (h : Memo P w H d kind names rs k Reg F) (b : But d H H') (W : WdAt H wd names rs) : WdAt H' wd names rs := by
  obtain ⟨xs, h2, _⟩ := h.mem
  exact W.butN h2.dic b
theorem butFree {d u : Addr} {H H' : Hp} (b : But d H H') (hd : H' d ≠ none) (hu : H' u = none) : H u = none := by
  cases e : H u with
  | none => rfl
  | some o =>
    by_cases c : u = d
    · rw [c] at hu; exact absurd hu hd
    · rw [b _ _ c e] at hu; cases hu
def sp_lasked (P : Program) (w : World) (k : Nat) : Sp := fun vs H Q _ => ∃ (wd nd d a b : Addr) (kind : Str) (m s : Nat) (names : List Str) (rs : List Rule) (x y : List Str) (Reg : Nat → List Str → List Str → Prop) (F : List NEnt → Prop), vs = [.ref wd, .str kind, .ref nd, .ref a, .ref b, .int ((m + 1 : Nat) : Int), .ref d] ∧ LokW H wd kind names rs s ∧ Memo P w H d kind names rs k Reg F ∧
  H a = some (.lst (x.map V.str)) ∧ H b = some (.lst (y.map V.str)) ∧ (∀ z ∈ x, z ∈ names) ∧ (∀ z ∈ y, z ∈ names) ∧ x.length + 2 * (m + 1) ≤ 900 ∧ y.length + 2 * (m + 1) ≤ 900 ∧ m ≤ k ∧ Reg (m + 1) x y ∧
  (askW (stepsOf kind rs) m x y = none → ∀ H', But d H H' → Memo P w H' d kind names rs k Reg F → Q .non H') ∧
  (∀ sd z r, askW (stepsOf kind rs) m x y = some (sd, (z, r)) → ∀ t u H', H u = none → But d H H' → Memo P w H' d kind names rs k Reg F → H' t = some (.tup [.int (sd : Int), .str z, .ref u]) → H' u = some (.lst (r.map V.str)) → Q (.ref t) H')
theorem ok__law_asked (T : Txt K mg A) (k : Nat) : FnOk P w K mg base CX0 (2 * k + 3) A.a__law_asked A.d__law_asked ["_law_world_here", "_law_kind", "_law_norm", "_law_one", "_law_other", "_law_many", "_law_met"] (sp_lasked P w k) := by
  have G__law_steps : FnOk P w K mg base CX0 1 A.a__law_steps A.d__law_steps ["_law_world_here", "_law_kind", "_law_one"] sp_lsteps := ok__law_steps T
  have G__law_answers : FnOk P w K mg base CX0 2 A.a__law_answers A.d__law_answers ["_law_world_here", "_law_kind", "_law_one", "_law_letter"] sp_lanswers := ok__law_answers T
  have G__law_alike : FnOk P w K mg base CX0 (2 * k + 2) A.a__law_alike A.d__law_alike ["_law_world_here", "_law_kind", "_law_one", "_law_other", "_law_many", "_law_met"] (sp_lalike P w k) := ok__law_alikes T k
  refine T.F__law_asked.ok sc__law_asked (fun vs H Q E h => ?_) (fun cdv A0 outer s0 H vs Q E hr h => ?_)
  · obtain ⟨_, _, _, _, _, _, _, _, _, _, _, _, _, _, rfl, _⟩ := h
    rfl
  · obtain ⟨wd, nd, d, a, b, kind, m, s, names, rs, x, y, Reg, F, rfl, ⟨W, hkind, hst, hs1, hsh⟩, M, ha, hb, hx, hy, hxl, hyl, hmk, hreg, qn, qs⟩ := h
    have hu64 := hu64_of hr
    refine ⟨_, (pss_cons (ps_for PassesOwn.never rfl (pi_enum (by rfl) T.enumerate (pa_cons (pe_lst (pa_cons (pe_tup (pa_cons (pv 3) (pa_cons (pv 4) pa_nil))) (pa_cons (pe_tup (pa_cons (pv 4) (pa_cons (pv 3) pa_nil))) pa_nil))) pa_nil)) (pg_tup (by rfl) (pgs_cons (pg_name (i := 7) sc__law_asked.nd rfl (Or.inl rfl)) (pgs_cons (pg_name (i := 8) sc__law_asked.nd rfl (Or.inl rfl)) pgs_nil)))
 (pss_one (ps_for PassesOwn.never rfl (pi_list (pe_call G__law_steps (hr.mono (by omega)) (by rfl) T.g__law_steps T.F__law_steps.kp T.b__law_steps .nil pass0 (pa_cons (pv 0) (pa_cons (pv 1) (pa_cons (pe_ix (r := rIxT K) ix_tup (pv 8) pe_int (fun _ _ => rfl)) pa_nil))))) (pg_tup (by rfl) (pgs_cons (pg_name (i := 9) sc__law_asked.nd rfl (Or.inl rfl)) (pgs_cons (pg_name (i := 10) sc__law_asked.nd rfl (Or.inr rfl)) pgs_nil)))
 (pss_cons (ps_set (i := 11) sc__law_asked.nd rfl (Or.inl rfl) (pe_call G__law_answers (hr.mono (by omega)) (by rfl) T.g__law_answers T.F__law_answers.kp T.b__law_answers .nil pass0 (pa_cons (pv 0) (pa_cons (pv 1) (pa_cons (pe_ix (r := rIxT K) ix_tup (pv 8) pe_int (fun _ _ => rfl)) (pa_cons (pv 9) pa_nil))))))
 (pss_one (ps_if (pt_cmpR (r := rNotInP K) (op_notInP hu64) pe_bl (pe_lc (own := [("_law_answer", 12)]) (g := gName 12) (by rfl) sc__law_asked.nd (pi_list (pv 11)) (blkOk_by (own := [("_law_answer", 12)]) (N := ["_law_world_here", "_law_kind", "_law_norm", "_law_one", "_law_other", "_law_many", "_law_met", "_law_side", "_law_pair_here", "_law_letter", "_law_result", "_law_some_here", "_law_answer"]) (sc := defScope s__law_asked) (by decide +kernel)) (fun _ _ _ _ _ => (pg_name (i := 12) sc__law_asked.nd rfl (Or.inl rfl))) (fun _ _ _ _ _ => pts_nil) (fun _ _ _ _ _ => (pe_call G__law_alike (hr.mono (by omega)) (by rfl) T.g__law_alike T.F__law_alike.kp T.b__law_alike .nil pass0 (pa_cons (pv 0) (pa_cons (pv 1) (pa_cons (pv 10) (pa_cons (pv 12) (pa_cons (pe_op op_sub (pv 5) pe_int) (pa_cons (pv 6) pa_nil))))))))) (by rfl)) (pss_one (ps_ret (pe_tup (pa_cons (pv 7) (pa_cons (pv 9) (pa_cons (pv 10) pa_nil)))))) pss_nil))))))
 (pss_one (ps_ret pe_non))), ?_⟩
    refine ⟨_, rfl, _, rfl, sl2 (by show 2 ≤ 1000000; decide), fun t1 ht1 => ⟨_, rfl, _, rfl, sl2 (by show 2 ≤ 1000000; decide), fun t2 ht2 => ⟨sl2 (by show 2 ≤ 1000000; decide), fun l hl => ?_⟩⟩⟩
    have sA := same_new ht1 (o := .tup [.ref a, .ref b])
    have sB := same_new ht2 (o := .tup [.ref b, .ref a])
    have sC := same_new hl (o := .lst [.ref t1, .ref t2])
    have h1 : (upd (upd (upd H t1 (.tup [.ref a, .ref b])) t2 (.tup [.ref b, .ref a])) l (.lst [.ref t1, .ref t2])) t1 = some (.tup [.ref a, .ref b]) := sC _ _ (sB _ _ upd_same)
    have h2 : (upd (upd (upd H t1 (.tup [.ref a, .ref b])) t2 (.tup [.ref b, .ref a])) l (.lst [.ref t1, .ref t2])) t2 = some (.tup [.ref b, .ref a]) := sC _ _ upd_same
    have h3 : (upd (upd (upd H t1 (.tup [.ref a, .ref b])) t2 (.tup [.ref b, .ref a])) l (.lst [.ref t1, .ref t2])) l = some (.lst ([t1, t2].map V.ref)) := upd_same
    have sm1 := (sA.trans sB).trans sC
    generalize (upd (upd (upd H t1 (.tup [.ref a, .ref b])) t2 (.tup [.ref b, .ref a])) l (.lst [.ref t1, .ref t2])) = H1 at h1 h2 h3 sm1 ⊢
    have M1 := M.same sm1
    have bt1 := but_of_same (s := d) sm1
    clear sA sB sC ht1 ht2 hl
    refine ⟨l, _, rfl, SqL.of h3, for_it (walk_enum (K := K) (a := l) (xs := [t1, t2].map V.ref)) (fun i σ' H' => ∃ (x7 x8 x9 x10 x11 : Option V), σ' = [some (.ref wd), some (.str kind), some (.ref nd), some (.ref a), some (.ref b), some (.int ((m + 1 : Nat) : Int)), some (.ref d), x7, x8, x9, x10, x11, none] ∧ But d H1 H' ∧ Memo P w H' d kind names rs k Reg F ∧ (1 ≤ i → unmW (stepsOf kind rs) m x y = none) ∧ (2 ≤ i → unmW (stepsOf kind rs) m y x = none)) ?_ ?_ ?_ ?_⟩
    · exact ⟨_, _, _, _, _, rfl, But.refl d H1, M1, fun h => by omega, fun h => by omega⟩
    · rintro i σ' H' _ ⟨_, _, _, _, _, rfl, bt, _⟩
      exact SqL.of (M1.butR bt h3 fun φ z => (by cases z))
    · rintro i v σ' H2 H3 hi ⟨x7, x8, x9, x10, x11, rfl, bt2, M2, hu1, hu2⟩ ⟨T0, y1, y2, rfl, hT0, rfl, e1, e2⟩
      have e1 := Option.some.inj e1
      subst e1
      have hi : i < 2 := hi
      obtain ⟨tp, htp, rfl⟩ := map_at e2
      -- this side and the other
      obtain ⟨ca, cb, u, v, htp1, hca, hcb, hun, hvn, hul, hvl, hregu, hside⟩ : ∃ (ca cb : Addr) (u v : List Str), H1 tp = some (.tup [.ref ca, .ref cb]) ∧ H1 ca = some (.lst (u.map V.str)) ∧ H1 cb = some (.lst (v.map V.str)) ∧ (∀ z ∈ u, z ∈ names) ∧ (∀ z ∈ v, z ∈ names) ∧ u.length + 2 * (m + 1) ≤ 900 ∧ v.length + 2 * (m + 1) ≤ 900 ∧ Reg (m + 1) u v ∧ ((i = 0 ∧ u = x ∧ v = y) ∨ (i = 1 ∧ u = y ∧ v = x)) := by
        have : i = 0 ∨ i = 1 := by omega
        rcases this with rfl | rfl
        · have e : t1 = tp := Option.some.inj htp
          exact ⟨a, b, x, y, by rw [← e]; exact h1, sm1 _ _ ha, sm1 _ _ hb, hx, hy, hxl, hyl, hreg, .inl ⟨rfl, rfl, rfl⟩⟩
        · have e : t2 = tp := Option.some.inj htp
          exact ⟨b, a, y, x, by rw [← e]; exact h2, sm1 _ _ hb, sm1 _ _ ha, hy, hx, hyl, hxl, M.fit.sym hreg, .inr ⟨rfl, rfl, rfl⟩⟩
      have hask : ∀ p, unmW (stepsOf kind rs) m u v = some p → askW (stepsOf kind rs) m x y = some (i, p) := fun p hp => by
        unfold askW
        rcases hside with ⟨rfl, rfl, rfl⟩ | ⟨rfl, rfl, rfl⟩
        · rw [hp]
        · rw [hu1 (Nat.le_refl _), hp]; rfl
      have hnext : unmW (stepsOf kind rs) m u v = none → (1 ≤ i + 1 → unmW (stepsOf kind rs) m x y = none) ∧ (2 ≤ i + 1 → unmW (stepsOf kind rs) m y x = none) := fun hp => by
        rcases hside with ⟨rfl, rfl, rfl⟩ | ⟨rfl, rfl, rfl⟩
        · exact ⟨fun _ => hp, fun h => by omega⟩
        · exact ⟨fun _ => hu1 (Nat.le_refl _), fun _ => hp⟩
      have smT := same_new hT0 (o := .tup [.int i, .ref tp])
      refine ⟨T0, _, rfl, SqT.of upd_same, rfl, _, _, rfl, _, _, rfl, rfl, ?_⟩
      have bt3 := bt2.same smT
      have M3 := M2.same smT
      generalize (upd H2 T0 (.tup [.int i, .ref tp])) = H3 at bt3 M3 ⊢
      clear smT hT0 M2 bt2
      have kp := fun {a : Addr} {o : HO} (h : H1 a = some o) (n : ∀ φ, o ≠ .ext φ) => M1.butR bt3 h n
      have htp3 := kp htp1 fun φ z => (by cases z)
      have hca3 := kp hca fun φ z => (by cases z)
      have hcb3 := kp hcb fun φ z => (by cases z)
      have W3 := M1.wd bt3 (W.same sm1)
      refine ⟨_, rfl, _, rfl, _, rfl, tp, _, _, _, rfl, rfl, SqT.of htp3, atI_nat (j := 0) rfl, wd, ca, kind, names, rs, u, rfl, W3, hkind, hca3, hun, by omega, hsh, fun ps H4 us sm4 hus hpr => ?_⟩
      have hpl := paired_len hpr
      have M4 := M3.same sm4
      have hfu := hst.few u hun
      have hfv := hst.few v hvn
      refine ⟨ps, rfl, ⟨_, SqL.of hus⟩, for_list (K := K) (a := ps) (xs := us.map V.ref) (fun j σ' H' => ∃ (x9 x10 x11 : Option V), σ' = [some (.ref wd), some (.str kind), some (.ref nd), some (.ref a), some (.ref b), some (.int ((m + 1 : Nat) : Int)), some (.ref d), some (.int (i : Int)), some (.ref tp), x9, x10, x11, none] ∧ But d H4 H' ∧ Memo P w H' d kind names rs k Reg F ∧ ∀ p ∈ (stepsOf kind rs u).take j, ((ansW (stepsOf kind rs) v p.1).any fun a => alW (stepsOf kind rs) m p.2 a) = true) ?_ ?_ ?_ ?_⟩
      · exact ⟨_, _, _, rfl, But.refl d H4, M4, fun p hp => by simp at hp⟩
      · rintro j σ' H' _ ⟨_, _, _, rfl, bt, _⟩
        exact SqL.of (M4.butR bt hus fun φ z => (by cases z))
      · rintro j vv σ' H5 hj ⟨x9, x10, x11, rfl, bt5, M5, hall⟩
        obtain ⟨uu, huu, rfl⟩ := map_at hj
        obtain ⟨p, hp, _, wr, hw0, hp1, hp2⟩ := L2.paired_get hpr huu
        have hmp : p ∈ stepsOf kind rs u := List.mem_of_getElem? hp
        have kp5 := fun {a : Addr} {o : HO} (h : H4 a = some o) (n : ∀ φ, o ≠ .ext φ) => M4.butR bt5 h n
        have hp15 := kp5 hp1 fun φ z => (by cases z)
        have hp25 := kp5 hp2 fun φ z => (by cases z)
        have htp5 := kp5 (sm4 _ _ htp3) fun φ z => (by cases z)
        have hcb5 := kp5 (sm4 _ _ hcb3) fun φ z => (by cases z)
        have W5 := M4.wd bt5 (W3.same sm4)
        refine ⟨uu, _, rfl, SqT.of hp15, rfl, _, _, rfl, _, _, rfl, rfl, ?_⟩
        refine ⟨_, rfl, _, rfl, _, rfl, tp, _, _, _, rfl, rfl, SqT.of htp5, atI_nat (j := 1) rfl, _, rfl, wd, cb, kind, p.1, names, rs, v, rfl, W5, hkind, hcb5, hvn, by omega, hsh, by omega, fun pa H6 vs6 _ sm6 hpa hvs => ?_⟩
        have hvs : Paired (fun u (r : List Str) => H5 u = none ∧ H6 u = some (.lst (r.map V.str))) vs6 (ansW (stepsOf kind rs) v p.1) := hvs
        have hvl6 := paired_len hvs
        have hval : (ansW (stepsOf kind rs) v p.1).length ≤ s := by
          unfold ansW
          rw [List.length_map]
          exact Nat.le_trans (List.length_filter_le _ _) hfv
        have M6 := M5.same sm6
        refine ⟨_, rfl, pa, rfl, ⟨_, SqL.of hpa⟩, fun D hD => lc_list (K := K) (a := pa) (xs := vs6.map V.ref) (fun i2 H' => But d H6 H' ∧ Memo P w H' d kind names rs k Reg F ∧ H' D = some (.lst ((((ansW (stepsOf kind rs) v p.1).take i2).map fun a => alW (stepsOf kind rs) m p.2 a).map V.bl))) ?_ ?_ ?_ ?_⟩
        · exact ⟨but_of_same (same_new hD), M6.same (same_new hD), upd_same⟩
        · rintro i2 H' _ ⟨bt, _⟩
          exact SqL.of (M6.butR bt hpa fun φ z => (by cases z))
        · rintro i2 vv H7 hi2 ⟨bt7, M7, h7⟩
          obtain ⟨w1, hw1, rfl⟩ := map_at hi2
          have hil2 := (List.getElem?_eq_some_iff.mp hw1).1
          obtain ⟨av, hav, _, hav3⟩ := L2.paired_get hvs hw1
          have hmv : av ∈ ansW (stepsOf kind rs) v p.1 := List.mem_of_getElem? hav
          have hmv2 := mem_ansW.mp hmv
          obtain ⟨xs7, mem7, F7⟩ := M7.mem
          have kp7 := fun {a : Addr} {o : HO} (h : H6 a = some o) (n : ∀ φ, o ≠ .ext φ) => M6.butR bt7 h n
          have em : ((m + 1 : Nat) : Int) - 1 = (m : Nat) := by omega
          have W7 := M6.wd bt7 (W5.same sm6)
          have hp27 := kp7 (sm6 _ _ hp25) fun φ z => (by cases z)
          have hav7 := kp7 hav3 fun φ z => (by cases z)
          refine ⟨rfl, tyes (iteT ?_)⟩
          refine ⟨_, rfl, _, rfl, _, rfl, _, rfl, _, rfl, _, _, rfl, rfl, _, rfl, wd, d, wr, w1, kind, m, s, names, rs, xs7, p.2, av, Reg, (fun _ => F), 0, by show [V.ref wd, V.str kind, V.ref wr, V.ref w1, V.int (((m + 1 : Nat) : Int) - 1), V.ref d] = _; rw [em], ⟨W7, hkind, hst, hs1, hsh⟩, mem7, hp27, hav7, hst.inn u hun p hmp, hst.inn v hvn _ hmv2, by have := hst.len u hun p hmp; omega, by have := hst.len v hvn _ hmv2; have h9 : av.length ≤ v.length + 2 := this; omega, hmk, M7.fit, M7.fit.clo hregu hmp hmv2 rfl, F7, fun xs8 H8 bt8 mem8 _ F8 => ?_⟩
          have h8 := mem7.butR bt8 h7 fun φ z => (by cases z)
          have hD0 : H6 D = none := hD
          have M8 : Memo P w H8 d kind names rs k Reg F := ⟨M7.fit, xs8, mem8, F8⟩
          refine ⟨_, h8, by rw [List.length_map, List.length_map, List.length_take]; exact sl1 (by omega), (bt7.trans bt8).cell hD0 _, M8.mutL h8 _, ?_⟩
          rw [upd_same, take_snoc hav, List.map_append, List.map_append]
          rfl
        rintro H7 ⟨bt7, M7, h7⟩
        rw [List.length_map, hvl6, List.take_length] at h7
        have bt57 : But d H5 H7 := (but_of_same sm6).trans bt7
        refine ⟨.bool true, _, .bl _, .inl (dp_bls h7), Nat.zero_le _, _, rfl, ?_⟩
        rw [any_bl]
        cases hany : ((ansW (stepsOf kind rs) v p.1).any fun a => alW (stepsOf kind rs) m p.2 a) with
        | true =>
          have ei : decide (true ∈ (ansW (stepsOf kind rs) v p.1).map fun a => alW (stepsOf kind rs) m p.2 a) = true := by
            obtain ⟨z, hz, h9⟩ := List.any_eq_true.mp hany
            exact decide_eq_true (List.mem_map.mpr ⟨z, hz, h9⟩)
          rw [ei]
          refine iteF ⟨_, _, _, rfl, bt5.trans bt57, M7, fun p' hp' => ?_⟩
          rw [take_snoc hp] at hp'
          rcases List.mem_append.mp hp' with hp' | hp'
          · exact hall p' hp'
          · rw [List.mem_singleton.mp hp']
            exact hany
        | false =>
          have ei : decide (true ∈ (ansW (stepsOf kind rs) v p.1).map fun a => alW (stepsOf kind rs) m p.2 a) = false := by
            refine decide_eq_false fun h9 => ?_
            obtain ⟨z, hz, h10⟩ := List.mem_map.mp h9
            have := List.any_eq_false.mp hany z hz
            exact this h10
          rw [ei]
          refine iteT ?_
          have hun2 : unmW (stepsOf kind rs) m u v = some p := by
            unfold unmW
            have e : stepsOf kind rs u = (stepsOf kind rs u).take j ++ p :: (stepsOf kind rs u).drop (j + 1) := by
              obtain ⟨g1, g2⟩ := List.getElem?_eq_some_iff.mp hp
              rw [← g2, ← List.drop_eq_getElem_cons g1, List.take_append_drop]
            rw [e, List.find?_append, List.find?_eq_none.mpr fun q hq => by rw [hall q hq]; exact Bool.false_ne_true, List.find?_cons_of_pos (by rw [hany]; rfl)]
            rfl
          have kp7 := fun {a : Addr} {o : HO} (h : H5 a = some o) (n : ∀ φ, o ≠ .ext φ) => M5.butR bt57 h n
          have hp27 := kp7 hp25 fun φ z => (by cases z)
          refine ⟨_, rfl, _, rfl, _, rfl, sl2 (by show 3 ≤ 1000000; decide), fun t ht => ?_⟩
          have smt := same_new ht (o := .tup [.int (i : Int), .str p.1, .ref wr])
          have bt17 : But d H1 H7 := (bt3.same sm4).trans (bt5.trans bt57)
          have hfr : H wr = none := sm1.free (butFree bt3 (by obtain ⟨_, g1, _⟩ := M3.mem; rw [g1.dic]; exact fun z => (by cases z)) hw0)
          exact qs i p.1 p.2 (hask p hun2) t wr _ hfr ((bt1.trans bt17).same smt) (M7.same smt) upd_same (smt _ _ hp27)
      · rintro σ' H5 ⟨x9, x10, x11, rfl, bt5, M5, hall⟩
        rw [List.length_map, hpl, List.take_length] at hall
        have hun2 : unmW (stepsOf kind rs) m u v = none := by
          unfold unmW
          exact List.find?_eq_none.mpr fun q hq => by rw [hall q hq]; exact Bool.false_ne_true
        obtain ⟨g1, g2⟩ := hnext hun2
        exact ⟨_, _, _, _, _, rfl, (bt3.same sm4).trans bt5, M5, g1, g2⟩
    · rintro σ' H2 ⟨x7, x8, x9, x10, x11, rfl, bt2, M2, hu1, hu2⟩
      have hn : askW (stepsOf kind rs) m x y = none := by
        unfold askW
        rw [hu1 (by show 1 ≤ 2; decide), hu2 (by show 2 ≤ 2; decide)]
        rfl
      exact qn hn H2 (bt1.trans bt2) M2
end
end SG
namespace SG
open PySem PySem.Spec PyProof.Rows L2 LamX
section
variable {P : Program} {w : World} {K : PySem.W.Frag} {mg : Str → Option Value} {base : Heap} {A : Ad}
def FdAt (M : List Addr) (H : Hp) (t : Addr) (e : FRow) : Prop := t ∉ M ∧ ∃ a b c, a ∉ M ∧ b ∉ M ∧ c ∉ M ∧ H t = some (.tup [.int (e.m : Int), .ref a, .ref b, .int (e.row.sd : Int), .str e.row.z, .ref c]) ∧ H a = some (.lst (e.row.x.map V.str)) ∧ H b = some (.lst (e.row.y.map V.str)) ∧ H c = some (.lst (e.row.r.map V.str))
def TdAt (M : List Addr) (H : Hp) (t : Addr) (q : Two2 × Nat) : Prop := t ∉ M ∧ ∃ a b, a ∉ M ∧ b ∉ M ∧ H t = some (.tup [.ref a, .ref b, .int (q.2 : Int)]) ∧ H a = some (.lst (q.1.1.map V.str)) ∧ H b = some (.lst (q.1.2.map V.str))
theorem FdAt.keep {M : List Addr} {H H' : Hp} {t : Addr} {e : FRow} (h : FdAt M H t e) (k : Keep M H H') : FdAt M H' t e := by
  obtain ⟨h0, a, b, c, h1, h2, h3, h4, h5, h6, h7⟩ := h
  exact ⟨h0, a, b, c, h1, h2, h3, k _ _ h0 h4, k _ _ h1 h5, k _ _ h2 h6, k _ _ h3 h7⟩
theorem TdAt.keep {M : List Addr} {H H' : Hp} {t : Addr} {e : Two2 × Nat} (h : TdAt M H t e) (k : Keep M H H') : TdAt M H' t e := by
  obtain ⟨h0, a, b, h1, h2, h4, h5, h6⟩ := h
  exact ⟨h0, a, b, h1, h2, k _ _ h0 h4, k _ _ h1 h5, k _ _ h2 h6⟩
theorem dp_fd {M : List Addr} {H : Hp} {t : Addr} {e : FRow} (h : FdAt M H t e) : Dp K H (.ref t) (eF e) := by
  obtain ⟨_, a, b, c, _, _, _, h1, h2, h3, h4⟩ := h
  exact .tup (SqT.of h1) (.cons (.int _) (.cons (dp_Ss h2) (.cons (dp_Ss h3) (.cons (.int _) (.cons (.str _) (.cons (dp_Ss h4) .nil))))))
def eTd (q : Two2 × Nat) : PyData := .tuple [eSs q.1.1, eSs q.1.2, .int (q.2 : Int)]
theorem dp_td {M : List Addr} {H : Hp} {t : Addr} {e : Two2 × Nat} (h : TdAt M H t e) : Dp K H (.ref t) (eTd e) := by
  obtain ⟨_, a, b, _, _, h1, h2, h3⟩ := h
  exact .tup (SqT.of h1) (.cons (dp_Ss h2) (.cons (dp_Ss h3) (.cons (.int _) .nil)))
theorem dep_Td : Dep eTd 2 := fun q => by
  unfold eTd
  have h2 := dep_Ss q.1.1
  have h3 := dep_Ss q.1.2
  simp only [PyData.depth, PyData.depthAll]
  omega
theorem eqv_nilL {α : Type} (f : α → PyData) (xs : List α) : PyData.eqv (eL f xs) (eL f []) = decide (xs = []) := by
  cases xs with
  | nil => simp [eL, PyData.eqv, PyData.eqvAll]
  | cons a t => simp [eL, PyData.eqv, PyData.eqvAll]
theorem nin3 {H : Hp} {d fl tl u : Addr} (hd : H d ≠ none) (hf : H fl ≠ none) (ht : H tl ≠ none) (hu : H u = none) : u ∉ [d, fl, tl] := fun z => by
  rcases List.mem_cons.mp z with z | z
  · rw [z] at hu; exact hd hu
  rcases List.mem_cons.mp z with z | z
  · rw [z] at hu; exact hf hu
  · rw [List.mem_singleton.mp z] at hu; exact ht hu
/-- what stands while a play is made -/
structure PlS (P : Program) (w : World) (H0 H : Hp) (d fl tl : Addr) (kind : Str) (names : List Str) (rs : List Rule) (one other : List Str) (M : Nat) (found : List FRow) (todo : List (Two2 × Nat)) : Prop where
  sm : Same H0 H
  memo : Memo P w H d kind names rs 3 (RegW (stepsOf kind rs) one other M) (MemoF (stepsOf kind rs) one other M)
  fd : ∃ fs, H fl = some (.lst (fs.map V.ref)) ∧ Paired (FdAt [d, fl, tl] H) fs found
  td : ∃ us, H tl = some (.lst (us.map V.ref)) ∧ Paired (TdAt [d, fl, tl] H) us todo
  ndf : d ≠ fl
  ndt : d ≠ tl
  nft : fl ≠ tl
  fr : H0 d = none ∧ H0 fl = none ∧ H0 tl = none
section
variable {H0 H H' : Hp} {d fl tl : Addr} {kind : Str} {names : List Str} {rs : List Rule} {one other : List Str} {M : Nat} {found : List FRow} {todo : List (Two2 × Nat)}
theorem PlS.al (h : PlS P w H0 H d fl tl kind names rs one other M found todo) : H d ≠ none ∧ H fl ≠ none ∧ H tl ≠ none := by
  obtain ⟨fs, h1, _⟩ := h.fd
  obtain ⟨us, h2, _⟩ := h.td
  obtain ⟨xs, h3, _⟩ := h.memo.mem
  exact ⟨by rw [h3.dic]; exact fun z => (by cases z), by rw [h1]; exact fun z => (by cases z), by rw [h2]; exact fun z => (by cases z)⟩
theorem PlS.same (h : PlS P w H0 H d fl tl kind names rs one other M found todo) (e : Same H H') : PlS P w H0 H' d fl tl kind names rs one other M found todo := by
  obtain ⟨fs, h1, h2⟩ := h.fd
  obtain ⟨us, h3, h4⟩ := h.td
  exact ⟨h.sm.trans e, h.memo.same e, ⟨fs, e _ _ h1, Paired.mapP h2 fun _ _ z => z.keep (keep_same e)⟩, ⟨us, e _ _ h3, Paired.mapP h4 fun _ _ z => z.keep (keep_same e)⟩, h.ndf, h.ndt, h.nft, h.fr⟩
theorem keep_but (b : But d H H') : Keep [d, fl, tl] H H' := fun a o n h => b a o (fun z => n (by rw [z]; exact List.mem_cons_self)) h
theorem PlS.but (h : PlS P w H0 H d fl tl kind names rs one other M found todo) (b : But d H H') (m : Memo P w H' d kind names rs 3 (RegW (stepsOf kind rs) one other M) (MemoF (stepsOf kind rs) one other M)) : PlS P w H0 H' d fl tl kind names rs one other M found todo := by
  obtain ⟨fs, h1, h2⟩ := h.fd
  obtain ⟨us, h3, h4⟩ := h.td
  exact ⟨b.under h.fr.1 h.sm, m, ⟨fs, b _ _ h.ndf.symm h1, Paired.mapP h2 fun _ _ z => z.keep (keep_but b)⟩, ⟨us, b _ _ h.ndt.symm h3, Paired.mapP h4 fun _ _ z => z.keep (keep_but b)⟩, h.ndf, h.ndt, h.nft, h.fr⟩
theorem same_put {x : Addr} (e : Same H0 H) (hx : H0 x = none) (o : HO) : Same H0 (upd H x o) := fun a u h => by
  rw [upd_ne (ne_of_none h hx)]
  exact e a u h
theorem PlS.setF (h : PlS P w H0 H d fl tl kind names rs one other M found todo) {fs : List Addr} {found' : List FRow} (hp : Paired (FdAt [d, fl, tl] H) fs found') : PlS P w H0 (upd H fl (.lst (fs.map V.ref))) d fl tl kind names rs one other M found' todo := by
  obtain ⟨fs0, h1, h2⟩ := h.fd
  obtain ⟨us, h3, h4⟩ := h.td
  have k : Keep [d, fl, tl] H (upd H fl (.lst (fs.map V.ref))) := (Keep.refl _ _).put (by simp) _
  exact ⟨same_put h.sm h.fr.2.1 _, h.memo.mutL h1 _, ⟨fs, upd_same, Paired.mapP hp fun _ _ z => z.keep k⟩, ⟨us, by rw [upd_ne h.nft.symm]; exact h3, Paired.mapP h4 fun _ _ z => z.keep k⟩, h.ndf, h.ndt, h.nft, h.fr⟩
theorem PlS.setT (h : PlS P w H0 H d fl tl kind names rs one other M found todo) {us : List Addr} {todo' : List (Two2 × Nat)} (hp : Paired (TdAt [d, fl, tl] H) us todo') : PlS P w H0 (upd H tl (.lst (us.map V.ref))) d fl tl kind names rs one other M found todo' := by
  obtain ⟨fs0, h1, h2⟩ := h.fd
  obtain ⟨us0, h3, h4⟩ := h.td
  have k : Keep [d, fl, tl] H (upd H tl (.lst (us.map V.ref))) := (Keep.refl _ _).put (by simp) _
  exact ⟨same_put h.sm h.fr.2.2 _, h.memo.mutL h3 _, ⟨fs0, by rw [upd_ne h.nft]; exact h1, Paired.mapP h2 fun _ _ z => z.keep k⟩, ⟨us, upd_same, Paired.mapP hp fun _ _ z => z.keep k⟩, h.ndf, h.ndt, h.nft, h.fr⟩
end
/-- what a list to do may hold -/
structure TodoOk (kind : Str) (rs : List Rule) (one other : List Str) (M s : Nat) (found : List FRow) (todo : List (Two2 × Nat)) : Prop where
  reg : ∀ t ∈ todo, RegW (stepsOf kind rs) one other M t.2 t.1.1 t.1.2 ∧ ordK kind t.1.1 = t.1.1 ∧ ordK kind t.1.2 = t.1.2
  size : found.length + muT s todo ≤ wT s M
structure FoundOk (names : List Str) (kind : Str) (L M : Nat) (found : List FRow) : Prop where
  ok : ∀ e ∈ found, PRowN names e.row ∧ ordK kind e.row.x = e.row.x ∧ ordK kind e.row.y = e.row.y ∧ ordK kind e.row.r = e.row.r ∧ e.row.x.length ≤ L ∧ e.row.y.length ≤ L ∧ e.row.r.length ≤ L ∧ e.m ≤ M
def sp_lplay (P : Program) (w : World) : Sp := fun vs H Q _ => ∃ (wd a b : Addr) (kind : Str) (M s : Nat) (names : List Str) (rs : List Rule) (x y : List Str), vs = [.ref wd, .str kind, .ref a, .ref b, .int (M : Int)] ∧ WdAt H wd names rs ∧ (kind = "row" ∨ kind = "bag") ∧ GoodR names rs ∧ EndsR names rs ∧ names.length ≤ 3 ∧ StepOk names (stepsOf kind rs) s ∧ 1 ≤ s ∧ s ≤ 9 ∧ ShortR rs ∧
  H a = some (.lst (x.map V.str)) ∧ H b = some (.lst (y.map V.str)) ∧ (∀ z ∈ x, z ∈ names) ∧ (∀ z ∈ y, z ∈ names) ∧ x.length + y.length + 6 ≤ 900 ∧ ordK kind x = x ∧ ordK kind y = y ∧ 1 ≤ M ∧ M ≤ 3 ∧ alW (stepsOf kind rs) M x y = false ∧
  ∀ p H' (ts : List Addr) (play : List PRow), Same H H' → H' p = some (.lst (ts.map V.ref)) → Paired (PlAt H') ts play → goodPlay (stepsOf kind rs) (nrmW rs) (ordK kind) x y play = true → (∀ q ∈ play, PRowN names q ∧ ordK kind q.x = q.x ∧ ordK kind q.y = q.y ∧ ordK kind q.r = q.r ∧ q.x.length ≤ x.length + y.length + 8 ∧ q.y.length ≤ x.length + y.length + 8 ∧ q.r.length ≤ x.length + y.length + 8 ∧ ∃ m, 1 ≤ m ∧ m ≤ M ∧ alW (stepsOf kind rs) m q.x q.y = false ∧ sumN (nrmW rs) q.x = sumN (nrmW rs) q.y) → play.length ≤ 1000 → Q (.ref p) H'
theorem wT9 {s M : Nat} (hs : s ≤ 9) (hM : M ≤ 3) : wT s M ≤ 820 := by
  have h : ∀ m, wT s m ≤ wT 9 m := fun m => by
    induction m with
    | zero => exact Nat.le_refl _
    | succ n ih =>
      show 1 + s * wT s n ≤ 1 + 9 * wT 9 n
      exact Nat.add_le_add_left (Nat.mul_le_mul hs ih) 1
  refine Nat.le_trans (h M) (Nat.le_trans (wT_mono (by decide) hM) ?_)
  decide
end
section
variable {P : Program} {w : World} {K : PySem.W.Frag} {mg : Str → Option Value} {base : Heap} {A : Ad}
/-- a row of a play, no part of which is a cell -/
def PlM (x : Addr) (H : Hp) (t : Addr) (q : PRow) : Prop := t ≠ x ∧ ∃ a b c, a ≠ x ∧ b ≠ x ∧ c ≠ x ∧ H t = some (.tup [.ref a, .ref b, .int (q.sd : Int), .str q.z, .ref c]) ∧ H a = some (.lst (q.x.map V.str)) ∧ H b = some (.lst (q.y.map V.str)) ∧ H c = some (.lst (q.r.map V.str))
theorem PlM.same {x : Addr} {H H' : Hp} {t : Addr} {q : PRow} (h : PlM x H t q) (e : Same H H') : PlM x H' t q := by
  obtain ⟨g0, a, b, c, g1, g2, g3, g4, g5, g6, g7⟩ := h
  exact ⟨g0, a, b, c, g1, g2, g3, e _ _ g4, e _ _ g5, e _ _ g6, e _ _ g7⟩
theorem PlM.put {x : Addr} {H : Hp} {t : Addr} {q : PRow} (h : PlM x H t q) (o : HO) : PlM x (upd H x o) t q := by
  obtain ⟨g0, a, b, c, g1, g2, g3, g4, g5, g6, g7⟩ := h
  exact ⟨g0, a, b, c, g1, g2, g3, by rw [upd_ne g0]; exact g4, by rw [upd_ne g1]; exact g5, by rw [upd_ne g2]; exact g6, by rw [upd_ne g3]; exact g7⟩
theorem PlM.at {x : Addr} {H : Hp} {t : Addr} {q : PRow} (h : PlM x H t q) : PlAt H t q := by
  obtain ⟨g0, a, b, c, g1, g2, g3, g4, g5, g6, g7⟩ := h
  exact ⟨a, b, c, g4, g5, g6, g7⟩
theorem ok__law_play (T : Txt K mg A) : FnOk P w K mg base CX0 10 A.a__law_play A.d__law_play ["_law_world_here", "_law_kind", "_law_one", "_law_other", "_law_many"] (sp_lplay P w) := by
  have G__law_norms : FnOk P w K mg base CX0 1 A.a__law_norms A.d__law_norms ["_law_world_here"] sp_lnorms := ok__law_norms T
  have G__law_weight : FnOk P w K mg base CX0 1 A.a__law_weight A.d__law_weight ["_law_norm", "_law_one"] sp_weight := ok__law_weight T
  have G__law_answers : FnOk P w K mg base CX0 2 A.a__law_answers A.d__law_answers ["_law_world_here", "_law_kind", "_law_one", "_law_letter"] sp_lanswers := ok__law_answers T
  have G__law_alike : FnOk P w K mg base CX0 8 A.a__law_alike A.d__law_alike ["_law_world_here", "_law_kind", "_law_one", "_law_other", "_law_many", "_law_met"] (sp_lalike P w 3) := ok__law_alikes T 3
  have G__law_asked : FnOk P w K mg base CX0 9 A.a__law_asked A.d__law_asked ["_law_world_here", "_law_kind", "_law_norm", "_law_one", "_law_other", "_law_many", "_law_met"] (sp_lasked P w 3) := ok__law_asked T 3
  refine T.F__law_play.ok sc__law_play (fun vs H Q E h => ?_) (fun cdv A0 outer s0 H vs Q E hr h => ?_)
  · obtain ⟨_, _, _, _, _, _, _, _, _, _, rfl, _⟩ := h
    rfl
  · obtain ⟨wd, a, b, kind, M, s, names, rs, x, y, rfl, WD, hkind, hgood, hends, hn3, hst, hs1, hs9, hsh, ha, hb, hx, hy, hxyl, hox, hoy, hM1, hM3, halM, q⟩ := h
    have hu := hu_of hr
    have hu64 := hu64_of hr
    have hin := hgood.hin
    refine ⟨_, (pss_cons (ps_set (i := 5) sc__law_play.nd rfl (Or.inl rfl) (pe_call G__law_norms (hr.mono (by decide)) (by rfl) T.g__law_norms T.F__law_norms.kp T.b__law_norms .nil pass0 (pa_cons (pv 0) pa_nil)))
 (pss_cons (ps_set (i := 6) sc__law_play.nd rfl (Or.inl rfl) pe_dnewN)
 (pss_cons (ps_set (i := 7) sc__law_play.nd rfl (Or.inl rfl) (pe_lst pa_nil))
 (pss_cons (ps_set (i := 8) sc__law_play.nd rfl (Or.inl rfl) (pe_lst (pa_cons (pe_tup (pa_cons (pv 2) (pa_cons (pv 3) (pa_cons (pv 4) pa_nil)))) pa_nil)))
 (Evl.pss_cut (ps_while PassesOwn.never (pt_cmpR (r := rNeP K) (op_neP hu64) (pv 8) (pe_lst pa_nil) (nomark _)) (pss_cons (ps_asg (pe_bm0 PySem.F.plainAttrs_list PySem.F.slot_list_pop PySem.F.type_list_pop mt_pop (pv 8)) (pg_tup (by rfl) (pgs_cons (pg_name (i := 2) sc__law_play.nd rfl (Or.inr rfl)) (pgs_cons (pg_name (i := 3) sc__law_play.nd rfl (Or.inr rfl)) (pgs_cons (pg_name (i := 4) sc__law_play.nd rfl (Or.inl rfl)) pgs_nil)))))
 (pss_one (ps_if (pt_cmpR op_eq (pe_call G__law_weight (hr.mono (by decide)) (by rfl) T.g__law_weight T.F__law_weight.kp T.b__law_weight .nil pass0 (pa_cons (pv 5) (pa_cons (pv 2) pa_nil))) (pe_call G__law_weight (hr.mono (by decide)) (by rfl) T.g__law_weight T.F__law_weight.kp T.b__law_weight .nil pass0 (pa_cons (pv 5) (pa_cons (pv 3) pa_nil))) (nomark _)) (Evl.pss_cut (ps_while PassesOwn.never (PW.pt (pw_and (pt_cmpR op_gt (pv 4) pe_int (nomark _)) (pw_and1 (pt_not (pt_val (pe_call G__law_alike (hr.mono (by decide)) (by rfl) T.g__law_alike T.F__law_alike.kp T.b__law_alike .nil pass0 (pa_cons (pv 0) (pa_cons (pv 1) (pa_cons (pv 2) (pa_cons (pv 3) (pa_cons (pe_op op_sub (pv 4) pe_int) (pa_cons (pv 6) pa_nil)))))))))))) (pss_one (ps_set (i := 4) sc__law_play.nd rfl (Or.inl rfl) (pe_op op_sub (pv 4) pe_int))))
 (pss_cons (ps_asg (pe_call G__law_asked (hr.mono (by decide)) (by rfl) T.g__law_asked T.F__law_asked.kp T.b__law_asked .nil pass0 (pa_cons (pv 0) (pa_cons (pv 1) (pa_cons (pv 5) (pa_cons (pv 2) (pa_cons (pv 3) (pa_cons (pv 4) (pa_cons (pv 6) pa_nil)))))))) (pg_tup (by rfl) (pgs_cons (pg_name (i := 9) sc__law_play.nd rfl (Or.inl rfl)) (pgs_cons (pg_name (i := 10) sc__law_play.nd rfl (Or.inl rfl)) (pgs_cons (pg_name (i := 11) sc__law_play.nd rfl (Or.inl rfl)) pgs_nil)))))
 (pss_cons (ps_expr (pe_bm PySem.F.plainAttrs_list PySem.F.slot_list_append PySem.F.type_list_append mt_append (pv 7) (pa_cons (pe_tup (pa_cons (pv 4) (pa_cons (pv 2) (pa_cons (pv 3) (pa_cons (pv 9) (pa_cons (pv 10) (pa_cons (pv 11) pa_nil))))))) pa_nil)))
 (pss_one (ps_for PassesOwn.never rfl (pi_list (pe_call G__law_answers (hr.mono (by decide)) (by rfl) T.g__law_answers T.F__law_answers.kp T.b__law_answers .nil pass0 (pa_cons (pv 0) (pa_cons (pv 1) (pa_cons (pe_ix (r := rIxL K) ix_list (pe_lst (pa_cons (pv 2) (pa_cons (pv 3) pa_nil))) (pe_op op_sub pe_int (pv 9)) (fun _ _ => rfl)) (pa_cons (pv 10) pa_nil)))))) (pg_name (i := 12) sc__law_play.nd rfl (Or.inl rfl))
 (pss_one (ps_expr (pe_bm PySem.F.plainAttrs_list PySem.F.slot_list_append PySem.F.type_list_append mt_append (pv 8) (pa_cons (pe_op op_catT (pe_ix (r := rIxL K) ix_list (pe_lst (pa_cons (pe_tup (pa_cons (pv 11) (pa_cons (pv 12) pa_nil))) (pa_cons (pe_tup (pa_cons (pv 12) (pa_cons (pv 11) pa_nil))) pa_nil))) (pv 9) (fun _ _ => rfl)) (pe_tup (pa_cons (pe_op op_sub (pv 4) pe_int) pa_nil))) pa_nil))))))))) pss_nil))))
 (pss_cons (ps_set (i := 13) sc__law_play.nd rfl (Or.inl rfl) (pe_lst pa_nil))
 (pss_cons (ps_for PassesOwn.never rfl (pi_list (pe_callB (id := "sorted") (r := rSortedG K) (cr_sortedG hu64) (by rfl) T.sorted (by decide +kernel) (pa_cons (pv 7) pa_nil))) (pg_tup (by rfl) (pgs_cons (pg_name (i := 4) sc__law_play.nd rfl (Or.inl rfl)) (pgs_cons (pg_name (i := 2) sc__law_play.nd rfl (Or.inr rfl)) (pgs_cons (pg_name (i := 3) sc__law_play.nd rfl (Or.inr rfl)) (pgs_cons (pg_name (i := 9) sc__law_play.nd rfl (Or.inl rfl)) (pgs_cons (pg_name (i := 10) sc__law_play.nd rfl (Or.inl rfl)) (pgs_cons (pg_name (i := 11) sc__law_play.nd rfl (Or.inl rfl)) pgs_nil)))))))
 (pss_one (ps_if (pt_cmpR (r := rEqP K) (op_eqP hu64) (pe_lc (own := [("_law_row", 14)]) (g := gName 14) (by rfl) sc__law_play.nd (pi_list (pv 13)) (blkOk_by (own := [("_law_row", 14)]) (N := ["_law_world_here", "_law_kind", "_law_one", "_law_other", "_law_many", "_law_norm", "_law_met", "_law_found", "_law_todo", "_law_side", "_law_letter", "_law_result", "_law_answer", "_law_rows", "_law_row"]) (sc := defScope s__law_play) (by decide +kernel)) (fun _ _ _ _ _ => (pg_name (i := 14) sc__law_play.nd rfl (Or.inl rfl))) (fun _ _ _ _ _ => pts_one (pt_cmpR (r := rEqP K) (op_eqP hu64) (pe_slice (r := rSlT K) sl_tup (pv 14) po_none (po_some pe_int)) (pe_tup (pa_cons (pv 2) (pa_cons (pv 3) pa_nil))) (nomark _))) (fun _ _ _ _ _ => pe_int)) (pe_lst pa_nil) (nomark _)) (pss_one (ps_expr (pe_bm PySem.F.plainAttrs_list PySem.F.slot_list_append PySem.F.type_list_append mt_append (pv 13) (pa_cons (pe_tup (pa_cons (pv 2) (pa_cons (pv 3) (pa_cons (pv 9) (pa_cons (pv 10) (pa_cons (pv 11) pa_nil)))))) pa_nil)))) pss_nil)))
 (pss_one (ps_ret (pv 13)))))))))), ?_⟩
    refine ⟨_, rfl, wd, names, rs, rfl, WD, hgood, hends, hn3, fun nd H1 kvs sm1 hnd hnv => ?_⟩
    intro d hd
    obtain ⟨H2, eH2⟩ : ∃ H2, H2 = upd H1 d (dictN P w d []) := ⟨_, rfl⟩
    have sA : Same H1 H2 := by rw [eH2]; exact same_new hd
    have hdA : H2 d = some (dictN P w d []) := by rw [eH2]; exact upd_same
    refine ⟨Nat.zero_le _, fun fl hfl => ?_⟩
    have hfl : H2 fl = none := by rw [eH2]; exact hfl
    obtain ⟨H3, eH3⟩ : ∃ H3, H3 = upd H2 fl (.lst []) := ⟨_, rfl⟩
    have sB : Same H2 H3 := by rw [eH3]; exact same_new hfl
    have hflA : H3 fl = some (.lst (([] : List Addr).map V.ref)) := by rw [eH3]; exact upd_same
    have ndf : d ≠ fl := fun z => by rw [← z, hdA] at hfl; cases hfl
    have hfl1 : H1 fl = none := sA.free hfl
    refine ⟨_, rfl, _, rfl, _, rfl, sl2 (by show 3 ≤ 1000000; decide), fun t0 ht0 => ?_⟩
    have ht0 : H3 t0 = none := by rw [eH3, eH2]; exact ht0
    obtain ⟨H4, eH4⟩ : ∃ H4, H4 = upd H3 t0 (.tup [.ref a, .ref b, .int (M : Int)]) := ⟨_, rfl⟩
    have sC : Same H3 H4 := by rw [eH4]; exact same_new ht0
    have ht0A : H4 t0 = some (.tup [.ref a, .ref b, .int (M : Int)]) := by rw [eH4]; exact upd_same
    refine ⟨sl2 (by show 1 ≤ 1000000; decide), fun tl htl => ?_⟩
    have htl : H4 tl = none := by rw [eH4, eH3, eH2]; exact htl
    obtain ⟨H5, eH5⟩ : ∃ H5, H5 = upd H4 tl (.lst [.ref t0]) := ⟨_, rfl⟩
    have sD : Same H4 H5 := by rw [eH5]; exact same_new htl
    have htlA : H5 tl = some (.lst ([t0].map V.ref)) := by rw [eH5]; exact upd_same
    have s15 := ((sA.trans sB).trans sC).trans sD
    have s05 := sm1.trans s15
    have hd5 : H5 d = some (dictN P w d []) := ((sB.trans sC).trans sD) _ _ hdA
    have hfl5 : H5 fl = some (.lst (([] : List Addr).map V.ref)) := (sC.trans sD) _ _ hflA
    have htl1 : H1 tl = none := ((sA.trans sB).trans sC).free htl
    have ndt : d ≠ tl := fun z => by rw [← z] at htl; rw [(sB.trans sC) _ _ hdA] at htl; cases htl
    have nft : fl ≠ tl := fun z => by rw [← z] at htl; rw [sC _ _ hflA] at htl; cases htl
    have n1 : ∀ {u : Addr} {o : HO}, H1 u = some o → u ∉ [d, fl, tl] := fun {u} {o} h z => by
      rcases List.mem_cons.mp z with z | z
      · rw [z, hd] at h; cases h
      rcases List.mem_cons.mp z with z | z
      · rw [z, hfl1] at h; cases h
      · rw [List.mem_singleton.mp z, htl1] at h; cases h
    have nt0 : t0 ∉ [d, fl, tl] := fun z => by
      rcases List.mem_cons.mp z with z | z
      · rw [z, sB _ _ hdA] at ht0; cases ht0
      rcases List.mem_cons.mp z with z | z
      · rw [z, hflA] at ht0; cases ht0
      · rw [List.mem_singleton.mp z] at ht0A; rw [htl] at ht0A; cases ht0A
    have ha1 := sm1 _ _ ha
    have hb1 := sm1 _ _ hb
    have mem5 : MemAt P w H5 d (stepsOf kind rs) [] := ⟨hd5, fun x hx => (nomatch hx), fun x hx => (nomatch hx)⟩
    have fit : FitG (stepsOf kind rs) (RegW (stepsOf kind rs) x y M) names 3 (fun _ => MemoF (stepsOf kind rs) x y M) := ⟨fun h => h, fun h => memoF_few hst (by omega) hM3 hx hy h, fun a v h _ _ _ _ _ e hr => memoF_put a v h e hr, fun h hp hq _ => regW_clo h hp hq, regW_sym⟩
    have st5 : PlS P w H1 H5 d fl tl kind names rs x y M [] [((x, y), M)] := ⟨s15, ⟨fit, [], mem5, List.nodup_nil, fun e he => (nomatch he)⟩, ⟨[], hfl5, .nil⟩, ⟨[t0], htlA, .cons ⟨nt0, a, b, n1 ha1, n1 hb1, sD _ _ ht0A, s15 _ _ ha1, s15 _ _ hb1⟩ .nil⟩, ndf, ndt, nft, hd, hfl1, htl1⟩
    have W1 := WD.same sm1
    have rg : ∀ {m : Nat} {u v : List Str}, RegW (stepsOf kind rs) x y M m u v → (∀ z ∈ u, z ∈ names) ∧ (∀ z ∈ v, z ∈ names) ∧ u.length + 2 * m ≤ 900 ∧ v.length + 2 * m ≤ 900 := fun h => by
      obtain ⟨h1, h2, h3, h4⟩ := regW_in hst hx hy h
      exact ⟨h1, h2, by omega, by omega⟩
    have hwT := wT9 (s := s) hs9 hM3
    have hmu0 : muT s [((x, y), M)] = wT s M := by unfold muT; simp
    clear sA sB sC sD hdA hflA ht0A htlA hd5 hfl5 mem5 nt0 ht0 htl hfl hd n1
    refine ⟨fun σ' H' => ∃ (a' b' : Addr) (m' : Nat) (x9 x10 x11 x12 : Option V) (found : List FRow), σ' = [some (.ref wd), some (.str kind), some (.ref a'), some (.ref b'), some (.int (m' : Int)), some (.ref nd), some (.ref d), some (.ref fl), some (.ref tl), x9, x10, x11, x12, none, none] ∧ PlS P w H1 H' d fl tl kind names rs x y M found [] ∧ PlayI (stepsOf kind rs) (nrmW rs) x y M found [] ∧ TodoOk kind rs x y M s found [] ∧ FoundOk names kind (x.length + y.length + 8) M found, ?_, ?_⟩
    · refine ⟨fun k σ' H' => ∃ (a' b' : Addr) (m' : Nat) (x9 x10 x11 x12 : Option V) (found : List FRow) (todo : List (Two2 × Nat)), σ' = [some (.ref wd), some (.str kind), some (.ref a'), some (.ref b'), some (.int (m' : Int)), some (.ref nd), some (.ref d), some (.ref fl), some (.ref tl), x9, x10, x11, x12, none, none] ∧ PlS P w H1 H' d fl tl kind names rs x y M found todo ∧ PlayI (stepsOf kind rs) (nrmW rs) x y M found todo ∧ TodoOk kind rs x y M s found todo ∧ FoundOk names kind (x.length + y.length + 8) M found ∧ k = muT s todo, ⟨_, a, b, M, _, _, _, _, [], [((x, y), M)], rfl, by rw [eH5, eH4, eH3, eH2] at st5; exact st5, play_start hM1 halM, ⟨fun t ht => ?_, by rw [hmu0]; exact Nat.le_of_eq (Nat.zero_add _)⟩, ⟨fun e he => (nomatch he)⟩, rfl⟩, ?_⟩
      · rw [List.mem_singleton.mp ht]
        exact ⟨⟨0, by omega, .inl ⟨List.mem_singleton.mpr rfl, List.mem_singleton.mpr rfl⟩⟩, hox, hoy⟩
      clear st5 hmu0 eH2 eH3 eH4 eH5 s05 s15
      rintro k σ' H6 ⟨a', b', m', x9, x10, x11, x12, found, todo, rfl, st6, pi6, tk6, fk6, rfl⟩
      obtain ⟨us, htl6, htp6⟩ := st6.td
      refine ⟨_, rfl, Nat.zero_le _, fun e0 he0 => ?_⟩
      have sme := same_new he0 (o := .lst [])
      refine ⟨eL eTd todo, eL eTd [], .lst (SqL.of (sme _ _ htl6)) (dpAll_paired (F := TdAt _ _) (fun t q h => dp_td h) (Paired.mapP htp6 fun _ _ h => h.keep (keep_same sme))), .lst (SqL.of upd_same) .nil, Nat.le_trans (dep_L dep_Td _) (by decide), _, rfl, ?_⟩
      rw [eqv_nilL]
      have st7 := st6.same sme
      generalize (upd H6 e0 (.lst [])) = H7 at sme st7 ⊢
      clear st6 htl6 htp6 he0 us sme
      by_cases c0 : todo = []
      · subst c0
        rw [decide_eq_true rfl]
        exact iteF ⟨a', b', m', x9, x10, x11, x12, found, rfl, st7, pi6, tk6, fk6⟩
      rw [decide_eq_false c0]
      refine iteT ?_
      obtain ⟨todo0, ⟨qq, m⟩, rfl⟩ : ∃ t0 l, todo = t0 ++ [l] := ⟨_, _, (List.dropLast_concat_getLast c0).symm⟩
      clear c0
      obtain ⟨us, htl7, htp7⟩ := st7.td
      obtain ⟨us0, t, rfl, htp0, htt⟩ := SG.paired_unsnoc htp7
      refine ⟨fun σ' H' => ∃ (a' b' : Addr) (m' : Nat) (x9 x10 x11 x12 : Option V) (found : List FRow) (todo : List (Two2 × Nat)), σ' = [some (.ref wd), some (.str kind), some (.ref a'), some (.ref b'), some (.int (m' : Int)), some (.ref nd), some (.ref d), some (.ref fl), some (.ref tl), x9, x10, x11, x12, none, none] ∧ PlS P w H1 H' d fl tl kind names rs x y M found todo ∧ PlayI (stepsOf kind rs) (nrmW rs) x y M found todo ∧ TodoOk kind rs x y M s found todo ∧ FoundOk names kind (x.length + y.length + 8) M found ∧ muT s todo + 1 ≤ muT s (todo0 ++ [(qq, m)]), ?_, ?_⟩
      · rintro σ' H' ⟨a2, b2, m2, y9, y10, y11, y12, f2, t2, e1, e2, e3, e4, e5, e6⟩
        exact ⟨muT s t2, by omega, a2, b2, m2, y9, y10, y11, y12, f2, t2, e1, e2, e3, e4, e5, rfl⟩
      have st8 := st7.setT htp0
      have k8 : Keep [d, fl, tl] H7 (upd H7 tl (.lst (us0.map V.ref))) := (Keep.refl _ _).put (by simp) _
      obtain ⟨_, a2, b2, na2, nb2, ht8, ha8, hb8⟩ := htt.keep k8
      have edl : ((us0 ++ [t]).map V.ref).dropLast = us0.map V.ref := by rw [List.map_append]; exact List.dropLast_concat
      refine ⟨_, rfl, .inl ⟨rfl, _, SqL.of htl7⟩, tl, _, .ref t, rfl, rfl, htl7, by rw [List.map_append]; simp, ?_⟩
      rw [edl]
      generalize (upd H7 tl (.lst (us0.map V.ref))) = H8 at st8 ht8 ha8 hb8 ⊢
      clear k8 htt htp0 htp7 htl7 st7 edl
      refine ⟨t, _, rfl, SqT.of ht8, rfl, _, _, rfl, _, _, rfl, _, _, rfl, rfl, ?_⟩
      obtain ⟨hrg, hqx, hqy⟩ := tk6.reg (qq, m) (List.mem_append_right _ List.mem_cons_self)
      obtain ⟨hn1, hn2, hl1, hl2⟩ := rg hrg
      obtain ⟨_, _, hL1, hL2⟩ := regW_in hst hx hy hrg
      have hL1 : qq.1.length + 2 * m ≤ x.length + y.length + 2 * M := hL1
      have hL2 : qq.2.length + 2 * m ≤ x.length + y.length + 2 * M := hL2
      have hl1 : qq.1.length + 2 * m ≤ 900 := hl1
      have hl2 : qq.2.length + 2 * m ≤ 900 := hl2
      have hqx : ordK kind qq.1 = qq.1 := hqx
      have hqy : ordK kind qq.2 = qq.2 := hqy
      obtain ⟨hm1, halm⟩ := pi6.tod (qq, m) (List.mem_append_right _ List.mem_cons_self)
      have hm1 : 1 ≤ m := hm1
      have hmM : m ≤ M := by
        obtain ⟨dd, g1, _⟩ := hrg
        have g1 : dd + m ≤ M := g1
        omega
      have halm : alW (stepsOf kind rs) m qq.1 qq.2 = false := halm
      have hsz := tk6.size
      refine ⟨_, rfl, _, rfl, nd, a2, kvs, nrmW rs, qq.1, rfl, st8.sm _ _ hnd, fun z hz => hnv z (hn1 z hz), ha8, by omega, fun H9 sm9 => ?_⟩
      have st9 := st8.same sm9
      refine ⟨_, rfl, _, rfl, nd, b2, kvs, nrmW rs, qq.2, rfl, st9.sm _ _ hnd, fun z hz => hnv z (hn2 z hz), sm9 _ _ hb8, by omega, fun H10 sm10 => ?_⟩
      have st10 := st9.same sm10
      have ha10 := sm10 _ _ (sm9 _ _ ha8)
      have hb10 := sm10 _ _ (sm9 _ _ hb8)
      clear st9 st8 sm9 sm10 ht8 ha8 hb8
      refine ⟨rfl, _, rfl, ?_⟩
      show (if decide (V.int ((sumN (nrmW rs) qq.1 : Nat) : Int) = V.int ((sumN (nrmW rs) qq.2 : Nat) : Int)) = true then _ else _)
      rw [dec_int]
      by_cases hnn : sumN (nrmW rs) qq.1 = sumN (nrmW rs) qq.2
      · rw [decide_eq_true hnn]
        refine iteT ?_
        -- the least rounds
        refine ⟨fun σ' H' => σ' = [some (.ref wd), some (.str kind), some (.ref a2), some (.ref b2), some (.int ((lowW (stepsOf kind rs) qq.1 qq.2 m : Nat) : Int)), some (.ref nd), some (.ref d), some (.ref fl), some (.ref tl), x9, x10, x11, x12, none, none] ∧ PlS P w H1 H' d fl tl kind names rs x y M found todo0 ∧ H' a2 = some (.lst (qq.1.map V.str)) ∧ H' b2 = some (.lst (qq.2.map V.str)), ?_, ?_⟩
        · refine ⟨fun k σ' H' => ∃ m2 : Nat, σ' = [some (.ref wd), some (.str kind), some (.ref a2), some (.ref b2), some (.int (m2 : Int)), some (.ref nd), some (.ref d), some (.ref fl), some (.ref tl), x9, x10, x11, x12, none, none] ∧ PlS P w H1 H' d fl tl kind names rs x y M found todo0 ∧ H' a2 = some (.lst (qq.1.map V.str)) ∧ H' b2 = some (.lst (qq.2.map V.str)) ∧ 1 ≤ m2 ∧ m2 ≤ m ∧ alW (stepsOf kind rs) m2 qq.1 qq.2 = false ∧ lowW (stepsOf kind rs) qq.1 qq.2 m2 = lowW (stepsOf kind rs) qq.1 qq.2 m ∧ k = m2, ⟨m, m, rfl, st10, ha10, hb10, hm1, Nat.le_refl _, halm, rfl, rfl⟩, ?_⟩
          clear st10 ha10 hb10 H10 H9
          rintro k σ' H11 ⟨m2, rfl, st11, ha11, hb11, hm21, hm2m, hal2, hlow, rfl⟩
          obtain ⟨j, rfl⟩ : ∃ j, k = j + 1 := ⟨k - 1, by omega⟩
          refine ⟨_, rfl, _, _, rfl, rfl, _, rfl, ?_⟩
          by_cases c2 : 1 ≤ j
          · rw [decide_eq_true (show (1 : Int) < ((j + 1 : Nat) : Int) by omega)]
            refine iteT ?_
            obtain ⟨xs11, mem11, F11⟩ := st11.memo.mem
            have em : ((j + 1 : Nat) : Int) - 1 = (j : Nat) := by omega
            have bt0 := st11.sm
            refine ⟨_, rfl, _, rfl, _, rfl, _, rfl, _, rfl, _, _, rfl, rfl, _, rfl, wd, d, a2, b2, kind, j, s, names, rs, xs11, qq.1, qq.2, RegW (stepsOf kind rs) x y M, (fun _ => MemoF (stepsOf kind rs) x y M), 0, by show [V.ref wd, V.str kind, V.ref a2, V.ref b2, V.int (((j + 1 : Nat) : Int) - 1), V.ref d] = _; rw [em], ⟨W1.same st11.sm, hkind, hst, by omega, hsh⟩, mem11, ha11, hb11, hn1, hn2, by omega, by omega, by omega, fit, regW_le hrg (by show j ≤ m; omega), F11, fun xs12 H12 bt12 mem12 _ F12 => ?_⟩
            have st12 := st11.but bt12 ⟨fit, xs12, mem12, F12⟩
            have ha12 := bt12 _ _ (fun z => na2 (by rw [z]; exact List.mem_cons_self)) ha11
            have hb12 := bt12 _ _ (fun z => nb2 (by rw [z]; exact List.mem_cons_self)) hb11
            refine ⟨_, rfl, ?_⟩
            cases hj : alW (stepsOf kind rs) j qq.1 qq.2 with
            | true =>
              have el : lowW (stepsOf kind rs) qq.1 qq.2 (j + 1) = j + 1 := by
                unfold lowW
                rw [if_neg (fun z => by rw [hj] at z; cases z.2)]
              refine iteF ?_
              rw [el] at hlow
              exact ⟨by rw [← hlow], st12, ha12, hb12⟩
            | false =>
              have el : lowW (stepsOf kind rs) qq.1 qq.2 (j + 1) = lowW (stepsOf kind rs) qq.1 qq.2 j := by
                show (if 1 ≤ j ∧ alW (stepsOf kind rs) j qq.1 qq.2 = false then lowW (stepsOf kind rs) qq.1 qq.2 j else j + 1) = _
                rw [if_pos ⟨c2, hj⟩]
              refine iteT ?_
              refine ⟨fun σ' H' => σ' = [some (.ref wd), some (.str kind), some (.ref a2), some (.ref b2), some (.int (j : Int)), some (.ref nd), some (.ref d), some (.ref fl), some (.ref tl), x9, x10, x11, x12, none, none] ∧ H' = H12, ?_, ?_⟩
              · rintro σ' H' ⟨rfl, rfl⟩
                exact ⟨j, by omega, j, rfl, st12, ha12, hb12, c2, by omega, hj, by rw [← el]; exact hlow, rfl⟩
              · refine ⟨_, rfl, _, _, rfl, rfl, ?_⟩
                have e9 : V.int (((j + 1 : Nat) : Int) - 1) = V.int (j : Int) := by rw [em]
                exact ⟨by show _ = _; rw [← e9]; rfl, rfl⟩
          · have j0 : j = 0 := by omega
            subst j0
            refine iteF ?_
            refine iteF ?_
            exact ⟨by rw [← hlow]; rfl, st11, ha11, hb11⟩
        clear st10 ha10 hb10 H10 H9
        rintro σ' H11 ⟨rfl, st11, ha11, hb11⟩
        obtain ⟨l1, l2, l3, l4⟩ := low_ok hm1 halm
        generalize hl : lowW (stepsOf kind rs) qq.1 qq.2 m = l at l1 l2 l3 l4 ⊢
        obtain ⟨j, rfl⟩ : ∃ j, l = j + 1 := ⟨l - 1, by omega⟩
        obtain ⟨sd, ⟨z, r⟩, hask⟩ := ask_some l3
        refine ⟨_, rfl, _, rfl, _, rfl, _, rfl, _, rfl, _, rfl, _, rfl, wd, nd, d, a2, b2, kind, j, s, names, rs, qq.1, qq.2, RegW (stepsOf kind rs) x y M, MemoF (stepsOf kind rs) x y M, rfl, ⟨W1.same st11.sm, hkind, hst, by omega, hsh⟩, st11.memo, ha11, hb11, hn1, hn2, by omega, by omega, by omega, regW_le hrg l2, fun hno => (by rw [hask] at hno; cases hno), fun sd' z' r' hask' tk u H12 hu0 bt12 mem12 htk hu12 => ?_⟩
        rw [hask] at hask'
        obtain ⟨rfl, e2⟩ := Prod.mk.inj (Option.some.inj hask')
        obtain ⟨rfl, rfl⟩ := Prod.mk.inj e2
        obtain ⟨al1, al2, al3⟩ := st11.al
        have nu := nin3 al1 al2 al3 hu0
        have st12 := st11.but bt12 mem12
        have ha12 := bt12 _ _ (fun z => na2 (by rw [z]; exact List.mem_cons_self)) ha11
        have hb12 := bt12 _ _ (fun z => nb2 (by rw [z]; exact List.mem_cons_self)) hb11
        clear ha11 hb11 st11 al1 al2 al3 bt12 mem12 hask' e2 hu0
        refine ⟨tk, _, rfl, SqT.of htk, rfl, _, _, rfl, _, _, rfl, _, _, rfl, rfl, ?_⟩
        obtain ⟨o1, o2, o3⟩ := ask_ok hask
        have hsd : sd = 0 ∨ sd = 1 := by omega
        obtain ⟨fs, hfl12, hfp12⟩ := st12.fd
        have hfl9 := paired_len hfp12
        obtain ⟨al1, al2, al3⟩ := st12.al
        refine ⟨_, rfl, .inl ⟨rfl, _, SqL.of hfl12⟩, _, rfl, _, rfl, _, rfl, _, rfl, _, rfl, _, rfl, sl2 (by show 6 ≤ 1000000; decide), fun t2 ht2 => ?_⟩
        have smt := same_new ht2 (o := .tup [.int ((j + 1 : Nat) : Int), .ref a2, .ref b2, .int (sd : Int), .str z, .ref u])
        have nt2 := nin3 al1 al2 al3 ht2
        have st13 := st12.same smt
        have hfdt : FdAt [d, fl, tl] (upd H12 t2 (.tup [.int ((j + 1 : Nat) : Int), .ref a2, .ref b2, .int (sd : Int), .str z, .ref u])) t2 ⟨j + 1, ⟨qq.1, qq.2, sd, z, r⟩⟩ := ⟨nt2, a2, b2, u, na2, nb2, nu, upd_same, smt _ _ ha12, smt _ _ hb12, smt _ _ hu12⟩
        have hfp14 : Paired (FdAt [d, fl, tl] (upd H12 t2 (.tup [.int ((j + 1 : Nat) : Int), .ref a2, .ref b2, .int (sd : Int), .str z, .ref u]))) (fs ++ [t2]) (found ++ [⟨j + 1, ⟨qq.1, qq.2, sd, z, r⟩⟩]) := SG.paired_app hfdt (Paired.mapP hfp12 fun _ _ h => h.keep (keep_same smt))
        have st14 := st13.setF hfp14
        have ekl : (fs ++ [t2]).map V.ref = fs.map V.ref ++ [V.ref t2] := by rw [List.map_append]; rfl
        rw [ekl] at st14
        have k14 : Keep [d, fl, tl] H12 (upd (upd H12 t2 (.tup [.int ((j + 1 : Nat) : Int), .ref a2, .ref b2, .int (sd : Int), .str z, .ref u])) fl (.lst (fs.map V.ref ++ [V.ref t2]))) := (keep_same smt).put (by simp) _
        refine ⟨fl, _, _, rfl, rfl, smt _ _ hfl12, by rw [List.length_map, hfl9]; exact sl1 (by omega), ?_⟩
        generalize (upd (upd H12 t2 (.tup [.int ((j + 1 : Nat) : Int), .ref a2, .ref b2, .int (sd : Int), .str z, .ref u])) fl (.lst (fs.map V.ref ++ [V.ref t2]))) = H14 at st14 k14 ⊢
        have ha14 := k14 _ _ na2 ha12
        have hb14 := k14 _ _ nb2 hb12
        have hu14 := k14 _ _ nu hu12
        clear k14 ekl hfp14 st13 nt2 smt ht2 al1 al2 al3 hfp12 hfl12 ha12 hb12 hu12 st12 htk
        obtain ⟨e, he⟩ : ∃ e : FRow, e = ⟨j + 1, ⟨qq.1, qq.2, sd, z, r⟩⟩ := ⟨_, rfl⟩
        rw [← he] at st14
        -- what is to be done
        obtain ⟨oa, hoa, noa, hoav⟩ : ∃ oa : Addr, atI [V.ref a2, V.ref b2] (1 - (sd : Int)) = some (.ref oa) ∧ oa ∉ [d, fl, tl] ∧ H14 oa = some (.lst ((sdW sd qq.2 qq.1).map V.str)) := by
          rcases hsd with rfl | rfl
          · exact ⟨b2, rfl, nb2, hb14⟩
          · exact ⟨a2, rfl, na2, ha14⟩
        have hon : ∀ v ∈ sdW sd qq.2 qq.1, v ∈ names := by
          unfold sdW; split
          · exact hn2
          · exact hn1
        have hol : (sdW sd qq.2 qq.1).length + 2 ≤ 900 := by
          unfold sdW; split <;> omega
        have hsn : ∀ v ∈ sdW sd qq.1 qq.2, v ∈ names := by
          unfold sdW; split
          · exact hn1
          · exact hn2
        have hsl : (sdW sd qq.1 qq.2).length + 2 ≤ 900 := by
          unfold sdW; split <;> omega
        have hkl : (ansW (stepsOf kind rs) (sdW sd qq.2 qq.1) z).length ≤ s := by
          unfold ansW
          rw [List.length_map]
          exact Nat.le_trans (List.length_filter_le _ _) (hst.few _ hon)
        refine ⟨_, rfl, _, rfl, _, rfl, _, rfl, sl2 (by show 2 ≤ 1000000; decide), fun li hli => ?_⟩
        have sml := same_new hli (o := .lst [.ref a2, .ref b2])
        have hli15 : (upd H14 li (.lst [.ref a2, .ref b2])) li = some (.lst [.ref a2, .ref b2]) := upd_same
        have st15 := st14.same sml
        have hoa15 := sml _ _ hoav
        have hu15 := sml _ _ hu14
        generalize (upd H14 li (.lst [.ref a2, .ref b2])) = H15 at st15 hli15 hoa15 hu15 ⊢
        clear sml hli st14 hoav hu14 ha14 hb14
        refine ⟨_, rfl, _, _, rfl, rfl, li, _, _, _, rfl, rfl, SqL.of hli15, hoa, _, rfl, wd, oa, kind, z, names, rs, sdW sd qq.2 qq.1, rfl, W1.same st15.sm, hkind, hoa15, hon, by omega, hsh, by have := hst.few _ hon; omega, fun pa H16 vs hpa0 sm16 hpa hvs => ?_⟩
        have hvs : Paired (fun u (r : List Str) => H15 u = none ∧ H16 u = some (.lst (r.map V.str))) vs (ansW (stepsOf kind rs) (sdW sd qq.2 qq.1) z) := hvs
        have hvl := paired_len hvs
        obtain ⟨al1, al2, al3⟩ := st15.al
        have npa := nin3 al1 al2 al3 hpa0
        have st16 := st15.same sm16
        have hu16 := sm16 _ _ hu15
        have hkid : (kidsW (stepsOf kind rs) e.row) = (ansW (stepsOf kind rs) (sdW sd qq.2 qq.1) z).map (pairS sd r) := by rw [he]; rfl
        have hkidl : (kidsW (stepsOf kind rs) e.row).length ≤ s := by rw [hkid, List.length_map]; exact hkl
        refine ⟨pa, rfl, ⟨_, SqL.of hpa⟩, for_list (K := K) (a := pa) (xs := vs.map V.ref) (fun i σ' H' => ∃ x12 : Option V, σ' = [some (.ref wd), some (.str kind), some (.ref a2), some (.ref b2), some (.int ((j + 1 : Nat) : Int)), some (.ref nd), some (.ref d), some (.ref fl), some (.ref tl), some (.int (sd : Int)), some (.str z), some (.ref u), x12, none, none] ∧ PlS P w H1 H' d fl tl kind names rs x y M (found ++ [e]) (todo0 ++ ((kidsW (stepsOf kind rs) e.row).take i).map fun k => (k, j)) ∧ Keep [d, fl, tl] H16 H') ?_ ?_ ?_ ?_⟩
        · exact ⟨_, rfl, by rw [List.take_zero, List.map_nil, List.append_nil]; exact st16, Keep.refl _ _⟩
        · rintro i σ' H' _ ⟨_, rfl, _, k⟩
          exact SqL.of (k _ _ npa hpa)
        · rintro i v σ' H17 hi ⟨y12, rfl, st17, k17⟩
          obtain ⟨w1, hw1, rfl⟩ := map_at hi
          obtain ⟨av, hav, hav0, hav3⟩ := L2.paired_get hvs hw1
          have nw1 := nin3 al1 al2 al3 hav0
          have hav17 := k17 _ _ nw1 hav3
          have hu17 := k17 _ _ nu hu16
          obtain ⟨bl1, bl2, bl3⟩ := st17.al
          obtain ⟨us, htl17, htp17⟩ := st17.td
          have hul := paired_len htp17
          have hki : (kidsW (stepsOf kind rs) e.row)[i]? = some (pairS sd r av) := by rw [hkid, List.getElem?_map, hav]; rfl
          have hil : i < (kidsW (stepsOf kind rs) e.row).length := (List.getElem?_eq_some_iff.mp hki).1
          have hmu : todo0.length ≤ 820 := by
            have g1 : todo0.length ≤ muT s todo0 := by
              have : ∀ l : List (Two2 × Nat), l.length ≤ muT s l := fun l => by
                induction l with
                | nil => exact Nat.le_refl _
                | cons a t ih =>
                  have e9 : muT s (a :: t) = wT s a.2 + muT s t := by unfold muT; rw [List.map_cons, List.sum_cons]
                  rw [e9, List.length_cons]
                  have := wT_pos s a.2
                  omega
              exact this _
            have g2 := muT_skip s todo0 (qq, m)
            omega
          refine ⟨_, rfl, .inl ⟨rfl, _, SqL.of htl17⟩, _, rfl, _, rfl, sl2 (by show 2 ≤ 1000000; decide), fun p1 hp1 => ?_⟩
          have s1 := same_new hp1 (o := .tup [.ref u, .ref w1])
          refine ⟨_, rfl, _, rfl, sl2 (by show 2 ≤ 1000000; decide), fun p2 hp2 => ?_⟩
          have s2 := same_new hp2 (o := .tup [.ref w1, .ref u])
          have hp1A : (upd (upd H17 p1 (.tup [.ref u, .ref w1])) p2 (.tup [.ref w1, .ref u])) p1 = some (.tup [.ref u, .ref w1]) := s2 _ _ upd_same
          have hp2A : (upd (upd H17 p1 (.tup [.ref u, .ref w1])) p2 (.tup [.ref w1, .ref u])) p2 = some (.tup [.ref w1, .ref u]) := upd_same
          have s12 := s1.trans s2
          generalize (upd (upd H17 p1 (.tup [.ref u, .ref w1])) p2 (.tup [.ref w1, .ref u])) = H18 at hp1A hp2A s12 ⊢
          refine ⟨sl2 (by show 2 ≤ 1000000; decide), fun l2 hl2 => ?_⟩
          have s3 := same_new hl2 (o := .lst [.ref p1, .ref p2])
          have hl2A : (upd H18 l2 (.lst [.ref p1, .ref p2])) l2 = some (.lst [.ref p1, .ref p2]) := upd_same
          have s13 := s12.trans s3
          have hp1B := s3 _ _ hp1A
          have hp2B := s3 _ _ hp2A
          generalize (upd H18 l2 (.lst [.ref p1, .ref p2])) = H19 at hl2A s13 hp1B hp2B ⊢
          obtain ⟨pc, c1, c2, hpc, hpcA, hc1, hc2, nc1, nc2⟩ : ∃ pc c1 c2 : Addr, atI [V.ref p1, V.ref p2] (sd : Int) = some (.ref pc) ∧ H19 pc = some (.tup [.ref c1, .ref c2]) ∧ H17 c1 = some (.lst ((pairS sd r av).1.map V.str)) ∧ H17 c2 = some (.lst ((pairS sd r av).2.map V.str)) ∧ c1 ∉ [d, fl, tl] ∧ c2 ∉ [d, fl, tl] := by
            rcases hsd with rfl | rfl
            · exact ⟨p1, u, w1, rfl, hp1B, hu17, hav17, nu, nw1⟩
            · exact ⟨p2, w1, u, rfl, hp2B, hav17, hu17, nw1, nu⟩
          refine ⟨_, rfl, l2, _, _, _, rfl, rfl, SqL.of hl2A, hpc, ?_⟩
          have em : ((j + 1 : Nat) : Int) - 1 = (j : Nat) := by omega
          refine ⟨_, rfl, _, _, rfl, rfl, sl2 (by show 1 ≤ 1000000; decide), fun p3 hp3 => ?_⟩
          have s4 := same_new hp3 (o := .tup [.int (((j + 1 : Nat) : Int) - 1)])
          have hp3A : (upd H19 p3 (.tup [.int (((j + 1 : Nat) : Int) - 1)])) p3 = some (.tup [.int (((j + 1 : Nat) : Int) - 1)]) := upd_same
          have hpcB := s4 _ _ hpcA
          have s14 := s13.trans s4
          refine ⟨pc, p3, _, _, rfl, rfl, SqT.of hpcB, SqT.of hp3A, List.cons_ne_nil _ _, sl2 (by show 3 ≤ 1000000; decide), fun zz => (nomatch zz), fun _ pn hpn => ?_⟩
          have s5 := same_new hpn (o := .tup ([.ref c1, .ref c2] ++ [.int (((j + 1 : Nat) : Int) - 1)]))
          have hpnA : (upd (upd H19 p3 (.tup [.int (((j + 1 : Nat) : Int) - 1)])) pn (.tup ([.ref c1, .ref c2] ++ [.int (((j + 1 : Nat) : Int) - 1)]))) pn = some (.tup [.ref c1, .ref c2, .int (j : Int)]) := by
            rw [upd_same, em]
            rfl
          have s15 := s14.trans s5
          have hpn17 : H17 pn = none := s14.free hpn
          refine ⟨tl, _, _, rfl, rfl, s15 _ _ htl17, by rw [List.length_map, hul, List.length_append, List.length_map, List.length_take]; exact sl1 (by omega), ?_⟩
          have st18 := st17.same s15
          have htdn : TdAt [d, fl, tl] (upd (upd H19 p3 (.tup [.int (((j + 1 : Nat) : Int) - 1)])) pn (.tup ([.ref c1, .ref c2] ++ [.int (((j + 1 : Nat) : Int) - 1)]))) pn (pairS sd r av, j) := ⟨nin3 bl1 bl2 bl3 hpn17, c1, c2, nc1, nc2, hpnA, s15 _ _ hc1, s15 _ _ hc2⟩
          have hnew : Paired (TdAt [d, fl, tl] (upd (upd H19 p3 (.tup [.int (((j + 1 : Nat) : Int) - 1)])) pn (.tup ([.ref c1, .ref c2] ++ [.int (((j + 1 : Nat) : Int) - 1)])))) (us ++ [pn]) (todo0 ++ ((kidsW (stepsOf kind rs) e.row).take (i + 1)).map fun k => (k, j)) := by
            rw [take_snoc hki, List.map_append, ← List.append_assoc]
            exact SG.paired_app htdn (Paired.mapP htp17 fun _ _ h => h.keep (keep_same s15))
          have st19 := st18.setT hnew
          have ekl : (us ++ [pn]).map V.ref = us.map V.ref ++ [V.ref pn] := by rw [List.map_append]; rfl
          rw [ekl] at st19
          exact ⟨_, rfl, st19, (k17.same s15).put (by simp) _⟩
        · rintro σ' H17 ⟨y12, rfl, st17, k17⟩
          rw [List.length_map, hvl] at st17
          have e9 : (kidsW (stepsOf kind rs) e.row).take (ansW (stepsOf kind rs) (sdW sd qq.2 qq.1) z).length = kidsW (stepsOf kind rs) e.row := by
            rw [hkid, List.take_of_length_le (by rw [List.length_map]; exact Nat.le_refl _)]
          rw [e9] at st17
          have hpi := play_take pi6 hnn (by rw [hl]; exact hask)
          rw [hl] at hpi
          have hpi : PlayI (stepsOf kind rs) (nrmW rs) x y M (found ++ [e]) (todo0 ++ (kidsW (stepsOf kind rs) e.row).map fun k => (k, j)) := by rw [he]; exact hpi
          have hmt := muT_take hs1 todo0 qq m (j + 1) (kidsW (stepsOf kind rs) e.row) (by omega) l2 hkidl
          have hmt : muT s (todo0 ++ (kidsW (stepsOf kind rs) e.row).map fun k => (k, j)) + 1 ≤ muT s (todo0 ++ [(qq, m)]) := hmt
          refine ⟨a2, b2, j + 1, _, _, _, _, found ++ [e], todo0 ++ (kidsW (stepsOf kind rs) e.row).map fun k => (k, j), rfl, st17, hpi, ⟨fun t ht => ?_, by rw [List.length_append]; show found.length + 1 + _ ≤ _; omega⟩, ⟨fun f hf => ?_⟩, hmt⟩
          · rcases List.mem_append.mp ht with ht | ht
            · exact tk6.reg t (List.mem_append_left _ ht)
            · obtain ⟨k, hk, rfl⟩ := List.mem_map.mp ht
              rw [hkid] at hk
              obtain ⟨av, hav, rfl⟩ := List.mem_map.mp hk
              have hav := mem_ansW.mp hav
              have ho2 := stepsOf_res o2
              have ho3 := stepsOf_res hav
              have hrg2 : RegW (stepsOf kind rs) x y M (j + 1) qq.1 qq.2 := regW_le hrg l2
              rcases hsd with rfl | rfl
              · exact ⟨regW_clo hrg2 o2 hav, ho2, ho3⟩
              · exact ⟨regW_clo (p := (z, av)) (q := (z, r)) hrg2 hav o2, ho3, ho2⟩
          · rcases List.mem_append.mp hf with hf | hf
            · exact fk6.ok f hf
            · rw [List.mem_singleton.mp hf, he]
              have h9 := hst.len _ hsn _ o2
              have h9 : r.length ≤ (sdW sd qq.1 qq.2).length + 2 := h9
              exact ⟨⟨hn1, hn2, hst.inn _ hsn _ o2, o1, by show qq.1.length ≤ 900; omega, by show qq.2.length ≤ 900; omega, by show r.length ≤ 900; omega⟩, hqx, hqy, stepsOf_res o2, by show qq.1.length ≤ _; omega, by show qq.2.length ≤ _; omega, by show r.length ≤ _; have h10 : (sdW sd qq.1 qq.2).length + 2 * m ≤ x.length + y.length + 2 * M := (by unfold sdW; split <;> omega); omega, by show j + 1 ≤ M; omega⟩
      · rw [decide_eq_false hnn]
        refine iteF ?_
        have := muT_skip s todo0 (qq, m)
        exact ⟨a2, b2, m, x9, x10, x11, x12, found, todo0, rfl, st10, play_skip pi6 hnn, ⟨fun t ht => tk6.reg t (List.mem_append_left _ ht), by omega⟩, fk6, this⟩
    · clear st5 hmu0 eH2 eH3 eH4 eH5 s05 s15
      rintro σ' H6 ⟨a', b', m', x9, x10, x11, x12, found, rfl, st6, pi6, tk6, fk6⟩
      obtain ⟨fs, hfl6, hfp6⟩ := st6.fd
      have hfl9 := paired_len hfp6
      have hsz := tk6.size
      have s06 := sm1.trans st6.sm
      refine ⟨Nat.zero_le _, fun rl hrl => ?_⟩
      have smr := same_new hrl (o := .lst [])
      have hrl7 : (upd H6 rl (.lst [])) rl = some (.lst (([] : List Addr).map V.ref)) := upd_same
      generalize (upd H6 rl (.lst [])) = H7 at smr hrl7 ⊢
      refine ⟨_, rfl, FRow, eF, fl, fs.map V.ref, found, rfl, SqL.of (smr _ _ hfl6), dpAll_paired (F := FdAt [d, fl, tl] H7) (fun t p h => dp_fd h) (Paired.mapP hfp6 fun _ _ h => h.keep (keep_same smr)), alk_F, srt_F, fun p _ => Nat.le_trans (dep_F p) (by decide), fun zs so hz1 hz2 hso => ?_⟩
      obtain ⟨ss, e1, hss, _⟩ := srt_refs_out hfp6 hz1 hz2
      rw [e1]
      have hsl : ss.length = found.length := by rw [paired_len hss, (esort_perm eF found).length_eq]
      have sms := same_new hso (o := .lst (ss.map V.ref))
      have hso8 : (upd H7 so (.lst (ss.map V.ref))) so = some (.lst (ss.map V.ref)) := upd_same
      have hrl8 := sms _ _ hrl7
      have nsr : so ≠ rl := fun z => by rw [z, hrl7] at hso; cases hso
      have s68 := smr.trans sms
      generalize (upd H7 so (.lst (ss.map V.ref))) = H8 at hso8 hrl8 s68 ⊢
      clear hz1 hz2 e1 zs sms smr hrl7 hso
      have nrl : ∀ {u : Addr} {o : HO}, H6 u = some o → u ≠ rl := fun {u} {o} h z => by rw [z, hrl] at h; cases h
      refine ⟨so, rfl, ⟨_, SqL.of hso8⟩, for_list (K := K) (a := so) (xs := ss.map V.ref) (fun i σ' H' => ∃ (y2 y3 y4 y9 y10 y11 y12 : Option V) (ts : List Addr), σ' = [some (.ref wd), some (.str kind), y2, y3, y4, some (.ref nd), some (.ref d), some (.ref fl), some (.ref tl), y9, y10, y11, y12, some (.ref rl), none] ∧ Same H6 H' ∧ H' so = some (.lst (ss.map V.ref)) ∧ H' rl = some (.lst (ts.map V.ref)) ∧ Paired (PlM rl H') ts (dedP ((esort eF found).take i))) ?_ ?_ ?_ ?_⟩
      · exact ⟨_, _, _, _, _, _, _, [], rfl, s68, hso8, hrl8, .nil⟩
      · rintro i σ' H' _ ⟨_, _, _, _, _, _, _, _, rfl, _, h, _⟩
        exact SqL.of h
      · rintro i v σ' H9 hi ⟨y2, y3, y4, y9, y10, y11, y12, ts, rfl, s69, hso9, hrl9, htp9⟩
        obtain ⟨t, ht, rfl⟩ := map_at hi
        obtain ⟨e, he1, _, a2, b2, u2, _, _, _, ht6, ha6, hb6, hu6⟩ := L2.paired_get hss ht
        have hil := (List.getElem?_eq_some_iff.mp ht).1
        have htl9 := paired_len htp9
        have hdl := ded_len ((esort eF found).take i)
        rw [List.length_take] at hdl
        refine ⟨t, _, rfl, SqT.of (s69 _ _ ht6), rfl, _, _, rfl, _, _, rfl, _, _, rfl, _, _, rfl, _, _, rfl, _, _, rfl, rfl, ?_⟩
        refine ⟨_, rfl, rl, rfl, ⟨_, SqL.of hrl9⟩, fun D hD => lc_list (K := K) (a := rl) (xs := ts.map V.ref) (fun i2 H' => Same H9 H' ∧ H' D = some (.lst (List.replicate ((((dedP ((esort eF found).take i)).take i2).filter fun q => decide (twoP q = twoP e.row)).length) (V.int 1)))) ?_ ?_ ?_ ?_⟩
        · exact ⟨same_new hD, upd_same⟩
        · rintro i2 H' _ ⟨sm, _⟩
          exact SqL.of (sm _ _ hrl9)
        · rintro i2 v H10 hi2 ⟨sm10, h10⟩
          obtain ⟨t2, ht2, rfl⟩ := map_at hi2
          have hil2 := (List.getElem?_eq_some_iff.mp ht2).1
          obtain ⟨q2, hq2, _, a3, b3, c3, _, _, _, g1, g2, g3, g4⟩ := L2.paired_get htp9 ht2
          have s610 := s69.trans sm10
          refine ⟨rfl, ?_⟩
          refine ⟨_, rfl, _, rfl, t2, _, rfl, SqT.of (sm10 _ _ g1), (show ¬ (HT.sIx 5 0 none = 0 ∧ HT.sIx 5 5 (some 2) = 5) from by decide), fun p1 hp1 => ?_⟩
          have s1 := same_new hp1 (o := .tup (cutV [V.ref a3, V.ref b3, V.int (q2.sd : Int), V.str q2.z, V.ref c3] none (some (2 : Int))))
          have hp1A : (upd H10 p1 (.tup (cutV [V.ref a3, V.ref b3, V.int (q2.sd : Int), V.str q2.z, V.ref c3] none (some (2 : Int))))) p1 = some (.tup [V.ref a3, V.ref b3]) := by
            rw [upd_same, show (2 : Int) = ((2 : Nat) : Int) from rfl, cut_lt]
            rfl
          generalize (upd H10 p1 (.tup (cutV [V.ref a3, V.ref b3, V.int (q2.sd : Int), V.str q2.z, V.ref c3] none (some (2 : Int))))) = H11 at s1 hp1A ⊢
          refine ⟨_, rfl, _, rfl, sl2 (by show 2 ≤ 1000000; decide), fun p2 hp2 => ?_⟩
          have s2 := same_new hp2 (o := .tup [.ref a2, .ref b2])
          have hp2A : (upd H11 p2 (.tup [.ref a2, .ref b2])) p2 = some (.tup [.ref a2, .ref b2]) := upd_same
          have hp1B := s2 _ _ hp1A
          have s12 := s1.trans s2
          generalize (upd H11 p2 (.tup [.ref a2, .ref b2])) = H12 at s12 hp2A hp1B ⊢
          have s912 := sm10.trans s12
          have s612 := s69.trans s912
          refine ⟨e2 eSs eSs (twoP q2), e2 eSs eSs (twoP e.row), .tup (SqT.of hp1B) (.cons (dp_Ss (s912 _ _ g2)) (.cons (dp_Ss (s912 _ _ g3)) .nil)), .tup (SqT.of hp2A) (.cons (dp_Ss (s612 _ _ ha6)) (.cons (dp_Ss (s612 _ _ hb6)) .nil)), Nat.le_trans (dep_2 dep_Ss dep_Ss _) (by decide), _, rfl, ?_⟩
          rw [enc_2 enc_Ss enc_Ss, take_snoc hq2, List.filter_append, List.filter_cons, List.filter_nil]
          have hfl2 := List.length_filter_le (fun q => decide (twoP q = twoP e.row)) ((dedP ((esort eF found).take i)).take i2)
          rw [List.length_take] at hfl2
          refine iteB (fun cc => ?_) (fun cc => ?_)
          · rw [if_pos cc]
            exact ⟨_, s12 _ _ h10, by rw [List.length_replicate]; exact sl1 (by omega), same_mut (sm10.trans s12) hD, by rw [upd_same, List.length_append, List.length_cons, List.length_nil, List.replicate_succ']⟩
          · rw [if_neg (by rw [cc]; exact Bool.false_ne_true), List.append_nil]
            exact ⟨sm10.trans s12, s12 _ _ h10⟩
        rintro H10 ⟨sm10, h10⟩
        rw [List.length_map, htl9, List.take_length] at h10
        refine ⟨Nat.zero_le _, fun e0 he0 => ?_⟩
        have sme := same_new he0 (o := .lst [])
        have hone : ∀ n : Nat, PyData.eqv (.list (List.replicate n (.int 1))) (.list []) = decide (n = 0) := fun n => by
          cases n with
          | zero => rfl
          | succ k => rw [List.replicate_succ]; simp [PyData.eqv, PyData.eqvAll]
        have hdr : ∀ n : Nat, DpAll K (upd H10 e0 (.lst [])) (List.replicate n (V.int 1)) (List.replicate n (.int 1)) := fun n => by
          induction n with
          | zero => exact .nil
          | succ k ih => rw [List.replicate_succ, List.replicate_succ]; exact .cons (.int _) ih
        refine ⟨.list (List.replicate _ (.int 1)), .list [], .lst (SqL.of (sme _ _ h10)) (hdr _), .lst (SqL.of upd_same) .nil, ?_, _, rfl, ?_⟩
        · generalize (((dedP ((esort eF found).take i)).filter fun q => decide (twoP q = twoP e.row)).length) = n
          have : ∀ n : Nat, PyData.depthAll (List.replicate n (.int 1)) ≤ 1 := fun n => by
            induction n with
            | zero => simp [PyData.depthAll]
            | succ k ih => rw [List.replicate_succ]; simp only [PyData.depthAll, PyData.depth]; omega
          have h9 := this n
          simp only [PyData.depth]
          omega
        rw [hone]
        have s610 := (s69.trans sm10).trans sme
        have s910 := sm10.trans sme
        have hso10 := s910 _ _ hso9
        have hrl10 := s910 _ _ hrl9
        have htp10 := Paired.mapP htp9 fun _ _ h => PlM.same h s910
        clear hdr hone h10 sme he0 sm10 htp9
        generalize (upd H10 e0 (.lst [])) = H11 at s610 s910 hso10 hrl10 htp10 ⊢
        have hmem : ((((dedP ((esort eF found).take i)).filter fun q => decide (twoP q = twoP e.row)).length) = 0) ↔ twoP e.row ∉ (dedP ((esort eF found).take i)).map twoP := by
          rw [List.length_eq_zero_iff, List.filter_eq_nil_iff]
          constructor
          · intro h z
            obtain ⟨q, hq, h2⟩ := List.mem_map.mp z
            exact h q hq (decide_eq_true h2)
          · intro h q hq z
            exact h (List.mem_map.mpr ⟨q, hq, of_decide_eq_true z⟩)
        rw [decide_eq_decide.mpr hmem, take_snoc he1, ded_snoc]
        unfold ded1
        by_cases c : twoP e.row ∈ (dedP ((esort eF found).take i)).map twoP
        · rw [if_pos c, decide_eq_false (fun z => z c)]
          exact iteF ⟨_, _, _, _, _, _, _, ts, rfl, s610, hso10, hrl10, htp10⟩
        · rw [if_neg c, decide_eq_true c]
          refine iteT ?_
          refine ⟨_, rfl, .inl ⟨rfl, _, SqL.of hrl10⟩, _, rfl, _, rfl, _, rfl, _, rfl, _, rfl, sl2 (by show 5 ≤ 1000000; decide), fun p hp => ?_⟩
          have smp := same_new hp (o := .tup [.ref a2, .ref b2, .int (e.row.sd : Int), .str e.row.z, .ref u2])
          have hpA : (upd H11 p (.tup [.ref a2, .ref b2, .int (e.row.sd : Int), .str e.row.z, .ref u2])) p = some (.tup [.ref a2, .ref b2, .int (e.row.sd : Int), .str e.row.z, .ref u2]) := upd_same
          have npr : p ≠ rl := fun z => by rw [z, hrl10] at hp; cases hp
          generalize (upd H11 p (.tup [.ref a2, .ref b2, .int (e.row.sd : Int), .str e.row.z, .ref u2])) = H12 at smp hpA ⊢
          have s612 := s610.trans smp
          refine ⟨rl, _, _, rfl, rfl, smp _ _ hrl10, by rw [List.length_map, htl9]; exact sl1 (by omega), _, _, _, _, _, _, _, ts ++ [p], rfl, same_put s612 hrl _, by rw [upd_ne nsr]; exact smp _ _ hso10, by rw [upd_same, List.map_append]; rfl, ?_⟩
          have hnew : PlM rl H12 p e.row := ⟨npr, a2, b2, u2, nrl ha6, nrl hb6, nrl hu6, hpA, s612 _ _ ha6, s612 _ _ hb6, s612 _ _ hu6⟩
          exact SG.paired_app (hnew.put _) (Paired.mapP htp10 fun _ _ h => (h.same smp).put _)
      · rintro σ' H9 ⟨y2, y3, y4, y9, y10, y11, y12, ts, rfl, s69, hso9, hrl9, htp9⟩
        have e9 : (esort eF found).take (ss.map V.ref).length = esort eF found := by
          rw [List.length_map, hsl, ← (esort_perm eF found).length_eq, List.take_length]
        rw [e9] at htp9
        have hdl := ded_len (esort eF found)
        rw [(esort_perm eF found).length_eq] at hdl
        refine ⟨_, rfl, q rl H9 ts (dedP (esort eF found)) (s06.trans s69) hrl9 (Paired.mapP htp9 fun _ _ h => h.at) (made_good pi6 ⟨hox, hoy⟩ fun e he => ⟨(fk6.ok e he).2.1, (fk6.ok e he).2.2.1, (fk6.ok e he).2.2.2.1⟩) (fun w hw => ?_) (by omega)⟩
        obtain ⟨e, he, rfl⟩ := ded_in _ w hw
        have hem := (esort_perm eF found).mem_iff.mp he
        obtain ⟨f1, f2, f3, f4, f5, f6, f7, f8⟩ := fk6.ok e hem
        have g := pi6.good e hem
        exact ⟨f1, f2, f3, f4, f5, f6, f7, e.m, g.m1, f8, g.al, g.nn⟩
end
end SG
namespace SG
open PySem PySem.Spec PyProof.Rows L2 LamX
section
variable {names : List Str} {rs : List Rule}
/-! norms along steps -/
theorem mem_stepsK {kind : Str} {x : List Str} {q : Step} : q ∈ stepsOf kind rs x ↔ (kind = "row" ∧ q ∈ rowSteps rs x) ∨ (kind ≠ "row" ∧ q ∈ bagSteps rs x) := by
  by_cases c : kind = "row"
  · have e : stepsOf kind rs = rowSteps rs := funext fun x => by
      unfold stepsOf
      rw [if_pos c]
    rw [e]
    exact ⟨fun h => .inl ⟨c, h⟩, fun h => h.elim (fun h => h.2) fun h => absurd c h.1⟩
  · have e : stepsOf kind rs = bagSteps rs := funext fun x => by
      unfold stepsOf
      rw [if_neg c]
    rw [e]
    exact ⟨fun h => .inr ⟨c, h⟩, fun h => h.elim (fun h => absurd h.1 c) fun h => h.2⟩
theorem sumN_ssort (f : Str → Nat) (x : List Str) : sumN f (ssort x) = sumN f x := sumN_perm (ssort_perm x)
theorem sumN_erase {f : Str → Nat} {b : List Str} {n : Str} (h : n ∈ b) : sumN f b = f n + sumN f (b.erase n) := sumN_perm (List.perm_cons_erase h)
theorem step_down (hg : GoodR names rs) (he : EndsR names rs) {kind : Str} {x : List Str} {q : Step} (hq : q ∈ stepsOf kind rs x) : sumN (nrmW rs) x ≤ 1 + sumN (nrmW rs) q.2 := by
  rcases mem_stepsK.mp hq with ⟨_, hq⟩ | ⟨_, hq⟩
  · cases x with
    | nil => exact absurd hq no_rowSteps
    | cons n t =>
      obtain ⟨p, hp, rfl⟩ := mem_rowSteps.mp hq
      have h1 := nrm_le hg he hp
      show nrmW rs n + sumN (nrmW rs) t ≤ 1 + sumN (nrmW rs) (p.2 ++ t)
      rw [sumN_app]
      omega
  · obtain ⟨n, hn, p, hp, rfl⟩ := mem_bagSteps.mp hq
    have h1 := nrm_le hg he hp
    rw [sumN_erase hn]
    show _ ≤ 1 + sumN (nrmW rs) (ssort (p.2 ++ x.erase n))
    rw [sumN_ssort, sumN_app]
    omega
theorem step_least (hg : GoodR names rs) (he : EndsR names rs) {kind : Str} {x : List Str} (hx : ∀ z ∈ x, z ∈ names) (hne : x ≠ []) : ∃ q ∈ stepsOf kind rs x, sumN (nrmW rs) x = 1 + sumN (nrmW rs) q.2 := by
  cases x with
  | nil => exact absurd rfl hne
  | cons n t =>
    obtain ⟨p, hp, h1⟩ := nrm_row hg he (hx n List.mem_cons_self)
    by_cases c : kind = "row"
    · refine ⟨(p.1, p.2 ++ t), mem_stepsK.mpr (.inl ⟨c, mem_rowSteps.mpr ⟨p, hp, rfl⟩⟩), ?_⟩
      show nrmW rs n + sumN (nrmW rs) t = 1 + sumN (nrmW rs) (p.2 ++ t)
      rw [sumN_app]
      omega
    · refine ⟨(p.1, ssort (p.2 ++ (n :: t).erase n)), mem_stepsK.mpr (.inr ⟨c, mem_bagSteps.mpr ⟨n, List.mem_cons_self, p, hp, rfl⟩⟩), ?_⟩
      rw [sumN_erase (List.mem_cons_self (a := n) (l := t))]
      show _ = 1 + sumN (nrmW rs) (ssort (p.2 ++ (n :: t).erase n))
      rw [sumN_ssort, sumN_app]
      omega
theorem no_stepsK (kind : Str) (q : Step) : q ∉ stepsOf kind rs [] := fun h => by
  rcases mem_stepsK.mp h with ⟨_, h⟩ | ⟨_, h⟩
  · exact no_rowSteps h
  · obtain ⟨n, hn, _⟩ := mem_bagSteps.mp h
    cases hn
/-- two of unlike norms part in one round more than the lesser norm -/
theorem part_least (hg : GoodR names rs) (he : EndsR names rs) {kind : Str} {s : Nat} (hst : StepOk names (stepsOf kind rs) s) : ∀ (n : Nat) (x y : List Str), (∀ z ∈ x, z ∈ names) → (∀ z ∈ y, z ∈ names) → sumN (nrmW rs) x = n → n < sumN (nrmW rs) y → alW (stepsOf kind rs) (n + 1) x y = false
  | n, x, y, hx, hy, e, hlt => by
    cases hal : alW (stepsOf kind rs) (n + 1) x y with
    | false => rfl
    | true =>
      exfalso
      rcases alW_iff.mp hal with h | ⟨h1, h2⟩
      · rw [h] at e
        omega
      by_cases c : x = []
      · subst c
        have hy0 : y ≠ [] := fun z => by
          rw [z] at hlt
          exact absurd hlt (Nat.not_lt_zero _)
        obtain ⟨q, hq, _⟩ := step_least (kind := kind) hg he hy hy0
        obtain ⟨p, hp, _⟩ := metW_iff.mp h2 q hq
        exact no_stepsK _ _ hp
      · obtain ⟨q, hq, e2⟩ := step_least (kind := kind) hg he hx c
        obtain ⟨p, hp, _, ha⟩ := metW_iff.mp h1 q hq
        have hd := step_down hg he hp
        cases n with
        | zero => omega
        | succ m =>
          have ih := part_least hg he hst m q.2 p.2 (hst.inn x hx q hq) (hst.inn y hy p hp) (by omega) (by omega)
          rw [ih] at ha
          cases ha
theorem sumN_one {f : Str → Nat} {n : Str} {k : Nat} (hk : f n ≤ k) : ∀ {row : List Str}, (∀ x ∈ row, x = n) → sumN f row ≤ row.length * k
  | [], _ => Nat.zero_le _
  | x :: t, h => by
    have h1 := sumN_one hk fun y hy => h y (List.mem_cons_of_mem _ hy)
    have h2 := h x List.mem_cons_self
    rw [List.length_cons, Nat.succ_mul]
    show f x + sumN f t ≤ _
    rw [h2]
    omega
theorem sumN_pos {f : Str → Nat} : ∀ {row : List Str}, (∀ x ∈ row, 1 ≤ f x) → row.length ≤ sumN f row
  | [], _ => Nat.zero_le _
  | x :: t, h => by
    have h1 := sumN_pos fun y hy => h y (List.mem_cons_of_mem _ hy)
    have h2 := h x List.mem_cons_self
    rw [List.length_cons]
    show _ ≤ f x + sumN f t
    omega
theorem sumN_le {f : Str → Nat} {k : Nat} : ∀ {row : List Str}, (∀ x ∈ row, f x ≤ k) → sumN f row ≤ row.length * k
  | [], _ => Nat.zero_le _
  | x :: t, h => by
    have h1 := sumN_le fun y hy => h y (List.mem_cons_of_mem _ hy)
    have h2 := h x List.mem_cons_self
    rw [List.length_cons, Nat.succ_mul]
    show f x + sumN f t ≤ _
    omega
/-- in a world of two names that is drawn with the cap 2 no norm is greater than 2 -/
theorem world_two {chain : List Str} {gs : List (List Step)} {wB : Str → Nat} {b : Nat} (hR : WorldR chain b 3 gs) (hb : b ≤ 4) (cnd : chain.Nodup) (hperm : names.Perm chain) (hcl : chain.length ≤ 2) (hM : MadeW wB b chain gs) (hB : ∀ n ∈ chain, 1 ≤ wB n ∧ wB n ≤ 2) : ∀ n ∈ names, nrmW (rulesW names (stepsW chain gs)) n ≤ 2 := by
  have hgood := world_good hR hb cnd hperm
  have hends := world_ends hR cnd hperm
  have nnd := hperm.nodup_iff.mpr cnd
  have hrl : ∀ n ∈ names, rulesOf (rulesW names (stepsW chain gs)) n = stepsW chain gs n := fun n hn => by rw [rulesOf_W _ _ nnd, if_pos hn]
  have hle : ∀ {i : Nat} {n : Str} {ps : List Step} {p : Step}, chain[i]? = some n → gs[i]? = some ps → p ∈ ps → nrmW (rulesW names (stepsW chain gs)) n ≤ 1 + sumN (nrmW (rulesW names (stepsW chain gs))) p.2 := fun {i n ps p} hn hps hp => by
    refine nrm_le hgood hends ?_
    rw [hrl n (hperm.mem_iff.mpr (List.mem_of_getElem? hn)), stepsW_at cnd hn hps]
    exact hp
  obtain ⟨gs0, hl0, hst, hcase⟩ := hM
  generalize nrmW (rulesW names (stepsW chain gs)) = f at hle ⊢
  -- the first name
  have h0 : ∀ n0, chain[0]? = some n0 → f n0 ≤ 1 := fun n0 hn0 => by
    have hl : 0 < chain.length := (List.getElem?_eq_some_iff.mp hn0).1
    obtain ⟨ps, hps⟩ : ∃ ps, gs0[0]? = some ps := ⟨_, List.getElem?_eq_getElem (by omega)⟩
    obtain ⟨_, _, _, p, hp, hp2, _⟩ := hst 0 ps hps
    have hg0 : gs[0]? = some ps := by
      rcases hcase with rfl | ⟨k, jn, kq, sn, tail, qs, hkq, hjk, _, _, _, _, rfl⟩
      · exact hps
      · rw [List.getElem?_set, if_neg (by omega)]
        exact hps
    have h1 := hle hn0 hg0 hp
    have e : p.2 = [] := by
      cases e9 : p.2 with
      | nil => rfl
      | cons a t =>
        have := hp2 a (by rw [e9]; exact List.mem_cons_self)
        rw [List.take_zero] at this
        cases this
    rw [e] at h1
    exact h1
  intro n hn
  obtain ⟨i, hi⟩ := List.mem_iff_getElem?.mp (hperm.mem_iff.mp hn)
  have hil := (List.getElem?_eq_some_iff.mp hi).1
  have hi2 : i = 0 ∨ i = 1 := by omega
  rcases hi2 with rfl | rfl
  · have := h0 n hi
    omega
  · obtain ⟨n0, hn0⟩ : ∃ n0, chain[0]? = some n0 := ⟨_, List.getElem?_eq_getElem (by omega)⟩
    have hf0 := h0 n0 hn0
    have htk : ∀ x ∈ chain.take 1, x = n0 := fun x hx => by
      rw [show (1 : Nat) = 0 + 1 from rfl, take_snoc hn0, List.take_zero, List.nil_append] at hx
      exact List.mem_singleton.mp hx
    obtain ⟨ps, hps⟩ : ∃ ps, gs0[1]? = some ps := ⟨_, List.getElem?_eq_getElem (by omega)⟩
    rcases hcase with rfl | ⟨k, jn, kq, sn, tail, qs, hkq, hjk, hsn, htl, htsub, hqs, rfl⟩
    · obtain ⟨_, _, _, p, hp, hp2, hp3⟩ := hst 1 ps hps
      have h1 := hle hi hps hp
      have h2 := hp3 n hi
      have h3 := hB n (List.mem_of_getElem? hi)
      have h4 : p.2.length ≤ sumN wB p.2 := sumN_pos fun x hx => (hB x (List.mem_of_mem_take (hp2 x hx))).1
      have h5 := sumN_one hf0 fun x hx => htk x (hp2 x hx)
      omega
    · have hkl := (List.getElem?_eq_some_iff.mp hkq).1
      have hk1 : k = 1 := by omega
      have hj0 : jn = 0 := by omega
      subst hk1
      subst hj0
      obtain ⟨_, _, _, p, hp, hp2, _⟩ := hst 0 qs hqs
      have hg1 : (gs0.set 1 (qs.map fun p => (p.1, p.2 ++ tail)))[1]? = some (qs.map fun p => (p.1, p.2 ++ tail)) := by
        rw [List.getElem?_set, if_pos rfl, if_pos (by omega)]
      have h1 := hle hi hg1 (List.mem_map.mpr ⟨p, hp, rfl⟩)
      have e : p.2 = [] := by
        cases e9 : p.2 with
        | nil => rfl
        | cons a t =>
          have := hp2 a (by rw [e9]; exact List.mem_cons_self)
          rw [List.take_zero] at this
          cases this
      have h1 : f n ≤ 1 + sumN f (p.2 ++ tail) := h1
      rw [e, List.nil_append] at h1
      have h5 := sumN_one hf0 fun x hx => htk x (htsub x hx)
      omega
end
section
variable {P : Program} {w : World} {K : PySem.W.Frag} {mg : Str → Option Value} {base : Heap} {A : Ad}
def sp_rise : Sp := fun vs H Q _ => ∃ (wd nd : Addr) (kvs : List (Key × V)) (names : List Str) (rs : List Rule), vs = [.ref wd, .ref nd] ∧ WdAt H wd names rs ∧ GoodR names rs ∧ EndsR names rs ∧ names.length ≤ 3 ∧ H nd = some (.dK kvs) ∧ (∀ n ∈ names, valV kvs (Sum.inr n : Key) = some (.int (nrmW rs n : Nat))) ∧
  ∀ (r : Int) H', Same H H' → 0 ≤ r → r ≤ 100 → Q (.int r) H'
theorem ok__law_rise (T : Txt K mg A) : FnOk P w K mg base CX0 2 A.a__law_rise A.d__law_rise ["_law_world_here", "_law_norm"] sp_rise := by
  have G__law_weight : FnOk P w K mg base CX0 1 A.a__law_weight A.d__law_weight ["_law_norm", "_law_one"] sp_weight := ok__law_weight T
  refine T.F__law_rise.ok sc__law_rise (fun vs H Q E h => ?_) (fun cdv A0 outer s0 H vs Q E hr h => ?_)
  · obtain ⟨_, _, _, _, _, rfl, _⟩ := h
    rfl
  · obtain ⟨wd, nd, kvs, names, rs, rfl, WD, hgood, hends, hn3, hnd, hnv, q⟩ := h
    have hu := hu_of hr
    have hu64 := hu64_of hr
    obtain ⟨nl, rd, kw, kvs0, hwd, hvn, hvr, hnl, hrd, hlook⟩ := WD
    have hfew : ∀ n, (rulesOf rs n).length ≤ 4 := hgood.few
    have hpin : ∀ n, ∀ p ∈ rulesOf rs n, p.2.length ≤ 3 ∧ ∀ x ∈ p.2, x ∈ names := fun n p hp => ⟨(hgood.ok _ (mem_rulesOf.mp hp)).2.2.1, (hgood.ok _ (mem_rulesOf.mp hp)).2.2.2⟩
    have f2 : ∀ n ∈ names, nrmW rs n ≤ 13 := fun n hn => nrm_13 hgood hends hn3 hn
    refine ⟨_, (pss_cons (ps_set (i := 2) sc__law_rise.nd rfl (Or.inl rfl) (pe_lst (pa_cons pe_int pa_nil)))
 (pss_cons (ps_for PassesOwn.never rfl (pi_list (pe_dget hu (pv 0) pe_str (fun _ _ => rfl))) (pg_name (i := 3) sc__law_rise.nd rfl (Or.inr rfl))
 (pss_one (ps_set (i := 2) sc__law_rise.nd rfl (Or.inl rfl) (pe_op op_cat (pv 2) (pe_lc (own := [("_law_letter", 4), ("_law_row", 5)]) (g := gTup K 2 (gCons (gName 4) (gCons (gName 5) gNil))) (by rfl) sc__law_rise.nd (pi_list (pe_dget hu (pe_dget hu (pv 0) pe_str (fun _ _ => rfl)) (pv 3) (fun _ _ => rfl))) (blkOk_by (own := [("_law_letter", 4), ("_law_row", 5)]) (N := ["_law_world_here", "_law_norm", "_law_found", "_law_name", "_law_letter", "_law_row"]) (sc := defScope s__law_rise) (by decide +kernel)) (fun _ _ _ _ _ => (pg_tup (by rfl) (pgs_cons (pg_name (i := 4) sc__law_rise.nd rfl (Or.inl rfl)) (pgs_cons (pg_name (i := 5) sc__law_rise.nd rfl (Or.inl rfl)) pgs_nil)))) (fun _ _ _ _ _ => pts_nil) (fun _ _ _ _ _ => (pe_op op_sub (pe_call G__law_weight (hr.mono (by decide)) (by rfl) T.g__law_weight T.F__law_weight.kp T.b__law_weight .nil pass0 (pa_cons (pv 1) (pa_cons (pv 5) pa_nil))) (pe_dget hu (pv 1) (pv 3) (fun _ _ => rfl)))))))))
 (pss_one (ps_ret (pe_callB (id := "max") (r := rMax K) (cr_max rfl) (by rfl) T.max (by decide +kernel) (pa_cons (pv 2) pa_nil)))))), ?_⟩
    refine ⟨sl2 (by show 1 ≤ 1000000; decide), fun l0 hl0 => ?_⟩
    have sm0 := same_new hl0 (o := .lst [V.int 0])
    have h0 : (upd H l0 (.lst [V.int 0])) l0 = some (.lst (([0] : List Int).map V.int)) := upd_same
    generalize (upd H l0 (.lst [V.int 0])) = H1 at sm0 h0 ⊢
    refine ⟨_, rfl, wd, _, rfl, .inl ⟨_, Sum.inr "names", .inl (sm0 _ _ hwd), rfl, hvn.symm⟩, nl, rfl, ⟨_, SqL.of (sm0 _ _ hnl)⟩, for_list (K := K) (a := nl) (xs := names.map V.str) (fun i σ' H' => ∃ (l : Addr) (x3 : Option V) (zs : List Int), σ' = [some (.ref wd), some (.ref nd), some (.ref l), x3, none, none] ∧ Same H H' ∧ H' l = some (.lst (zs.map V.int)) ∧ zs.length ≤ 1 + 4 * i ∧ 0 ∈ zs ∧ ∀ z ∈ zs, z ≤ 100) ?_ ?_ ?_ ?_⟩
    · exact ⟨l0, _, [0], rfl, sm0, h0, Nat.le_refl _, List.mem_singleton.mpr rfl, fun z hz => by rw [List.mem_singleton.mp hz]; decide⟩
    · rintro i σ' H' _ ⟨_, _, _, rfl, sm, _⟩
      exact SqL.of (sm _ _ hnl)
    · rintro i x σ' H2 hi ⟨l, x3, zs, rfl, sm2, hl, hzl, hz0, hzb⟩
      obtain ⟨n, hn, rfl⟩ := map_at hi
      have hil := (List.getElem?_eq_some_iff.mp hn).1
      have hnm := List.mem_of_getElem? hn
      obtain ⟨rl, ts, hval, hrl, hrp⟩ := hlook n hnm
      have hrl2 := sm2 _ _ hrl
      have htl := paired_len hrp
      have hfn := hfew n
      refine ⟨_, rfl, _, rfl, wd, _, rfl, .inl ⟨_, Sum.inr "rules", .inl (sm2 _ _ hwd), rfl, hvr.symm⟩, _, rfl, rd, _, rfl, .inl ⟨_, Sum.inr n, .inl (sm2 _ _ hrd), rfl, hval.symm⟩, rl, rfl, ⟨_, SqL.of hrl2⟩, fun D hD => lc_list (K := K) (a := rl) (xs := ts.map V.ref) (fun i H' => ∃ ws : List Int, Same H2 H' ∧ H' D = some (.lst (ws.map V.int)) ∧ ws.length = i ∧ ∀ z ∈ ws, z ≤ 100) ?_ ?_ ?_ ?_⟩
      · exact ⟨[], same_new hD, upd_same, rfl, fun z hz => (nomatch hz)⟩
      · rintro i H' _ ⟨_, sm, _⟩
        exact SqL.of (sm _ _ hrl2)
      · rintro i2 v H3 hi2 ⟨ws, sm3, h3, hwl, hwb⟩
        obtain ⟨t, ht, rfl⟩ := map_at hi2
        have hi2l := (List.getElem?_eq_some_iff.mp ht).1
        obtain ⟨p, hp, w0, hw1, hw2⟩ := L2.paired_get hrp ht
        have hpm := List.mem_of_getElem? hp
        obtain ⟨hp3, hpn⟩ := hpin n p hpm
        have s3 := sm2.trans sm3
        refine ⟨t, _, rfl, SqT.of (s3 _ _ hw1), rfl, _, _, rfl, _, _, rfl, rfl, rfl, tyes (iteT ?_)⟩
        refine ⟨_, rfl, _, rfl, nd, w0, kvs, nrmW rs, p.2, rfl, s3 _ _ hnd, fun x hx => hnv x (hpn x hx), s3 _ _ hw2, by omega, fun H4 sm4 => ?_⟩
        refine ⟨_, rfl, _, rfl, nd, _, rfl, .inl ⟨_, Sum.inr n, .inl (sm4 _ _ (s3 _ _ hnd)), rfl, (hnv n hnm).symm⟩, ?_⟩
        have hsb : sumN (nrmW rs) p.2 ≤ p.2.length * 13 := sumN_le fun x hx => f2 x (hpn x hx)
        refine ⟨_, _, rfl, rfl, _, sm4 _ _ h3, by rw [List.length_map]; exact sl1 (by omega), ws ++ [_], same_mut (sm3.trans sm4) hD, by rw [upd_same, List.map_append]; rfl, by rw [List.length_append, hwl]; rfl, fun z hz => ?_⟩
        rcases List.mem_append.mp hz with hz | hz
        · exact hwb z hz
        · rw [List.mem_singleton.mp hz]
          omega
      rintro H3 ⟨ws, sm3, h3, hwl, hwb⟩
      rw [List.length_map] at hwl
      have hl3 := sm3 _ _ hl
      refine ⟨l, D, _, _, rfl, rfl, hl3, h3, by rw [List.length_map, List.length_map]; exact sl2 (by omega), fun l2 hl2 => ?_⟩
      have sm4 := same_new hl2 (o := .lst (zs.map V.int ++ ws.map V.int))
      refine ⟨l2, _, zs ++ ws, rfl, (sm2.trans sm3).trans sm4, by rw [upd_same, List.map_append], by rw [List.length_append]; omega, List.mem_append_left _ hz0, fun z hz => ?_⟩
      rcases List.mem_append.mp hz with hz | hz
      · exact hzb z hz
      · exact hwb z hz
    · rintro σ' H2 ⟨l, x3, zs, rfl, sm2, hl, hzl, hz0, hzb⟩
      refine ⟨_, rfl, l, zs, rfl, SqL.of hl, List.length_pos_of_mem hz0, fun m hm hmx => ?_⟩
      exact q m H2 sm2 (hmx 0 hz0) (hzb m hm)
end
end SG
namespace SG
open PySem PySem.Spec PyProof.Rows L2 LamX
section
variable {P : Program} {w : World} {K : PySem.W.Frag} {mg : Str → Option Value} {base : Heap} {A : Ad}
theorem stepsOk {names : List Str} {rs : List Rule} {b s : Nat} (hg : GoodR names rs) (hb : ∀ n, (rulesOf rs n).length ≤ b) (hs : names.length * b ≤ s) (h1 : 1 ≤ names.length) (kind : Str) : StepOk names (stepsOf kind rs) s := by
  have h2 := rowStepOk hg hb hs h1
  have h3 := bagStepOk hg hb hs
  by_cases c : kind = "row"
  · have e : stepsOf kind rs = rowSteps rs := funext fun x => by
      unfold stepsOf
      rw [if_pos c]
    rw [e]
    exact h2
  · have e : stepsOf kind rs = bagSteps rs := funext fun x => by
      unfold stepsOf
      rw [if_neg c]
    rw [e]
    exact h3
theorem itT24 {b : Bool} {A B : Prop} (hb : b = true) (h : A) : if b = true then A else B := by rw [if_pos hb]; exact h
theorem itF24 {b : Bool} {A B : Prop} (hb : b = false) (h : B) : if b = true then A else B := by rw [hb]; exact iteF h
theorem wdAt_of2 {H : Hp} {wd : Addr} {names chain : List Str} {gs : List (List Step)} {b : Nat} (W : WorldAt H wd names chain gs) (hR : WorldR chain b 3 gs) (cnd : chain.Nodup) (hperm : names.Perm chain) : WdAt H wd names (rulesW names (stepsW chain gs)) := by
  obtain ⟨nl, rd, ls, hwd, hnl, hrd, hll, hlp⟩ := W
  exact ⟨nl, rd, _, _, hwd, names_val nl rd, rules_val nl rd, hnl, hrd, fun n hn => world_look (rd := rd) hll hlp hR cnd hperm hn⟩
def sp_law (K : PySem.W.Frag) (A : Ad) : Sp := fun vs H Q _ => ∃ (a : Addr) (ns : List Int), vs = [.ref a] ∧ SqL K H a (ns.map V.int) ∧ ns.length ≤ 63 ∧ Tabs (tabT A) H ∧ ∀ H', Q (.bl true) H'
theorem pairedTk24 {α β : Type} {F : α → β → Prop} : ∀ {xs : List α} {ys : List β}, Paired F xs ys → ∀ i, Paired F (xs.take i) (ys.take i)
  | _, _, .nil, i => by rw [List.take_nil, List.take_nil]; exact .nil
  | _, _, .cons h t, 0 => .nil
  | _, _, .cons h t, i + 1 => .cons h (pairedTk24 t i)
/-- the pair of a beginning of a play -/
def PairAt (one other : List Str) (play : List PRow) (i : Nat) (xs ys : List Str) : Prop := (i = 0 ∧ xs = one ∧ ys = other) ∨ ∃ j q, i = j + 1 ∧ play[j]? = some q ∧ xs = q.x ∧ ys = q.y
/-- no play holds of a row and itself -/
theorem good_self {st : StepF} {nf : Str → Nat} {o : List Str → List Str} {one other : List Str} {play : List PRow} (ho : ∀ q ∈ play, o q.x = q.x ∧ o q.y = q.y ∧ ∃ m, alW st m q.x q.y = false) {i : Nat} {xs ys : List Str} (h : PairAt one other play i xs ys) : goodPlay st nf o xs xs (play.take i) = false := by
  rcases h with ⟨rfl, rfl, rfl⟩ | ⟨j, q, rfl, hq, rfl, rfl⟩
  · unfold goodPlay
    rw [List.take_zero, if_pos rfl]
    exact decide_eq_false fun h => h rfl
  · obtain ⟨h1, h2, m, h3⟩ := ho q (List.mem_of_getElem? hq)
    have hne : q.x ≠ q.y := fun z => by
      rw [z, alW_refl] at h3
      cases h3
    unfold goodPlay
    rw [take_snoc hq, if_neg (by simp), List.map_append, List.map_cons, List.map_nil, List.getLast?_concat]
    have : decide (some (twoO o q) = some (o q.x, o q.x)) = false := decide_eq_false fun z => by
      have z := Option.some.inj z
      unfold twoO at z
      have z2 := (Prod.mk.inj z).2
      rw [h1, h2] at z2
      exact hne z2.symm
    rw [this, Bool.and_false]
/-- the rounds that part the pair of a beginning of a play that holds -/
theorem least_parts {names : List Str} {rs : List Rule} {kind : Str} {s : Nat} (hg : GoodR names rs) (he : EndsR names rs) (hst : StepOk names (stepsOf kind rs) s) (h2 : ∀ n ∈ names, nrmW rs n ≤ 2) {one other : List Str} {play : List PRow} (hx : ∀ z ∈ one, z ∈ names) (hy : ∀ z ∈ other, z ∈ names) (hxl : one.length ≤ 2) (hyl : other.length ≤ 2) (hpl : ∀ q ∈ play, (∀ z ∈ q.x, z ∈ names) ∧ (∀ z ∈ q.y, z ∈ names) ∧ ∃ m, 1 ≤ m ∧ m ≤ 3 ∧ alW (stepsOf kind rs) m q.x q.y = false ∧ sumN (nrmW rs) q.x = sumN (nrmW rs) q.y)
    {i L : Nat} {xs ys : List Str} (h : PairAt one other play i xs ys) (hgood : goodPlay (stepsOf kind rs) (nrmW rs) (ordK kind) xs ys (play.take i) = true) (hL0 : i = 0 → L = min (sumN (nrmW rs) xs) (sumN (nrmW rs) ys) + 1) (hL1 : min (sumN (nrmW rs) xs) (sumN (nrmW rs) ys) + i + 1 ≤ L) : ∃ rr, rr ≤ 4 ∧ (L ≤ rr ∨ alW (stepsOf kind rs) rr xs ys = false) ∧ alW (stepsOf kind rs) L xs ys = false := by
  have up : ∀ {m : Nat} {x y : List Str}, alW (stepsOf kind rs) m x y = false → ∀ {k}, m ≤ k → alW (stepsOf kind rs) k x y = false := fun {m x y} h {k} hk => by
    cases e : alW (stepsOf kind rs) k x y with
    | false => rfl
    | true =>
      rw [alW_le e hk] at h
      cases h
  rcases h with ⟨rfl, rfl, rfl⟩ | ⟨j, q, rfl, hq, rfl, rfl⟩
  · have hL := hL0 rfl
    unfold goodPlay at hgood
    rw [List.take_zero, if_pos rfl] at hgood
    have hne := of_decide_eq_true hgood
    have b1 : sumN (nrmW rs) xs ≤ xs.length * 2 := sumN_le fun z hz => h2 z (hx z hz)
    have b2 : sumN (nrmW rs) ys ≤ ys.length * 2 := sumN_le fun z hz => h2 z (hy z hz)
    have hp : alW (stepsOf kind rs) L xs ys = false := by
      rcases Nat.lt_or_gt_of_ne hne with c | c
      · rw [hL, Nat.min_eq_left (by omega)]
        exact part_least hg he hst _ xs ys hx hy rfl c
      · rw [hL, Nat.min_eq_right (by omega), alW_sym]
        exact part_least hg he hst _ ys xs hy hx rfl c
    refine ⟨L, ?_, .inl (Nat.le_refl _), hp⟩
    omega
  · obtain ⟨g1, g2, m, m1, m3, hal, hs⟩ := hpl q (List.mem_of_getElem? hq)
    have hw : 1 ≤ sumN (nrmW rs) q.x := by
      have b1 : q.x.length ≤ sumN (nrmW rs) q.x := sumN_pos fun z hz => nrm_pos hg he (g1 z hz)
      have b2 : q.y.length ≤ sumN (nrmW rs) q.y := sumN_pos fun z hz => nrm_pos hg he (g2 z hz)
      rcases Nat.eq_zero_or_pos (sumN (nrmW rs) q.x) with c | c
      · have e1 : q.x = [] := List.length_eq_zero_iff.mp (by omega)
        have e2 : q.y = [] := List.length_eq_zero_iff.mp (by omega)
        rw [e1, e2, alW_refl] at hal
        cases hal
      · exact c
    exact ⟨m, by omega, .inr hal, up hal (by omega)⟩
theorem ok_law {f : Addr} {fd : FuncData} (F : Fun K "law" "law" s_law f fd) (T : Txt K mg A) (TB : TabB base mg A.k_lam A.p_lam) : FnOk P w K mg base CX0 60 f fd ["_law_script"] (sp_law K A) := by
  have G__law_cell_at : FnOk P w K mg base CX0 1 A.a__law_cell_at A.d__law_cell_at ["_law_script", "_law_k"] (sp_cell_at K) := ok__law_cell_at T
  have G__law_well : FnOk P w K mg base CX0 1 A.a__law_well A.d__law_well ["_law_cell"] sp_wellC := ok__law_well T
  have G__law_draw : FnOk P w K mg base CX0 1 A.a__law_draw A.d__law_draw ["_law_well_here", "_law_wide"] sp_drawC := ok__law_draw T
  have G__law_world : FnOk P w K mg base CX0 4 A.a__law_world A.d__law_world ["_law_well_here", "_law_many", "_law_wide", "_law_cap"] (sp_world24 (tabT A)) := ok__law_world T TB
  have G__law_made : FnOk P w K mg base CX0 6 A.a__law_made A.d__law_made ["_law_world_here"] (sp_made A.c_Grammar) := ok__law_made T
  have G__law_two : FnOk P w K mg base CX0 3 A.a__law_two A.d__law_two ["_law_well_here", "_law_kind", "_law_names", "_law_most"] sp_two := ok__law_two T
  have G__law_parted : FnOk P w K mg base CX0 9 A.a__law_parted A.d__law_parted ["_law_world_here", "_law_kind", "_law_one", "_law_other", "_law_most"] (sp_lparted 3) := ok__law_parted T 3
  have G__law_play : FnOk P w K mg base CX0 10 A.a__law_play A.d__law_play ["_law_world_here", "_law_kind", "_law_one", "_law_other", "_law_many"] (sp_lplay P w) := ok__law_play T
  have G__law_norms : FnOk P w K mg base CX0 1 A.a__law_norms A.d__law_norms ["_law_world_here"] sp_lnorms := ok__law_norms T
  have G__law_weight : FnOk P w K mg base CX0 1 A.a__law_weight A.d__law_weight ["_law_norm", "_law_one"] sp_weight := ok__law_weight T
  have G__law_pair : FnOk P w K mg base CX0 1 A.a__law_pair A.d__law_pair ["_law_kind", "_law_one", "_law_other"] sp_pair := ok__law_pair T
  have G__law_rise : FnOk P w K mg base CX0 2 A.a__law_rise A.d__law_rise ["_law_world_here", "_law_norm"] sp_rise := ok__law_rise T
  have G_rank : FnOk P w K mg base CX0 16 A.a_rank A.d_rank ["grammar", "kind", "one", "other", "most"] (sp_rank A.c_Grammar 4) := ok_rank T 4
  have G_play_holds : FnOk P w K mg base CX0 9 A.a_play_holds A.d_play_holds ["grammar", "kind", "one", "other", "play"] (sp_play A.c_Grammar) := ok_play_holds T
  refine F.ok sc_law (fun vs H Q E h => ?_) (fun cdv A0 outer s0 H vs Q E hr h => ?_)
  · obtain ⟨a, ns, rfl, _⟩ := h
    rfl
  · obtain ⟨a, ns, rfl, hS, hlen, hT, q⟩ := h
    have hu := hu_of hr
    have hu64 := hu64_of hr
    refine ⟨_, (pss_cons (ps_set (i := 1) sc_law.nd rfl (Or.inl rfl) (pe_call G__law_world (hr.mono (by decide)) (by rfl) T.g__law_world T.F__law_world.kp T.b__law_world .nil pass0 (pa_cons (pe_call G__law_well (hr.mono (by decide)) (by rfl) T.g__law_well T.F__law_well.kp T.b__law_well .nil pass0 (pa_cons (pe_call G__law_cell_at (hr.mono (by decide)) (by rfl) T.g__law_cell_at T.F__law_cell_at.kp T.b__law_cell_at .nil pass0 (pa_cons (pv 0) (pa_cons pe_int pa_nil))) pa_nil)) (pa_cons (pe_op op_add pe_int (pe_op op_mod (pe_call G__law_cell_at (hr.mono (by decide)) (by rfl) T.g__law_cell_at T.F__law_cell_at.kp T.b__law_cell_at .nil pass0 (pa_cons (pv 0) (pa_cons pe_int pa_nil))) pe_int)) (pa_cons pe_int (pa_cons pe_int pa_nil))))))
 (pss_cons (ps_set (i := 2) sc_law.nd rfl (Or.inl rfl) (pe_call G__law_made (hr.mono (by decide)) (by rfl) T.g__law_made T.F__law_made.kp T.b__law_made .nil pass0 (pa_cons (pv 1) pa_nil)))
 (pss_cons (ps_set (i := 3) sc_law.nd rfl (Or.inl rfl) (pe_call G__law_norms (hr.mono (by decide)) (by rfl) T.g__law_norms T.F__law_norms.kp T.b__law_norms .nil pass0 (pa_cons (pv 1) pa_nil)))
 (pss_cons (ps_for PassesOwn.never rfl (pi_list (pe_op op_cat (pe_lst (pa_cons (pe_call G__law_cell_at (hr.mono (by decide)) (by rfl) T.g__law_cell_at T.F__law_cell_at.kp T.b__law_cell_at .nil pass0 (pa_cons (pv 0) (pa_cons pe_int pa_nil))) pa_nil)) (pe_slice (r := rSlL K) sl_list (pv 0) (po_some pe_int) (po_some pe_int)))) (pg_name (i := 4) sc_law.nd rfl (Or.inl rfl))
 (pss_cons (ps_set (i := 5) sc_law.nd rfl (Or.inl rfl) (pe_call G__law_well (hr.mono (by decide)) (by rfl) T.g__law_well T.F__law_well.kp T.b__law_well .nil pass0 (pa_cons (pv 4) pa_nil)))
 (pss_cons (ps_set (i := 6) sc_law.nd rfl (Or.inl rfl) (pe_ix (r := rIxL K) ix_list (pe_lst (pa_cons pe_str (pa_cons pe_str pa_nil))) (pe_call G__law_draw (hr.mono (by decide)) (by rfl) T.g__law_draw T.F__law_draw.kp T.b__law_draw .nil pass0 (pa_cons (pv 5) (pa_cons pe_int pa_nil))) (fun _ _ => rfl)))
 (pss_cons (ps_asg (pe_call G__law_two (hr.mono (by decide)) (by rfl) T.g__law_two T.F__law_two.kp T.b__law_two .nil pass0 (pa_cons (pv 5) (pa_cons (pv 6) (pa_cons (pe_dget hu (pv 1) pe_str (fun _ _ => rfl)) (pa_cons pe_int pa_nil))))) (pg_tup (by rfl) (pgs_cons (pg_name (i := 7) sc_law.nd rfl (Or.inl rfl)) (pgs_cons (pg_name (i := 8) sc_law.nd rfl (Or.inl rfl)) pgs_nil))))
 (pss_cons (ps_asg (pe_call G__law_pair (hr.mono (by decide)) (by rfl) T.g__law_pair T.F__law_pair.kp T.b__law_pair .nil pass0 (pa_cons (pv 6) (pa_cons (pe_slice (r := rSlL K) sl_list (pv 7) po_none (po_some pe_int)) (pa_cons (pe_slice (r := rSlL K) sl_list (pv 8) po_none (po_some pe_int)) pa_nil)))) (pg_tup (by rfl) (pgs_cons (pg_name (i := 7) sc_law.nd rfl (Or.inl rfl)) (pgs_cons (pg_name (i := 8) sc_law.nd rfl (Or.inl rfl)) pgs_nil))))
 (pss_cons (ps_set (i := 9) sc_law.nd rfl (Or.inl rfl) (pe_call G__law_parted (hr.mono (by decide)) (by rfl) T.g__law_parted T.F__law_parted.kp T.b__law_parted .nil pass0 (pa_cons (pv 1) (pa_cons (pv 6) (pa_cons (pv 7) (pa_cons (pv 8) (pa_cons pe_int pa_nil)))))))
 (pss_cons (ps_set (i := 10) sc_law.nd rfl (Or.inl rfl) (pe_lst pa_nil))
 (Evl.pss_cut (ps_if (pt_cmpR op_notN (pv 9) pe_non (nomark _)) (pss_one (ps_set (i := 10) sc_law.nd rfl (Or.inl rfl) (pe_call G__law_play (hr.mono (by decide)) (by rfl) T.g__law_play T.F__law_play.kp T.b__law_play .nil pass0 (pa_cons (pv 1) (pa_cons (pv 6) (pa_cons (pv 7) (pa_cons (pv 8) (pa_cons (pv 9) pa_nil)))))))) pss_nil)
 (pss_one (ps_for PassesOwn.never rfl (pi_range1 (by rfl) T.range (pa_cons (pe_op op_add (pe_callB (id := "len") (r := Evl.rLenS K) call_len_seq (by rfl) T.len (by decide +kernel) (pa_cons (pv 10) pa_nil)) pe_int) pa_nil)) (pg_name (i := 11) sc_law.nd rfl (Or.inl rfl))
 (pss_cons (ps_par (i := 12) (j := 13) (by rfl) sc_law.nd rfl rfl (by decide) rfl rfl (pa_cons (pv 7) (pa_cons (pv 8) pa_nil)) (by rfl))
 (Evl.pss_cut (ps_if (pt_cmpR op_gt (pv 11) pe_int (nomark _)) (pss_one (ps_asg (pe_slice (r := rSlT K) sl_tup (pe_ix (r := rIxL K) ix_list (pv 10) (pe_op op_sub (pv 11) pe_int) (fun _ _ => rfl)) po_none (po_some pe_int)) (pg_tup (by rfl) (pgs_cons (pg_name (i := 12) sc_law.nd rfl (Or.inl rfl)) (pgs_cons (pg_name (i := 13) sc_law.nd rfl (Or.inl rfl)) pgs_nil))))) pss_nil)
 (pss_cons (ps_set (i := 14) sc_law.nd rfl (Or.inl rfl) (pe_op op_add (pe_op op_add (pe_callB (id := "min") (call_min2 rfl) (by rfl) T.min (by decide +kernel) (pa_cons (pe_call G__law_weight (hr.mono (by decide)) (by rfl) T.g__law_weight T.F__law_weight.kp T.b__law_weight .nil pass0 (pa_cons (pv 3) (pa_cons (pv 12) pa_nil))) (pa_cons (pe_call G__law_weight (hr.mono (by decide)) (by rfl) T.g__law_weight T.F__law_weight.kp T.b__law_weight .nil pass0 (pa_cons (pv 3) (pa_cons (pv 13) pa_nil))) pa_nil))) (pe_op op_mul (pv 11) (pe_op op_add pe_int (pe_call G__law_rise (hr.mono (by decide)) (by rfl) T.g__law_rise T.F__law_rise.kp T.b__law_rise .nil pass0 (pa_cons (pv 1) (pa_cons (pv 3) pa_nil)))))) pe_int))
 (Evl.pss_cut (ps_if (PW.pt (pw_and (pt_val (pe_call G_play_holds (hr.mono (by decide)) (by rfl) T.g_play_holds T.F_play_holds.kp T.b_play_holds .nil pass0 (pa_cons (pv 2) (pa_cons (pv 6) (pa_cons (pv 12) (pa_cons (pv 13) (pa_cons (pe_slice (r := rSlL K) sl_list (pv 10) po_none (po_some (pv 11))) pa_nil))))))) (pw_and1 (pt_cmpR op_le (pv 14) pe_int (nomark _))))) (pss_one (ps_if (pt_cmpR op_isN (pe_call G_rank (hr.mono (by decide)) (by rfl) T.g_rank T.F_rank.kp T.b_rank .nil pass0 (pa_cons (pv 2) (pa_cons (pv 6) (pa_cons (pv 12) (pa_cons (pv 13) (pa_cons (pv 14) pa_nil)))))) pe_non (nomark _)) (pss_one (ps_ret pe_bl)) pss_nil)) pss_nil)
 (pss_one (ps_if (pt_val (pe_call G_play_holds (hr.mono (by decide)) (by rfl) T.g_play_holds T.F_play_holds.kp T.b_play_holds .nil pass0 (pa_cons (pv 2) (pa_cons (pv 6) (pa_cons (pv 12) (pa_cons (pv 12) (pa_cons (pe_slice (r := rSlL K) sl_list (pv 10) po_none (po_some (pv 11))) pa_nil))))))) (pss_one (ps_ret pe_bl)) pss_nil))))))))))))))))
 (pss_one (ps_ret pe_bl)))))), ?_⟩
    -- the world
    refine ⟨_, rfl, a, ns, 0, rfl, hS, fun z0 => ⟨z0, rfl, fun s H1 hs sm1 w1 => ?_⟩⟩
    refine ⟨_, rfl, a, ns, 0, rfl, sm1.seq hS, fun z1 => ?_⟩
    have m0 := Int.emod_nonneg z1 (show (2 : Int) ≠ 0 by decide)
    have m1 := Int.emod_lt_of_pos z1 (show (0 : Int) < 2 by decide)
    obtain ⟨m, hm⟩ : ∃ m : Nat, z1 % 2 = (m : Int) := ⟨(z1 % 2).toNat, (Int.toNat_of_nonneg m0).symm⟩
    refine ⟨_, _, rfl, rfl, lt0, _, _, rfl, rfl, ?_⟩
    refine ⟨s, 1 + m, 3, 2, 0, by show [V.ref s, V.int (1 + z1 % 2), V.int 3, V.int 2] = _; rw [hm, Int.natCast_add]; rfl, by omega, by omega, by decide, by decide, by decide, w1, by decide, tabs_same hT sm1, fun wd H2 names chain gs wB bx wd0 hT2 W hM hB hperm hch hcl hR => ?_⟩
    have e02 : ExtN H H2 := extN_butX sm1 bx hs
    have hS2 : SqL K H2 a (ns.map V.int) := extN_seq e02 hS
    refine ⟨_, rfl, wd, names, chain, gs, 3, rfl, W, hR, by decide, hperm, hch, fun g H3 sm3 G => ?_⟩
    have cnd := areNames_nd hch
    have hgood := world_good hR (by decide) cnd hperm
    have hfew := fun n => world_few hR cnd hperm n
    have hends := world_ends hR cnd hperm
    have hnn := areNames_perm hperm.symm hch
    have nnd := areNames_nd hnn
    have hnl : names.length = 1 + m := by rw [hperm.length_eq]; exact hcl
    have hn22 := world_two hR (by decide) cnd hperm (by omega) hM hB
    have hrl := rulesW_len hR cnd names fun x hx => hperm.mem_iff.mp hx
    have hsh : ShortR (rulesW names (stepsW chain gs)) := hgood.short (by omega)
    have hin := hgood.hin
    have hst : ∀ kind, StepOk names (stepsOf kind (rulesW names (stepsW chain gs))) 6 := fun kind => stepsOk hgood hfew (by omega) (by omega) kind
    have WD3 := (wdAt_of2 W hR cnd hperm).same sm3
    have hS3 := sm3.seq hS2
    have hn3 : names.length ≤ 3 := by omega
    generalize rulesW names (stepsW chain gs) = rs at G hgood hends hsh hin hst WD3 hfew hrl hn22
    clear hR hperm hch hcl cnd hS2 e02 bx hT2 W hrl hM hB
    -- the norms
    refine ⟨_, rfl, wd, names, rs, rfl, WD3, hgood, hends, hn3, fun nd H3b kvs smN hnd hnv => ?_⟩
    replace hS3 := smN.seq hS3
    replace WD3 := WD3.same smN
    replace G := G.same smN
    -- the cells
    refine ⟨_, rfl, a, ns, 1, rfl, hS3, fun z2 => ?_⟩
    refine ⟨sl2 (by show 1 ≤ 1000000; decide), fun p1 hp1 => ?_⟩
    have smA := same_new hp1 (o := .lst [V.int z2])
    refine ⟨_, rfl, _, rfl, _, rfl, a, _, rfl, smA.seq hS3, fun p2 hp2 => ?_⟩
    obtain ⟨zs, hzs, hzl, _⟩ := cut_ints ns (some 2) (some 4)
    rw [hzs]
    have smB := same_new hp2 (o := .lst (zs.map V.int))
    refine ⟨p1, p2, _, _, rfl, rfl, smB _ _ upd_same, upd_same, by rw [List.length_map]; exact sl2 (by show 1 + zs.length ≤ 1000000; omega), fun p3 hp3 => ?_⟩
    have sm34 : Same H3b (upd (upd (upd H3b p1 (.lst [V.int z2])) p2 (.lst (zs.map V.int))) p3 (.lst ([V.int z2] ++ zs.map V.int))) := smA.trans (smB.trans (same_new hp3))
    have h3 : (upd (upd (upd H3b p1 (.lst [V.int z2])) p2 (.lst (zs.map V.int))) p3 (.lst ([V.int z2] ++ zs.map V.int))) p3 = some (.lst ((z2 :: zs).map V.int)) := upd_same
    generalize (upd (upd (upd H3b p1 (.lst [V.int z2])) p2 (.lst (zs.map V.int))) p3 (.lst ([V.int z2] ++ zs.map V.int))) = H4 at sm34 h3 ⊢
    have G4 := G.same sm34
    have WD4 := WD3.same sm34
    have hnd4 := sm34 _ _ hnd
    clear smA smB hp1 hp2 hp3 hzs WD3 sm34 hS3 G sm3 hnd smN
    refine ⟨p3, rfl, ⟨_, SqL.of h3⟩, for_list (K := K) (a := p3) (xs := (z2 :: zs).map V.int) (fun i σ' H' => ∃ x4 x5 x6 x7 x8 x9 x10 x11 x12 x13 x14 : Option V, σ' = [some (.ref a), some (.ref wd), some (.ref g), some (.ref nd), x4, x5, x6, x7, x8, x9, x10, x11, x12, x13, x14] ∧ Same H4 H') ?_ ?_ ?_ ?_⟩
    · exact ⟨_, _, _, _, _, _, _, _, _, _, _, rfl, Same.refl _⟩
    · rintro i σ' H' _ ⟨_, _, _, _, _, _, _, _, _, _, _, rfl, sm⟩
      exact SqL.of (sm _ _ h3)
    · rintro i x σ' H5 hi ⟨x4, x5, x6, x7, x8, x9, x10, x11, x12, x13, x14, rfl, sm5⟩
      obtain ⟨cell, hcell, rfl⟩ := map_at hi
      refine ⟨_, rfl, cell, rfl, fun s2 H6 hs2 sm6 w6 => ?_⟩
      have sm46 := sm5.trans sm6
      have hs4 : H4 s2 = none := sm5.free hs2
      -- the kind
      refine ⟨sl2 (by show 2 ≤ 1000000; decide), fun li hli => ?_⟩
      have sml := same_new hli (o := .lst [V.str "row", V.str "bag"])
      have hli7 : (upd H6 li (.lst [V.str "row", V.str "bag"])) li = some (.lst ([("row" : Str), "bag"].map V.str)) := upd_same
      have w7 := w6.same sml
      have bt67 : But s2 H6 (upd H6 li (.lst [V.str "row", V.str "bag"])) := but_of_same sml
      generalize (upd H6 li (.lst [V.str "row", V.str "bag"])) = H7 at hli7 w7 bt67 ⊢
      refine ⟨_, rfl, s2, _, _, rfl, w7, by decide, by decide, by decide, fun j H8 j0 j1 bt8 w8 => ?_⟩
      have hli8 := bt8 _ _ (w7.1.ne_strs hli7) hli7
      obtain ⟨v, hv, hvm⟩ := atI_some (xs := [("row" : Str), "bag"].map V.str) j0 (show j < 2 from j1)
      obtain ⟨kind, hkm, rfl⟩ := List.mem_map.mp hvm
      have hkind : kind = "row" ∨ kind = "bag" := by
        simp at hkm
        exact hkm
      refine ⟨li, _, _, _, rfl, rfl, SqL.of hli8, hv, ?_⟩
      have bt68 := bt67.trans bt8
      clear hli8 hvm hv hli7 sml hli
      have sm48 : Same H4 H8 := bt68.under hs4 sm46
      obtain ⟨nl, rd, kw, kv8, hwd8, hvn, hvr, hnl8, _, _⟩ := WD4.same sm48
      -- one, other
      refine ⟨_, rfl, _, rfl, _, rfl, wd, _, rfl, .inl ⟨_, Sum.inr "names", .inl hwd8, rfl, hvn.symm⟩, s2, nl, kind, 2, _, names, rfl, by decide, by decide, w8, by decide, hnl8, by omega, by omega, fun pr H9 x0 y0 one0 other0 bt9 w9 hpr hx0 hy0 hxs0 hys0 hxl0 hyl0 hbag => ?_⟩
      refine ⟨pr, _, rfl, SqT.of hpr, rfl, _, _, rfl, _, _, rfl, rfl, ?_⟩
      -- cut
      refine ⟨_, rfl, _, rfl, _, rfl, x0, _, rfl, SqL.of hx0, fun xn hxn => ?_⟩
      have smx := same_new hxn (o := .lst (cutV (one0.map V.str) none (some (2 : Int))))
      have hxA : (upd H9 xn (.lst (cutV (one0.map V.str) none (some (2 : Int))))) xn = some (.lst ((one0.take 2).map V.str)) := by
        rw [upd_same, show (2 : Int) = ((2 : Nat) : Int) from rfl, cut_lt, ← List.map_take]
      generalize (upd H9 xn (.lst (cutV (one0.map V.str) none (some (2 : Int))))) = H10 at smx hxA ⊢
      refine ⟨_, rfl, _, rfl, y0, _, rfl, SqL.of (smx _ _ hy0), fun yn hyn => ?_⟩
      have smy := same_new hyn (o := .lst (cutV (other0.map V.str) none (some (2 : Int))))
      have hyA : (upd H10 yn (.lst (cutV (other0.map V.str) none (some (2 : Int))))) yn = some (.lst ((other0.take 2).map V.str)) := by
        rw [upd_same, show (2 : Int) = ((2 : Nat) : Int) from rfl, cut_lt, ← List.map_take]
      have hxB := smy _ _ hxA
      have sm911 := smx.trans smy
      generalize (upd H10 yn (.lst (cutV (other0.map V.str) none (some (2 : Int))))) = H11 at sm911 hxB hyA ⊢
      refine ⟨xn, yn, kind, _, _, rfl, hkind, hxB, hyA, fun p4 x1 y1 H12 sm12 hp4 hx12 hy12 _ _ => ?_⟩
      refine ⟨p4, _, rfl, SqT.of hp4, rfl, _, _, rfl, _, _, rfl, rfl, ?_⟩
      have sm912 := sm911.trans sm12
      have hxs : ∀ z ∈ ordK kind (one0.take 2), z ∈ names := ordK_in fun z hz => hxs0 z (List.mem_of_mem_take hz)
      have hys : ∀ z ∈ ordK kind (other0.take 2), z ∈ names := ordK_in fun z hz => hys0 z (List.mem_of_mem_take hz)
      have hxl : (ordK kind (one0.take 2)).length ≤ 2 := by rw [ordK_len, List.length_take]; omega
      have hyl : (ordK kind (other0.take 2)).length ≤ 2 := by rw [ordK_len, List.length_take]; omega
      have hox : ordK kind (ordK kind (one0.take 2)) = ordK kind (one0.take 2) := ordK_idem kind _
      have hoy : ordK kind (ordK kind (other0.take 2)) = ordK kind (other0.take 2) := ordK_idem kind _
      have bt612 := (bt68.trans bt9).same sm912
      have sm412 : Same H4 H12 := bt612.under hs4 sm46
      clear hbag hxs0 hys0 hxl0 hyl0 hx0 hy0 hpr smx smy hxA hxn hyn sm912 w9 bt9 bt8 w8 bt67 bt68 w7 hwd8 hnl8 sm48 hp4 sm12 hxB hyA sm911
      generalize ordK kind (one0.take 2) = one at hx12 hox hxs hxl ⊢
      generalize ordK kind (other0.take 2) = other at hy12 hoy hys hyl ⊢
      have tr : TreeF (PW 6 3) [] := by
        show 0 + PW 6 3 ≤ 16000000
        decide +kernel
      have tr4 : ∀ rr, rr ≤ 4 → TreeF (PW 6 rr) [] := fun rr hrr => by
        show 0 + PW 6 rr ≤ 16000000
        have h1 : PW 6 rr ≤ PW 6 4 := PW_le hrr
        have h2 : PW 6 4 ≤ 16000000 := by decide +kernel
        omega
      have WD12 := WD4.same sm412
      refine ⟨_, rfl, _, rfl, _, rfl, _, rfl, wd, x1, y1, kind, 3, 6, names, rs, one, other, TreeF, rfl, ⟨WD12, hkind, hst kind, by decide, hsh⟩, hx12, hy12, hxs, hys, by omega, by omega, by decide, fit_tree _ _, tr, fun H13 sm13 => ?_⟩
      have hxC := sm13 _ _ hx12
      have hyC := sm13 _ _ hy12
      have sm413 := sm412.trans sm13
      have WD13 := WD12.same sm13
      -- the play
      refine ⟨Nat.zero_le _, fun pl0 hpl0 => ?_⟩
      have smp := same_new hpl0 (o := .lst [])
      have hplA : (upd H13 pl0 (.lst [])) pl0 = some (.lst (([] : List Addr).map V.ref)) := upd_same
      generalize (upd H13 pl0 (.lst [])) = H13b at smp hplA ⊢
      refine ⟨fun σ' H' => ∃ (pl : Addr) (x9 : Option V) (ts : List Addr) (play : List PRow), σ' = [some (.ref a), some (.ref wd), some (.ref g), some (.ref nd), some (.int cell), some (.ref s2), some (.str kind), some (.ref x1), some (.ref y1), x9, some (.ref pl), x11, x12, x13, x14] ∧ Same H13 H' ∧ H' pl = some (.lst (ts.map V.ref)) ∧ Paired (PlAt H') ts play ∧ (∀ q ∈ play, PRowN names q ∧ ordK kind q.x = q.x ∧ ordK kind q.y = q.y ∧ q.x.length ≤ 800 ∧ q.y.length ≤ 800 ∧ ∃ m, 1 ≤ m ∧ m ≤ 3 ∧ alW (stepsOf kind rs) m q.x q.y = false ∧ sumN (nrmW rs) q.x = sumN (nrmW rs) q.y) ∧ play.length ≤ 1000, ?_, ?_⟩
      · cases hrk : rankW (stepsOf kind rs) one other 3 with
        | none =>
          refine ⟨_, rfl, rfl, _, rfl, itF24 rfl ?_⟩
          exact ⟨pl0, _, [], [], rfl, smp, hplA, .nil, fun q hq => (nomatch hq), by decide⟩
        | some M =>
          obtain ⟨r1, r2, r3, r4⟩ := rankW_some.mp hrk
          refine ⟨_, rfl, rfl, _, rfl, itT24 rfl ?_⟩
          refine ⟨_, rfl, _, rfl, _, rfl, _, rfl, _, rfl, wd, x1, y1, kind, M, 6, names, rs, one, other, rfl, WD13.same smp, hkind, hgood, hends, hn3, hst kind, by decide, by decide, hsh, smp _ _ hxC, smp _ _ hyC, hxs, hys, by omega, hox, hoy, r1, r2, r3, fun pl H14 ts play sm14 hpl14 hpp14 hgd hpn hll => ?_⟩
          exact ⟨pl, _, ts, play, rfl, smp.trans sm14, hpl14, hpp14, fun q hq => by
            obtain ⟨g1, g2, g3, _, g5, g6, _, m, g8, g9, g10⟩ := hpn q hq
            exact ⟨g1, g2, g3, by omega, by omega, m, g8, by omega, g10⟩, hll⟩
      rintro σ' H14 ⟨pl, x9b, ts, play, rfl, sm14, hpl14, hpp14, hpn, hll⟩
      have sm414 := sm413.trans sm14
      have htl := paired_len hpp14
      have hxD := sm14 _ _ hxC
      have hyD := sm14 _ _ hyC
      have hnd14 := sm414 _ _ hnd4
      have WD14 := WD4.same sm414
      have G14 := G4.same sm414
      have hstF := stepsF_of (hst kind) (by decide)
      have hpn1 : ∀ j, ∀ q ∈ play.take j, PRowN names q := fun j q hq => (hpn q (List.mem_of_mem_take hq)).1
      have hplen : ∀ j, (play.take j).length ≤ 100000 := fun j => by rw [List.length_take]; omega
      clear hplA smp hpl0 hxC hyC sm13 tr WD12 WD13 hx12 hy12 sm412 sm413 bt612
      refine ⟨_, rfl, pl, _, rfl, .inl (SqL.of hpl14), _, _, rfl, rfl, ((ts.length + 1 : Nat) : Int), by rw [List.length_map]; rfl, by omega, by omega, for_range (fun i σ' H' => ∃ y11 y12 y13 y14 : Option V, σ' = [some (.ref a), some (.ref wd), some (.ref g), some (.ref nd), some (.int cell), some (.ref s2), some (.str kind), some (.ref x1), some (.ref y1), x9b, some (.ref pl), y11, y12, y13, y14] ∧ Same H14 H') ?_ ?_ ?_⟩
      · exact ⟨_, _, _, _, rfl, Same.refl _⟩
      · rintro i σ' H15 hi ⟨y11, y12, y13, y14, rfl, sm15⟩
        have hi1 : i ≤ ts.length := by omega
        rw [Int.zero_add]
        refine ⟨_, rfl, _, rfl, _, _, rfl, ?_⟩
        refine ⟨fun σ' H' => ∃ (ha hb : Addr) (xs ys : List Str), σ' = [some (.ref a), some (.ref wd), some (.ref g), some (.ref nd), some (.int cell), some (.ref s2), some (.str kind), some (.ref x1), some (.ref y1), x9b, some (.ref pl), some (.int (i : Int)), some (.ref ha), some (.ref hb), y14] ∧ Same H14 H' ∧ H' ha = some (.lst (xs.map V.str)) ∧ H' hb = some (.lst (ys.map V.str)) ∧ (∀ z ∈ xs, z ∈ names) ∧ (∀ z ∈ ys, z ∈ names) ∧ xs.length ≤ 800 ∧ ys.length ≤ 800 ∧ ordK kind xs = xs ∧ ordK kind ys = ys ∧ PairAt one other play i xs ys, ?_, ?_⟩
        · refine ⟨_, rfl, _, _, rfl, rfl, _, rfl, iteB (fun hc => ?_) (fun hc => ?_)⟩
          · have hc := of_decide_eq_true hc
            obtain ⟨j, rfl⟩ : ∃ j, i = j + 1 := ⟨i - 1, by omega⟩
            obtain ⟨t, ht⟩ : ∃ t, ts[j]? = some t := ⟨_, List.getElem?_eq_getElem (by omega)⟩
            obtain ⟨q2, hq2, ra, rb, rc, ht1, ha1, hb1, _⟩ := L2.paired_get hpp14 ht
            obtain ⟨g1, g2, g3, g4, g5, _⟩ := hpn q2 (List.mem_of_getElem? hq2)
            have ej : ((j + 1 : Nat) : Int) - 1 = (j : Int) := by omega
            refine ⟨_, rfl, _, rfl, _, _, rfl, rfl, pl, _, _, _, rfl, rfl, SqL.of (sm15 _ _ hpl14), by rw [ej]; exact atI_nat (by rw [List.getElem?_map, ht]; rfl), _, rfl, t, _, rfl, SqT.of (sm15 _ _ ht1), (show ¬ (HT.sIx 5 0 none = 0 ∧ HT.sIx 5 5 (some 2) = 5) from by decide), fun p5 hp5 => ?_⟩
            have s5 := same_new hp5 (o := .tup (cutV [V.ref ra, V.ref rb, V.int (q2.sd : Int), V.str q2.z, V.ref rc] none (some (2 : Int))))
            have hp5A : (upd H15 p5 (.tup (cutV [V.ref ra, V.ref rb, V.int (q2.sd : Int), V.str q2.z, V.ref rc] none (some (2 : Int))))) p5 = some (.tup [V.ref ra, V.ref rb]) := by
              rw [upd_same, show (2 : Int) = ((2 : Nat) : Int) from rfl, cut_lt]
              rfl
            generalize (upd H15 p5 (.tup (cutV [V.ref ra, V.ref rb, V.int (q2.sd : Int), V.str q2.z, V.ref rc] none (some (2 : Int))))) = H16 at s5 hp5A ⊢
            have s56 := sm15.trans s5
            refine ⟨p5, _, rfl, SqT.of hp5A, rfl, _, _, rfl, _, _, rfl, rfl, ?_⟩
            exact ⟨ra, rb, q2.x, q2.y, rfl, s56, s56 _ _ ha1, s56 _ _ hb1, g1.x, g1.y, g4, g5, g2, g3, .inr ⟨j, q2, rfl, hq2, rfl, rfl⟩⟩
          · have hc := of_decide_eq_false hc
            have i0 : i = 0 := by omega
            exact ⟨x1, y1, one, other, rfl, sm15, sm15 _ _ hxD, sm15 _ _ hyD, hxs, hys, by omega, by omega, hox, hoy, .inl ⟨i0, rfl, rfl⟩⟩
        clear sm15 H15
        rintro σ' H15 ⟨ha, hb, xs, ys, rfl, sm15, hha, hhb, hxn, hyn, hxl8, hyl8, hoxs, hoys, hpa⟩
        -- the least
        refine ⟨_, rfl, _, rfl, nd, ha, kvs, nrmW rs, xs, rfl, sm15 _ _ hnd14, fun z hz => hnv z (hxn z hz), hha, by omega, fun H16 sm16 => ?_⟩
        refine ⟨_, rfl, _, rfl, nd, hb, kvs, nrmW rs, ys, rfl, sm16 _ _ (sm15 _ _ hnd14), fun z hz => hnv z (hyn z hz), sm16 _ _ hhb, by omega, fun H17 sm17 => ?_⟩
        have sm1417 := (sm15.trans sm16).trans sm17
        refine ⟨_, _, rfl, _, rfl, _, rfl, _, rfl, wd, nd, kvs, names, rs, rfl, WD14.same sm1417, hgood, hends, hn3, sm1417 _ _ hnd14, hnv, fun r H18 sm18 r0 r1 => ?_⟩
        refine ⟨_, _, rfl, rfl, _, _, rfl, rfl, .inl ⟨by omega, by omega⟩, _, _, rfl, rfl, _, _, rfl, rfl, ?_⟩
        have smE := sm1417.trans sm18
        have hha18 := (((sm16.trans sm17).trans sm18)) _ _ hha
        have hhb18 := (((sm16.trans sm17).trans sm18)) _ _ hhb
        obtain ⟨L, hL, hL0, hL1⟩ : ∃ L : Nat, (if ((sumN (nrmW rs) ys : Nat) : Int) < ((sumN (nrmW rs) xs : Nat) : Int) then ((sumN (nrmW rs) ys : Nat) : Int) else ((sumN (nrmW rs) xs : Nat) : Int)) + (i : Int) * (1 + r) + 1 = (L : Int) ∧ (i = 0 → L = min (sumN (nrmW rs) xs) (sumN (nrmW rs) ys) + 1) ∧ min (sumN (nrmW rs) xs) (sumN (nrmW rs) ys) + i + 1 ≤ L := by
          have e1 : (i : Int) * (1 + r) = (i : Int) + (i : Int) * r := by rw [Int.mul_add, Int.mul_one]
          have e2 : 0 ≤ (i : Int) * r := Int.mul_nonneg (by omega) r0
          have e3 : i = 0 → (i : Int) * r = 0 := fun z => by rw [z]; exact Int.zero_mul _
          generalize (i : Int) * r = ir at e1 e2 e3
          rw [e1]
          have e4 : (if ((sumN (nrmW rs) ys : Nat) : Int) < ((sumN (nrmW rs) xs : Nat) : Int) then ((sumN (nrmW rs) ys : Nat) : Int) else ((sumN (nrmW rs) xs : Nat) : Int)) = ((min (sumN (nrmW rs) xs) (sumN (nrmW rs) ys) : Nat) : Int) := by
            split <;> omega
          rw [e4]
          generalize min (sumN (nrmW rs) xs) (sumN (nrmW rs) ys) = mn
          refine ⟨mn + i + ir.toNat + 1, by omega, fun z => ?_, by omega⟩
          have := e3 z
          omega
        dsimp only
        rw [hL]
        clear sm16 sm17 sm18 sm1417 hha hhb sm15
        refine ⟨fun σ' H' => σ' = [some (.ref a), some (.ref wd), some (.ref g), some (.ref nd), some (.int cell), some (.ref s2), some (.str kind), some (.ref x1), some (.ref y1), x9b, some (.ref pl), some (.int (i : Int)), some (.ref ha), some (.ref hb), some (.int (L : Int))] ∧ Same H14 H' ∧ H' ha = some (.lst (xs.map V.str)), ?_, ?_⟩
        · refine ⟨_, rfl, _, rfl, _, rfl, _, rfl, _, rfl, _, rfl, _, rfl, pl, _, rfl, SqL.of (smE _ _ hpl14), fun pa hpa0 => ?_⟩
          rw [show cutV (ts.map V.ref) none (some (i : Int)) = (ts.take i).map V.ref from by rw [cut_lt, List.map_take]]
          have sms := same_new hpa0 (o := .lst ((ts.take i).map V.ref))
          have hpaA : (upd H18 pa (.lst ((ts.take i).map V.ref))) pa = some (.lst ((ts.take i).map V.ref)) := upd_same
          generalize (upd H18 pa (.lst ((ts.take i).map V.ref))) = H19 at sms hpaA ⊢
          have sm19 := smE.trans sms
          refine ⟨g, ha, hb, pa, kind, names, rs, xs, ys, ts.take i, play.take i, rfl, G14.same sm19, nnd, by omega, hin, hsh, hends, hstF, sms _ _ hha18, sms _ _ hhb18, hxn, hyn, by omega, by omega, hpaA, Paired.mapP (pairedTk24 hpp14 i) fun _ _ h => PlAt.same h sm19, hpn1 i, hplen i, fun H20 sm20 => ?_⟩
          have sm1420 := sm19.trans sm20
          have hha20 := sm20 _ _ (sms _ _ hha18)
          have hhb20 := sm20 _ _ (sms _ _ hhb18)
          cases hgp : goodPlay (stepsOf kind rs) (nrmW rs) (ordK kind) xs ys (play.take i) with
          | false => exact ⟨_, rfl, iteF (iteF ⟨rfl, sm1420, hha20⟩)⟩
          | true =>
            refine ⟨_, rfl, iteT ?_⟩
            refine ⟨_, rfl, _, _, rfl, rfl, _, rfl, iteB (fun hc => ?_) (fun _ => ⟨rfl, sm1420, hha20⟩)⟩
            have hc := of_decide_eq_true hc
            obtain ⟨rr, hrr, hstop, hpart⟩ := least_parts hgood hends (hst kind) hn22 hxs hys hxl hyl (fun q hq => ⟨(hpn q hq).1.x, (hpn q hq).1.y, (hpn q hq).2.2.2.2.2⟩) hpa hgp hL0 hL1
            refine ⟨_, rfl, _, rfl, _, rfl, _, rfl, _, rfl, g, ha, hb, kind, L, 6, names, rs, xs, ys, TreeF, rr, rfl, ⟨G14.same sm1420, hst kind, by decide, hsh⟩, nnd, by omega, hin, hends, hha20, hhb20, hxn, hyn, by omega, by omega, hrr, by omega, by rw [hoxs, hoys]; exact hstop, fit_tree _ _, tr4 rr hrr, fun H21 sm21 => ?_⟩
            rw [hoxs, hoys]
            cases hrk : rankW (stepsOf kind rs) xs ys L with
            | none =>
              rw [rankW_none.mp hrk] at hpart
              cases hpart
            | some k9 => exact ⟨rfl, _, rfl, itF24 rfl ⟨rfl, sm1420.trans sm21, sm21 _ _ hha20⟩⟩
        · rintro σ' H19 ⟨rfl, sm19, hha19⟩
          refine ⟨_, rfl, _, rfl, _, rfl, _, rfl, _, rfl, _, rfl, _, rfl, pl, _, rfl, SqL.of (sm19 _ _ hpl14), fun pa hpa0 => ?_⟩
          rw [show cutV (ts.map V.ref) none (some (i : Int)) = (ts.take i).map V.ref from by rw [cut_lt, List.map_take]]
          have sms := same_new hpa0 (o := .lst ((ts.take i).map V.ref))
          have hpaA : (upd H19 pa (.lst ((ts.take i).map V.ref))) pa = some (.lst ((ts.take i).map V.ref)) := upd_same
          generalize (upd H19 pa (.lst ((ts.take i).map V.ref))) = H20 at sms hpaA ⊢
          have sm20 := sm19.trans sms
          refine ⟨g, ha, ha, pa, kind, names, rs, xs, xs, ts.take i, play.take i, rfl, G14.same sm20, nnd, by omega, hin, hsh, hends, hstF, sms _ _ hha19, sms _ _ hha19, hxn, hxn, by omega, by omega, hpaA, Paired.mapP (pairedTk24 hpp14 i) fun _ _ h => PlAt.same h sm20, hpn1 i, hplen i, fun H21 sm21 => ?_⟩
          rw [good_self (fun q hq => ⟨(hpn q hq).2.1, (hpn q hq).2.2.1, by obtain ⟨_, _, _, _, _, m, _, _, h9, _⟩ := hpn q hq; exact ⟨m, h9⟩⟩) hpa]
          exact ⟨_, rfl, iteF ⟨_, _, _, _, rfl, sm20.trans sm21⟩⟩
      · rintro σ' H15 ⟨_, _, _, _, rfl, sm15⟩
        exact ⟨_, _, _, _, _, _, _, _, _, _, _, rfl, sm414.trans sm15⟩
    · rintro σ' H2 ⟨_, _, _, _, _, _, _, _, _, _, _, rfl, _⟩
      exact q H2
end
end SG
namespace SG
open PySem PySem.Spec PyProof.Rows L2 LamX
theorem all_mk {l : PySem.W.OpenLaw} {w : World} {K : PySem.W.Frag} {h : Heap} {mg : Str → Option Value} {fa kS f1 f2 f3 f4 f5 f6 f7 f8 f9 f10 f11 f12 f13 f14 f15 f16 f17 f18 f19 f20 f21 f22 f23 f24 f25 f26 f27 f28 f29 f30 f31 f32 f33 f34 f35 f36 f37 f38 f39 f40 f41 f42 f43 f44 f45 f46 f47 f48 f49 f50 f51 f52 f53 C1 C2 C3 : Addr} (X : K.In h) (G : h.Ns mainGlobals mg) (hfa : mg "law" = some (.ref fa)) (OT : ∀ f2, mg "_law_world" = some (.ref f2) → OwnTab2 K f2 h) {eS : Value} {dS : Option Addr} {vS : Array Value} {sS : Array (Option Value)} {pS : Addr}
    {od1 an1 od2 an2 od3 an3 od4 an4 od5 an5 od6 an6 od7 an7 od8 an8 od9 an9 od10 an10 od11 an11 od12 an12 od13 an13 od14 an14 od15 an15 od16 an16 od17 an17 od18 an18 od19 an19 od20 an20 od21 an21 od22 an22 od23 an23 od24 an24 od25 an25 od26 an26 od27 an27 od28 an28 od29 an29 od30 an30 od31 an31 od32 an32 od33 an33 od34 an34 od35 an35 od36 an36 od37 an37 od38 an38 od39 an39 od40 an40 od41 an41 od42 an42 od43 an43 od44 an44 od45 an45 od46 an46 od47 an47 od48 an48 od49 an49 od50 an50 od51 an51 od52 an52 od53 an53 : Option Addr} {sl1 sl2 sl3 sl4 sl5 sl6 sl7 sl8 sl9 sl10 sl11 sl12 sl13 sl14 sl15 sl16 sl17 sl18 sl19 sl20 sl21 sl22 sl23 sl24 sl25 sl26 sl27 sl28 sl29 sl30 sl31 sl32 sl33 sl34 sl35 sl36 sl37 sl38 sl39 sl40 sl41 sl42 sl43 sl44 sl45 sl46 sl47 sl48 sl49 sl50 sl51 sl52 sl53 : Array (Option Value)} {oc1 kV1 dc1 pm1 cd1 ct1 oc2 kV2 dc2 pm2 cd2 ct2 oc3 kV3 dc3 pm3 cd3 ct3 oc4 kV4 dc4 pm4 cd4 ct4 oc5 kV5 dc5 pm5 cd5 ct5 oc6 kV6 dc6 pm6 cd6 ct6 oc7 kV7 dc7 pm7 cd7 ct7 oc8 kV8 dc8 pm8 cd8 ct8 oc9 kV9 dc9 pm9 cd9 ct9 oc10 kV10 dc10 pm10 cd10 ct10 oc11 kV11 dc11 pm11 cd11 ct11 oc12 kV12 dc12 pm12 cd12 ct12 oc13 kV13 dc13 pm13 cd13 ct13 oc14 kV14 dc14 pm14 cd14 ct14 oc15 kV15 dc15 pm15 cd15 ct15 oc16 kV16 dc16 pm16 cd16 ct16 oc17 kV17 dc17 pm17 cd17 ct17 oc18 kV18 dc18 pm18 cd18 ct18 oc19 kV19 dc19 pm19 cd19 ct19 oc20 kV20 dc20 pm20 cd20 ct20 oc21 kV21 dc21 pm21 cd21 ct21 oc22 kV22 dc22 pm22 cd22 ct22 oc23 kV23 dc23 pm23 cd23 ct23 oc24 kV24 dc24 pm24 cd24 ct24 oc25 kV25 dc25 pm25 cd25 ct25 oc26 kV26 dc26 pm26 cd26 ct26 oc27 kV27 dc27 pm27 cd27 ct27 oc28 kV28 dc28 pm28 cd28 ct28 oc29 kV29 dc29 pm29 cd29 ct29 oc30 kV30 dc30 pm30 cd30 ct30 oc31 kV31 dc31 pm31 cd31 ct31 oc32 kV32 dc32 pm32 cd32 ct32 oc33 kV33 dc33 pm33 cd33 ct33 oc34 kV34 dc34 pm34 cd34 ct34 oc35 kV35 dc35 pm35 cd35 ct35 oc36 kV36 dc36 pm36 cd36 ct36 oc37 kV37 dc37 pm37 cd37 ct37 oc38 kV38 dc38 pm38 cd38 ct38 oc39 kV39 dc39 pm39 ct39 oc40 kV40 dc40 pm40 cd40 ct40 oc41 kV41 dc41 pm41 cd41 ct41 oc42 kV42 dc42 pm42 cd42 ct42 oc43 kV43 dc43 pm43 cd43 ct43 oc44 kV44 dc44 pm44 cd44 ct44 oc45 kV45 dc45 pm45 cd45 ct45 oc46 kV46 dc46 pm46 cd46 ct46 oc47 kV47 dc47 pm47 cd47 ct47 oc48 kV48 dc48 pm48 cd48 ct48 oc49 kV49 dc49 pm49 cd49 ct49 oc50 kV50 dc50 pm50 cd50 ct50 oc51 kV51 dc51 pm51 cd51 ct51 oc52 kV52 dc52 pm52 cd52 ct52 oc53 kV53 dc53 pm53 cd53 ct53 : Value}
    {t_SMALL t_MOST_NAMES t_MOST_RULES t_MOST_ROW : Tok}
    (aC1 : PySem.W.nsIn K mainGlobals "Grammar" = some (some (.ref C1))) (pg1 : PySem.W.plainGet K C1 Str.empty = true) (hd1 : PySem.W.hasDictIn K C1 = true) (po1 : PySem.W.plainOver K C1 = true) (sa1 : PySem.W.findIn K (.ref C1) "__setattr__" = some (some (.builtin "object.__setattr__"))) (mk1 : PySem.W.makesIn K C1 = true) (kc1 : PySem.W.keepIn K (.ref C1) = true)
    (n1_known : PySem.W.findIn K (.ref C1) "known" = some none)
    (n1_stored : PySem.W.findIn K (.ref C1) "stored" = some none)
    (n1_order : PySem.W.findIn K (.ref C1) "order" = some none)
    (aC2 : PySem.W.nsIn K mainGlobals "Rounds" = some (some (.ref C2))) (pg2 : PySem.W.plainGet K C2 Str.empty = true) (hd2 : PySem.W.hasDictIn K C2 = true) (po2 : PySem.W.plainOver K C2 = true) (sa2 : PySem.W.findIn K (.ref C2) "__setattr__" = some (some (.builtin "object.__setattr__"))) (mk2 : PySem.W.makesIn K C2 = true) (kc2 : PySem.W.keepIn K (.ref C2) = true)
    (n2_grammar : PySem.W.findIn K (.ref C2) "grammar" = some none)
    (n2_kind : PySem.W.findIn K (.ref C2) "kind" = some none)
    (n2_found : PySem.W.findIn K (.ref C2) "found" = some none)
    (aC3 : PySem.W.nsIn K mainGlobals "Playing" = some (some (.ref C3))) (pg3 : PySem.W.plainGet K C3 Str.empty = true) (hd3 : PySem.W.hasDictIn K C3 = true) (po3 : PySem.W.plainOver K C3 = true) (sa3 : PySem.W.findIn K (.ref C3) "__setattr__" = some (some (.builtin "object.__setattr__"))) (mk3 : PySem.W.makesIn K C3 = true) (kc3 : PySem.W.keepIn K (.ref C3) = true)
    (n3_grammar : PySem.W.findIn K (.ref C3) "grammar" = some none)
    (n3_kind : PySem.W.findIn K (.ref C3) "kind" = some none)
    (n3_known : PySem.W.findIn K (.ref C3) "known" = some none)
    (n3_ahead : PySem.W.findIn K (.ref C3) "ahead" = some none)
    (a1 : PySem.W.nsIn K mainGlobals "is_small" = some (some (.ref f1)))
    (l1 : K.lookup f1 = some ⟨oc1, od1, .func (PySem.W.fnOf "is_small" "is_small" (defArgs s_is_small) (defBody s_is_small) (defScope s_is_small) .none kV1 dc1 pm1 an1 cd1 ct1), sl1⟩) (c1 : PySem.W.codeIn K cd1 "is_small" = true) (k1 : PySem.W.keepIn K (.ref f1) = true)
    (a2 : PySem.W.nsIn K mainGlobals "is_name" = some (some (.ref f2)))
    (l2 : K.lookup f2 = some ⟨oc2, od2, .func (PySem.W.fnOf "is_name" "is_name" (defArgs s_is_name) (defBody s_is_name) (defScope s_is_name) .none kV2 dc2 pm2 an2 cd2 ct2), sl2⟩) (c2 : PySem.W.codeIn K cd2 "is_name" = true) (k2 : PySem.W.keepIn K (.ref f2) = true)
    (a3 : PySem.W.nsIn K mainGlobals "is_letter" = some (some (.ref f3)))
    (l3 : K.lookup f3 = some ⟨oc3, od3, .func (PySem.W.fnOf "is_letter" "is_letter" (defArgs s_is_letter) (defBody s_is_letter) (defScope s_is_letter) .none kV3 dc3 pm3 an3 cd3 ct3), sl3⟩) (c3 : PySem.W.codeIn K cd3 "is_letter" = true) (k3 : PySem.W.keepIn K (.ref f3) = true)
    (a4 : PySem.W.nsIn K mainGlobals "are_names" = some (some (.ref f4)))
    (l4 : K.lookup f4 = some ⟨oc4, od4, .func (PySem.W.fnOf "are_names" "are_names" (defArgs s_are_names) (defBody s_are_names) (defScope s_are_names) .none kV4 dc4 pm4 an4 cd4 ct4), sl4⟩) (c4 : PySem.W.codeIn K cd4 "are_names" = true) (k4 : PySem.W.keepIn K (.ref f4) = true)
    (a5 : PySem.W.findIn K (.ref C1) "__init__" = some (some (.ref f5))) (i5 : PySem.W.isFn K (.ref f5) = true)
    (l5 : K.lookup f5 = some ⟨oc5, od5, .func (PySem.W.fnOf "__init__" "Grammar.__init__" (defArgs s_Grammar___init__) (defBody s_Grammar___init__) (defScope s_Grammar___init__) .none kV5 dc5 pm5 an5 cd5 ct5), sl5⟩) (c5 : PySem.W.codeIn K cd5 "Grammar.__init__" = true) (k5 : PySem.W.keepIn K (.ref f5) = true)
    (a6 : PySem.W.findIn K (.ref C1) "lets_by" = some (some (.ref f6))) (i6 : PySem.W.isFn K (.ref f6) = true)
    (l6 : K.lookup f6 = some ⟨oc6, od6, .func (PySem.W.fnOf "lets_by" "Grammar.lets_by" (defArgs s_Grammar_lets_by) (defBody s_Grammar_lets_by) (defScope s_Grammar_lets_by) .none kV6 dc6 pm6 an6 cd6 ct6), sl6⟩) (c6 : PySem.W.codeIn K cd6 "Grammar.lets_by" = true) (k6 : PySem.W.keepIn K (.ref f6) = true)
    (a7 : PySem.W.findIn K (.ref C1) "names" = some (some (.ref f7))) (i7 : PySem.W.isFn K (.ref f7) = true)
    (l7 : K.lookup f7 = some ⟨oc7, od7, .func (PySem.W.fnOf "names" "Grammar.names" (defArgs s_Grammar_names) (defBody s_Grammar_names) (defScope s_Grammar_names) .none kV7 dc7 pm7 an7 cd7 ct7), sl7⟩) (c7 : PySem.W.codeIn K cd7 "Grammar.names" = true) (k7 : PySem.W.keepIn K (.ref f7) = true)
    (a8 : PySem.W.findIn K (.ref C1) "has" = some (some (.ref f8))) (i8 : PySem.W.isFn K (.ref f8) = true)
    (l8 : K.lookup f8 = some ⟨oc8, od8, .func (PySem.W.fnOf "has" "Grammar.has" (defArgs s_Grammar_has) (defBody s_Grammar_has) (defScope s_Grammar_has) .none kV8 dc8 pm8 an8 cd8 ct8), sl8⟩) (c8 : PySem.W.codeIn K cd8 "Grammar.has" = true) (k8 : PySem.W.keepIn K (.ref f8) = true)
    (a9 : PySem.W.findIn K (.ref C1) "rules_of" = some (some (.ref f9))) (i9 : PySem.W.isFn K (.ref f9) = true)
    (l9 : K.lookup f9 = some ⟨oc9, od9, .func (PySem.W.fnOf "rules_of" "Grammar.rules_of" (defArgs s_Grammar_rules_of) (defBody s_Grammar_rules_of) (defScope s_Grammar_rules_of) .none kV9 dc9 pm9 an9 cd9 ct9), sl9⟩) (c9 : PySem.W.codeIn K cd9 "Grammar.rules_of" = true) (k9 : PySem.W.keepIn K (.ref f9) = true)
    (a10 : PySem.W.findIn K (.ref C1) "rules" = some (some (.ref f10))) (i10 : PySem.W.isFn K (.ref f10) = true)
    (l10 : K.lookup f10 = some ⟨oc10, od10, .func (PySem.W.fnOf "rules" "Grammar.rules" (defArgs s_Grammar_rules) (defBody s_Grammar_rules) (defScope s_Grammar_rules) .none kV10 dc10 pm10 an10 cd10 ct10), sl10⟩) (c10 : PySem.W.codeIn K cd10 "Grammar.rules" = true) (k10 : PySem.W.keepIn K (.ref f10) = true)
    (a11 : PySem.W.nsIn K mainGlobals "look_at_names" = some (some (.ref f11)))
    (l11 : K.lookup f11 = some ⟨oc11, od11, .func (PySem.W.fnOf "look_at_names" "look_at_names" (defArgs s_look_at_names) (defBody s_look_at_names) (defScope s_look_at_names) .none kV11 dc11 pm11 an11 cd11 ct11), sl11⟩) (c11 : PySem.W.codeIn K cd11 "look_at_names" = true) (k11 : PySem.W.keepIn K (.ref f11) = true)
    (a12 : PySem.W.nsIn K mainGlobals "each_once" = some (some (.ref f12)))
    (l12 : K.lookup f12 = some ⟨oc12, od12, .func (PySem.W.fnOf "each_once" "each_once" (defArgs s_each_once) (defBody s_each_once) (defScope s_each_once) .none kV12 dc12 pm12 an12 cd12 ct12), sl12⟩) (c12 : PySem.W.codeIn K cd12 "each_once" = true) (k12 : PySem.W.keepIn K (.ref f12) = true)
    (a13 : PySem.W.nsIn K mainGlobals "row_steps" = some (some (.ref f13)))
    (l13 : K.lookup f13 = some ⟨oc13, od13, .func (PySem.W.fnOf "row_steps" "row_steps" (defArgs s_row_steps) (defBody s_row_steps) (defScope s_row_steps) .none kV13 dc13 pm13 an13 cd13 ct13), sl13⟩) (c13 : PySem.W.codeIn K cd13 "row_steps" = true) (k13 : PySem.W.keepIn K (.ref f13) = true)
    (a14 : PySem.W.nsIn K mainGlobals "bag_steps" = some (some (.ref f14)))
    (l14 : K.lookup f14 = some ⟨oc14, od14, .func (PySem.W.fnOf "bag_steps" "bag_steps" (defArgs s_bag_steps) (defBody s_bag_steps) (defScope s_bag_steps) .none kV14 dc14 pm14 an14 cd14 ct14), sl14⟩) (c14 : PySem.W.codeIn K cd14 "bag_steps" = true) (k14 : PySem.W.keepIn K (.ref f14) = true)
    (a15 : PySem.W.nsIn K mainGlobals "steps_of" = some (some (.ref f15)))
    (l15 : K.lookup f15 = some ⟨oc15, od15, .func (PySem.W.fnOf "steps_of" "steps_of" (defArgs s_steps_of) (defBody s_steps_of) (defScope s_steps_of) .none kV15 dc15 pm15 an15 cd15 ct15), sl15⟩) (c15 : PySem.W.codeIn K cd15 "steps_of" = true) (k15 : PySem.W.keepIn K (.ref f15) = true)
    (a16 : PySem.W.nsIn K mainGlobals "answers_to" = some (some (.ref f16)))
    (l16 : K.lookup f16 = some ⟨oc16, od16, .func (PySem.W.fnOf "answers_to" "answers_to" (defArgs s_answers_to) (defBody s_answers_to) (defScope s_answers_to) .none kV16 dc16 pm16 an16 cd16 ct16), sl16⟩) (c16 : PySem.W.codeIn K cd16 "answers_to" = true) (k16 : PySem.W.keepIn K (.ref f16) = true)
    (a17 : PySem.W.nsIn K mainGlobals "added_up" = some (some (.ref f17)))
    (l17 : K.lookup f17 = some ⟨oc17, od17, .func (PySem.W.fnOf "added_up" "added_up" (defArgs s_added_up) (defBody s_added_up) (defScope s_added_up) .none kV17 dc17 pm17 an17 cd17 ct17), sl17⟩) (c17 : PySem.W.codeIn K cd17 "added_up" = true) (k17 : PySem.W.keepIn K (.ref f17) = true)
    (a18 : PySem.W.nsIn K mainGlobals "norms" = some (some (.ref f18)))
    (l18 : K.lookup f18 = some ⟨oc18, od18, .func (PySem.W.fnOf "norms" "norms" (defArgs s_norms) (defBody s_norms) (defScope s_norms) .none kV18 dc18 pm18 an18 cd18 ct18), sl18⟩) (c18 : PySem.W.codeIn K cd18 "norms" = true) (k18 : PySem.W.keepIn K (.ref f18) = true)
    (a19 : PySem.W.nsIn K mainGlobals "endless" = some (some (.ref f19)))
    (l19 : K.lookup f19 = some ⟨oc19, od19, .func (PySem.W.fnOf "endless" "endless" (defArgs s_endless) (defBody s_endless) (defScope s_endless) .none kV19 dc19 pm19 an19 cd19 ct19), sl19⟩) (c19 : PySem.W.codeIn K cd19 "endless" = true) (k19 : PySem.W.keepIn K (.ref f19) = true)
    (a20 : PySem.W.nsIn K mainGlobals "in_order" = some (some (.ref f20)))
    (l20 : K.lookup f20 = some ⟨oc20, od20, .func (PySem.W.fnOf "in_order" "in_order" (defArgs s_in_order) (defBody s_in_order) (defScope s_in_order) .none kV20 dc20 pm20 an20 cd20 ct20), sl20⟩) (c20 : PySem.W.codeIn K cd20 "in_order" = true) (k20 : PySem.W.keepIn K (.ref f20) = true)
    (a21 : PySem.W.findIn K (.ref C2) "__init__" = some (some (.ref f21))) (i21 : PySem.W.isFn K (.ref f21) = true)
    (l21 : K.lookup f21 = some ⟨oc21, od21, .func (PySem.W.fnOf "__init__" "Rounds.__init__" (defArgs s_Rounds___init__) (defBody s_Rounds___init__) (defScope s_Rounds___init__) .none kV21 dc21 pm21 an21 cd21 ct21), sl21⟩) (c21 : PySem.W.codeIn K cd21 "Rounds.__init__" = true) (k21 : PySem.W.keepIn K (.ref f21) = true)
    (a22 : PySem.W.findIn K (.ref C2) "all_met" = some (some (.ref f22))) (i22 : PySem.W.isFn K (.ref f22) = true)
    (l22 : K.lookup f22 = some ⟨oc22, od22, .func (PySem.W.fnOf "all_met" "Rounds.all_met" (defArgs s_Rounds_all_met) (defBody s_Rounds_all_met) (defScope s_Rounds_all_met) .none kV22 dc22 pm22 an22 cd22 ct22), sl22⟩) (c22 : PySem.W.codeIn K cd22 "Rounds.all_met" = true) (k22 : PySem.W.keepIn K (.ref f22) = true)
    (a23 : PySem.W.findIn K (.ref C2) "alike_for" = some (some (.ref f23))) (i23 : PySem.W.isFn K (.ref f23) = true)
    (l23 : K.lookup f23 = some ⟨oc23, od23, .func (PySem.W.fnOf "alike_for" "Rounds.alike_for" (defArgs s_Rounds_alike_for) (defBody s_Rounds_alike_for) (defScope s_Rounds_alike_for) .none kV23 dc23 pm23 an23 cd23 ct23), sl23⟩) (c23 : PySem.W.codeIn K cd23 "Rounds.alike_for" = true) (k23 : PySem.W.keepIn K (.ref f23) = true)
    (a24 : PySem.W.findIn K (.ref C2) "parted_in" = some (some (.ref f24))) (i24 : PySem.W.isFn K (.ref f24) = true)
    (l24 : K.lookup f24 = some ⟨oc24, od24, .func (PySem.W.fnOf "parted_in" "Rounds.parted_in" (defArgs s_Rounds_parted_in) (defBody s_Rounds_parted_in) (defScope s_Rounds_parted_in) .none kV24 dc24 pm24 an24 cd24 ct24), sl24⟩) (c24 : PySem.W.codeIn K cd24 "Rounds.parted_in" = true) (k24 : PySem.W.keepIn K (.ref f24) = true)
    (a25 : PySem.W.nsIn K mainGlobals "look_at_ends" = some (some (.ref f25)))
    (l25 : K.lookup f25 = some ⟨oc25, od25, .func (PySem.W.fnOf "look_at_ends" "look_at_ends" (defArgs s_look_at_ends) (defBody s_look_at_ends) (defScope s_look_at_ends) .none kV25 dc25 pm25 an25 cd25 ct25), sl25⟩) (c25 : PySem.W.codeIn K cd25 "look_at_ends" = true) (k25 : PySem.W.keepIn K (.ref f25) = true)
    (a26 : PySem.W.nsIn K mainGlobals "rank" = some (some (.ref f26)))
    (l26 : K.lookup f26 = some ⟨oc26, od26, .func (PySem.W.fnOf "rank" "rank" (defArgs s_rank) (defBody s_rank) (defScope s_rank) .none kV26 dc26 pm26 an26 cd26 ct26), sl26⟩) (c26 : PySem.W.codeIn K cd26 "rank" = true) (k26 : PySem.W.keepIn K (.ref f26) = true)
    (a27 : PySem.W.nsIn K mainGlobals "is_played_list" = some (some (.ref f27)))
    (l27 : K.lookup f27 = some ⟨oc27, od27, .func (PySem.W.fnOf "is_played_list" "is_played_list" (defArgs s_is_played_list) (defBody s_is_played_list) (defScope s_is_played_list) .none kV27 dc27 pm27 an27 cd27 ct27), sl27⟩) (c27 : PySem.W.codeIn K cd27 "is_played_list" = true) (k27 : PySem.W.keepIn K (.ref f27) = true)
    (a28 : PySem.W.nsIn K mainGlobals "is_played_row" = some (some (.ref f28)))
    (l28 : K.lookup f28 = some ⟨oc28, od28, .func (PySem.W.fnOf "is_played_row" "is_played_row" (defArgs s_is_played_row) (defBody s_is_played_row) (defScope s_is_played_row) .none kV28 dc28 pm28 an28 cd28 ct28), sl28⟩) (c28 : PySem.W.codeIn K cd28 "is_played_row" = true) (k28 : PySem.W.keepIn K (.ref f28) = true)
    (a29 : PySem.W.findIn K (.ref C3) "__init__" = some (some (.ref f29))) (i29 : PySem.W.isFn K (.ref f29) = true)
    (l29 : K.lookup f29 = some ⟨oc29, od29, .func (PySem.W.fnOf "__init__" "Playing.__init__" (defArgs s_Playing___init__) (defBody s_Playing___init__) (defScope s_Playing___init__) .none kV29 dc29 pm29 an29 cd29 ct29), sl29⟩) (c29 : PySem.W.codeIn K cd29 "Playing.__init__" = true) (k29 : PySem.W.keepIn K (.ref f29) = true)
    (a30 : PySem.W.findIn K (.ref C3) "key_of" = some (some (.ref f30))) (i30 : PySem.W.isFn K (.ref f30) = true)
    (l30 : K.lookup f30 = some ⟨oc30, od30, .func (PySem.W.fnOf "key_of" "Playing.key_of" (defArgs s_Playing_key_of) (defBody s_Playing_key_of) (defScope s_Playing_key_of) .none kV30 dc30 pm30 an30 cd30 ct30), sl30⟩) (c30 : PySem.W.codeIn K cd30 "Playing.key_of" = true) (k30 : PySem.W.keepIn K (.ref f30) = true)
    (a31 : PySem.W.findIn K (.ref C3) "parts" = some (some (.ref f31))) (i31 : PySem.W.isFn K (.ref f31) = true)
    (l31 : K.lookup f31 = some ⟨oc31, od31, .func (PySem.W.fnOf "parts" "Playing.parts" (defArgs s_Playing_parts) (defBody s_Playing_parts) (defScope s_Playing_parts) .none kV31 dc31 pm31 an31 cd31 ct31), sl31⟩) (c31 : PySem.W.codeIn K cd31 "Playing.parts" = true) (k31 : PySem.W.keepIn K (.ref f31) = true)
    (a32 : PySem.W.findIn K (.ref C3) "takes" = some (some (.ref f32))) (i32 : PySem.W.isFn K (.ref f32) = true)
    (l32 : K.lookup f32 = some ⟨oc32, od32, .func (PySem.W.fnOf "takes" "Playing.takes" (defArgs s_Playing_takes) (defBody s_Playing_takes) (defScope s_Playing_takes) .none kV32 dc32 pm32 an32 cd32 ct32), sl32⟩) (c32 : PySem.W.codeIn K cd32 "Playing.takes" = true) (k32 : PySem.W.keepIn K (.ref f32) = true)
    (a33 : PySem.W.nsIn K mainGlobals "play_holds" = some (some (.ref f33)))
    (l33 : K.lookup f33 = some ⟨oc33, od33, .func (PySem.W.fnOf "play_holds" "play_holds" (defArgs s_play_holds) (defBody s_play_holds) (defScope s_play_holds) .none kV33 dc33 pm33 an33 cd33 ct33), sl33⟩) (c33 : PySem.W.codeIn K cd33 "play_holds" = true) (k33 : PySem.W.keepIn K (.ref f33) = true)
    (a34 : PySem.W.nsIn K mainGlobals "_law_cell_at" = some (some (.ref f34)))
    (l34 : K.lookup f34 = some ⟨oc34, od34, .func (PySem.W.fnOf "_law_cell_at" "_law_cell_at" (defArgs s__law_cell_at) (defBody s__law_cell_at) (defScope s__law_cell_at) .none kV34 dc34 pm34 an34 cd34 ct34), sl34⟩) (c34 : PySem.W.codeIn K cd34 "_law_cell_at" = true) (k34 : PySem.W.keepIn K (.ref f34) = true)
    (a35 : PySem.W.nsIn K mainGlobals "_law_well" = some (some (.ref f35)))
    (l35 : K.lookup f35 = some ⟨oc35, od35, .func (PySem.W.fnOf "_law_well" "_law_well" (defArgs s__law_well) (defBody s__law_well) (defScope s__law_well) .none kV35 dc35 pm35 an35 cd35 ct35), sl35⟩) (c35 : PySem.W.codeIn K cd35 "_law_well" = true) (k35 : PySem.W.keepIn K (.ref f35) = true)
    (a36 : PySem.W.nsIn K mainGlobals "_law_draw" = some (some (.ref f36)))
    (l36 : K.lookup f36 = some ⟨oc36, od36, .func (PySem.W.fnOf "_law_draw" "_law_draw" (defArgs s__law_draw) (defBody s__law_draw) (defScope s__law_draw) .none kV36 dc36 pm36 an36 cd36 ct36), sl36⟩) (c36 : PySem.W.codeIn K cd36 "_law_draw" = true) (k36 : PySem.W.keepIn K (.ref f36) = true)
    (a37 : PySem.W.nsIn K mainGlobals "_law_some" = some (some (.ref f37)))
    (l37 : K.lookup f37 = some ⟨oc37, od37, .func (PySem.W.fnOf "_law_some" "_law_some" (defArgs s__law_some) (defBody s__law_some) (defScope s__law_some) .none kV37 dc37 pm37 an37 cd37 ct37), sl37⟩) (c37 : PySem.W.codeIn K cd37 "_law_some" = true) (k37 : PySem.W.keepIn K (.ref f37) = true)
    (a38 : PySem.W.nsIn K mainGlobals "_law_chain" = some (some (.ref f38)))
    (l38 : K.lookup f38 = some ⟨oc38, od38, .func (PySem.W.fnOf "_law_chain" "_law_chain" (defArgs s__law_chain) (defBody s__law_chain) (defScope s__law_chain) .none kV38 dc38 pm38 an38 cd38 ct38), sl38⟩) (c38 : PySem.W.codeIn K cd38 "_law_chain" = true) (k38 : PySem.W.keepIn K (.ref f38) = true)
    (a39 : PySem.W.nsIn K mainGlobals "_law_world" = some (some (.ref f39)))
    (l39 : K.lookup f39 = some ⟨oc39, od39, .func (PySem.W.fnOf "_law_world" "_law_world" (defArgs s__law_world) (defBody s__law_world) (defScope s__law_world) .none kV39 dc39 pm39 an39 (.ref kS) ct39), sl39⟩) (c39 : PySem.W.codeIn K (.ref kS) "_law_world" = true) (k39 : PySem.W.keepIn K (.ref f39) = true)
    (a40 : PySem.W.nsIn K mainGlobals "_law_made" = some (some (.ref f40)))
    (l40 : K.lookup f40 = some ⟨oc40, od40, .func (PySem.W.fnOf "_law_made" "_law_made" (defArgs s__law_made) (defBody s__law_made) (defScope s__law_made) .none kV40 dc40 pm40 an40 cd40 ct40), sl40⟩) (c40 : PySem.W.codeIn K cd40 "_law_made" = true) (k40 : PySem.W.keepIn K (.ref f40) = true)
    (a41 : PySem.W.nsIn K mainGlobals "_law_norms" = some (some (.ref f41)))
    (l41 : K.lookup f41 = some ⟨oc41, od41, .func (PySem.W.fnOf "_law_norms" "_law_norms" (defArgs s__law_norms) (defBody s__law_norms) (defScope s__law_norms) .none kV41 dc41 pm41 an41 cd41 ct41), sl41⟩) (c41 : PySem.W.codeIn K cd41 "_law_norms" = true) (k41 : PySem.W.keepIn K (.ref f41) = true)
    (a42 : PySem.W.nsIn K mainGlobals "_law_steps" = some (some (.ref f42)))
    (l42 : K.lookup f42 = some ⟨oc42, od42, .func (PySem.W.fnOf "_law_steps" "_law_steps" (defArgs s__law_steps) (defBody s__law_steps) (defScope s__law_steps) .none kV42 dc42 pm42 an42 cd42 ct42), sl42⟩) (c42 : PySem.W.codeIn K cd42 "_law_steps" = true) (k42 : PySem.W.keepIn K (.ref f42) = true)
    (a43 : PySem.W.nsIn K mainGlobals "_law_meets" = some (some (.ref f43)))
    (l43 : K.lookup f43 = some ⟨oc43, od43, .func (PySem.W.fnOf "_law_meets" "_law_meets" (defArgs s__law_meets) (defBody s__law_meets) (defScope s__law_meets) .none kV43 dc43 pm43 an43 cd43 ct43), sl43⟩) (c43 : PySem.W.codeIn K cd43 "_law_meets" = true) (k43 : PySem.W.keepIn K (.ref f43) = true)
    (a44 : PySem.W.nsIn K mainGlobals "_law_alike" = some (some (.ref f44)))
    (l44 : K.lookup f44 = some ⟨oc44, od44, .func (PySem.W.fnOf "_law_alike" "_law_alike" (defArgs s__law_alike) (defBody s__law_alike) (defScope s__law_alike) .none kV44 dc44 pm44 an44 cd44 ct44), sl44⟩) (c44 : PySem.W.codeIn K cd44 "_law_alike" = true) (k44 : PySem.W.keepIn K (.ref f44) = true)
    (a45 : PySem.W.nsIn K mainGlobals "_law_parted" = some (some (.ref f45)))
    (l45 : K.lookup f45 = some ⟨oc45, od45, .func (PySem.W.fnOf "_law_parted" "_law_parted" (defArgs s__law_parted) (defBody s__law_parted) (defScope s__law_parted) .none kV45 dc45 pm45 an45 cd45 ct45), sl45⟩) (c45 : PySem.W.codeIn K cd45 "_law_parted" = true) (k45 : PySem.W.keepIn K (.ref f45) = true)
    (a46 : PySem.W.nsIn K mainGlobals "_law_two" = some (some (.ref f46)))
    (l46 : K.lookup f46 = some ⟨oc46, od46, .func (PySem.W.fnOf "_law_two" "_law_two" (defArgs s__law_two) (defBody s__law_two) (defScope s__law_two) .none kV46 dc46 pm46 an46 cd46 ct46), sl46⟩) (c46 : PySem.W.codeIn K cd46 "_law_two" = true) (k46 : PySem.W.keepIn K (.ref f46) = true)
    (a47 : PySem.W.nsIn K mainGlobals "_law_answers" = some (some (.ref f47)))
    (l47 : K.lookup f47 = some ⟨oc47, od47, .func (PySem.W.fnOf "_law_answers" "_law_answers" (defArgs s__law_answers) (defBody s__law_answers) (defScope s__law_answers) .none kV47 dc47 pm47 an47 cd47 ct47), sl47⟩) (c47 : PySem.W.codeIn K cd47 "_law_answers" = true) (k47 : PySem.W.keepIn K (.ref f47) = true)
    (a48 : PySem.W.nsIn K mainGlobals "_law_weight" = some (some (.ref f48)))
    (l48 : K.lookup f48 = some ⟨oc48, od48, .func (PySem.W.fnOf "_law_weight" "_law_weight" (defArgs s__law_weight) (defBody s__law_weight) (defScope s__law_weight) .none kV48 dc48 pm48 an48 cd48 ct48), sl48⟩) (c48 : PySem.W.codeIn K cd48 "_law_weight" = true) (k48 : PySem.W.keepIn K (.ref f48) = true)
    (a49 : PySem.W.nsIn K mainGlobals "_law_asked" = some (some (.ref f49)))
    (l49 : K.lookup f49 = some ⟨oc49, od49, .func (PySem.W.fnOf "_law_asked" "_law_asked" (defArgs s__law_asked) (defBody s__law_asked) (defScope s__law_asked) .none kV49 dc49 pm49 an49 cd49 ct49), sl49⟩) (c49 : PySem.W.codeIn K cd49 "_law_asked" = true) (k49 : PySem.W.keepIn K (.ref f49) = true)
    (a50 : PySem.W.nsIn K mainGlobals "_law_play" = some (some (.ref f50)))
    (l50 : K.lookup f50 = some ⟨oc50, od50, .func (PySem.W.fnOf "_law_play" "_law_play" (defArgs s__law_play) (defBody s__law_play) (defScope s__law_play) .none kV50 dc50 pm50 an50 cd50 ct50), sl50⟩) (c50 : PySem.W.codeIn K cd50 "_law_play" = true) (k50 : PySem.W.keepIn K (.ref f50) = true)
    (a51 : PySem.W.nsIn K mainGlobals "_law_pair" = some (some (.ref f51)))
    (l51 : K.lookup f51 = some ⟨oc51, od51, .func (PySem.W.fnOf "_law_pair" "_law_pair" (defArgs s__law_pair) (defBody s__law_pair) (defScope s__law_pair) .none kV51 dc51 pm51 an51 cd51 ct51), sl51⟩) (c51 : PySem.W.codeIn K cd51 "_law_pair" = true) (k51 : PySem.W.keepIn K (.ref f51) = true)
    (a52 : PySem.W.nsIn K mainGlobals "_law_rise" = some (some (.ref f52)))
    (l52 : K.lookup f52 = some ⟨oc52, od52, .func (PySem.W.fnOf "_law_rise" "_law_rise" (defArgs s__law_rise) (defBody s__law_rise) (defScope s__law_rise) .none kV52 dc52 pm52 an52 cd52 ct52), sl52⟩) (c52 : PySem.W.codeIn K cd52 "_law_rise" = true) (k52 : PySem.W.keepIn K (.ref f52) = true)
    (a53 : PySem.W.nsIn K mainGlobals "law" = some (some (.ref f53)))
    (l53 : K.lookup f53 = some ⟨oc53, od53, .func (PySem.W.fnOf "law" "law" (defArgs s_law) (defBody s_law) (defScope s_law) .none kV53 dc53 pm53 an53 cd53 ct53), sl53⟩) (c53 : PySem.W.codeIn K cd53 "law" = true) (k53 : PySem.W.keepIn K (.ref f53) = true)
    (z_SMALL : PySem.W.nsIn K mainGlobals "SMALL" = some (some (.str "abcdefghijklmnopqrstuvwxyz" t_SMALL)))
    (z_MOST_NAMES : PySem.W.nsIn K mainGlobals "MOST_NAMES" = some (some (.int 6 t_MOST_NAMES)))
    (z_MOST_RULES : PySem.W.nsIn K mainGlobals "MOST_RULES" = some (some (.int 4 t_MOST_RULES)))
    (z_MOST_ROW : PySem.W.nsIn K mainGlobals "MOST_ROW" = some (some (.int 3 t_MOST_ROW)))
    (tS : K.lookup kS = some ⟨eS, dS, .fields vS, sS⟩) (t11 : vS[11]? = some (.ref pS)) (tP : K.lookup pS = none)
    (z_len : PySem.W.nsIn K mainGlobals "len" = some none) (z_set : PySem.W.nsIn K mainGlobals "set" = some none) (z_all : PySem.W.nsIn K mainGlobals "all" = some none) (z_any : PySem.W.nsIn K mainGlobals "any" = some none) (z_list : PySem.W.nsIn K mainGlobals "list" = some none) (z_enumerate : PySem.W.nsIn K mainGlobals "enumerate" = some none) (z_range : PySem.W.nsIn K mainGlobals "range" = some none) (z_sum : PySem.W.nsIn K mainGlobals "sum" = some none) (z_sorted : PySem.W.nsIn K mainGlobals "sorted" = some none) (z_dict : PySem.W.nsIn K mainGlobals "dict" = some none) (z_int : PySem.W.nsIn K mainGlobals "int" = some none) (z_tuple : PySem.W.nsIn K mainGlobals "tuple" = some none) (z_isinstance : PySem.W.nsIn K mainGlobals "isinstance" = some none) (z_bool : PySem.W.nsIn K mainGlobals "bool" = some none) (z_str : PySem.W.nsIn K mainGlobals "str" = some none) (z_max : PySem.W.nsIn K mainGlobals "max" = some none) (z_min : PySem.W.nsIn K mainGlobals "min" = some none) :
    LawAtS l w K CX0 60 63 "_law_script" mg fa h := by
  have e := hfa.symm.trans (PySem.W.mg_of X G a53)
  cases e
  have F1 := fun_mk (st := s_is_small) l1 c1 k1
  have b1 := F1.binds (ps := ["text"]) fun _ _ _ _ _ _ us hl => match us, hl with | [_], _ => rfl
  have F2 := fun_mk (st := s_is_name) l2 c2 k2
  have b2 := F2.binds (ps := ["text"]) fun _ _ _ _ _ _ us hl => match us, hl with | [_], _ => rfl
  have F3 := fun_mk (st := s_is_letter) l3 c3 k3
  have b3 := F3.binds (ps := ["text"]) fun _ _ _ _ _ _ us hl => match us, hl with | [_], _ => rfl
  have F4 := fun_mk (st := s_are_names) l4 c4 k4
  have b4 := F4.binds (ps := ["names"]) fun _ _ _ _ _ _ us hl => match us, hl with | [_], _ => rfl
  have F5 := fun_mk (st := s_Grammar___init__) l5 c5 k5
  have b5 := F5.binds (ps := ["self", "names", "rules"]) fun _ _ _ _ _ _ us hl => match us, hl with | [_, _, _], _ => rfl
  have F6 := fun_mk (st := s_Grammar_lets_by) l6 c6 k6
  have b6 := F6.binds (ps := ["self", "rule"]) fun _ _ _ _ _ _ us hl => match us, hl with | [_, _], _ => rfl
  have F7 := fun_mk (st := s_Grammar_names) l7 c7 k7
  have b7 := F7.binds (ps := ["self"]) fun _ _ _ _ _ _ us hl => match us, hl with | [_], _ => rfl
  have F8 := fun_mk (st := s_Grammar_has) l8 c8 k8
  have b8 := F8.binds (ps := ["self", "name"]) fun _ _ _ _ _ _ us hl => match us, hl with | [_, _], _ => rfl
  have F9 := fun_mk (st := s_Grammar_rules_of) l9 c9 k9
  have b9 := F9.binds (ps := ["self", "name"]) fun _ _ _ _ _ _ us hl => match us, hl with | [_, _], _ => rfl
  have F10 := fun_mk (st := s_Grammar_rules) l10 c10 k10
  have b10 := F10.binds (ps := ["self"]) fun _ _ _ _ _ _ us hl => match us, hl with | [_], _ => rfl
  have F11 := fun_mk (st := s_look_at_names) l11 c11 k11
  have b11 := F11.binds (ps := ["grammar", "row"]) fun _ _ _ _ _ _ us hl => match us, hl with | [_, _], _ => rfl
  have F12 := fun_mk (st := s_each_once) l12 c12 k12
  have b12 := F12.binds (ps := ["steps"]) fun _ _ _ _ _ _ us hl => match us, hl with | [_], _ => rfl
  have F13 := fun_mk (st := s_row_steps) l13 c13 k13
  have b13 := F13.binds (ps := ["grammar", "row"]) fun _ _ _ _ _ _ us hl => match us, hl with | [_, _], _ => rfl
  have F14 := fun_mk (st := s_bag_steps) l14 c14 k14
  have b14 := F14.binds (ps := ["grammar", "bag"]) fun _ _ _ _ _ _ us hl => match us, hl with | [_, _], _ => rfl
  have F15 := fun_mk (st := s_steps_of) l15 c15 k15
  have b15 := F15.binds (ps := ["grammar", "kind", "one"]) fun _ _ _ _ _ _ us hl => match us, hl with | [_, _, _], _ => rfl
  have F16 := fun_mk (st := s_answers_to) l16 c16 k16
  have b16 := F16.binds (ps := ["grammar", "kind", "one", "letter"]) fun _ _ _ _ _ _ us hl => match us, hl with | [_, _, _, _], _ => rfl
  have F17 := fun_mk (st := s_added_up) l17 c17 k17
  have b17 := F17.binds (ps := ["norms", "row"]) fun _ _ _ _ _ _ us hl => match us, hl with | [_, _], _ => rfl
  have F18 := fun_mk (st := s_norms) l18 c18 k18
  have b18 := F18.binds (ps := ["grammar"]) fun _ _ _ _ _ _ us hl => match us, hl with | [_], _ => rfl
  have F19 := fun_mk (st := s_endless) l19 c19 k19
  have b19 := F19.binds (ps := ["grammar"]) fun _ _ _ _ _ _ us hl => match us, hl with | [_], _ => rfl
  have F20 := fun_mk (st := s_in_order) l20 c20 k20
  have b20 := F20.binds (ps := ["kind", "one"]) fun _ _ _ _ _ _ us hl => match us, hl with | [_, _], _ => rfl
  have F21 := fun_mk (st := s_Rounds___init__) l21 c21 k21
  have b21 := F21.binds (ps := ["self", "grammar", "kind"]) fun _ _ _ _ _ _ us hl => match us, hl with | [_, _, _], _ => rfl
  have F22 := fun_mk (st := s_Rounds_all_met) l22 c22 k22
  have b22 := F22.binds (ps := ["self", "one", "other", "many"]) fun _ _ _ _ _ _ us hl => match us, hl with | [_, _, _, _], _ => rfl
  have F23 := fun_mk (st := s_Rounds_alike_for) l23 c23 k23
  have b23 := F23.binds (ps := ["self", "one", "other", "many"]) fun _ _ _ _ _ _ us hl => match us, hl with | [_, _, _, _], _ => rfl
  have F24 := fun_mk (st := s_Rounds_parted_in) l24 c24 k24
  have b24 := F24.binds (ps := ["self", "one", "other", "most"]) fun _ _ _ _ _ _ us hl => match us, hl with | [_, _, _, _], _ => rfl
  have F25 := fun_mk (st := s_look_at_ends) l25 c25 k25
  have b25 := F25.binds (ps := ["grammar", "rows"]) fun _ _ _ _ _ _ us hl => match us, hl with | [_, _], _ => rfl
  have F26 := fun_mk (st := s_rank) l26 c26 k26
  have b26 := F26.binds (ps := ["grammar", "kind", "one", "other", "most"]) fun _ _ _ _ _ _ us hl => match us, hl with | [_, _, _, _, _], _ => rfl
  have F27 := fun_mk (st := s_is_played_list) l27 c27 k27
  have b27 := F27.binds (ps := ["grammar", "thing"]) fun _ _ _ _ _ _ us hl => match us, hl with | [_, _], _ => rfl
  have F28 := fun_mk (st := s_is_played_row) l28 c28 k28
  have b28 := F28.binds (ps := ["grammar", "thing"]) fun _ _ _ _ _ _ us hl => match us, hl with | [_, _], _ => rfl
  have F29 := fun_mk (st := s_Playing___init__) l29 c29 k29
  have b29 := F29.binds (ps := ["self", "grammar", "kind"]) fun _ _ _ _ _ _ us hl => match us, hl with | [_, _, _], _ => rfl
  have F30 := fun_mk (st := s_Playing_key_of) l30 c30 k30
  have b30 := F30.binds (ps := ["self", "one", "other"]) fun _ _ _ _ _ _ us hl => match us, hl with | [_, _, _], _ => rfl
  have F31 := fun_mk (st := s_Playing_parts) l31 c31 k31
  have b31 := F31.binds (ps := ["self", "result", "answer", "side"]) fun _ _ _ _ _ _ us hl => match us, hl with | [_, _, _, _], _ => rfl
  have F32 := fun_mk (st := s_Playing_takes) l32 c32 k32
  have b32 := F32.binds (ps := ["self", "row"]) fun _ _ _ _ _ _ us hl => match us, hl with | [_, _], _ => rfl
  have F33 := fun_mk (st := s_play_holds) l33 c33 k33
  have b33 := F33.binds (ps := ["grammar", "kind", "one", "other", "play"]) fun _ _ _ _ _ _ us hl => match us, hl with | [_, _, _, _, _], _ => rfl
  have F34 := fun_mk (st := s__law_cell_at) l34 c34 k34
  have b34 := F34.binds (ps := ["_law_script", "_law_k"]) fun _ _ _ _ _ _ us hl => match us, hl with | [_, _], _ => rfl
  have F35 := fun_mk (st := s__law_well) l35 c35 k35
  have b35 := F35.binds (ps := ["_law_cell"]) fun _ _ _ _ _ _ us hl => match us, hl with | [_], _ => rfl
  have F36 := fun_mk (st := s__law_draw) l36 c36 k36
  have b36 := F36.binds (ps := ["_law_well_here", "_law_wide"]) fun _ _ _ _ _ _ us hl => match us, hl with | [_, _], _ => rfl
  have F37 := fun_mk (st := s__law_some) l37 c37 k37
  have b37 := F37.binds (ps := ["_law_well_here", "_law_names", "_law_most"]) fun _ _ _ _ _ _ us hl => match us, hl with | [_, _, _], _ => rfl
  have F38 := fun_mk (st := s__law_chain) l38 c38 k38
  have b38 := F38.binds (ps := ["_law_well_here", "_law_many"]) fun _ _ _ _ _ _ us hl => match us, hl with | [_, _], _ => rfl
  have F39 := fun_mk (st := s__law_world) l39 c39 k39
  have b39 := F39.binds (ps := ["_law_well_here", "_law_many", "_law_wide", "_law_cap"]) fun _ _ _ _ _ _ us hl => match us, hl with | [_, _, _, _], _ => rfl
  have F40 := fun_mk (st := s__law_made) l40 c40 k40
  have b40 := F40.binds (ps := ["_law_world_here"]) fun _ _ _ _ _ _ us hl => match us, hl with | [_], _ => rfl
  have F41 := fun_mk (st := s__law_norms) l41 c41 k41
  have b41 := F41.binds (ps := ["_law_world_here"]) fun _ _ _ _ _ _ us hl => match us, hl with | [_], _ => rfl
  have F42 := fun_mk (st := s__law_steps) l42 c42 k42
  have b42 := F42.binds (ps := ["_law_world_here", "_law_kind", "_law_one"]) fun _ _ _ _ _ _ us hl => match us, hl with | [_, _, _], _ => rfl
  have F43 := fun_mk (st := s__law_meets) l43 c43 k43
  have b43 := F43.binds (ps := ["_law_world_here", "_law_kind", "_law_one", "_law_other", "_law_many", "_law_met"]) fun _ _ _ _ _ _ us hl => match us, hl with | [_, _, _, _, _, _], _ => rfl
  have F44 := fun_mk (st := s__law_alike) l44 c44 k44
  have b44 := F44.binds (ps := ["_law_world_here", "_law_kind", "_law_one", "_law_other", "_law_many", "_law_met"]) fun _ _ _ _ _ _ us hl => match us, hl with | [_, _, _, _, _, _], _ => rfl
  have F45 := fun_mk (st := s__law_parted) l45 c45 k45
  have b45 := F45.binds (ps := ["_law_world_here", "_law_kind", "_law_one", "_law_other", "_law_most"]) fun _ _ _ _ _ _ us hl => match us, hl with | [_, _, _, _, _], _ => rfl
  have F46 := fun_mk (st := s__law_two) l46 c46 k46
  have b46 := F46.binds (ps := ["_law_well_here", "_law_kind", "_law_names", "_law_most"]) fun _ _ _ _ _ _ us hl => match us, hl with | [_, _, _, _], _ => rfl
  have F47 := fun_mk (st := s__law_answers) l47 c47 k47
  have b47 := F47.binds (ps := ["_law_world_here", "_law_kind", "_law_one", "_law_letter"]) fun _ _ _ _ _ _ us hl => match us, hl with | [_, _, _, _], _ => rfl
  have F48 := fun_mk (st := s__law_weight) l48 c48 k48
  have b48 := F48.binds (ps := ["_law_norm", "_law_one"]) fun _ _ _ _ _ _ us hl => match us, hl with | [_, _], _ => rfl
  have F49 := fun_mk (st := s__law_asked) l49 c49 k49
  have b49 := F49.binds (ps := ["_law_world_here", "_law_kind", "_law_norm", "_law_one", "_law_other", "_law_many", "_law_met"]) fun _ _ _ _ _ _ us hl => match us, hl with | [_, _, _, _, _, _, _], _ => rfl
  have F50 := fun_mk (st := s__law_play) l50 c50 k50
  have b50 := F50.binds (ps := ["_law_world_here", "_law_kind", "_law_one", "_law_other", "_law_many"]) fun _ _ _ _ _ _ us hl => match us, hl with | [_, _, _, _, _], _ => rfl
  have F51 := fun_mk (st := s__law_pair) l51 c51 k51
  have b51 := F51.binds (ps := ["_law_kind", "_law_one", "_law_other"]) fun _ _ _ _ _ _ us hl => match us, hl with | [_, _, _], _ => rfl
  have F52 := fun_mk (st := s__law_rise) l52 c52 k52
  have b52 := F52.binds (ps := ["_law_world_here", "_law_norm"]) fun _ _ _ _ _ _ us hl => match us, hl with | [_, _], _ => rfl
  have F53 := fun_mk (st := s_law) l53 c53 k53
  have T : Txt K mg ⟨C1, C2, C3, f1, PySem.W.fnOf "is_small" "is_small" (defArgs s_is_small) (defBody s_is_small) (defScope s_is_small) .none kV1 dc1 pm1 an1 cd1 ct1, f2, PySem.W.fnOf "is_name" "is_name" (defArgs s_is_name) (defBody s_is_name) (defScope s_is_name) .none kV2 dc2 pm2 an2 cd2 ct2, f3, PySem.W.fnOf "is_letter" "is_letter" (defArgs s_is_letter) (defBody s_is_letter) (defScope s_is_letter) .none kV3 dc3 pm3 an3 cd3 ct3, f4, PySem.W.fnOf "are_names" "are_names" (defArgs s_are_names) (defBody s_are_names) (defScope s_are_names) .none kV4 dc4 pm4 an4 cd4 ct4, f5, PySem.W.fnOf "__init__" "Grammar.__init__" (defArgs s_Grammar___init__) (defBody s_Grammar___init__) (defScope s_Grammar___init__) .none kV5 dc5 pm5 an5 cd5 ct5, f6, PySem.W.fnOf "lets_by" "Grammar.lets_by" (defArgs s_Grammar_lets_by) (defBody s_Grammar_lets_by) (defScope s_Grammar_lets_by) .none kV6 dc6 pm6 an6 cd6 ct6, f7, PySem.W.fnOf "names" "Grammar.names" (defArgs s_Grammar_names) (defBody s_Grammar_names) (defScope s_Grammar_names) .none kV7 dc7 pm7 an7 cd7 ct7, f8, PySem.W.fnOf "has" "Grammar.has" (defArgs s_Grammar_has) (defBody s_Grammar_has) (defScope s_Grammar_has) .none kV8 dc8 pm8 an8 cd8 ct8, f9, PySem.W.fnOf "rules_of" "Grammar.rules_of" (defArgs s_Grammar_rules_of) (defBody s_Grammar_rules_of) (defScope s_Grammar_rules_of) .none kV9 dc9 pm9 an9 cd9 ct9, f10, PySem.W.fnOf "rules" "Grammar.rules" (defArgs s_Grammar_rules) (defBody s_Grammar_rules) (defScope s_Grammar_rules) .none kV10 dc10 pm10 an10 cd10 ct10, f11, PySem.W.fnOf "look_at_names" "look_at_names" (defArgs s_look_at_names) (defBody s_look_at_names) (defScope s_look_at_names) .none kV11 dc11 pm11 an11 cd11 ct11, f12, PySem.W.fnOf "each_once" "each_once" (defArgs s_each_once) (defBody s_each_once) (defScope s_each_once) .none kV12 dc12 pm12 an12 cd12 ct12, f13, PySem.W.fnOf "row_steps" "row_steps" (defArgs s_row_steps) (defBody s_row_steps) (defScope s_row_steps) .none kV13 dc13 pm13 an13 cd13 ct13, f14, PySem.W.fnOf "bag_steps" "bag_steps" (defArgs s_bag_steps) (defBody s_bag_steps) (defScope s_bag_steps) .none kV14 dc14 pm14 an14 cd14 ct14, f15, PySem.W.fnOf "steps_of" "steps_of" (defArgs s_steps_of) (defBody s_steps_of) (defScope s_steps_of) .none kV15 dc15 pm15 an15 cd15 ct15, f16, PySem.W.fnOf "answers_to" "answers_to" (defArgs s_answers_to) (defBody s_answers_to) (defScope s_answers_to) .none kV16 dc16 pm16 an16 cd16 ct16, f17, PySem.W.fnOf "added_up" "added_up" (defArgs s_added_up) (defBody s_added_up) (defScope s_added_up) .none kV17 dc17 pm17 an17 cd17 ct17, f18, PySem.W.fnOf "norms" "norms" (defArgs s_norms) (defBody s_norms) (defScope s_norms) .none kV18 dc18 pm18 an18 cd18 ct18, f19, PySem.W.fnOf "endless" "endless" (defArgs s_endless) (defBody s_endless) (defScope s_endless) .none kV19 dc19 pm19 an19 cd19 ct19, f20, PySem.W.fnOf "in_order" "in_order" (defArgs s_in_order) (defBody s_in_order) (defScope s_in_order) .none kV20 dc20 pm20 an20 cd20 ct20, f21, PySem.W.fnOf "__init__" "Rounds.__init__" (defArgs s_Rounds___init__) (defBody s_Rounds___init__) (defScope s_Rounds___init__) .none kV21 dc21 pm21 an21 cd21 ct21, f22, PySem.W.fnOf "all_met" "Rounds.all_met" (defArgs s_Rounds_all_met) (defBody s_Rounds_all_met) (defScope s_Rounds_all_met) .none kV22 dc22 pm22 an22 cd22 ct22, f23, PySem.W.fnOf "alike_for" "Rounds.alike_for" (defArgs s_Rounds_alike_for) (defBody s_Rounds_alike_for) (defScope s_Rounds_alike_for) .none kV23 dc23 pm23 an23 cd23 ct23, f24, PySem.W.fnOf "parted_in" "Rounds.parted_in" (defArgs s_Rounds_parted_in) (defBody s_Rounds_parted_in) (defScope s_Rounds_parted_in) .none kV24 dc24 pm24 an24 cd24 ct24, f25, PySem.W.fnOf "look_at_ends" "look_at_ends" (defArgs s_look_at_ends) (defBody s_look_at_ends) (defScope s_look_at_ends) .none kV25 dc25 pm25 an25 cd25 ct25, f26, PySem.W.fnOf "rank" "rank" (defArgs s_rank) (defBody s_rank) (defScope s_rank) .none kV26 dc26 pm26 an26 cd26 ct26, f27, PySem.W.fnOf "is_played_list" "is_played_list" (defArgs s_is_played_list) (defBody s_is_played_list) (defScope s_is_played_list) .none kV27 dc27 pm27 an27 cd27 ct27, f28, PySem.W.fnOf "is_played_row" "is_played_row" (defArgs s_is_played_row) (defBody s_is_played_row) (defScope s_is_played_row) .none kV28 dc28 pm28 an28 cd28 ct28, f29, PySem.W.fnOf "__init__" "Playing.__init__" (defArgs s_Playing___init__) (defBody s_Playing___init__) (defScope s_Playing___init__) .none kV29 dc29 pm29 an29 cd29 ct29, f30, PySem.W.fnOf "key_of" "Playing.key_of" (defArgs s_Playing_key_of) (defBody s_Playing_key_of) (defScope s_Playing_key_of) .none kV30 dc30 pm30 an30 cd30 ct30, f31, PySem.W.fnOf "parts" "Playing.parts" (defArgs s_Playing_parts) (defBody s_Playing_parts) (defScope s_Playing_parts) .none kV31 dc31 pm31 an31 cd31 ct31, f32, PySem.W.fnOf "takes" "Playing.takes" (defArgs s_Playing_takes) (defBody s_Playing_takes) (defScope s_Playing_takes) .none kV32 dc32 pm32 an32 cd32 ct32, f33, PySem.W.fnOf "play_holds" "play_holds" (defArgs s_play_holds) (defBody s_play_holds) (defScope s_play_holds) .none kV33 dc33 pm33 an33 cd33 ct33, f34, PySem.W.fnOf "_law_cell_at" "_law_cell_at" (defArgs s__law_cell_at) (defBody s__law_cell_at) (defScope s__law_cell_at) .none kV34 dc34 pm34 an34 cd34 ct34, f35, PySem.W.fnOf "_law_well" "_law_well" (defArgs s__law_well) (defBody s__law_well) (defScope s__law_well) .none kV35 dc35 pm35 an35 cd35 ct35, f36, PySem.W.fnOf "_law_draw" "_law_draw" (defArgs s__law_draw) (defBody s__law_draw) (defScope s__law_draw) .none kV36 dc36 pm36 an36 cd36 ct36, f37, PySem.W.fnOf "_law_some" "_law_some" (defArgs s__law_some) (defBody s__law_some) (defScope s__law_some) .none kV37 dc37 pm37 an37 cd37 ct37, f38, PySem.W.fnOf "_law_chain" "_law_chain" (defArgs s__law_chain) (defBody s__law_chain) (defScope s__law_chain) .none kV38 dc38 pm38 an38 cd38 ct38, f39, PySem.W.fnOf "_law_world" "_law_world" (defArgs s__law_world) (defBody s__law_world) (defScope s__law_world) .none kV39 dc39 pm39 an39 (.ref kS) ct39, f40, PySem.W.fnOf "_law_made" "_law_made" (defArgs s__law_made) (defBody s__law_made) (defScope s__law_made) .none kV40 dc40 pm40 an40 cd40 ct40, f41, PySem.W.fnOf "_law_norms" "_law_norms" (defArgs s__law_norms) (defBody s__law_norms) (defScope s__law_norms) .none kV41 dc41 pm41 an41 cd41 ct41, f42, PySem.W.fnOf "_law_steps" "_law_steps" (defArgs s__law_steps) (defBody s__law_steps) (defScope s__law_steps) .none kV42 dc42 pm42 an42 cd42 ct42, f43, PySem.W.fnOf "_law_meets" "_law_meets" (defArgs s__law_meets) (defBody s__law_meets) (defScope s__law_meets) .none kV43 dc43 pm43 an43 cd43 ct43, f44, PySem.W.fnOf "_law_alike" "_law_alike" (defArgs s__law_alike) (defBody s__law_alike) (defScope s__law_alike) .none kV44 dc44 pm44 an44 cd44 ct44, f45, PySem.W.fnOf "_law_parted" "_law_parted" (defArgs s__law_parted) (defBody s__law_parted) (defScope s__law_parted) .none kV45 dc45 pm45 an45 cd45 ct45, f46, PySem.W.fnOf "_law_two" "_law_two" (defArgs s__law_two) (defBody s__law_two) (defScope s__law_two) .none kV46 dc46 pm46 an46 cd46 ct46, f47, PySem.W.fnOf "_law_answers" "_law_answers" (defArgs s__law_answers) (defBody s__law_answers) (defScope s__law_answers) .none kV47 dc47 pm47 an47 cd47 ct47, f48, PySem.W.fnOf "_law_weight" "_law_weight" (defArgs s__law_weight) (defBody s__law_weight) (defScope s__law_weight) .none kV48 dc48 pm48 an48 cd48 ct48, f49, PySem.W.fnOf "_law_asked" "_law_asked" (defArgs s__law_asked) (defBody s__law_asked) (defScope s__law_asked) .none kV49 dc49 pm49 an49 cd49 ct49, f50, PySem.W.fnOf "_law_play" "_law_play" (defArgs s__law_play) (defBody s__law_play) (defScope s__law_play) .none kV50 dc50 pm50 an50 cd50 ct50, f51, PySem.W.fnOf "_law_pair" "_law_pair" (defArgs s__law_pair) (defBody s__law_pair) (defScope s__law_pair) .none kV51 dc51 pm51 an51 cd51 ct51, f52, PySem.W.fnOf "_law_rise" "_law_rise" (defArgs s__law_rise) (defBody s__law_rise) (defScope s__law_rise) .none kV52 dc52 pm52 an52 cd52 ct52, kS, pS⟩ := ⟨⟨pg1, hd1, po1, sa1⟩, PySem.W.mg_of X G aC1, n1_known, n1_stored, n1_order, ⟨mk1, a5, i5, kc1⟩, ⟨pg2, hd2, po2, sa2⟩, PySem.W.mg_of X G aC2, n2_grammar, n2_kind, n2_found, ⟨mk2, a21, i21, kc2⟩, ⟨pg3, hd3, po3, sa3⟩, PySem.W.mg_of X G aC3, n3_grammar, n3_kind, n3_known, n3_ahead, ⟨mk3, a29, i29, kc3⟩, F1, PySem.W.mg_of X G a1, b1, F2, PySem.W.mg_of X G a2, b2, F3, PySem.W.mg_of X G a3, b3, F4, PySem.W.mg_of X G a4, b4, F5, ⟨a5, i5, k5⟩, b5, F6, ⟨a6, i6, k6⟩, b6, F7, ⟨a7, i7, k7⟩, b7, F8, ⟨a8, i8, k8⟩, b8, F9, ⟨a9, i9, k9⟩, b9, F10, ⟨a10, i10, k10⟩, b10, F11, PySem.W.mg_of X G a11, b11, F12, PySem.W.mg_of X G a12, b12, F13, PySem.W.mg_of X G a13, b13, F14, PySem.W.mg_of X G a14, b14, F15, PySem.W.mg_of X G a15, b15, F16, PySem.W.mg_of X G a16, b16, F17, PySem.W.mg_of X G a17, b17, F18, PySem.W.mg_of X G a18, b18, F19, PySem.W.mg_of X G a19, b19, F20, PySem.W.mg_of X G a20, b20, F21, ⟨a21, i21, k21⟩, b21, F22, ⟨a22, i22, k22⟩, b22, F23, ⟨a23, i23, k23⟩, b23, F24, ⟨a24, i24, k24⟩, b24, F25, PySem.W.mg_of X G a25, b25, F26, PySem.W.mg_of X G a26, b26, F27, PySem.W.mg_of X G a27, b27, F28, PySem.W.mg_of X G a28, b28, F29, ⟨a29, i29, k29⟩, b29, F30, ⟨a30, i30, k30⟩, b30, F31, ⟨a31, i31, k31⟩, b31, F32, ⟨a32, i32, k32⟩, b32, F33, PySem.W.mg_of X G a33, b33, F34, PySem.W.mg_of X G a34, b34, F35, PySem.W.mg_of X G a35, b35, F36, PySem.W.mg_of X G a36, b36, F37, PySem.W.mg_of X G a37, b37, F38, PySem.W.mg_of X G a38, b38, F39, PySem.W.mg_of X G a39, b39, F40, PySem.W.mg_of X G a40, b40, F41, PySem.W.mg_of X G a41, b41, F42, PySem.W.mg_of X G a42, b42, F43, PySem.W.mg_of X G a43, b43, F44, PySem.W.mg_of X G a44, b44, F45, PySem.W.mg_of X G a45, b45, F46, PySem.W.mg_of X G a46, b46, F47, PySem.W.mg_of X G a47, b47, F48, PySem.W.mg_of X G a48, b48, F49, PySem.W.mg_of X G a49, b49, F50, PySem.W.mg_of X G a50, b50, F51, PySem.W.mg_of X G a51, b51, F52, PySem.W.mg_of X G a52, b52, ⟨_, PySem.W.mg_of X G z_SMALL⟩, ⟨_, PySem.W.mg_of X G z_MOST_NAMES⟩, ⟨_, PySem.W.mg_of X G z_MOST_RULES⟩, ⟨_, PySem.W.mg_of X G z_MOST_ROW⟩, PySem.W.mg_none_of X G z_len, PySem.W.mg_none_of X G z_set, PySem.W.mg_none_of X G z_all, PySem.W.mg_none_of X G z_any, PySem.W.mg_none_of X G z_list, PySem.W.mg_none_of X G z_enumerate, PySem.W.mg_none_of X G z_range, PySem.W.mg_none_of X G z_sum, PySem.W.mg_none_of X G z_sorted, PySem.W.mg_none_of X G z_dict, PySem.W.mg_none_of X G z_int, PySem.W.mg_none_of X G z_tuple, PySem.W.mg_none_of X G z_isinstance, PySem.W.mg_none_of X G z_bool, PySem.W.mg_none_of X G z_str, PySem.W.mg_none_of X G z_max, PySem.W.mg_none_of X G z_min, rfl⟩
  obtain ⟨pT, hC, hT, hP⟩ := OT f39 (PySem.W.mg_of X G a39) kS _ _ l39 rfl rfl
  have eP : pT = pS := by
    have := (hP _ _ _ _ tS).symm.trans t11
    cases this
    rfl
  subst eP
  refine ⟨_, [(kS, pT)], sp_law K ⟨C1, C2, C3, f1, PySem.W.fnOf "is_small" "is_small" (defArgs s_is_small) (defBody s_is_small) (defScope s_is_small) .none kV1 dc1 pm1 an1 cd1 ct1, f2, PySem.W.fnOf "is_name" "is_name" (defArgs s_is_name) (defBody s_is_name) (defScope s_is_name) .none kV2 dc2 pm2 an2 cd2 ct2, f3, PySem.W.fnOf "is_letter" "is_letter" (defArgs s_is_letter) (defBody s_is_letter) (defScope s_is_letter) .none kV3 dc3 pm3 an3 cd3 ct3, f4, PySem.W.fnOf "are_names" "are_names" (defArgs s_are_names) (defBody s_are_names) (defScope s_are_names) .none kV4 dc4 pm4 an4 cd4 ct4, f5, PySem.W.fnOf "__init__" "Grammar.__init__" (defArgs s_Grammar___init__) (defBody s_Grammar___init__) (defScope s_Grammar___init__) .none kV5 dc5 pm5 an5 cd5 ct5, f6, PySem.W.fnOf "lets_by" "Grammar.lets_by" (defArgs s_Grammar_lets_by) (defBody s_Grammar_lets_by) (defScope s_Grammar_lets_by) .none kV6 dc6 pm6 an6 cd6 ct6, f7, PySem.W.fnOf "names" "Grammar.names" (defArgs s_Grammar_names) (defBody s_Grammar_names) (defScope s_Grammar_names) .none kV7 dc7 pm7 an7 cd7 ct7, f8, PySem.W.fnOf "has" "Grammar.has" (defArgs s_Grammar_has) (defBody s_Grammar_has) (defScope s_Grammar_has) .none kV8 dc8 pm8 an8 cd8 ct8, f9, PySem.W.fnOf "rules_of" "Grammar.rules_of" (defArgs s_Grammar_rules_of) (defBody s_Grammar_rules_of) (defScope s_Grammar_rules_of) .none kV9 dc9 pm9 an9 cd9 ct9, f10, PySem.W.fnOf "rules" "Grammar.rules" (defArgs s_Grammar_rules) (defBody s_Grammar_rules) (defScope s_Grammar_rules) .none kV10 dc10 pm10 an10 cd10 ct10, f11, PySem.W.fnOf "look_at_names" "look_at_names" (defArgs s_look_at_names) (defBody s_look_at_names) (defScope s_look_at_names) .none kV11 dc11 pm11 an11 cd11 ct11, f12, PySem.W.fnOf "each_once" "each_once" (defArgs s_each_once) (defBody s_each_once) (defScope s_each_once) .none kV12 dc12 pm12 an12 cd12 ct12, f13, PySem.W.fnOf "row_steps" "row_steps" (defArgs s_row_steps) (defBody s_row_steps) (defScope s_row_steps) .none kV13 dc13 pm13 an13 cd13 ct13, f14, PySem.W.fnOf "bag_steps" "bag_steps" (defArgs s_bag_steps) (defBody s_bag_steps) (defScope s_bag_steps) .none kV14 dc14 pm14 an14 cd14 ct14, f15, PySem.W.fnOf "steps_of" "steps_of" (defArgs s_steps_of) (defBody s_steps_of) (defScope s_steps_of) .none kV15 dc15 pm15 an15 cd15 ct15, f16, PySem.W.fnOf "answers_to" "answers_to" (defArgs s_answers_to) (defBody s_answers_to) (defScope s_answers_to) .none kV16 dc16 pm16 an16 cd16 ct16, f17, PySem.W.fnOf "added_up" "added_up" (defArgs s_added_up) (defBody s_added_up) (defScope s_added_up) .none kV17 dc17 pm17 an17 cd17 ct17, f18, PySem.W.fnOf "norms" "norms" (defArgs s_norms) (defBody s_norms) (defScope s_norms) .none kV18 dc18 pm18 an18 cd18 ct18, f19, PySem.W.fnOf "endless" "endless" (defArgs s_endless) (defBody s_endless) (defScope s_endless) .none kV19 dc19 pm19 an19 cd19 ct19, f20, PySem.W.fnOf "in_order" "in_order" (defArgs s_in_order) (defBody s_in_order) (defScope s_in_order) .none kV20 dc20 pm20 an20 cd20 ct20, f21, PySem.W.fnOf "__init__" "Rounds.__init__" (defArgs s_Rounds___init__) (defBody s_Rounds___init__) (defScope s_Rounds___init__) .none kV21 dc21 pm21 an21 cd21 ct21, f22, PySem.W.fnOf "all_met" "Rounds.all_met" (defArgs s_Rounds_all_met) (defBody s_Rounds_all_met) (defScope s_Rounds_all_met) .none kV22 dc22 pm22 an22 cd22 ct22, f23, PySem.W.fnOf "alike_for" "Rounds.alike_for" (defArgs s_Rounds_alike_for) (defBody s_Rounds_alike_for) (defScope s_Rounds_alike_for) .none kV23 dc23 pm23 an23 cd23 ct23, f24, PySem.W.fnOf "parted_in" "Rounds.parted_in" (defArgs s_Rounds_parted_in) (defBody s_Rounds_parted_in) (defScope s_Rounds_parted_in) .none kV24 dc24 pm24 an24 cd24 ct24, f25, PySem.W.fnOf "look_at_ends" "look_at_ends" (defArgs s_look_at_ends) (defBody s_look_at_ends) (defScope s_look_at_ends) .none kV25 dc25 pm25 an25 cd25 ct25, f26, PySem.W.fnOf "rank" "rank" (defArgs s_rank) (defBody s_rank) (defScope s_rank) .none kV26 dc26 pm26 an26 cd26 ct26, f27, PySem.W.fnOf "is_played_list" "is_played_list" (defArgs s_is_played_list) (defBody s_is_played_list) (defScope s_is_played_list) .none kV27 dc27 pm27 an27 cd27 ct27, f28, PySem.W.fnOf "is_played_row" "is_played_row" (defArgs s_is_played_row) (defBody s_is_played_row) (defScope s_is_played_row) .none kV28 dc28 pm28 an28 cd28 ct28, f29, PySem.W.fnOf "__init__" "Playing.__init__" (defArgs s_Playing___init__) (defBody s_Playing___init__) (defScope s_Playing___init__) .none kV29 dc29 pm29 an29 cd29 ct29, f30, PySem.W.fnOf "key_of" "Playing.key_of" (defArgs s_Playing_key_of) (defBody s_Playing_key_of) (defScope s_Playing_key_of) .none kV30 dc30 pm30 an30 cd30 ct30, f31, PySem.W.fnOf "parts" "Playing.parts" (defArgs s_Playing_parts) (defBody s_Playing_parts) (defScope s_Playing_parts) .none kV31 dc31 pm31 an31 cd31 ct31, f32, PySem.W.fnOf "takes" "Playing.takes" (defArgs s_Playing_takes) (defBody s_Playing_takes) (defScope s_Playing_takes) .none kV32 dc32 pm32 an32 cd32 ct32, f33, PySem.W.fnOf "play_holds" "play_holds" (defArgs s_play_holds) (defBody s_play_holds) (defScope s_play_holds) .none kV33 dc33 pm33 an33 cd33 ct33, f34, PySem.W.fnOf "_law_cell_at" "_law_cell_at" (defArgs s__law_cell_at) (defBody s__law_cell_at) (defScope s__law_cell_at) .none kV34 dc34 pm34 an34 cd34 ct34, f35, PySem.W.fnOf "_law_well" "_law_well" (defArgs s__law_well) (defBody s__law_well) (defScope s__law_well) .none kV35 dc35 pm35 an35 cd35 ct35, f36, PySem.W.fnOf "_law_draw" "_law_draw" (defArgs s__law_draw) (defBody s__law_draw) (defScope s__law_draw) .none kV36 dc36 pm36 an36 cd36 ct36, f37, PySem.W.fnOf "_law_some" "_law_some" (defArgs s__law_some) (defBody s__law_some) (defScope s__law_some) .none kV37 dc37 pm37 an37 cd37 ct37, f38, PySem.W.fnOf "_law_chain" "_law_chain" (defArgs s__law_chain) (defBody s__law_chain) (defScope s__law_chain) .none kV38 dc38 pm38 an38 cd38 ct38, f39, PySem.W.fnOf "_law_world" "_law_world" (defArgs s__law_world) (defBody s__law_world) (defScope s__law_world) .none kV39 dc39 pm39 an39 (.ref kS) ct39, f40, PySem.W.fnOf "_law_made" "_law_made" (defArgs s__law_made) (defBody s__law_made) (defScope s__law_made) .none kV40 dc40 pm40 an40 cd40 ct40, f41, PySem.W.fnOf "_law_norms" "_law_norms" (defArgs s__law_norms) (defBody s__law_norms) (defScope s__law_norms) .none kV41 dc41 pm41 an41 cd41 ct41, f42, PySem.W.fnOf "_law_steps" "_law_steps" (defArgs s__law_steps) (defBody s__law_steps) (defScope s__law_steps) .none kV42 dc42 pm42 an42 cd42 ct42, f43, PySem.W.fnOf "_law_meets" "_law_meets" (defArgs s__law_meets) (defBody s__law_meets) (defScope s__law_meets) .none kV43 dc43 pm43 an43 cd43 ct43, f44, PySem.W.fnOf "_law_alike" "_law_alike" (defArgs s__law_alike) (defBody s__law_alike) (defScope s__law_alike) .none kV44 dc44 pm44 an44 cd44 ct44, f45, PySem.W.fnOf "_law_parted" "_law_parted" (defArgs s__law_parted) (defBody s__law_parted) (defScope s__law_parted) .none kV45 dc45 pm45 an45 cd45 ct45, f46, PySem.W.fnOf "_law_two" "_law_two" (defArgs s__law_two) (defBody s__law_two) (defScope s__law_two) .none kV46 dc46 pm46 an46 cd46 ct46, f47, PySem.W.fnOf "_law_answers" "_law_answers" (defArgs s__law_answers) (defBody s__law_answers) (defScope s__law_answers) .none kV47 dc47 pm47 an47 cd47 ct47, f48, PySem.W.fnOf "_law_weight" "_law_weight" (defArgs s__law_weight) (defBody s__law_weight) (defScope s__law_weight) .none kV48 dc48 pm48 an48 cd48 ct48, f49, PySem.W.fnOf "_law_asked" "_law_asked" (defArgs s__law_asked) (defBody s__law_asked) (defScope s__law_asked) .none kV49 dc49 pm49 an49 cd49 ct49, f50, PySem.W.fnOf "_law_play" "_law_play" (defArgs s__law_play) (defBody s__law_play) (defScope s__law_play) .none kV50 dc50 pm50 an50 cd50 ct50, f51, PySem.W.fnOf "_law_pair" "_law_pair" (defArgs s__law_pair) (defBody s__law_pair) (defScope s__law_pair) .none kV51 dc51 pm51 an51 cd51 ct51, f52, PySem.W.fnOf "_law_rise" "_law_rise" (defArgs s__law_rise) (defBody s__law_rise) (defScope s__law_rise) .none kV52 dc52 pm52 an52 cd52 ct52, kS, pT⟩, ?_, ?_, ?_, fun s v => .of_eq rfl, ?_, fun base _ _ hB => ok_law F53 T (hB _ List.mem_cons_self)⟩
  · intro p hp; rw [List.mem_singleton.mp hp]; exact hT
  · intro p hp; rw [List.mem_singleton.mp hp]; exact tP
  · intro p hp; rw [List.mem_singleton.mp hp]; exact hC
  · intro H a ns hl _ hE hS
    exact ⟨a, ns, rfl, hS, hl, fun p hp => by rw [List.mem_singleton.mp hp]; exact TabS.nil (hE _ List.mem_cons_self), fun _ => rfl⟩
end SG
open PySem PySem.W PyProof.Rows
set_option maxRecDepth 100000 in
set_option maxHeartbeats 0 in
theorem PySem.Challenge.cw_samegoing_k24_whole_plays_part_in_rounds_holds : PySem.Challenge.rw_samegoing_k24_whole_plays_part_in_rounds.Holds := by
  w_on; o_law; k_head; (case hw => w_witness2)
  k_fill
  refine SG.walk_own2 (l := PySem.Challenge.rw_samegoing_k24_whole_plays_part_in_rounds) (x := "_law_script") (n := 63) (CX := fun _ => L2.CX0) (k := 60) (n2 := "_law_world") rfl (by decide) rfl ⟨rfl, by decide, by decide⟩ (by decide +kernel) (fun w h Y => PySem.W.km_in_of Y) ?F (fun _ _ _ _ _ z => z)
  case F =>
    intro w mg fa h _ KX G hmg OT
    refine' SG.all_mk KX G hmg OT ?aC1 ?pg1 ?hd1 ?po1 ?sa1 ?mk1 ?kc1 ?n1_known ?n1_stored ?n1_order ?aC2 ?pg2 ?hd2 ?po2 ?sa2 ?mk2 ?kc2 ?n2_grammar ?n2_kind ?n2_found ?aC3 ?pg3 ?hd3 ?po3 ?sa3 ?mk3 ?kc3 ?n3_grammar ?n3_kind ?n3_known ?n3_ahead ?a1 ?l1 ?c1 ?k1 ?a2 ?l2 ?c2 ?k2 ?a3 ?l3 ?c3 ?k3 ?a4 ?l4 ?c4 ?k4 ?a5 ?i5 ?l5 ?c5 ?k5 ?a6 ?i6 ?l6 ?c6 ?k6 ?a7 ?i7 ?l7 ?c7 ?k7 ?a8 ?i8 ?l8 ?c8 ?k8 ?a9 ?i9 ?l9 ?c9 ?k9 ?a10 ?i10 ?l10 ?c10 ?k10 ?a11 ?l11 ?c11 ?k11 ?a12 ?l12 ?c12 ?k12 ?a13 ?l13 ?c13 ?k13 ?a14 ?l14 ?c14 ?k14 ?a15 ?l15 ?c15 ?k15 ?a16 ?l16 ?c16 ?k16 ?a17 ?l17 ?c17 ?k17 ?a18 ?l18 ?c18 ?k18 ?a19 ?l19 ?c19 ?k19 ?a20 ?l20 ?c20 ?k20 ?a21 ?i21 ?l21 ?c21 ?k21 ?a22 ?i22 ?l22 ?c22 ?k22 ?a23 ?i23 ?l23 ?c23 ?k23 ?a24 ?i24 ?l24 ?c24 ?k24 ?a25 ?l25 ?c25 ?k25 ?a26 ?l26 ?c26 ?k26 ?a27 ?l27 ?c27 ?k27 ?a28 ?l28 ?c28 ?k28 ?a29 ?i29 ?l29 ?c29 ?k29 ?a30 ?i30 ?l30 ?c30 ?k30 ?a31 ?i31 ?l31 ?c31 ?k31 ?a32 ?i32 ?l32 ?c32 ?k32 ?a33 ?l33 ?c33 ?k33 ?a34 ?l34 ?c34 ?k34 ?a35 ?l35 ?c35 ?k35 ?a36 ?l36 ?c36 ?k36 ?a37 ?l37 ?c37 ?k37 ?a38 ?l38 ?c38 ?k38 ?a39 ?l39 ?c39 ?k39 ?a40 ?l40 ?c40 ?k40 ?a41 ?l41 ?c41 ?k41 ?a42 ?l42 ?c42 ?k42 ?a43 ?l43 ?c43 ?k43 ?a44 ?l44 ?c44 ?k44 ?a45 ?l45 ?c45 ?k45 ?a46 ?l46 ?c46 ?k46 ?a47 ?l47 ?c47 ?k47 ?a48 ?l48 ?c48 ?k48 ?a49 ?l49 ?c49 ?k49 ?a50 ?l50 ?c50 ?k50 ?a51 ?l51 ?c51 ?k51 ?a52 ?l52 ?c52 ?k52 ?a53 ?l53 ?c53 ?k53 ?z_SMALL ?z_MOST_NAMES ?z_MOST_RULES ?z_MOST_ROW ?tS ?t11 ?tP ?z_len ?z_set ?z_all ?z_any ?z_list ?z_enumerate ?z_range ?z_sum ?z_sorted ?z_dict ?z_int ?z_tuple ?z_isinstance ?z_bool ?z_str ?z_max ?z_min
    (case aC1 => k_is)
    (case pg1 => k_is)
    (case hd1 => k_is)
    (case po1 => k_is)
    (case sa1 => k_is)
    (case mk1 => k_is)
    (case kc1 => k_is)
    (case n1_known => k_is)
    (case n1_stored => k_is)
    (case n1_order => k_is)
    (case aC2 => k_is)
    (case pg2 => k_is)
    (case hd2 => k_is)
    (case po2 => k_is)
    (case sa2 => k_is)
    (case mk2 => k_is)
    (case kc2 => k_is)
    (case n2_grammar => k_is)
    (case n2_kind => k_is)
    (case n2_found => k_is)
    (case aC3 => k_is)
    (case pg3 => k_is)
    (case hd3 => k_is)
    (case po3 => k_is)
    (case sa3 => k_is)
    (case mk3 => k_is)
    (case kc3 => k_is)
    (case n3_grammar => k_is)
    (case n3_kind => k_is)
    (case n3_known => k_is)
    (case n3_ahead => k_is)
    (case a1 => k_is)
    (case l1 => k_is)
    (case c1 => k_is)
    (case k1 => k_is)
    (case a2 => k_is)
    (case l2 => k_is)
    (case c2 => k_is)
    (case k2 => k_is)
    (case a3 => k_is)
    (case l3 => k_is)
    (case c3 => k_is)
    (case k3 => k_is)
    (case a4 => k_is)
    (case l4 => k_is)
    (case c4 => k_is)
    (case k4 => k_is)
    (case a5 => k_is)
    (case i5 => k_is)
    (case l5 => k_is)
    (case c5 => k_is)
    (case k5 => k_is)
    (case a6 => k_is)
    (case i6 => k_is)
    (case l6 => k_is)
    (case c6 => k_is)
    (case k6 => k_is)
    (case a7 => k_is)
    (case i7 => k_is)
    (case l7 => k_is)
    (case c7 => k_is)
    (case k7 => k_is)
    (case a8 => k_is)
    (case i8 => k_is)
    (case l8 => k_is)
    (case c8 => k_is)
    (case k8 => k_is)
    (case a9 => k_is)
    (case i9 => k_is)
    (case l9 => k_is)
    (case c9 => k_is)
    (case k9 => k_is)
    (case a10 => k_is)
    (case i10 => k_is)
    (case l10 => k_is)
    (case c10 => k_is)
    (case k10 => k_is)
    (case a11 => k_is)
    (case l11 => k_is)
    (case c11 => k_is)
    (case k11 => k_is)
    (case a12 => k_is)
    (case l12 => k_is)
    (case c12 => k_is)
    (case k12 => k_is)
    (case a13 => k_is)
    (case l13 => k_is)
    (case c13 => k_is)
    (case k13 => k_is)
    (case a14 => k_is)
    (case l14 => k_is)
    (case c14 => k_is)
    (case k14 => k_is)
    (case a15 => k_is)
    (case l15 => k_is)
    (case c15 => k_is)
    (case k15 => k_is)
    (case a16 => k_is)
    (case l16 => k_is)
    (case c16 => k_is)
    (case k16 => k_is)
    (case a17 => k_is)
    (case l17 => k_is)
    (case c17 => k_is)
    (case k17 => k_is)
    (case a18 => k_is)
    (case l18 => k_is)
    (case c18 => k_is)
    (case k18 => k_is)
    (case a19 => k_is)
    (case l19 => k_is)
    (case c19 => k_is)
    (case k19 => k_is)
    (case a20 => k_is)
    (case l20 => k_is)
    (case c20 => k_is)
    (case k20 => k_is)
    (case a21 => k_is)
    (case i21 => k_is)
    (case l21 => k_is)
    (case c21 => k_is)
    (case k21 => k_is)
    (case a22 => k_is)
    (case i22 => k_is)
    (case l22 => k_is)
    (case c22 => k_is)
    (case k22 => k_is)
    (case a23 => k_is)
    (case i23 => k_is)
    (case l23 => k_is)
    (case c23 => k_is)
    (case k23 => k_is)
    (case a24 => k_is)
    (case i24 => k_is)
    (case l24 => k_is)
    (case c24 => k_is)
    (case k24 => k_is)
    (case a25 => k_is)
    (case l25 => k_is)
    (case c25 => k_is)
    (case k25 => k_is)
    (case a26 => k_is)
    (case l26 => k_is)
    (case c26 => k_is)
    (case k26 => k_is)
    (case a27 => k_is)
    (case l27 => k_is)
    (case c27 => k_is)
    (case k27 => k_is)
    (case a28 => k_is)
    (case l28 => k_is)
    (case c28 => k_is)
    (case k28 => k_is)
    (case a29 => k_is)
    (case i29 => k_is)
    (case l29 => k_is)
    (case c29 => k_is)
    (case k29 => k_is)
    (case a30 => k_is)
    (case i30 => k_is)
    (case l30 => k_is)
    (case c30 => k_is)
    (case k30 => k_is)
    (case a31 => k_is)
    (case i31 => k_is)
    (case l31 => k_is)
    (case c31 => k_is)
    (case k31 => k_is)
    (case a32 => k_is)
    (case i32 => k_is)
    (case l32 => k_is)
    (case c32 => k_is)
    (case k32 => k_is)
    (case a33 => k_is)
    (case l33 => k_is)
    (case c33 => k_is)
    (case k33 => k_is)
    (case a34 => k_is)
    (case l34 => k_is)
    (case c34 => k_is)
    (case k34 => k_is)
    (case a35 => k_is)
    (case l35 => k_is)
    (case c35 => k_is)
    (case k35 => k_is)
    (case a36 => k_is)
    (case l36 => k_is)
    (case c36 => k_is)
    (case k36 => k_is)
    (case a37 => k_is)
    (case l37 => k_is)
    (case c37 => k_is)
    (case k37 => k_is)
    (case a38 => k_is)
    (case l38 => k_is)
    (case c38 => k_is)
    (case k38 => k_is)
    (case a39 => k_is)
    (case l39 => k_is)
    (case c39 => k_is)
    (case k39 => k_is)
    (case a40 => k_is)
    (case l40 => k_is)
    (case c40 => k_is)
    (case k40 => k_is)
    (case a41 => k_is)
    (case l41 => k_is)
    (case c41 => k_is)
    (case k41 => k_is)
    (case a42 => k_is)
    (case l42 => k_is)
    (case c42 => k_is)
    (case k42 => k_is)
    (case a43 => k_is)
    (case l43 => k_is)
    (case c43 => k_is)
    (case k43 => k_is)
    (case a44 => k_is)
    (case l44 => k_is)
    (case c44 => k_is)
    (case k44 => k_is)
    (case a45 => k_is)
    (case l45 => k_is)
    (case c45 => k_is)
    (case k45 => k_is)
    (case a46 => k_is)
    (case l46 => k_is)
    (case c46 => k_is)
    (case k46 => k_is)
    (case a47 => k_is)
    (case l47 => k_is)
    (case c47 => k_is)
    (case k47 => k_is)
    (case a48 => k_is)
    (case l48 => k_is)
    (case c48 => k_is)
    (case k48 => k_is)
    (case a49 => k_is)
    (case l49 => k_is)
    (case c49 => k_is)
    (case k49 => k_is)
    (case a50 => k_is)
    (case l50 => k_is)
    (case c50 => k_is)
    (case k50 => k_is)
    (case a51 => k_is)
    (case l51 => k_is)
    (case c51 => k_is)
    (case k51 => k_is)
    (case a52 => k_is)
    (case l52 => k_is)
    (case c52 => k_is)
    (case k52 => k_is)
    (case a53 => k_is)
    (case l53 => k_is)
    (case c53 => k_is)
    (case k53 => k_is)
    (case z_SMALL => k_is)
    (case z_MOST_NAMES => k_is)
    (case z_MOST_RULES => k_is)
    (case z_MOST_ROW => k_is)
    (case tS => k_is)
    (case t11 => rfl)
    (case tP => kernel_rfl)
    (case z_len => k_is)
    (case z_set => k_is)
    (case z_all => k_is)
    (case z_any => k_is)
    (case z_list => k_is)
    (case z_enumerate => k_is)
    (case z_range => k_is)
    (case z_sum => k_is)
    (case z_sorted => k_is)
    (case z_dict => k_is)
    (case z_int => k_is)
    (case z_tuple => k_is)
    (case z_isinstance => k_is)
    (case z_bool => k_is)
    (case z_str => k_is)
    (case z_max => k_is)
    (case z_min => k_is)
