import PyProof.Rows.All
import Wide.All
import OpenK.AllK
import Wide.FinOn
import HandS.ForMost
import HandS.Flow
import HandS.Style
import HandS.Deep
import HandS.DeepEq
import HandS.DictComp
import HandS.Evl
import HandS.Wide
import KE.SortData
import KE.DataEq
import HandS.Walk
import PySem.Challenge.RW_samegoing_k27_outs
set_option Elab.async false
set_option linter.all false
set_option maxRecDepth 100000
set_option maxHeartbeats 4000000
/-! rules and short words of my own over the hand layer -/
namespace SG
open PySem PySem.Spec PyProof.Rows L2

/-! ### sorted of data, any length -/
theorem each_of_vals {h : Heap} : ∀ {xs : List V} {us : List Value} {ds : List PyData}, Vals xs us → xs.length = ds.length → PySem.W.EachIs (fun (u : Value) (b : V × PyData) => RelV b.1 u) us (xs.zip ds)
  | [], _, [], .nil, _ => .nil
  | x :: xs, _, d :: ds, .cons r t, hl => .cons r (each_of_vals (h := h) t (by simpa using hl))
theorem each_reads {X : Cx} {pins : List (Addr × Obj)} {σ : L2.St} {H : Hp} {s : Shared} (I : Inv X pins σ H s) : ∀ {xs : List V} {us : List Value} {ds : List PyData}, Vals xs us → DpAll X.K H xs ds →
    PySem.W.EachIs (fun (u : Value) (b : V × PyData) => ∃ as, Reads s.heap u b.2 as) us (xs.zip ds)
  | _, _, _, .nil, .nil => .nil
  | _, _, _, .cons r t, .cons h1 h2 => .cons (Dp.reads I _ _ _ h1 r) (each_reads I t h2)
theorem dpAll_len {K : PySem.W.Frag} {H : Hp} : ∀ {xs : List V} {ds : List PyData}, DpAll K H xs ds → xs.length = ds.length
  | _, _, .nil => rfl
  | _, _, .cons _ t => by rw [List.length_cons, List.length_cons, dpAll_len t]
theorem dpAll_zip {K : PySem.W.Frag} {H : Hp} : ∀ {xs : List V} {ds : List PyData}, DpAll K H xs ds → ∀ p ∈ xs.zip ds, Dp K H p.1 p.2
  | _, _, .nil, p, hp => by simp at hp
  | _, _, .cons h t, p, hp => by
    rw [List.zip_cons_cons] at hp
    rcases List.mem_cons.mp hp with rfl | hp
    · exact h
    · exact dpAll_zip t p hp
theorem dpAll_of_zip {K : PySem.W.Frag} {H : Hp} : ∀ {ps : List (V × PyData)}, (∀ p ∈ ps, Dp K H p.1 p.2) → DpAll K H (ps.map (·.1)) (ps.map (·.2))
  | [], _ => .nil
  | p :: ps, h => .cons (h p (by simp)) (dpAll_of_zip fun q hq => h q (by simp [hq]))
theorem vals_of_each : ∀ {us : List Value} {bs : List (V × PyData)}, PySem.W.EachIs (fun (u : Value) (b : V × PyData) => RelV b.1 u) us bs → Vals (bs.map (·.1)) us
  | _, _, .nil => .nil
  | _, _, .cons r t => .cons r (vals_of_each t)
/-- the sorted data -/
def dsort (ds : List PyData) : List PyData := ds.mergeSort (PySem.W.dataLe false id)
def rSortedX (K : PySem.W.Frag) : List V → Hp → VK → Prop := fun vs H Q => ∃ (a : Addr) (xs : List V) (ds : List PyData), vs = [V.ref a] ∧ SqL K H a xs ∧ DpAll K H xs ds ∧ PySem.W.AllAlike ds ∧ PySem.W.Sortable ds ∧ (∀ d ∈ ds, d.depth ≤ 8) ∧
  ∀ (ys : List V) (p : Addr), DpAll K H ys (dsort ds) → ys.Perm xs → H p = none → Q (.ref p) (upd H p (.lst ys))
theorem cr_sortedX {X : Cx} (hu : X.A.units + 64 < cLine) : CallR X (.builtin "sorted") (rSortedX X.K) := by
  intro pins s σ H vs us Q I r h
  obtain ⟨a, xs, ds, rfl, hs, hd, hal, hso, hdep, q⟩ := h
  obtain ⟨its, rv, hl, hz⟩ := I.list hs
  rw [Vals.ref1 r]
  have hlen := dpAll_len hd
  have hm : (xs.zip ds).map Prod.snd = ds := List.map_snd_zip (by omega)
  have hm1 : (xs.zip ds).map Prod.fst = xs := List.map_fst_zip (by omega)
  refine PySem.W.sorted_data (enc := Prod.snd) hl.isList (each_of_vals (h := s.heap) rv hlen) (each_reads I rv hd) (by rw [hm]; exact hal) (by rw [hm]; exact hso)
    (by rw [List.length_zip]; omega) (fun b hb => ?_) fun out ho hE => ?_
  · have := hdep b.2 (by rw [← hm]; exact List.mem_map_of_mem hb)
    omega
  · obtain ⟨ep, he'⟩ := PyProof.Rows.sortedAll_at s.heap its (List.toArray out)
    have hp := List.mergeSort_perm (xs.zip ds) (PySem.W.dataLe false Prod.snd)
    have e2 : ((xs.zip ds).mergeSort (PySem.W.dataLe false Prod.snd)).map (·.2) = dsort ds := by
      have := PySem.W.sort_maps (r := PySem.W.dataLe false (Prod.snd : V × PyData → PyData)) (s := PySem.W.dataLe false id) (Prod.snd : V × PyData → PyData) (l := xs.zip ds) (fun a _ b _ => rfl)
      rw [hm] at this
      exact this
    have hD : DpAll X.K H (((xs.zip ds).mergeSort (PySem.W.dataLe false Prod.snd)).map (·.1)) (dsort ds) := by
      rw [← e2]
      exact dpAll_of_zip fun p hpp => dpAll_zip hd p (hp.mem_iff.mp hpp)
    have hP : (((xs.zip ds).mergeSort (PySem.W.dataLe false Prod.snd)).map (·.1)).Perm xs := by
      have := hp.map (·.1)
      rw [hm1] at this
      exact this
    have hlenY : (((xs.zip ds).mergeSort (PySem.W.dataLe false Prod.snd)).map (·.1)).length ≤ sizeLine := by rw [hP.length_eq]; exact hz
    exact ⟨.ref _, upd H (s.heap.objs.size + 1) (.lst _), I.laid (t' := s.toks) (fun _ _ => PyProof.Rows.sortedAll_old) (Nat.le_succ _) ⟨hlenY, out, ep, vals_of_each hE, by simpa using he'⟩, rfl, q _ _ hD hP (I.hok.fresh (Nat.le_succ _))⟩

/-! ### == != in, not in of data -/
section
variable {K : PySem.W.Frag} {H : Hp}
mutual
theorem dp_plain : ∀ (d : PyData) (v : V), Dp K H v d → d.plain = true
  | .none, _, _ => by rw [PyData.plain]
  | .bool _, _, _ => by rw [PyData.plain]
  | .int _, _, _ => by rw [PyData.plain]
  | .str _, _, _ => by rw [PyData.plain]
  | .list xs, _, h => by
    cases h with
    | lst _ ha =>
      rw [PyData.plain]
      exact dpAll_plain xs _ ha
  | .tuple xs, _, h => by
    cases h with
    | tup _ ha =>
      rw [PyData.plain]
      exact dpAll_plain xs _ ha
  | .dict _, _, h => by cases h
theorem dpAll_plain : ∀ (ds : List PyData) (vs : List V), DpAll K H vs ds → PyData.plainAll ds = true
  | [], _, _ => by rw [PyData.plainAll]
  | d :: ds, _, h => by
    cases h with
    | cons h1 h2 => rw [PyData.plainAll, dp_plain d _ h1, dpAll_plain ds _ h2]; rfl
end
end
def rEqP (K : PySem.W.Frag) : R2 := fun x y H Q => ∃ d e, Dp K H x d ∧ Dp K H y e ∧ d.depth ≤ 60 ∧ Q (.bl (PyData.eqv d e)) H
def rNeP (K : PySem.W.Frag) : R2 := fun x y H Q => ∃ d e, Dp K H x d ∧ Dp K H y e ∧ d.depth ≤ 60 ∧ Q (.bl (!PyData.eqv d e)) H
theorem op_eqP {X : Cx} (hu : X.A.units + 64 < cLine) : OpR X (compareOp .Eq) (rEqP X.K) := by
  intro pins s σ H x y v u Q I rx ry h
  obtain ⟨d, e, hd, he, sd, q⟩ := h
  obtain ⟨as, r1⟩ := Dp.reads I d x v hd rx
  obtain ⟨bs, r2⟩ := Dp.reads I e y u he ry
  exact SeqAt.eq_plain r1 r2 (dp_plain _ _ hd) (dp_plain _ _ he) (by omega) ⟨.bl _, H, I, rfl, q⟩
theorem op_neP {X : Cx} (hu : X.A.units + 64 < cLine) : OpR X (compareOp .NotEq) (rNeP X.K) := by
  intro pins s σ H x y v u Q I rx ry h
  obtain ⟨d, e, hd, he, sd, q⟩ := h
  obtain ⟨as, r1⟩ := Dp.reads I d x v hd rx
  obtain ⟨bs, r2⟩ := Dp.reads I e y u he ry
  exact SeqAt.ne_plain r1 r2 (dp_plain _ _ hd) (dp_plain _ _ he) (by omega) ⟨.bl _, H, I, rfl, q⟩
/-- x in a list of data | a tuple -/
def rInP (K : PySem.W.Frag) : R2 := fun x y H Q => ∃ d ds, Dp K H x d ∧ (Dp K H y (.list ds) ∨ Dp K H y (.tuple ds)) ∧ d.depth ≤ 60 ∧ Q (.bl (ds.any fun z => PyData.eqv z d)) H
def rNotInP (K : PySem.W.Frag) : R2 := fun x y H Q => ∃ d ds, Dp K H x d ∧ (Dp K H y (.list ds) ∨ Dp K H y (.tuple ds)) ∧ d.depth ≤ 60 ∧ Q (.bl (!ds.any fun z => PyData.eqv z d)) H
theorem op_inP {X : Cx} (hu : X.A.units + 64 < cLine) : OpR X (compareOp .In) (rInP X.K) := by
  intro pins s σ H x y v u Q I rx ry h
  obtain ⟨d, ds, hd, he, sd, q⟩ := h
  obtain ⟨as, r1⟩ := Dp.reads I d x v hd rx
  rcases he with he | he
  · obtain ⟨bs, r2⟩ := Dp.reads I (.list ds) y u he ry
    have hp := dp_plain _ _ he
    rw [PyData.plain] at hp
    exact SeqAt.in_list_data r2 r1 hp (dp_plain _ _ hd) (by omega) ⟨.bl _, H, I, rfl, q⟩
  · obtain ⟨bs, r2⟩ := Dp.reads I (.tuple ds) y u he ry
    have hp := dp_plain _ _ he
    rw [PyData.plain] at hp
    exact SeqAt.in_tuple_data r2 r1 hp (dp_plain _ _ hd) (by omega) ⟨.bl _, H, I, rfl, q⟩
theorem op_notInP {X : Cx} (hu : X.A.units + 64 < cLine) : OpR X (compareOp .NotIn) (rNotInP X.K) := by
  intro pins s σ H x y v u Q I rx ry h
  obtain ⟨d, ds, hd, he, sd, q⟩ := h
  obtain ⟨as, r1⟩ := Dp.reads I d x v hd rx
  rcases he with he | he
  · obtain ⟨bs, r2⟩ := Dp.reads I (.list ds) y u he ry
    have hp := dp_plain _ _ he
    rw [PyData.plain] at hp
    exact SeqAt.notIn_list_data r2 r1 hp (dp_plain _ _ hd) (by omega) ⟨.bl _, H, I, rfl, q⟩
  · obtain ⟨bs, r2⟩ := Dp.reads I (.tuple ds) y u he ry
    have hp := dp_plain _ _ he
    rw [PyData.plain] at hp
    exact SeqAt.notIn_tuple_data r2 r1 hp (dp_plain _ _ hd) (by omega) ⟨.bl _, H, I, rfl, q⟩

/-! ### encodings of plain data: what is equal in Python is equal -/
def Enc {α : Type} [DecidableEq α] (e : α → PyData) : Prop := ∀ a b, PyData.eqv (e a) (e b) = decide (a = b)
theorem enc_str : Enc PyData.str := fun a b => by
  rw [PyData.eqv]
  by_cases h : a = b
  · simp [h]
  · simp [h]
theorem enc_int : Enc PyData.int := fun a b => by
  rw [PyData.eqv]
  by_cases h : a = b
  · simp [h]
  · simp [h]
section
variable {α β γ : Type} [DecidableEq α] [DecidableEq β] [DecidableEq γ] {ea : α → PyData} {eb : β → PyData} {ec : γ → PyData}
def eL {α : Type} (e : α → PyData) (xs : List α) : PyData := .list (xs.map e)
def eT {α : Type} (e : α → PyData) (xs : List α) : PyData := .tuple (xs.map e)
def e2 {α β : Type} (ea : α → PyData) (eb : β → PyData) (p : α × β) : PyData := .tuple [ea p.1, eb p.2]
def e3 {α β γ : Type} (ea : α → PyData) (eb : β → PyData) (ec : γ → PyData) (p : α × β × γ) : PyData := .tuple [ea p.1, eb p.2.1, ec p.2.2]
theorem eqvAll_enc (h : Enc ea) : ∀ xs ys : List α, PyData.eqvAll (xs.map ea) (ys.map ea) = decide (xs = ys)
  | [], [] => by simp [PyData.eqvAll]
  | [], y :: ys => by simp [PyData.eqvAll]
  | x :: xs, [] => by simp [PyData.eqvAll]
  | x :: xs, y :: ys => by
    rw [List.map_cons, List.map_cons, PyData.eqvAll, h x y, eqvAll_enc h xs ys]
    by_cases h1 : x = y <;> by_cases h2 : xs = ys <;> simp [h1, h2]
theorem enc_L (h : Enc ea) : Enc (eL ea) := fun xs ys => by
  unfold eL
  rw [PyData.eqv, eqvAll_enc h]
theorem enc_T (h : Enc ea) : Enc (eT ea) := fun xs ys => by
  unfold eT
  rw [PyData.eqv, eqvAll_enc h]
theorem enc_2 (h : Enc ea) (h' : Enc eb) : Enc (e2 ea eb) := fun x y => by
  unfold e2
  simp only [PyData.eqv, PyData.eqvAll, h x.1 y.1, h' x.2 y.2, Bool.and_true]
  by_cases h1 : x.1 = y.1 <;> by_cases h2 : x.2 = y.2 <;> simp [h1, h2, Prod.ext_iff]
theorem enc_3 (h : Enc ea) (h' : Enc eb) (h'' : Enc ec) : Enc (e3 ea eb ec) := fun x y => by
  unfold e3
  simp only [PyData.eqv, PyData.eqvAll, h x.1 y.1, h' x.2.1 y.2.1, h'' x.2.2 y.2.2, Bool.and_true]
  by_cases h1 : x.1 = y.1 <;> by_cases h2 : x.2.1 = y.2.1 <;> by_cases h3 : x.2.2 = y.2.2 <;> simp [h1, h2, h3, Prod.ext_iff]
theorem any_enc (h : Enc ea) (xs : List α) (a : α) : ((xs.map ea).any fun z => PyData.eqv z (ea a)) = decide (a ∈ xs) := by
  induction xs with
  | nil => rfl
  | cons x r ih =>
    rw [List.map_cons, List.any_cons, ih, h x a]
    by_cases h1 : x = a
    · simp [h1]
    · have h2 : ¬ a = x := fun e => h1 e.symm
      simp [h1, h2]
/-- depths -/
def Dep {α : Type} (e : α → PyData) (n : Nat) : Prop := ∀ a, (e a).depth ≤ n
theorem dep_str : Dep PyData.str 0 := fun a => by rw [PyData.depth]; exact Nat.le_refl _
theorem dep_int : Dep PyData.int 0 := fun a => by rw [PyData.depth]; exact Nat.le_refl _
theorem depAll {n : Nat} (h : Dep ea n) : ∀ xs : List α, PyData.depthAll (xs.map ea) ≤ n
  | [] => by rw [List.map_nil, PyData.depthAll]; exact Nat.zero_le _
  | x :: xs => by rw [List.map_cons, PyData.depthAll]; exact Nat.max_le.mpr ⟨h x, depAll h xs⟩
theorem dep_L {n : Nat} (h : Dep ea n) : Dep (eL ea) (n + 1) := fun xs => by
  unfold eL
  rw [PyData.depth]
  have := depAll h xs
  omega
theorem dep_T {n : Nat} (h : Dep ea n) : Dep (eT ea) (n + 1) := fun xs => by
  unfold eT
  rw [PyData.depth]
  have := depAll h xs
  omega
theorem dep_2 {n m : Nat} (h : Dep ea n) (h' : Dep eb m) : Dep (e2 ea eb) (max n m + 1) := fun p => by
  unfold e2
  simp only [PyData.depth, PyData.depthAll]
  have := h p.1
  have := h' p.2
  omega
theorem dep_3 {n m k : Nat} (h : Dep ea n) (h' : Dep eb m) (h'' : Dep ec k) : Dep (e3 ea eb ec) (max n (max m k) + 1) := fun p => by
  unfold e3
  simp only [PyData.depth, PyData.depthAll]
  have := h p.1
  have := h' p.2.1
  have := h'' p.2.2
  omega
end

/-! ### two dicts of data that are equal -/
def EqEnt (K : PySem.W.Frag) (H : Hp) (ls : List (Key × V)) (p : Key × V) : Prop := ∃ u d e, valV ls p.1 = some u ∧ Dp K H p.2 d ∧ Dp K H u e ∧ d.depth ≤ 60 ∧ PyData.eqv d e = true
theorem hits_data {X : Cx} {pins : List (Addr × Obj)} {σ : L2.St} {H : Hp} {s : Shared} (I : Inv X pins σ H s) (hu : X.A.in1.units + 64 < cLine) {ls : List (Key × V)} {vb : List (Key × Value)} (rb : KV ls vb) :
    ∀ {ks : List (Key × V)} {va : List (Key × Value)}, KV ks va → (∀ p ∈ ks, EqEnt X.K H ls p) → PySem.W.KeqHits X.A.in1 s vb va true := by
  intro ks va ra
  unfold KV at ra
  induction ra with
  | nil => intro _; exact .nil
  | @cons p q ps qs h t k =>
    intro hp
    obtain ⟨h1, h2⟩ := h
    obtain ⟨u, d, e, ev, hd, he, sd, eq⟩ := hp p List.mem_cons_self
    have rr : RelO (some u) (valueAt vb p.1) := by rw [← ev]; exact rb.val p.1
    obtain ⟨y, hy, ry⟩ := rr.some_of
    obtain ⟨key, v⟩ := q
    have h1' : p.1 = key := h1
    rw [h1'] at hy
    obtain ⟨as, r1⟩ := Dp.reads I d _ _ hd h2
    obtain ⟨bs, r2⟩ := Dp.reads I e _ _ he ry
    have ea := SeqAt.eqAt_plain d e X.A.in1 s _ _ _ _ r1 r2 (dp_plain _ _ hd) (dp_plain _ _ he) (by omega)
    rw [eq] at ea
    show PySem.W.KeqHits X.A.in1 s vb ((key, v) :: qs) (true && true)
    exact .hit hy ea (k fun p' hm => hp p' (List.mem_cons_of_mem _ hm))
def rEqW (K : PySem.W.Frag) : R2 := fun x y H Q => ∃ a b ks ls, x = .ref a ∧ y = .ref b ∧ H a = some (.dK ks) ∧ H b = some (.dK ls) ∧ ks.length = ls.length ∧ (∀ p ∈ ks, EqEnt K H ls p) ∧ Q (.bl true) H
def rNeW (K : PySem.W.Frag) : R2 := fun x y H Q => ∃ a b ks ls, x = .ref a ∧ y = .ref b ∧ H a = some (.dK ks) ∧ H b = some (.dK ls) ∧ ks.length = ls.length ∧ (∀ p ∈ ks, EqEnt K H ls p) ∧ Q (.bl false) H
theorem op_eqW {X : Cx} (hu : X.A.units + 65 < cLine) : OpR X (compareOp .Eq) (rEqW X.K) := by
  intro pins s σ H x y v u Q I rx ry h
  obtain ⟨a, b, ks, ls, rfl, rfl, ea, eb, hlen, hp, q⟩ := h
  obtain rfl : v = Value.ref a := rx
  obtain rfl : u = Value.ref b := ry
  obtain ⟨_, ya, va, ra, da⟩ := (show ObjOk X.prog X.w H s.heap a (.dK ks) from I.hok a _ ea)
  obtain ⟨_, yb, vb, rb, db⟩ := (show ObjOk X.prog X.w H s.heap b (.dK ls) from I.hok b _ eb)
  have hl : va.length = vb.length := by rw [← ra.length, ← rb.length]; exact hlen
  have hu1 : X.A.in1.units + 64 < cLine := by show X.A.units + 1 + 64 < cLine; omega
  exact PySem.W.keq_eq (knd := mixKind X.prog X.w) (r := true) ya yb da db (by omega) (fun _ => hits_data I hu1 rb ra hp) ⟨.bl true, H, I, by simp [hl]; rfl, q⟩
theorem op_neW {X : Cx} (hu : X.A.units + 65 < cLine) : OpR X (compareOp .NotEq) (rNeW X.K) := by
  intro pins s σ H x y v u Q I rx ry h
  obtain ⟨a, b, ks, ls, rfl, rfl, ea, eb, hlen, hp, q⟩ := h
  obtain rfl : v = Value.ref a := rx
  obtain rfl : u = Value.ref b := ry
  obtain ⟨_, ya, va, ra, da⟩ := (show ObjOk X.prog X.w H s.heap a (.dK ks) from I.hok a _ ea)
  obtain ⟨_, yb, vb, rb, db⟩ := (show ObjOk X.prog X.w H s.heap b (.dK ls) from I.hok b _ eb)
  have hl : va.length = vb.length := by rw [← ra.length, ← rb.length]; exact hlen
  have hu1 : X.A.in1.units + 64 < cLine := by show X.A.units + 1 + 64 < cLine; omega
  exact PySem.W.keq_ne (knd := mixKind X.prog X.w) (r := true) ya yb da db (by omega) (fun _ => hits_data I hu1 rb ra hp) ⟨.bl false, H, I, by simp [hl]; rfl, q⟩
/-- dict of a list of pairs -/
def rDictP (K : PySem.W.Frag) : List V → Hp → VK → Prop := fun xs H Q => ∃ (a : Addr) (ps : List Addr) (kvs : List (Key × V)), xs = [.ref a] ∧ SqL K H a (ps.map V.ref) ∧ Paired (fun p kv => SqT K H p [kV kv.1, kv.2]) ps kvs ∧
    ∀ p, H p = none → Q (.ref p) (upd H p (.dK (mergeK [] kvs)))
theorem hu64_of {A : Around} {k : Nat} (hr : Room k A) : A.units + 64 < cLine := by have := hr.un; omega
theorem hu65_of {A : Around} {k : Nat} (hr : Room k A) : A.units + 65 < cLine := by have := hr.un; omega
end SG
namespace SG
open PySem PySem.Spec PyProof.Rows L2

/-! ### lists of texts as data -/
section
variable {K : PySem.W.Frag} {H H' : Hp}
theorem dpAll_strs : ∀ xs : List Str, DpAll K H (xs.map V.str) (xs.map PyData.str)
  | [] => .nil
  | x :: r => .cons (.str x) (dpAll_strs r)
theorem of_dpAll_strs : ∀ {ys : List V} {xs : List Str}, DpAll K H ys (xs.map PyData.str) → ys = xs.map V.str
  | _, [], h => by
    cases h
    rfl
  | _, x :: r, h => by
    cases h with
    | cons h1 h2 =>
      cases h1
      rw [of_dpAll_strs h2]
      rfl
theorem dp_strs {a : Addr} {xs : List Str} (h : SqL K H a (xs.map V.str)) : Dp K H (.ref a) (.list (xs.map .str)) := .lst h (dpAll_strs xs)
theorem alike_strs (xs : List Str) : PySem.W.AllAlike (xs.map PyData.str) := PySem.W.AllAlike.of fun _ _ => by rw [PySem.W.alike]
theorem sortable_strs (xs : List Str) : PySem.W.Sortable (xs.map PyData.str) := PySem.W.Sortable.others fun b => ⟨(fun h => by cases h), (fun xs h => by cases h)⟩
/-- texts sorted -/
def ssort (xs : List Str) : List Str := xs.mergeSort fun a b => decide (a.cps.toList ≤ b.cps.toList)
theorem dsort_strs (xs : List Str) : dsort (xs.map .str) = (ssort xs).map .str := by
  unfold dsort ssort
  refine (PySem.W.sort_maps PyData.str fun a _ b _ => ?_).symm
  have e := congrFun (congrFun (PySem.W.dataLe_str (fun x : Str => x)) a) b
  exact e.symm
theorem ssort_perm (xs : List Str) : (ssort xs).Perm xs := List.mergeSort_perm _ _
theorem sle_total : PySem.W.TotalLe (fun a b : Str => decide (a.cps.toList ≤ b.cps.toList)) := by
  have h := PySem.W.sortLe_total (PyProof.Rows.listOrd PyProof.Rows.itemOrd) false fun b : Str => PySem.W.keyToks (.str b)
  have e := PySem.W.dataLe_str (fun x : Str => x)
  unfold PySem.W.dataLe at e
  rw [e] at h
  exact h
theorem ssort_pair (xs : List Str) : (ssort xs).Pairwise fun a b => decide (a.cps.toList ≤ b.cps.toList) = true := PySem.W.sort_pairwise sle_total xs
theorem sle_anti {a b : Str} (h : decide (a.cps.toList ≤ b.cps.toList) = true) (h' : decide (b.cps.toList ≤ a.cps.toList) = true) : a = b :=
  PySem.W.str_of_cps (Std.le_antisymm (of_decide_eq_true h) (of_decide_eq_true h'))
/-- sorted is the same for what is the same but for the order -/
theorem ssort_eq {xs ys : List Str} (h : xs.Perm ys) : ssort xs = ssort ys :=
  ((ssort_perm xs).trans (h.trans (ssort_perm ys).symm)).eq_of_pairwise (fun _ _ _ _ => sle_anti) (ssort_pair xs) (ssort_pair ys)
abbrev eSs : List Str → PyData := eL PyData.str
theorem enc_Ss : Enc eSs := enc_L enc_str
theorem dep_Ss : Dep eSs 1 := dep_L dep_str
theorem dp_Ss {a : Addr} {xs : List Str} (h : H a = some (.lst (xs.map V.str))) : Dp K H (.ref a) (eSs xs) := dp_strs (SqL.of h)
end
/-! ### heaps -/
theorem tyes {σ : L2.St} {H : Hp} {Q : Bool → Hp → Prop} (h : Q true H) : tYes σ H Q := h
/-- a test that says unlike of what is like -/
theorem iteNE {b : Bool} {A B : Prop} (hb : b = true) (h : B) : if (!b) = true then A else B := by
  rw [hb]
  exact iteF h
theorem iteB {b : Bool} {A B : Prop} (h1 : b = true → A) (h2 : b = false → B) : if b = true then A else B := by
  cases b with
  | true => exact iteT (h1 rfl)
  | false => exact iteF (h2 rfl)
theorem lt0 {j : Int} (h : 0 < j := by decide) : 0 < j := h
theorem same_new {H : Hp} {p : Addr} {o : HO} (h : H p = none) : Same H (upd H p o) := fun b x e => by
  rw [upd_ne (ne_of_none e h)]
  exact e
/-- an object that H does not know may change -/
theorem same_mut {H H' : Hp} {p : Addr} {o : HO} (e : Same H H') (h : H p = none) : Same H (upd H' p o) := fun a u ha => by
  rw [upd_ne (ne_of_none ha h)]
  exact e a u ha
theorem sl1 {n : Nat} (h : n ≤ 1000000) : n < sizeLine := by rw [sizeLine_eq]; omega
theorem sl2 {n : Nat} (h : n ≤ 1000000) : n ≤ sizeLine := by rw [sizeLine_eq]; omega
theorem atI_eq {α : Type} {xs : List α} {i : Int} (h0 : 0 ≤ i) (h1 : i < xs.length) : atI xs i = xs[i.toNat]? := by
  obtain ⟨n, rfl⟩ : ∃ n : Nat, i = n := ⟨i.toNat, by omega⟩
  have h : n < xs.length := by omega
  rw [atI_nat (List.getElem?_eq_getElem h)]
  simp [h]
/-- an item at a place within -/
theorem atI_some {α : Type} {xs : List α} {i : Int} (h0 : 0 ≤ i) (h1 : i < xs.length) : ∃ v, atI xs i = some v ∧ v ∈ xs := by
  rw [atI_eq h0 h1]
  have h : i.toNat < xs.length := by omega
  exact ⟨xs[i.toNat], List.getElem?_eq_getElem h, List.getElem_mem h⟩
theorem app_sign (l : List Nat) (c : Nat) : (⟨l.toArray⟩ : Str) ++ (⟨#[c]⟩ : Str) = ⟨(l ++ [c]).toArray⟩ := Str.ext' (by show l.toArray ++ #[c] = _; simp)
theorem dpAll_ints {K : PySem.W.Frag} {H : Hp} : ∀ xs : List Int, DpAll K H (xs.map V.int) (xs.map PyData.int)
  | [] => .nil
  | x :: r => .cons (.int x) (dpAll_ints r)
theorem cut_lt (xs : List V) (n : Nat) : cutV xs none (some (n : Int)) = xs.take n := by
  unfold cutV
  rw [HT.sIx_none, HT.sIx_nat, Nat.sub_zero, List.drop_zero, ← List.take_eq_take_min]
theorem paired_len {α β : Type} {F : α → β → Prop} : ∀ {xs : List α} {ys : List β}, Paired F xs ys → xs.length = ys.length
  | _, _, .nil => rfl
  | _, _, .cons _ t => by rw [List.length_cons, List.length_cons, paired_len t]
theorem lock_same {H H' : Hp} {d : Addr} {u : HO} {od : Obj} (h : H d = some u) (e : Same (upd H d (.frz od u)) H') : Same H (upd H' d u) := fun a o g => by
  by_cases n : a = d
  · subst n
    rw [upd_same, ← h, g]
  · rw [upd_ne n]
    exact e a o (by rw [upd_ne n]; exact g)
theorem find_nd : ∀ {kb : List (Str × List Str)} {i : Nat} {m : Str × List Str}, (kb.map (·.1)).Nodup → kb[i]? = some m → (kb.find? fun x => decide (x.1 = m.1)) = some m
  | [], _, _, _, h => by simp at h
  | x :: r, 0, m, _, h => by
    have e : x = m := Option.some.inj h
    rw [e, List.find?_cons_of_pos (by simp)]
  | x :: r, i + 1, m, nd, h => by
    rw [List.map_cons, List.nodup_cons] at nd
    have hm : m ∈ r := List.mem_of_getElem? h
    rw [List.find?_cons_of_neg, find_nd nd.2 h]
    intro e
    exact nd.1 (by rw [of_decide_eq_true e]; exact List.mem_map_of_mem hm)
theorem mergeK_nd : ∀ {more kvs : List (Key × V)}, (∀ p ∈ more, valV kvs p.1 = none) → (more.map (·.1)).Nodup → mergeK kvs more = kvs ++ more
  | [], kvs, _, _ => by
    rw [List.append_nil]
    rfl
  | p :: more, kvs, h, nd => by
    have e : putK kvs p.1 p.2 = kvs ++ [(p.1, p.2)] := putK_new _ (h p List.mem_cons_self)
    rw [List.map_cons, List.nodup_cons] at nd
    show mergeK (putK kvs p.1 p.2) more = _
    rw [e, mergeK_nd (kvs := kvs ++ [(p.1, p.2)]) (fun q hq => ?_) nd.2, List.append_assoc]
    · rfl
    · rw [valV_snoc _ _ _ _ (h p List.mem_cons_self), if_neg]
      · exact h q (List.mem_cons_of_mem _ hq)
      · intro e
        exact nd.1 (e ▸ List.mem_map_of_mem hq)
/-! ### outs -/
def BaseAt (H : Hp) (kvs : List (Key × V)) (kb : List (Str × List Str)) : Prop := Paired (fun (p : Key × V) (m : Str × List Str) => p.1 = Sum.inr m.1 ∧ ∃ a, p.2 = .ref a ∧ H a = some (.lst (m.2.map V.str))) kvs kb
/-- the making of a name -/
def mk (kb : List (Str × List Str)) (n : Str) : List Str := ((kb.find? fun m => decide (m.1 = n)).map (·.2)).getD [n]
def outs (kb : List (Str × List Str)) (ns : List Str) : List Str := ns.flatMap (mk kb)
theorem baseAt_val {H : Hp} : ∀ {kvs : List (Key × V)} {kb : List (Str × List Str)}, BaseAt H kvs kb → ∀ n : Str,
    (valV kvs (Sum.inr n : Key) = none ∧ (kb.find? fun m => decide (m.1 = n)) = none) ∨ ∃ a ms, valV kvs (Sum.inr n : Key) = some (.ref a) ∧ H a = some (.lst (ms.map V.str)) ∧ ((kb.find? fun m => decide (m.1 = n)).map (·.2)) = some ms ∧ (n, ms) ∈ kb
  | _, _, .nil, n => .inl ⟨rfl, rfl⟩
  | p :: kvs, m :: kb, .cons ⟨h1, a, h2, h3⟩ t, n => by
    by_cases e : m.1 = n
    · refine .inr ⟨a, m.2, ?_, h3, ?_, ?_⟩
      · rw [valV_pos (by rw [h1, e]), h2]
      · rw [List.find?_cons_of_pos (by simpa using e)]
        rfl
      · rw [← e]
        exact List.mem_cons_self
    · rw [valV_neg (by rw [h1]; intro z; exact e (Sum.inr.inj z)), List.find?_cons_of_neg (by simpa using e)]
      rcases baseAt_val t n with h | ⟨b, ms, x1, x2, x3, x4⟩
      · exact .inl h
      · exact .inr ⟨b, ms, x1, x2, x3, List.mem_cons_of_mem _ x4⟩
theorem mk_len {kb : List (Str × List Str)} (h : ∀ m ∈ kb, m.2.length ≤ 4) (n : Str) : (mk kb n).length ≤ 4 := by
  unfold mk
  cases e : kb.find? fun m => decide (m.1 = n) with
  | none => simp
  | some m => simpa using h m (List.mem_of_find?_eq_some e)
theorem outs_len {kb : List (Str × List Str)} (h : ∀ m ∈ kb, m.2.length ≤ 4) : ∀ ns : List Str, (outs kb ns).length ≤ 4 * ns.length
  | [] => Nat.zero_le _
  | n :: r => by
    unfold outs
    rw [List.flatMap_cons, List.length_append]
    have h1 := mk_len h n
    have h2 := outs_len h r
    unfold outs at h2
    rw [List.length_cons]
    omega
theorem outs_snoc (kb : List (Str × List Str)) (ns : List Str) (n : Str) : outs kb (ns ++ [n]) = outs kb ns ++ mk kb n := by
  unfold outs
  simp
theorem take_snoc {α : Type} {xs : List α} {i : Nat} {x : α} (h : xs[i]? = some x) : xs.take (i + 1) = xs.take i ++ [x] := by
  rw [List.take_add_one, h]
  rfl
theorem map_at {α β : Type} {f : α → β} {xs : List α} {i : Nat} {y : β} (h : (xs.map f)[i]? = some y) : ∃ x, xs[i]? = some x ∧ y = f x := by
  rw [List.getElem?_map] at h
  cases e : xs[i]? with
  | none => rw [e] at h; cases h
  | some x => rw [e] at h; exact ⟨x, rfl, (Option.some.inj h).symm⟩
end SG
namespace SG
open PySem PySem.Spec PyProof.Rows L2
def topS (i : Nat) : Stmt := PySem.Challenge.pw_samegoing_k27_outs.main.body.getD i (.Pass ⟨0, 0, 0, 0⟩)
abbrev s_put_out : Stmt := topS 1
abbrev s__law_digits : Stmt := topS 4
abbrev s__law_next_of : Stmt := topS 5
abbrev s__law_called : Stmt := topS 6
abbrev s_law : Stmt := topS 7
structure Ad where
  a_put_out : Addr
  d_put_out : FuncData
  a__law_digits : Addr
  d__law_digits : FuncData
  a__law_next_of : Addr
  d__law_next_of : FuncData
  a__law_called : Addr
  d__law_called : FuncData
structure Txt (K : PySem.W.Frag) (mg : Str → Option Value) (A : Ad) : Prop where
  F_put_out : Fun K "put_out" "put_out" s_put_out A.a_put_out A.d_put_out
  g_put_out : mg "put_out" = some (.ref A.a_put_out)
  b_put_out : Binds K A.d_put_out ["kind", "base", "one"] []
  F__law_digits : Fun K "_law_digits" "_law_digits" s__law_digits A.a__law_digits A.d__law_digits
  g__law_digits : mg "_law_digits" = some (.ref A.a__law_digits)
  b__law_digits : Binds K A.d__law_digits ["_law_cell_here", "_law_many"] []
  F__law_next_of : Fun K "_law_next_of" "_law_next_of" s__law_next_of A.a__law_next_of A.d__law_next_of
  g__law_next_of : mg "_law_next_of" = some (.ref A.a__law_next_of)
  b__law_next_of : Binds K A.d__law_next_of ["_law_state"] []
  F__law_called : Fun K "_law_called" "_law_called" s__law_called A.a__law_called A.d__law_called
  g__law_called : mg "_law_called" = some (.ref A.a__law_called)
  b__law_called : Binds K A.d__law_called ["_law_state", "_law_many"] []
  len : mg "len" = none
  range : mg "range" = none
  sorted : mg "sorted" = none
  dict_ : mg "dict" = none
  list_ : mg "list" = none
theorem sc_put_out : FnScope ["kind", "base", "one", "found", "name"] ["kind", "base", "one"] (defScope s_put_out) := ⟨rfl, rfl, rfl, by decide +kernel, rfl, by decide +kernel, by decide +kernel⟩
theorem sc__law_digits : FnScope ["_law_cell_here", "_law_many", "_law_row", "_law_rest", "_law_number", "_law_k"] ["_law_cell_here", "_law_many"] (defScope s__law_digits) := ⟨rfl, rfl, rfl, by decide +kernel, rfl, by decide +kernel, by decide +kernel⟩
theorem sc__law_next_of : FnScope ["_law_state"] ["_law_state"] (defScope s__law_next_of) := ⟨rfl, rfl, rfl, by decide +kernel, rfl, by decide +kernel, by decide +kernel⟩
theorem sc__law_called : FnScope ["_law_state", "_law_many", "_law_names", "_law_k", "_law_word", "_law_j"] ["_law_state", "_law_many"] (defScope s__law_called) := ⟨rfl, rfl, rfl, by decide +kernel, rfl, by decide +kernel, by decide +kernel⟩

/-- digits of the law's: from 0 to 1008 -/
def Digs (ns : List Int) : Prop := ∀ x ∈ ns, 0 ≤ x ∧ x < 1009
section
variable {P : Program} {w : World} {K : PySem.W.Frag} {mg : Str → Option Value} {base : Heap} {A : Ad}
def sp_digits : Sp := fun vs H Q _ => ∃ c n : Int, vs = [.int c, .int n] ∧ 0 < n ∧ n ≤ 1000 ∧ ∀ p H' (ns : List Int), Same H H' → H p = none → H' p = some (.lst (ns.map V.int)) → (ns.length : Int) = n → Digs ns → Q (.ref p) H'
theorem Digs.snoc {ns : List Int} {x : Int} (h : Digs ns) (h0 : 0 ≤ x) (h1 : x < 1009) : Digs (ns ++ [x]) := fun y hy => by
  rcases List.mem_append.mp hy with hy | hy
  · exact h y hy
  · rw [List.mem_singleton.mp hy]; exact ⟨h0, h1⟩
theorem ok__law_digits (T : Txt K mg A) : FnOk P w K mg base CX0 1 A.a__law_digits A.d__law_digits ["_law_cell_here", "_law_many"] sp_digits := by
  refine T.F__law_digits.ok sc__law_digits (fun vs H Q E h => ?_) (fun cdv A0 outer s H vs Q E hr h => ?_)
  · obtain ⟨c, n, rfl, _⟩ := h
    rfl
  · obtain ⟨c, n, rfl, hn0, hn1, q⟩ := h
    refine ⟨_, (pss_cons (ps_set (i := 2) sc__law_digits.nd rfl (Or.inl rfl) (pe_lst pa_nil))
 (pss_cons (ps_set (i := 3) sc__law_digits.nd rfl (Or.inl rfl) pe_int)
 (Evl.pss_cut (ps_if (pt_cmpR op_ge (pv 0) (pe_op op_pow pe_int pe_int) (nomark _)) (pss_one (ps_set (i := 3) sc__law_digits.nd rfl (Or.inl rfl) (pv 0))) pss_nil)
 (pss_cons (ps_set (i := 4) sc__law_digits.nd rfl (Or.inl rfl) (pe_op op_mod (pv 0) pe_int))
 (pss_cons (ps_for PassesOwn.never rfl (pi_range1 (by rfl) T.range (pa_cons (pv 1) pa_nil)) (pg_name (i := 5) sc__law_digits.nd rfl (Or.inl rfl))
 (pss_cons (ps_set (i := 4) sc__law_digits.nd rfl (Or.inl rfl) (pe_op op_mod (pe_op op_add (pe_op op_add (pe_op op_mul (pv 4) pe_int) (pe_op op_mul pe_int (pv 5))) pe_int) pe_int))
 (pss_cons (ps_set (i := 4) sc__law_digits.nd rfl (Or.inl rfl) (pe_op op_mod (pe_op op_mul (pv 4) (pe_op op_add (pe_op op_fdiv (pv 4) pe_int) pe_int)) pe_int))
 (pss_one (ps_if (pt_cmpR op_gt (pv 3) pe_int (nomark _)) (pss_cons (ps_expr (pe_bm PySem.F.plainAttrs_list PySem.F.slot_list_append PySem.F.type_list_append mt_append (pv 2) (pa_cons (pe_op op_mod (pv 3) pe_int) pa_nil)))
 (pss_one (ps_set (i := 3) sc__law_digits.nd rfl (Or.inl rfl) (pe_op op_fdiv (pv 3) pe_int)))) (pss_one (ps_expr (pe_bm PySem.F.plainAttrs_list PySem.F.slot_list_append PySem.F.type_list_append mt_append (pv 2) (pa_cons (pe_op op_mod (pe_op op_fdiv (pv 4) pe_int) pe_int) pa_nil)))))))))
 (pss_one (ps_ret (pv 2)))))))), ?_⟩
    refine ⟨Nat.zero_le _, fun p hp => ?_⟩
    -- the if
    refine ⟨fun σ' H' => ∃ r : Int, σ' = [some (.int c), some (.int n), some (.ref p), some (.int r), none, none] ∧ H' = upd H p (.lst []), ?_, ?_⟩
    · refine ⟨_, rfl, _, _, rfl, rfl, ⟨by decide, by decide, by decide⟩, _, _, rfl, rfl, _, rfl, ite2 (fun _ => ?_) (fun _ => ?_)⟩
      · exact ⟨_, rfl, c, rfl, rfl⟩
      · exact ⟨0, rfl, rfl⟩
    rintro σ' H' ⟨r, rfl, rfl⟩
    refine ⟨_, rfl, _, _, rfl, rfl, lt0, ?_⟩
    refine ⟨_, rfl, n, rfl, by omega, by omega, for_range (fun i σ' H' => ∃ (r z : Int) (x5 : Option V) (ns : List Int), σ' = [some (.int c), some (.int n), some (.ref p), some (.int r), some (.int z), x5] ∧ 0 ≤ z ∧ z < 2147483648 ∧ Same H H' ∧ H' p = some (.lst (ns.map V.int)) ∧ ns.length = i ∧ Digs ns) ?_ ?_ ?_⟩
    · exact ⟨r, _, none, [], rfl, by omega, by omega, same_new hp, upd_same, rfl, fun x hx => by simp at hx⟩
    · rintro i σ' H' hi ⟨r, z, x5, ns, rfl, z0, z1, sm, hl, rfl, dg⟩
      refine ⟨_, rfl, _, _, rfl, rfl, .inl ⟨by omega, by omega⟩, _, rfl, _, _, rfl, rfl, .inl ⟨by decide, by decide⟩, _, _, rfl, rfl, _, _, rfl, rfl, _, _, rfl, rfl, lt0, ?_⟩
      refine ⟨_, rfl, _, rfl, _, _, rfl, rfl, ⟨by decide, by decide⟩, _, _, rfl, rfl, _, _, rfl, rfl, .inl ⟨by omega, by omega⟩, _, _, rfl, rfl, lt0, ?_⟩
      have hlen : (ns.map V.int).length < sizeLine := by rw [List.length_map]; exact sl1 (by omega)
      refine ⟨_, rfl, _, _, rfl, rfl, _, rfl, ite2 (fun _ => ?_) (fun _ => ?_)⟩
      · refine ⟨_, rfl, .inl ⟨rfl, _, SqL.of hl⟩, _, rfl, _, _, rfl, rfl, lt0, _, _, _, rfl, rfl, hl, hlen, ?_⟩
        refine ⟨_, rfl, _, _, rfl, rfl, ⟨by decide, by decide⟩, ?_⟩
        exact ⟨_, _, _, ns ++ [r % 1009], rfl, by omega, by omega, same_mut sm hp, by rw [upd_same, List.map_append]; rfl, by simp, dg.snoc (by omega) (by omega)⟩
      · refine ⟨_, rfl, .inl ⟨rfl, _, SqL.of hl⟩, _, rfl, _, _, rfl, rfl, ⟨by decide, by decide⟩, _, _, rfl, rfl, lt0, _, _, _, rfl, rfl, hl, hlen, ?_⟩
        exact ⟨_, _, _, ns ++ [_ / 7 % 1009], rfl, by omega, by omega, same_mut sm hp, by rw [upd_same, List.map_append]; rfl, by simp, dg.snoc (by omega) (by omega)⟩
    · rintro σ' H' ⟨r, z, x5, ns, rfl, z0, z1, sm, hl, hlen, dg⟩
      exact ⟨_, rfl, q p H' ns sm hp hl (by omega) dg⟩

/-! ### the law's state: its digits, its place -/
def StAt (H : Hp) (s d : Addr) : Prop := d ≠ s ∧ (∃ k : Int, H s = some (.lst [.ref d, .int k])) ∧ ∃ ns : List Int, H d = some (.lst (ns.map V.int)) ∧ ns ≠ [] ∧ ns.length ≤ 1000 ∧ Digs ns
/-- all but s is kept -/
def But (s : Addr) (H H' : Hp) : Prop := ∀ a o, a ≠ s → H a = some o → H' a = some o
theorem But.refl (s : Addr) (H : Hp) : But s H H := fun _ _ _ h => h
theorem But.trans {s : Addr} {H H1 H2 : Hp} (a : But s H H1) (b : But s H1 H2) : But s H H2 := fun x o n h => b x o n (a x o n h)
theorem But.same {s : Addr} {H H1 H2 : Hp} (a : But s H H1) (b : Same H1 H2) : But s H H2 := fun x o n h => b x o (a x o n h)
theorem but_of_same {s : Addr} {H H1 : Hp} (b : Same H H1) : But s H H1 := fun x o _ h => b x o h
/-- a cell that H does not know may change -/
theorem But.cell {s p : Addr} {H H1 : Hp} (a : But s H H1) (hp : H p = none) (o : HO) : But s H (upd H1 p o) := fun x u n h => by rw [upd_ne (ne_of_none h hp)]; exact a x u n h
theorem But.own {s : Addr} {H H1 : Hp} (a : But s H H1) (o : HO) : But s H (upd H1 s o) := fun x u n h => by rw [upd_ne n]; exact a x u n h
theorem StAt.s_some {H : Hp} {s d : Addr} (h : StAt H s d) : ∃ o, H s = some o := let ⟨_, ⟨_, h⟩, _⟩ := h; ⟨_, h⟩
theorem StAt.d_some {H : Hp} {s d : Addr} (h : StAt H s d) : ∃ o, H d = some o := let ⟨_, _, _, h, _⟩ := h; ⟨_, h⟩
theorem But.free {s d : Addr} {H H' : Hp} (a : But s H H') (h : StAt H' s d) {p : Addr} (hp : H' p = none) : H p = none := by
  cases e : H p with
  | none => rfl
  | some o =>
    by_cases n : p = s
    · obtain ⟨o', h⟩ := h.s_some
      rw [n, h] at hp
      cases hp
    · rw [a p o n e] at hp
      cases hp
theorem StAt.same {H H' : Hp} {s d : Addr} (h : StAt H s d) (e : Same H H') : StAt H' s d := by
  obtain ⟨n, ⟨k, h1⟩, ns, h2, r⟩ := h
  exact ⟨n, ⟨k, e _ _ h1⟩, ns, e _ _ h2, r⟩
theorem StAt.cell {H H0 : Hp} {s d p : Addr} (h : StAt H s d) {o : HO} (h0 : StAt H0 s d) (hp : H0 p = Option.none) : StAt (upd H p o) s d := by
  obtain ⟨n, ⟨k, h1⟩, ns, h2, r⟩ := h
  obtain ⟨os, g1⟩ := h0.s_some
  obtain ⟨od, g2⟩ := h0.d_some
  exact ⟨n, ⟨k, by rw [upd_ne (ne_of_none g1 hp)]; exact h1⟩, ns, by rw [upd_ne (ne_of_none g2 hp)]; exact h2, r⟩
def sp_next : Sp := fun vs H Q _ => ∃ s d : Addr, vs = [.ref s] ∧ StAt H s d ∧ ∀ (j : Int) H', 0 ≤ j → j < 1009 → But s H H' → StAt H' s d → Q (.int j) H'
theorem ok__law_next_of (T : Txt K mg A) : FnOk P w K mg base CX0 1 A.a__law_next_of A.d__law_next_of ["_law_state"] sp_next := by
  refine T.F__law_next_of.ok sc__law_next_of (fun vs H Q E h => ?_) (fun cdv A0 outer s H vs Q E hr h => ?_)
  · obtain ⟨c, n, rfl, _⟩ := h
    rfl
  · obtain ⟨s, d, rfl, ⟨nd, ⟨k, hs⟩, ns, hd, n0, n1, dg⟩, q⟩ := h
    refine ⟨_, (pss_cons (ps_asg (pe_op op_add (pe_ix ix_list (pv 0) pe_int (fun _ _ => rfl)) pe_int) (pg_sub (pv 0) pe_int set_list))
 (pss_one (ps_ret (pe_ix ix_list (pe_ix ix_list (pv 0) pe_int (fun _ _ => rfl)) (pe_op op_mod (pe_ix ix_list (pv 0) pe_int (fun _ _ => rfl)) (pe_callB call_len_seq (by rfl) T.len (by decide +kernel) (pa_cons (pe_ix ix_list (pv 0) pe_int (fun _ _ => rfl)) pa_nil))) (fun _ _ => rfl))))), ?_⟩
    have hpos : 0 < (ns.map V.int).length := by rw [List.length_map]; exact List.length_pos_iff.mpr n0
    refine ⟨_, rfl, _, _, _, _, rfl, rfl, SqL.of hs, atI_nat (j := 1) rfl, _, _, rfl, rfl, ?_⟩
    refine ⟨_, rfl, _, _, _, 1, rfl, rfl, hs, rfl, ?_⟩
    have hs' : upd H s (.lst ([V.ref d, V.int k].set 1 (V.int (k + 1)))) s = some (.lst [V.ref d, V.int (k + 1)]) := upd_same
    have hd' : upd H s (.lst ([V.ref d, V.int k].set 1 (V.int (k + 1)))) d = some (.lst (ns.map V.int)) := by rw [upd_ne nd]; exact hd
    have i0 : 0 ≤ (k + 1) % ((ns.map V.int).length : Int) := Int.emod_nonneg _ (by omega)
    have i1 : (k + 1) % ((ns.map V.int).length : Int) < (ns.map V.int).length := Int.emod_lt_of_pos _ (by omega)
    obtain ⟨v, hv, hm⟩ := atI_some i0 i1
    obtain ⟨z, hz, rfl⟩ := List.mem_map.mp hm
    refine ⟨_, rfl, _, _, _, _, rfl, rfl, SqL.of hs', atI_nat (j := 0) rfl, _, rfl, _, _, _, _, rfl, rfl, SqL.of hs', atI_nat (j := 1) rfl, _, rfl, _, _, _, _, rfl, rfl, SqL.of hs', atI_nat (j := 0) rfl, _, _, rfl, .inl (SqL.of hd'), _, _, rfl, rfl, (by show (0 : Int) < _; omega), _, _, _, _, rfl, rfl, SqL.of hd', hv, ?_⟩
    exact q z _ (dg z hz).1 (dg z hz).2 ((But.refl s H).own _) ⟨nd, ⟨_, hs'⟩, ns, hd', n0, n1, dg⟩
/-- small letters -/
def Smalls (l : List Nat) : Prop := ∀ c ∈ l, 97 ≤ c ∧ c < 123
theorem abc : (("abcdefghijklmnopqrstuvwxyz" : Str)).cps.toList = (List.range 26).map (97 + ·) := by decide +kernel
theorem abc6 : (("abcdef" : Str)).cps.toList = (List.range 6).map (97 + ·) := by decide +kernel
/-- the i-th name: a word of at most seven letters and the i-th letter -/
def CalledAt (i : Nat) (x : Str) : Prop := ∃ l : List Nat, x = ⟨(l ++ [97 + i]).toArray⟩ ∧ l.length ≤ 7 ∧ Smalls l
def Called (n : Nat) (xs : List Str) : Prop := xs.length = n ∧ ∀ i x, xs[i]? = some x → CalledAt i x
def sp_called : Sp := fun vs H Q _ => ∃ (s d : Addr) (n : Nat), vs = [.ref s, .int n] ∧ n ≤ 6 ∧ StAt H s d ∧ ∀ p H' (xs : List Str), H p = none → But s H H' → StAt H' s d → H' p = some (.lst (xs.map V.str)) → Called n xs → Q (.ref p) H'
theorem letter_at {i : Int} (h0 : 0 ≤ i) (h1 : i < 26) : atI (("abcdefghijklmnopqrstuvwxyz" : Str)).cps.toList i = some (97 + i.toNat) := by
  rw [atI_eq h0 (by rw [abc]; simpa using h1), abc, List.getElem?_map, List.getElem?_range (by omega)]
  rfl
theorem letter6_at {i : Int} (h0 : 0 ≤ i) (h1 : i < 6) : atI (("abcdef" : Str)).cps.toList i = some (97 + i.toNat) := by
  rw [atI_eq h0 (by rw [abc6]; simpa using h1), abc6, List.getElem?_map, List.getElem?_range (by omega)]
  rfl
theorem ok__law_called (T : Txt K mg A) : FnOk P w K mg base CX0 2 A.a__law_called A.d__law_called ["_law_state", "_law_many"] sp_called := by
  have G__law_next_of : FnOk P w K mg base CX0 1 A.a__law_next_of A.d__law_next_of ["_law_state"] sp_next := ok__law_next_of T
  refine T.F__law_called.ok sc__law_called (fun vs H Q E h => ?_) (fun cdv A0 outer s H vs Q E hr h => ?_)
  · obtain ⟨s, d, n, rfl, _⟩ := h
    rfl
  · obtain ⟨s, d, n, rfl, n6, hs, q⟩ := h
    refine ⟨_, (pss_cons (ps_set (i := 2) sc__law_called.nd rfl (Or.inl rfl) (pe_lst pa_nil))
 (pss_cons (ps_for PassesOwn.never rfl (pi_range1 (by rfl) T.range (pa_cons (pv 1) pa_nil)) (pg_name (i := 3) sc__law_called.nd rfl (Or.inl rfl))
 (pss_cons (ps_set (i := 4) sc__law_called.nd rfl (Or.inl rfl) pe_str)
 (pss_cons (ps_for PassesOwn.never rfl (pi_range1 (by rfl) T.range (pa_cons (pe_op op_mod (pe_call G__law_next_of (hr.mono (by decide)) (by rfl) T.g__law_next_of T.F__law_next_of.kp T.b__law_next_of .nil pass0 (pa_cons (pv 0) pa_nil)) pe_int) pa_nil)) (pg_name (i := 5) sc__law_called.nd rfl (Or.inl rfl))
 (pss_one (ps_set (i := 4) sc__law_called.nd rfl (Or.inl rfl) (pe_op op_add_str (pv 4) (pe_ix ix_str pe_str (pe_op op_mod (pe_call G__law_next_of (hr.mono (by decide)) (by rfl) T.g__law_next_of T.F__law_next_of.kp T.b__law_next_of .nil pass0 (pa_cons (pv 0) pa_nil)) pe_int) (fun _ _ => rfl))))))
 (pss_one (ps_expr (pe_bm PySem.F.plainAttrs_list PySem.F.slot_list_append PySem.F.type_list_append mt_append (pv 2) (pa_cons (pe_op op_add_str (pv 4) (pe_ix ix_str pe_str (pv 3) (fun _ _ => rfl))) pa_nil)))))))
 (pss_one (ps_ret (pv 2))))), ?_⟩
    refine ⟨Nat.zero_le _, fun p hp => ?_⟩
    refine ⟨_, rfl, (n : Int), rfl, by omega, by omega, for_range (fun i σ' H' => ∃ (x3 x4 x5 : Option V) (xs : List Str), σ' = [some (.ref s), some (.int n), some (.ref p), x3, x4, x5] ∧ But s H H' ∧ StAt H' s d ∧ H' p = some (.lst (xs.map V.str)) ∧ Called i xs) ?_ ?_ ?_⟩
    · exact ⟨none, none, none, [], rfl, but_of_same (same_new hp), hs.cell hs hp, upd_same, rfl, fun i x h => by simp at h⟩
    · rintro i σ' H1 hi ⟨x3, x4, x5, xs, rfl, bt, st, hl, hx, hc⟩
      refine ⟨_, rfl, s, d, rfl, st, fun j H2 j0 j1 bt2 st2 => ?_⟩
      refine ⟨_, _, rfl, rfl, lt0, _, rfl, by omega, by omega, for_range (fun k σ' H' => ∃ (x5 : Option V) (l : List Nat), σ' = [some (.ref s), some (.int n), some (.ref p), some (.int (0 + (i : Int))), some (.str ⟨l.toArray⟩), x5] ∧ But s H1 H' ∧ StAt H' s d ∧ l.length = k ∧ Smalls l) ?_ ?_ ?_⟩
      · exact ⟨_, [], rfl, bt2, st2, rfl, fun c h => by simp at h⟩
      · rintro k σ' H3 hk ⟨y5, l, rfl, bt3, st3, hlk, sm⟩
        refine ⟨_, rfl, _, rfl, s, d, rfl, st3, fun m H4 m0 m1 bt4 st4 => ?_⟩
        refine ⟨_, _, rfl, rfl, lt0, _, _, _, rfl, rfl, by decide +kernel, letter_at (by omega) (by omega), _, _, rfl, rfl, ?_, ?_⟩
        · show l.toArray.size + 1 ≤ sizeLine
          rw [List.size_toArray, sizeLine_eq]; omega
        · refine ⟨some (.int (0 + (k : Int))), l ++ [97 + (m % 26).toNat], by rw [← app_sign]; rfl, bt3.trans bt4, st4, by simp [hlk], ?_⟩
          · intro c hc
            rcases List.mem_append.mp hc with hc | hc
            · exact sm c hc
            · rw [List.mem_singleton.mp hc]; omega
      · rintro σ' H3 ⟨y5, l, rfl, bt3, st3, hlk, sm⟩
        have hl3 : H3 p = some (.lst (xs.map V.str)) := bt3 p _ (fun e => by rw [e] at hp; obtain ⟨o, ho⟩ := hs.s_some; rw [ho] at hp; cases hp) hl
        refine ⟨_, rfl, .inl ⟨rfl, _, SqL.of hl3⟩, _, rfl, _, rfl, _, _, _, rfl, rfl, by decide +kernel, letter6_at (by omega) (by omega), _, _, rfl, rfl, ?_, _, _, _, rfl, rfl, hl3, ?_, ?_⟩
        · show l.toArray.size + 1 ≤ sizeLine
          rw [List.size_toArray, sizeLine_eq]; omega
        · rw [List.length_map]; exact sl1 (by omega)
        · refine ⟨_, _, _, xs ++ [_], rfl, (bt.trans bt3).cell hp _, st3.cell hs hp, by rw [upd_same, List.map_append]; rfl, by simp [hx], fun m x hm => ?_⟩
          rw [List.getElem?_append] at hm
          by_cases h : m < xs.length
          · rw [if_pos h] at hm
            exact hc m x hm
          · rw [if_neg h] at hm
            have hm0 : m - xs.length = 0 := by
              have := (List.getElem?_eq_some_iff.mp hm).1
              simp at this
              omega
            rw [hm0] at hm
            have e : _ = x := Option.some.inj hm
            have em : m = i := by omega
            subst em
            refine ⟨l, ?_, by omega, sm⟩
            rw [← e, ← app_sign, show (0 + (m : Int)).toNat = m by omega]
    · rintro σ' H1 ⟨x3, x4, x5, xs, rfl, bt, st, hl, hc⟩
      exact ⟨_, rfl, q p H1 xs hp bt st hl hc⟩

/-! ### put_out -/
def sp_put_out : Sp := fun vs H Q _ => ∃ (kind : Str) (b o : Addr) (kvs : List (Key × V)) (kb : List (Str × List Str)) (ns : List Str), vs = [.str kind, .ref b, .ref o] ∧ H b = some (.dK kvs) ∧ BaseAt H kvs kb ∧ (∀ m ∈ kb, m.2.length ≤ 4) ∧ H o = some (.lst (ns.map V.str)) ∧ ns.length ≤ 1000 ∧
  ∀ p H', Same H H' → H p = none → H' p = some (.lst ((if kind = ("bag" : Str) then ssort (outs kb ns) else outs kb ns).map V.str)) → Q (.ref p) H'
theorem ok_put_out (T : Txt K mg A) : FnOk P w K mg base CX0 1 A.a_put_out A.d_put_out ["kind", "base", "one"] sp_put_out := by
  refine T.F_put_out.ok sc_put_out (fun vs H Q E h => ?_) (fun cdv A0 outer s H vs Q E hr h => ?_)
  · obtain ⟨s, d, n, _, _, _, rfl, _⟩ := h
    rfl
  · obtain ⟨kind, b, o, kvs, kb, ns, rfl, hb, hB, h4, ho, hlen, q⟩ := h
    have hu := hu_of hr
    have hu64 := hu64_of hr
    refine ⟨_, (pss_cons (ps_set (i := 3) sc_put_out.nd rfl (Or.inl rfl) (pe_lst pa_nil))
 (pss_cons (ps_for PassesOwn.never rfl (pi_list (pv 2)) (pg_name (i := 4) sc_put_out.nd rfl (Or.inl rfl))
 (pss_one (ps_expr (pe_bm PySem.F.plainAttrs_list PySem.F.slot_list_extend PySem.F.type_list_extend mt_extend (pv 3) (pa_cons (pe_dget2 hu (pv 1) (pv 4) (pe_lst (pa_cons (pv 4) pa_nil)) ⟨rfl, rfl, rfl, rfl⟩) pa_nil)))))
 (pss_cons (ps_if (pt_cmpR op_eq (pv 0) pe_str (nomark _)) (pss_one (ps_ret (pe_callB (cr_sortedX hu64) (by rfl) T.sorted (by decide +kernel) (pa_cons (pv 3) pa_nil)))) pss_nil)
 (pss_one (ps_ret (pv 3)))))), ?_⟩
    refine ⟨Nat.zero_le _, fun p hp => ?_⟩
    refine ⟨_, rfl, o, rfl, ⟨_, SqL.of (same_new hp _ _ ho)⟩, for_list (K := K) (a := o) (xs := ns.map V.str) (fun i σ' H' => ∃ x4 : Option V, σ' = [some (.str kind), some (.ref b), some (.ref o), some (.ref p), x4] ∧ Same H H' ∧ H' p = some (.lst ((outs kb (ns.take i)).map V.str))) ?_ ?_ ?_ ?_⟩
    · exact ⟨none, rfl, same_new hp, upd_same⟩
    · rintro i σ' H' _ ⟨x4, rfl, sm, _⟩
      exact SqL.of (sm _ _ ho)
    · rintro i x σ' H1 hi ⟨x4, rfl, sm, hl⟩
      obtain ⟨n, hn, rfl⟩ := map_at hi
      have hlen1 : (outs kb (ns.take i)).length ≤ 4000 := by
        have := outs_len h4 (ns.take i)
        have : (ns.take i).length ≤ ns.length := by rw [List.length_take]; exact Nat.min_le_right _ _
        omega
      have hmk := mk_len h4 n
      refine ⟨_, rfl, .inl ⟨rfl, _, SqL.of hl⟩, _, rfl, b, rfl, .inl ⟨kvs, .inl (sm _ _ hb)⟩, _, rfl, _, rfl, sl2 (by show 1 ≤ 1000000; decide), fun c hc => ?_⟩
      have sm2 : Same H (upd H1 c (.lst [V.str n])) := sm.trans (same_new hc)
      have npc : p ≠ c := ne_of_none hl hc
      have hl2 : (upd H1 c (.lst [V.str n])) p = some (.lst ((outs kb (ns.take i)).map V.str)) := same_new hc _ _ hl
      have done : ∀ (u : Addr) (ms : List Str), (upd H1 c (.lst [V.str n])) u = some (.lst (ms.map V.str)) → mk kb n = ms → rExtend (.ref p) [.ref u] (upd H1 c (.lst [V.str n])) fun x H2 => ∃ x4 : Option V, [some (V.str kind), some (V.ref b), some (V.ref o), some (V.ref p), some (V.str n)] = [some (.str kind), some (.ref b), some (.ref o), some (.ref p), x4] ∧ Same H H2 ∧ H2 p = some (.lst ((outs kb (ns.take (i + 1))).map V.str)) := by
        intro u ms hu2 hm
        refine ⟨p, u, _, _, rfl, rfl, hl2, hu2, ?_, _, rfl, same_mut sm2 hp, ?_⟩
        · rw [List.length_map, List.length_map, ← hm]; exact sl2 (by omega)
        · rw [upd_same, take_snoc hn, outs_snoc, hm, List.map_append]
      rcases baseAt_val hB n with ⟨e1, e2⟩ | ⟨a, ms, e1, e2, e3, e4⟩
      · refine ⟨none, .inl ⟨kvs, Sum.inr n, .inl (sm2 _ _ hb), rfl, e1.symm⟩, ?_⟩
        exact done c [n] upd_same (by unfold mk; rw [e2]; rfl)
      · refine ⟨some (.ref a), .inl ⟨kvs, Sum.inr n, .inl (sm2 _ _ hb), rfl, e1.symm⟩, ?_⟩
        exact done a ms (sm2 _ _ e2) (by unfold mk; rw [e3]; rfl)
    · rintro σ' H1 ⟨x4, rfl, sm, hl⟩
      rw [List.length_map, List.take_length] at hl
      refine ⟨_, rfl, rfl, _, rfl, ite2 (fun hk => ?_) (fun hk => ?_)⟩
      · have ek : kind = ("bag" : Str) := V.str.inj (of_decide_eq_true hk)
        refine ⟨_, rfl, p, _, _, rfl, SqL.of hl, dpAll_strs _, alike_strs _, sortable_strs _, fun d hd => ?_, fun ys p2 hd _ hp2 => ?_⟩
        · obtain ⟨x, _, rfl⟩ := List.mem_map.mp hd
          rw [PyData.depth]
          decide
        · rw [dsort_strs] at hd
          have ey := of_dpAll_strs hd
          subst ey
          refine q p2 _ (sm.trans (same_new hp2)) (sm.free hp2) ?_
          rw [if_pos ek, upd_same]
      · refine ⟨_, rfl, q p H1 sm hp ?_⟩
        rw [if_neg (fun e => hk (decide_eq_true (by rw [e])))]
        exact hl

/-! ### the law -/
theorem sc_law : FnScope ["_law_script", "_law_cells", "_law_cell_here", "_law_state", "_law_names", "_law_base", "_law_k", "_law_name", "_law_kept", "_law_size", "_law_one", "_law_handed", "_law_due", "_law_turn", "_law_found", "_law_other", "_law_j"] ["_law_script"] (defScope s_law) := ⟨rfl, rfl, rfl, by decide +kernel, rfl, by decide +kernel, by decide +kernel⟩
theorem StAt.ne_strs {H : Hp} {s d a : Addr} {ms : List Str} (h : StAt H s d) (e : H a = some (.lst (ms.map V.str))) : a ≠ s := fun q => by
  obtain ⟨_, ⟨k, h1⟩, _⟩ := h
  rw [q, h1] at e
  cases ms with
  | nil => cases e
  | cons x r => cases e
theorem StAt.ne_dk {H : Hp} {s d a : Addr} {kvs : List (Key × V)} (h : StAt H s d) (e : H a = some (.dK kvs)) : a ≠ s := fun q => by
  obtain ⟨_, ⟨k, h1⟩, _⟩ := h
  rw [q, h1] at e
  cases e
theorem But.under {s : Addr} {H H' H1 : Hp} (a : But s H H') (h : H1 s = none) (e : Same H1 H) : Same H1 H' := fun x o g => a x o (ne_of_none g h) (e x o g)
theorem BaseAt.keep {H H' : Hp} {kvs : List (Key × V)} {kb : List (Str × List Str)} (h : BaseAt H kvs kb) (k : ∀ (a : Addr) (ms : List Str), H a = some (.lst (ms.map V.str)) → H' a = some (.lst (ms.map V.str))) : BaseAt H' kvs kb :=
  Paired.mapP h fun _ m ⟨e, a, e2, e3⟩ => ⟨e, a, e2, k a m.2 e3⟩
theorem BaseAt.keepD {H H' : Hp} {D : Addr} (k : ∀ (a : Addr) (ms : List Str), a ≠ D → H a = some (.lst (ms.map V.str)) → H' a = some (.lst (ms.map V.str))) : ∀ {kvs : List (Key × V)} {kb : List (Str × List Str)}, BaseAt H kvs kb → (∀ p ∈ kvs, p.2 ≠ .ref D) → BaseAt H' kvs kb
  | _, _, .nil, _ => .nil
  | p :: kvs, m :: kb, .cons ⟨e, a, e2, e3⟩ t, n => .cons ⟨e, a, e2, k a m.2 (fun z => n p List.mem_cons_self (by rw [e2, z])) e3⟩ (BaseAt.keepD k t fun q hq => n q (List.mem_cons_of_mem _ hq))
theorem BaseAt.same {H H' : Hp} {kvs : List (Key × V)} {kb : List (Str × List Str)} (h : BaseAt H kvs kb) (e : Same H H') : BaseAt H' kvs kb := h.keep fun _ _ x => e _ _ x
theorem BaseAt.but {H H' : Hp} {s d : Addr} {kvs : List (Key × V)} {kb : List (Str × List Str)} (h : BaseAt H kvs kb) (b : But s H H') (st : StAt H s d) : BaseAt H' kvs kb := h.keep fun _ _ x => b _ _ (st.ne_strs x) x
theorem upd_strs {H : Hp} {a b : Addr} {ms : List Str} {o : HO} {kvs : List (Key × V)} (hb : H b = some (.dK kvs)) (e : H a = some (.lst (ms.map V.str))) : upd H b o a = some (.lst (ms.map V.str)) := by
  rw [upd_ne (ne_of e hb (by intro z; cases z))]
  exact e
/-- a making is put to a base -/
def putB (kb : List (Str × List Str)) (n : Str) (ms : List Str) : List (Str × List Str) := if (kb.any fun m => decide (m.1 = n)) = true then kb.map (fun m => if m.1 = n then (m.1, ms) else m) else kb ++ [(n, ms)]
theorem baseAt_any {H : Hp} : ∀ {kvs : List (Key × V)} {kb : List (Str × List Str)}, BaseAt H kvs kb → ∀ n : Str, (kvs.any fun kv => decide (kv.1 = (Sum.inr n : Key))) = kb.any fun m => decide (m.1 = n)
  | _, _, .nil, _ => rfl
  | p :: kvs, m :: kb, .cons ⟨h1, _⟩ t, n => by
    rw [List.any_cons, List.any_cons, baseAt_any t n, h1, key_rr]
theorem paired_app {α β : Type} {F : α → β → Prop} {y : α} {z : β} (h : F y z) : ∀ {xs : List α} {ys : List β}, Paired F xs ys → Paired F (xs ++ [y]) (ys ++ [z])
  | _, _, .nil => .cons h .nil
  | _, _, .cons h1 t => .cons h1 (paired_app h t)
theorem baseAt_app {H : Hp} {n : Str} {u : Addr} {ms : List Str} {kvs : List (Key × V)} {kb : List (Str × List Str)} (h : BaseAt H kvs kb) (e : H u = some (.lst (ms.map V.str))) : BaseAt H (kvs ++ [((Sum.inr n : Key), .ref u)]) (kb ++ [(n, ms)]) :=
  paired_app (F := fun (p : Key × V) (m : Str × List Str) => p.1 = Sum.inr m.1 ∧ ∃ a, p.2 = .ref a ∧ H a = some (.lst (m.2.map V.str))) ⟨rfl, u, rfl, e⟩ h
theorem baseAt_map {H : Hp} {n : Str} {a : Addr} {ms : List Str} (e : H a = some (.lst (ms.map V.str))) : ∀ {kvs : List (Key × V)} {kb : List (Str × List Str)}, BaseAt H kvs kb →
    BaseAt H (kvs.map fun kv => if kv.1 = (Sum.inr n : Key) then (kv.1, V.ref a) else kv) (kb.map fun m => if m.1 = n then (m.1, ms) else m)
  | _, _, .nil => .nil
  | p :: kvs, m :: kb, .cons ⟨h1, b, h2, h3⟩ t => by
    refine .cons ?_ (baseAt_map e t)
    dsimp only
    by_cases c : m.1 = n
    · rw [if_pos (by rw [h1, c]), if_pos c]
      exact ⟨h1, a, rfl, e⟩
    · rw [if_neg (by rw [h1]; intro z; exact c (Sum.inr.inj z)), if_neg c]
      exact ⟨h1, b, h2, h3⟩
theorem baseAt_put {H : Hp} {kvs : List (Key × V)} {kb : List (Str × List Str)} {n : Str} {a : Addr} {ms : List Str} (h : BaseAt H kvs kb) (e : H a = some (.lst (ms.map V.str))) : BaseAt H (putK kvs (Sum.inr n : Key) (V.ref a)) (putB kb n ms) := by
  unfold putK putB
  rw [baseAt_any h n]
  by_cases c : (kb.any fun m => decide (m.1 = n)) = true
  · rw [if_pos c, if_pos c]
    exact baseAt_map e h
  · rw [if_neg c, if_neg c]
    exact paired_app (F := fun (p : Key × V) (m : Str × List Str) => p.1 = Sum.inr m.1 ∧ ∃ a, p.2 = .ref a ∧ H a = some (.lst (m.2.map V.str))) ⟨rfl, a, rfl, e⟩ h
theorem putB_len {kb : List (Str × List Str)} {n : Str} {ms : List Str} (h : ∀ m ∈ kb, m.2.length ≤ 4) (hm : ms.length ≤ 4) : ∀ m ∈ putB kb n ms, m.2.length ≤ 4 := fun m hx => by
  unfold putB at hx
  split at hx
  · obtain ⟨y, hy, rfl⟩ := List.mem_map.mp hx
    split
    · exact hm
    · exact h y hy
  · rcases List.mem_append.mp hx with hx | hx
    · exact h m hx
    · rw [List.mem_singleton.mp hx]; exact hm
theorem putB_nd {kb : List (Str × List Str)} {n : Str} {ms : List Str} (h : (kb.map (·.1)).Nodup) : ((putB kb n ms).map (·.1)).Nodup := by
  unfold putB
  split
  · have e : (kb.map (fun m => if m.1 = n then (m.1, ms) else m)).map (·.1) = kb.map (·.1) := by
      rw [List.map_map]
      refine List.map_congr_left fun m _ => ?_
      show (if m.1 = n then (m.1, ms) else m).1 = m.1
      split <;> rfl
    rw [e]
    exact h
  · rename_i c
    rw [List.map_append, List.nodup_append]
    refine ⟨h, by simp, fun x hx y hy e => c ?_⟩
    have e2 : y = n := by simpa using hy
    rw [List.any_eq_true]
    obtain ⟨m, hm, rfl⟩ := List.mem_map.mp hx
    exact ⟨m, hm, by rw [e, e2]; simp⟩
theorem putK_le (kvs : List (Key × V)) (k : Key) (v : V) : (putK kvs k v).length ≤ kvs.length + 1 := by
  unfold putK
  split
  · rw [List.length_map]; omega
  · rw [List.length_append]; exact Nat.le_refl _
def sp_law (K : PySem.W.Frag) : Sp := fun vs H Q _ => ∃ (a : Addr) (ns : List Int), vs = [.ref a] ∧ SqL K H a (ns.map V.int) ∧ ns.length ≤ 63 ∧ ∀ H', Q (.bl true) H'
theorem ok_law {f : Addr} {fd : FuncData} (F : Fun K "law" "law" s_law f fd) (T : Txt K mg A) : FnOk P w K mg base CX0 3 f fd ["_law_script"] (sp_law K) := by
  have G__law_next_of : FnOk P w K mg base CX0 1 A.a__law_next_of A.d__law_next_of ["_law_state"] sp_next := ok__law_next_of T
  have G__law_digits : FnOk P w K mg base CX0 1 A.a__law_digits A.d__law_digits ["_law_cell_here", "_law_many"] sp_digits := ok__law_digits T
  have G__law_called : FnOk P w K mg base CX0 2 A.a__law_called A.d__law_called ["_law_state", "_law_many"] sp_called := ok__law_called T
  have G_put_out : FnOk P w K mg base CX0 1 A.a_put_out A.d_put_out ["kind", "base", "one"] sp_put_out := ok_put_out T
  refine F.ok sc_law (fun vs H Q E h => ?_) (fun cdv A0 outer s0 H vs Q E hr h => ?_)
  · obtain ⟨a, ns, rfl, _⟩ := h
    rfl
  · obtain ⟨a, ns, rfl, hS, hlen, q⟩ := h
    have hu := hu_of hr
    have hu64 := hu64_of hr
    have hu65 := hu65_of hr
    refine ⟨_, (pss_cons (ps_set (i := 1) sc_law.nd rfl (Or.inl rfl) (pe_slice (r := rSlL K) sl_list (pv 0) po_none (po_some pe_int)))
 (Evl.pss_cut (ps_if (pt_cmpR (r := rEqP K) (op_eqP hu64) (pv 1) (pe_lst pa_nil) (nomark _)) (pss_one (ps_set (i := 1) sc_law.nd rfl (Or.inl rfl) (pe_lst (pa_cons pe_int (pa_cons pe_int pa_nil))))) pss_nil)
 (pss_cons (ps_for PassesOwn.never rfl (pi_list (pv 1)) (pg_name (i := 2) sc_law.nd rfl (Or.inl rfl))
 (pss_cons (ps_set (i := 3) sc_law.nd rfl (Or.inr rfl) (pe_lst (pa_cons (pe_call G__law_digits (hr.mono (by decide)) (by rfl) T.g__law_digits T.F__law_digits.kp T.b__law_digits .nil pass0 (pa_cons (pv 2) (pa_cons pe_int pa_nil))) (pa_cons (pe_un un_neg pe_int) pa_nil))))
 (pss_cons (ps_set (i := 4) sc_law.nd rfl (Or.inr rfl) (pe_call G__law_called (hr.mono (by decide)) (by rfl) T.g__law_called T.F__law_called.kp T.b__law_called .nil pass0 (pa_cons (pv 3) (pa_cons pe_int pa_nil))))
 (pss_cons (ps_set (i := 5) sc_law.nd rfl (Or.inr rfl) pe_dnewK)
 (pss_cons (ps_for PassesOwn.never rfl (pi_range1 (by rfl) T.range (pa_cons (pe_op op_mod (pe_call G__law_next_of (hr.mono (by decide)) (by rfl) T.g__law_next_of T.F__law_next_of.kp T.b__law_next_of .nil pass0 (pa_cons (pv 3) pa_nil)) pe_int) pa_nil)) (pg_name (i := 6) sc_law.nd rfl (Or.inl rfl))
 (pss_cons (ps_set (i := 7) sc_law.nd rfl (Or.inl rfl) (pe_ix (r := rIxL K) ix_list (pv 4) (pe_op op_mod (pe_call G__law_next_of (hr.mono (by decide)) (by rfl) T.g__law_next_of T.F__law_next_of.kp T.b__law_next_of .nil pass0 (pa_cons (pv 3) pa_nil)) pe_int) (fun _ _ => rfl)))
 (pss_one (ps_dput hu (pv 5) (pv 7) (pe_lc (own := [("_law_j", 16)]) (g := gName 16) (by rfl) sc_law.nd (pi_range1 (by rfl) T.range (pa_cons (pe_op op_add pe_int (pe_op op_mod (pe_call G__law_next_of (hr.mono (by decide)) (by rfl) T.g__law_next_of T.F__law_next_of.kp T.b__law_next_of .nil pass0 (pa_cons (pv 3) pa_nil)) pe_int)) pa_nil)) (blkOk_by (own := [("_law_j", 16)]) (N := ["_law_script", "_law_cells", "_law_cell_here", "_law_state", "_law_names", "_law_base", "_law_k", "_law_name", "_law_kept", "_law_size", "_law_one", "_law_handed", "_law_due", "_law_turn", "_law_found", "_law_other", "_law_j"]) (sc := defScope s_law) (by decide +kernel)) (fun _ _ _ _ _ => (pg_name (i := 16) sc_law.nd rfl (Or.inl rfl))) (fun _ _ _ _ _ => pts_nil) (fun _ _ _ _ _ => (pe_ix (r := rIxL K) ix_list (pv 4) (pe_op op_mod (pe_call G__law_next_of (hr.mono (by decide)) (by rfl) T.g__law_next_of T.F__law_next_of.kp T.b__law_next_of .nil pass0 (pa_cons (pv 3) pa_nil)) pe_int) (fun _ _ => rfl)))) rfl))))
 (pss_cons (ps_set (i := 8) sc_law.nd rfl (Or.inl rfl) (pe_callTy (T := "dict") (r := rDictP K) (call_dictP rfl) (by rfl) T.dict_ (by decide +kernel) (pa_cons (pe_lock (pe_lc (own := [("_law_name", 7)]) (g := gName 7) (by rfl) sc_law.nd (pi_keys (pv 5)) (blkOk_by (own := [("_law_name", 7)]) (N := ["_law_script", "_law_cells", "_law_cell_here", "_law_state", "_law_names", "_law_base", "_law_k", "_law_name", "_law_kept", "_law_size", "_law_one", "_law_handed", "_law_due", "_law_turn", "_law_found", "_law_other", "_law_j"]) (sc := defScope s_law) (by decide +kernel)) (fun _ _ _ _ _ => (pg_name (i := 7) sc_law.nd rfl (Or.inl rfl))) (fun _ _ _ _ _ => pts_nil) (fun _ _ _ _ _ => (pe_tup (pa_cons (pv 7) (pa_cons (pe_callTy (T := "list") (r := Evl.rListS K) call_list_of (by rfl) T.list_ (by decide +kernel) (pa_cons (pe_dget hu (pv 5) (pv 7) (fun _ _ => rfl)) pa_nil)) pa_nil)))))) pa_nil)))
 (pss_cons (ps_set (i := 9) sc_law.nd rfl (Or.inl rfl) (pe_ix (r := rIxL K) ix_list (pe_lst (pa_cons pe_int (pa_cons pe_int pa_nil))) (pe_op op_mod (pe_call G__law_next_of (hr.mono (by decide)) (by rfl) T.g__law_next_of T.F__law_next_of.kp T.b__law_next_of .nil pass0 (pa_cons (pv 3) pa_nil)) pe_int) (fun _ _ => rfl)))
 (pss_cons (ps_setLc (i := 10) (own := [("_law_k", 6)]) (g := gName 6) (by rfl) sc_law.nd rfl rfl (sw_true rfl rfl rfl (by decide +kernel)) (pi_range1 (by rfl) T.range (pa_cons (pe_op op_mod (pe_call G__law_next_of (hr.mono (by decide)) (by rfl) T.g__law_next_of T.F__law_next_of.kp T.b__law_next_of .nil pass0 (pa_cons (pv 3) pa_nil)) (pv 9)) pa_nil)) (blkOk_by (own := [("_law_k", 6)]) (N := ["_law_script", "_law_cells", "_law_cell_here", "_law_state", "_law_names", "_law_base", "_law_k", "_law_name", "_law_kept", "_law_size", "_law_one", "_law_handed", "_law_due", "_law_turn", "_law_found", "_law_other", "_law_j"]) (sc := defScope s_law) (by decide +kernel)) (fun _ _ _ _ _ => (pg_name (i := 6) sc_law.nd rfl (Or.inl rfl))) (fun _ _ _ _ _ => pts_nil) (fun _ _ _ _ _ => (pe_ix (r := rIxL K) ix_list (pv 4) (pe_op op_mod (pe_call G__law_next_of (hr.mono (by decide)) (by rfl) T.g__law_next_of T.F__law_next_of.kp T.b__law_next_of .nil pass0 (pa_cons (pv 3) pa_nil)) pe_int) (fun _ _ => rfl))))
 (pss_cons (ps_set (i := 11) sc_law.nd rfl (Or.inl rfl) (pe_callTy (T := "list") (r := Evl.rListS K) call_list_of (by rfl) T.list_ (by decide +kernel) (pa_cons (pv 10) pa_nil)))
 (pss_cons (ps_set (i := 12) sc_law.nd rfl (Or.inl rfl) (pe_lst pa_nil))
 (pss_cons (ps_for PassesOwn.never rfl (pi_list (pv 10)) (pg_name (i := 7) sc_law.nd rfl (Or.inl rfl))
 (pss_one (ps_set (i := 12) sc_law.nd rfl (Or.inl rfl) (pe_op op_cat (pv 12) (pe_dget2 hu (pv 8) (pv 7) (pe_lst (pa_cons (pv 7) pa_nil)) ⟨rfl, rfl, rfl, rfl⟩)))))
 (pss_one (ps_for PassesOwn.never rfl (pi_range1 (by rfl) T.range (pa_cons pe_int pa_nil)) (pg_name (i := 13) sc_law.nd rfl (Or.inl rfl))
 (pss_cons (ps_set (i := 14) sc_law.nd rfl (Or.inl rfl) (pe_call G_put_out (hr.mono (by decide)) (by rfl) T.g_put_out T.F_put_out.kp T.b_put_out .nil pass0 (pa_cons pe_str (pa_cons (pv 5) (pa_cons (pv 11) pa_nil)))))
 (pss_cons (ps_set (i := 15) sc_law.nd rfl (Or.inl rfl) (pe_call G_put_out (hr.mono (by decide)) (by rfl) T.g_put_out T.F_put_out.kp T.b_put_out .nil pass0 (pa_cons pe_str (pa_cons (pv 5) (pa_cons (pe_revL (pv 11)) pa_nil)))))
 (pss_cons (ps_if (PW.pt (pw_or (pt_cmpR (r := rNeP K) (op_neP hu64) (pv 14) (pv 12) (nomark _)) (pw_or (pt_cmpR (r := rNeP K) (op_neP hu64) (pv 15) (pe_callB (id := "sorted") (r := rSortedX K) (cr_sortedX hu64) (by rfl) T.sorted (by decide +kernel) (pa_cons (pv 12) pa_nil)) (nomark _)) (pw_or (pt_cmpR (r := rNeP K) (op_neP hu64) (pv 11) (pv 10) (nomark _)) (pw_or1 (pt_cmpR (r := rNeW K) (op_neW hu65) (pv 5) (pv 8) (nomark _))))))) (pss_one (ps_ret pe_bl)) pss_nil)
 (pss_cons (ps_expr (pe_bm PySem.F.plainAttrs_list PySem.F.slot_list_append PySem.F.type_list_append mt_append (pv 14) (pa_cons pe_str pa_nil)))
 (pss_one (ps_expr (pe_bm PySem.F.plainAttrs_list PySem.F.slot_list_append PySem.F.type_list_append mt_append (pv 15) (pa_cons pe_str pa_nil)))))))))))))))))))))
 (pss_one (ps_ret pe_bl))))), ?_⟩
    -- the cells
    refine ⟨_, rfl, _, rfl, a, _, rfl, hS, fun c hc => ?_⟩
    refine ⟨fun σ' H' => ∃ (c2 : Addr) (zs : List Int), σ' = [some (.ref a), some (.ref c2), none, none, none, none, none, none, none, none, none, none, none, none, none, none, none] ∧ H' c2 = some (.lst (zs.map V.int)), ?_, ?_⟩
    · have e1 : (upd H c (.lst (cutV (ns.map V.int) none (some 8)))) c = some (.lst ((ns.take 8).map V.int)) := by
        rw [upd_same, show (8 : Int) = ((8 : Nat) : Int) from rfl, cut_lt, List.map_take]
      refine ⟨_, rfl, Nat.zero_le _, fun e he => ?_⟩
      refine ⟨eL .int (ns.take 8), eL .int [], .lst (SqL.of (same_new he _ _ e1)) (dpAll_ints _), .lst (SqL.of upd_same) .nil, Nat.le_trans (dep_L dep_int _) (by decide), _, rfl, ite2 (fun _ => ?_) (fun _ => ?_)⟩
      · refine ⟨sl2 (by show 2 ≤ 1000000; decide), fun f hf => ⟨f, [4, 19], rfl, upd_same⟩⟩
      · exact ⟨c, _, rfl, same_new he _ _ e1⟩
    rintro σ' H1 ⟨c2, zs, rfl, hz⟩
    -- for each cell
    refine ⟨_, rfl, c2, rfl, ⟨_, SqL.of hz⟩, for_list (K := K) (a := c2) (xs := zs.map V.int) (fun i σ' H' => ∃ x2 x3 x4 x5 x6 x7 x8 x9 x10 x11 x12 x13 x14 x15 x16 : Option V, σ' = [some (.ref a), some (.ref c2), x2, x3, x4, x5, x6, x7, x8, x9, x10, x11, x12, x13, x14, x15, x16] ∧ Same H1 H') ⟨_, _, _, _, _, _, _, _, _, _, _, _, _, _, _, rfl, Same.refl _⟩ ?_ ?_ ?_⟩
    · rintro i σ' H2 _ ⟨_, _, _, _, _, _, _, _, _, _, _, _, _, _, _, rfl, sm⟩
      exact SqL.of (sm _ _ hz)
    · rintro i x σ' H2 hi ⟨x2, x3, x4, x5, x6, x7, x8, x9, x10, x11, x12, x13, x14, x15, x16, rfl, sm⟩
      obtain ⟨cell, hcell, rfl⟩ := map_at hi
      -- state
      refine ⟨_, rfl, cell, 60, rfl, by omega, by omega, fun d H3 ds sm3 hd hdd hdl hdg => ?_⟩
      refine ⟨_, rfl, sl2 (by show 2 ≤ 1000000; decide), fun s hs => ?_⟩
      have st0 : StAt (upd H3 s (.lst [.ref d, .int (-1)])) s d := ⟨ne_of_none hdd hs, ⟨_, upd_same⟩, ds, same_new hs _ _ hdd, by intro e; rw [e] at hdl; simp at hdl, by omega, hdg⟩
      have hs1 : H1 s = none := sm.free (sm3.free hs)
      have sm4 : Same H1 (upd H3 s (.lst [.ref d, .int (-1)])) := sm.trans (sm3.trans (same_new hs))
      -- names
      refine ⟨_, rfl, s, d, 6, rfl, by omega, st0, fun nl H4 xs hnl bt4 st4 hxs hc => ?_⟩
      have sm5 : Same H1 H4 := bt4.under hs1 sm4
      have hnl1 : H1 nl = none := sm4.free hnl
      intro b hb
      have hb1 : H1 b = none := sm5.free hb
      have st5 : StAt (upd H4 b (.dK [])) s d := st4.same (same_new hb)
      -- the base
      refine ⟨_, rfl, s, d, rfl, st5, fun j H5 j0 j1 bt5 st6 => ?_⟩
      refine ⟨_, _, rfl, rfl, lt0, _, rfl, by omega, by omega, for_range (fun i σ' H' => ∃ (x6 x7 : Option V) (kvs : List (Key × V)) (kb : List (Str × List Str)), σ' = [some (.ref a), some (.ref c2), some (.int cell), some (.ref s), some (.ref nl), some (.ref b), x6, x7, x8, x9, x10, x11, x12, x13, x14, x15, x16] ∧ Same H1 H' ∧ StAt H' s d ∧ H' nl = some (.lst (xs.map V.str)) ∧ H' b = some (.dK kvs) ∧ BaseAt H' kvs kb ∧ (∀ m ∈ kb, m.2.length ≤ 4) ∧ (kb.map (·.1)).Nodup ∧ kvs.length ≤ i) ?_ ?_ ?_⟩
      · have hb5 : H5 b = some (.dK []) := bt5 _ _ (st5.ne_dk upd_same) upd_same
        exact ⟨x6, x7, [], [], rfl, bt5.under hs1 (sm5.trans (same_new hb)), st6, bt5 _ _ (st5.ne_strs (same_new hb _ _ hxs)) (same_new hb _ _ hxs), hb5, .nil, by simp, by simp, Nat.le_refl _⟩
      · rintro i σ' H6 hi ⟨y6, y7, kvs, kb, rfl, sm6, st7, hn6, hb6, hB6, h46, hnd, hk6⟩
        refine ⟨_, rfl, _, rfl, s, d, rfl, st7, fun j' H7 k0 k1 bt7 st8 => ?_⟩
        have hn7 := bt7 _ _ (st7.ne_strs hn6) hn6
        have hb7 := bt7 _ _ (st7.ne_dk hb6) hb6
        obtain ⟨v, hv, hm⟩ := atI_some (xs := xs.map V.str) (i := j' % 6) (by omega) (by rw [List.length_map, hc.1]; omega)
        obtain ⟨nm, hnm, rfl⟩ := List.mem_map.mp hm
        refine ⟨_, _, rfl, rfl, lt0, nl, _, _, _, rfl, rfl, SqL.of hn7, hv, ?_⟩
        refine ⟨_, rfl, s, d, rfl, st8, fun j2 H8 l0 l1 bt8 st9 => ?_⟩
        have hn8 := bt8 _ _ (st8.ne_strs hn7) hn7
        have hb8 := bt8 _ _ (st8.ne_dk hb7) hb7
        refine ⟨_, _, rfl, rfl, lt0, _, _, rfl, rfl, _, rfl, by omega, by omega, fun D hD => lc_range (fun i H' => ∃ ms : List Str, But s H8 H' ∧ StAt H' s d ∧ H' D = some (.lst (ms.map V.str)) ∧ ms.length = i) ?_ ?_ ?_⟩
        · exact ⟨[], (But.refl _ _).cell hD _, st9.cell st9 hD, upd_same, rfl⟩
        · rintro i2 H9 hi2 ⟨ms, bt9, st10, hD9, hl9⟩
          refine ⟨rfl, tyes (iteT ?_)⟩
          refine ⟨_, rfl, _, rfl, s, d, rfl, st10, fun j3 H10 m0 m1 bt10 st11 => ?_⟩
          have hn10 := bt10 _ _ (st10.ne_strs (bt9 _ _ (st9.ne_strs hn8) hn8)) (bt9 _ _ (st9.ne_strs hn8) hn8)
          have hD10 := bt10 _ _ (st10.ne_strs hD9) hD9
          obtain ⟨v, hv, hm⟩ := atI_some (xs := xs.map V.str) (i := j3 % 6) (by omega) (by rw [List.length_map, hc.1]; omega)
          obtain ⟨n2, hn2, rfl⟩ := List.mem_map.mp hm
          refine ⟨_, _, rfl, rfl, lt0, nl, _, _, _, rfl, rfl, SqL.of hn10, hv, _, hD10, by rw [List.length_map]; exact sl1 (by omega), ms ++ [n2], (bt9.trans bt10).cell hD _, st11.cell st9 hD, by rw [upd_same, List.map_append]; rfl, by simp [hl9]⟩
        · rintro H9 ⟨ms, bt9, st10, hD9, hl9⟩
          have hn9 := bt9 _ _ (st9.ne_strs hn8) hn8
          have hb9 := bt9 _ _ (st9.ne_dk hb8) hb8
          have hB9 : BaseAt H9 kvs kb := ((hB6.but bt7 st7).but bt8 st8).but bt9 st9
          refine ⟨_, rfl, _, rfl, b, _, rfl, DPut.k (k := Sum.inr nm) hb9 (sl1 (by omega)), ?_⟩
          refine ⟨_, _, putK kvs (Sum.inr nm) (.ref D), putB kb nm ms, rfl, same_mut ((bt7.trans (bt8.trans bt9)).under hs1 sm6) hb1, st10.cell st4 hb, upd_strs hb9 hn9, upd_same, ?_, putB_len h46 (by omega), putB_nd hnd, ?_⟩
          · exact baseAt_put (hB9.keep fun _ _ e => upd_strs hb9 e) (upd_strs hb9 hD9)
          · have := putK_le kvs (Sum.inr nm : Key) (.ref D)
            omega
      · rintro σ' H6 ⟨y6, y7, kvs, kb, rfl, sm6, st7, hn6, hb6, hB6, h46, hnd, hk6⟩
        have sk : Same H1 H6 := sm6
        have kn : (kvs.map (·.1)) = kb.map (fun m => (Sum.inr m.1 : Key)) := by
          have : ∀ {kvs : List (Key × V)} {kb : List (Str × List Str)}, BaseAt H6 kvs kb → (kvs.map (·.1)) = kb.map (fun m => (Sum.inr m.1 : Key)) := by
            intro kvs kb h
            induction h with
            | nil => rfl
            | cons h1 _ ih => rw [List.map_cons, List.map_cons, ih, h1.1]
          exact this hB6
        have hkl : kvs.length = kb.length := paired_len hB6
        -- kept = dict([(name, list(base[name])) for name in base])
        refine ⟨b, .dK kvs, hb6, trivial, fun od => ?_⟩
        have hL : Same (upd H6 b (.frz od (.dK kvs))) (upd H6 b (.frz od (.dK kvs))) := Same.refl _
        refine ⟨_, rfl, b, od, rfl, .inl ⟨kvs, upd_same, fun D hD => lc_it walk_keys (fun i H' => ∃ (ps : List Addr) (kv2 : List (Key × V)), Same (upd H6 b (.frz od (.dK kvs))) H' ∧ H' D = some (.lst (ps.map V.ref)) ∧ Paired (fun p (kv : Key × V) => H' p = some (.tup [kV kv.1, kv.2])) ps kv2 ∧ BaseAt H' kv2 (kb.take i) ∧ ps.length = i ∧ ∀ p ∈ kv2, p.2 ≠ .ref D) ?_ ?_ ?_ ?_⟩⟩
        · exact ⟨[], [], same_new hD, upd_same, .nil, .nil, rfl, by simp⟩
        · rintro i H' _ ⟨ps, kv2, smL, _⟩
          exact smL _ _ upd_same
        · rintro i x H' H'' hi2 ⟨ps, kv2, smL, hDl, hP, hB2, hpl, hnD⟩ ⟨rfl, k, v, hk, rfl⟩
          obtain ⟨m, hm, ek, a', ev, ea⟩ := paired_get hB6 hk
          simp only at ek ev ea
          subst ek ev
          have hbL : H'' b = some (.frz od (.dK kvs)) := smL _ _ upd_same
          have keepL : ∀ (u : Addr) (ms : List Str), H6 u = some (.lst (ms.map V.str)) → H'' u = some (.lst (ms.map V.str)) := fun u ms e => smL _ _ (upd_strs hb6 e)
          have hmf := find_nd hnd hm
          refine ⟨rfl, tyes (iteT ?_)⟩
          rcases baseAt_val hB6 m.1 with ⟨_, e2⟩ | ⟨a2, ms, e1, e2, e3, e4⟩
          · rw [hmf] at e2; cases e2
          · rw [hmf] at e3
            have e3' : m.2 = ms := Option.some.inj e3
            subst e3'
            refine ⟨_, rfl, _, rfl, _, rfl, b, _, rfl, .inl ⟨kvs, Sum.inr m.1, .inr ⟨od, hbL⟩, rfl, e1.symm⟩, a2, _, rfl, .inl (SqL.of (keepL _ _ e2)), fun l hl => ⟨sl2 (by show 2 ≤ 1000000; decide), fun t ht => ?_⟩⟩
            have sm1 : Same H'' (upd (upd H'' l (.lst (m.2.map V.str))) t (.tup [.str m.1, .ref l])) := (same_new hl).trans (same_new ht)
            have sm2 : Same (upd H6 b (.frz od (.dK kvs))) (upd (upd H'' l (.lst (m.2.map V.str))) t (.tup [.str m.1, .ref l])) := smL.trans sm1
            have hl1 : (upd (upd H'' l (.lst (m.2.map V.str))) t (.tup [.str m.1, .ref l])) l = some (.lst (m.2.map V.str)) := by rw [upd_ne (ne_of_none upd_same ht), upd_same]
            have hDl1 := sm1 _ _ hDl
            refine ⟨_, hDl1, by rw [List.length_map]; exact sl1 (by omega), ps ++ [t], kv2 ++ [(Sum.inr m.1, .ref l)], same_mut sm2 hD, by rw [upd_same, List.map_append]; rfl, ?_, ?_, by simp [hpl], fun p hp => ?_⟩
            · refine paired_app (F := fun p (kv : Key × V) => (upd (upd (upd H'' l (.lst (m.2.map V.str))) t (.tup [.str m.1, .ref l])) D (.lst (ps.map V.ref ++ [.ref t]))) p = some (.tup [kV kv.1, kv.2])) ?_ (Paired.mapP hP fun p kv e => ?_)
              · rw [upd_ne (ne_of upd_same hDl1 (by intro z; cases z)), upd_same]
                rfl
              · rw [upd_ne (ne_of e hDl (by intro z; cases z))]
                exact sm1 _ _ e
            · rw [take_snoc hm]
              have nD : l ≠ D := fun e => by rw [e] at hl; rw [hDl] at hl; cases hl
              exact baseAt_app ((hB2.same sm1).keepD (fun u zs n e => by rw [upd_ne n]; exact e) hnD) (by rw [upd_ne nD]; exact hl1)
            · rcases List.mem_append.mp hp with hp | hp
              · exact hnD p hp
              · rw [List.mem_singleton.mp hp]
                intro e
                have e' : l = D := V.ref.inj e
                rw [e', hDl] at hl
                cases hl
        · rintro H7 ⟨ps, kv2, smL, hDl, hP, hB2, hpl, hnD⟩
          have sm8 : Same H6 (upd H7 b (.dK kvs)) := lock_same hb6 smL
          have hb7 : H7 b = some (.frz od (.dK kvs)) := smL _ _ upd_same
          refine ⟨hb7, ?_⟩
          have kp : ∀ (u : Addr) (o : HO), H7 u = some o → o ≠ .frz od (.dK kvs) → (upd H7 b (.dK kvs)) u = some o := fun u o e n => by
            rw [upd_ne (ne_of e hb7 n)]
            exact e
          have hB3 : BaseAt (upd H7 b (.dK kvs)) kv2 kb := by
            rw [show kb.take kvs.length = kb from List.take_of_length_le (by omega)] at hB2
            exact hB2.keep fun u ms e => kp u _ e (by intro z; cases z)
          refine ⟨D, ps, kv2, rfl, SqL.of (kp _ _ hDl (by intro z; cases z)), Paired.mapP hP fun p kv e => SqT.of (kp _ _ e (by intro z; cases z)), fun kd hkd => ?_⟩
          have kn2 : (kv2.map (·.1)) = kb.map (fun m => (Sum.inr m.1 : Key)) := by
            have : ∀ {H : Hp} {kvs : List (Key × V)} {kb : List (Str × List Str)}, BaseAt H kvs kb → (kvs.map (·.1)) = kb.map (fun m => (Sum.inr m.1 : Key)) := by
              intro H kvs kb h
              induction h with
              | nil => rfl
              | cons h1 _ ih => rw [List.map_cons, List.map_cons, ih, h1.1]
            exact this hB3
          have em : mergeK [] kv2 = kv2 := by
            rw [mergeK_nd (fun p _ => rfl), List.nil_append]
            rw [kn2]
            have := hnd
            rw [List.nodup_iff_pairwise_ne, List.pairwise_map] at this ⊢
            exact this.imp fun hne e => hne (Sum.inr.inj e)
          rw [em]
          have sm9 : Same H6 (upd (upd H7 b (.dK kvs)) kd (.dK kv2)) := sm8.trans (same_new hkd)
          have hkd9 : (upd (upd H7 b (.dK kvs)) kd (.dK kv2)) kd = some (.dK kv2) := upd_same
          have hB9 := hB3.same (same_new hkd (o := .dK kv2))
          have hC9 := hB6.same sm9
          generalize (upd (upd H7 b (.dK kvs)) kd (.dK kv2)) = H9 at sm9 hkd9 hB9 hC9 ⊢
          have st9 := st7.same sm9
          have hb9 := sm9 _ _ hb6
          have hn9 := sm9 _ _ hn6
          have sk9 : Same H1 H9 := sk.trans sm9
          clear hB3 sm8 kp hDl hP hB2 hb7 smL em hnD
          -- size
          refine ⟨sl2 (by show 2 ≤ 1000000; decide), fun e he => ?_⟩
          refine ⟨_, rfl, s, d, rfl, st9.same (same_new he), fun j2 H10 l0 l1 bt10 st10 => ?_⟩
          have nes : e ≠ s := fun z => by obtain ⟨o, ho⟩ := st9.s_some; rw [z, ho] at he; cases he
          have he10 := bt10 _ _ nes upd_same
          have up10 : ∀ (u : Addr) (o : HO), H9 u = some o → u ≠ s → H10 u = some o := fun u o g n => bt10 _ _ n (same_new he _ _ g)
          have hb10 := up10 _ _ hb9 (st9.ne_dk hb9)
          have hk10 := up10 _ _ hkd9 (st9.ne_dk hkd9)
          have hn10 := up10 _ _ hn9 (st9.ne_strs hn9)
          have hB10 : BaseAt H10 kv2 kb := hB9.keep fun u ms g => up10 _ _ g (st9.ne_strs g)
          have hC10 : BaseAt H10 kvs kb := hC9.keep fun u ms g => up10 _ _ g (st9.ne_strs g)
          have sk10 : Same H1 H10 := bt10.under hs1 (sk9.trans (same_new he))
          obtain ⟨v, hv, hm⟩ := atI_some (xs := [V.int 9, V.int 25]) (i := j2 % 2) (by omega) (by show j2 % 2 < 2; omega)
          obtain ⟨z, rfl, hz0, hz1⟩ : ∃ z : Int, v = .int z ∧ 0 < z ∧ z ≤ 25 := by
            rcases List.mem_cons.mp hm with h | h
            · exact ⟨9, h, by decide, by decide⟩
            · exact ⟨25, List.mem_singleton.mp h, by decide, by decide⟩
          refine ⟨_, _, rfl, rfl, lt0, e, _, _, _, rfl, rfl, SqL.of he10, hv, ?_⟩
          -- one
          refine ⟨_, rfl, s, d, rfl, st10, fun j3 H11 l2 l3 bt11 st11 => ?_⟩
          have j3a := Int.emod_nonneg j3 (show z ≠ 0 by omega)
          have j3b := Int.emod_lt_of_pos j3 hz0
          refine ⟨_, rfl, _, _, rfl, rfl, hz0, _, rfl, by omega, by omega, fun one hone => lc_range (fun i H' => ∃ ms : List Str, But s H11 H' ∧ StAt H' s d ∧ H' one = some (.lst (ms.map V.str)) ∧ ms.length = i) ?_ ?_ ?_⟩
          · exact ⟨[], (But.refl _ _).cell hone _, st11.cell st11 hone, upd_same, rfl⟩
          · rintro i2 H12 hi2 ⟨ms, bt12, st12, hD12, hl12⟩
            refine ⟨rfl, tyes (iteT ?_)⟩
            have hn11 := bt11 _ _ (st10.ne_strs hn10) hn10
            have hn12 := bt12 _ _ (st11.ne_strs hn11) hn11
            refine ⟨_, rfl, _, rfl, s, d, rfl, st12, fun j4 H13 m0 m1 bt13 st13 => ?_⟩
            have hn13 := bt13 _ _ (st12.ne_strs hn12) hn12
            have hD13 := bt13 _ _ (st12.ne_strs hD12) hD12
            obtain ⟨v, hv, hm⟩ := atI_some (xs := xs.map V.str) (i := j4 % 6) (by omega) (by rw [List.length_map, hc.1]; omega)
            obtain ⟨n2, hn2, rfl⟩ := List.mem_map.mp hm
            refine ⟨_, _, rfl, rfl, lt0, nl, _, _, _, rfl, rfl, SqL.of hn13, hv, _, hD13, by rw [List.length_map]; exact sl1 (by omega), ms ++ [n2], (bt12.trans bt13).cell hone _, st13.cell st11 hone, by rw [upd_same, List.map_append]; rfl, by simp [hl12]⟩
          rintro H12 ⟨ms, bt12, st12, hD12, hl12⟩
          have up12 : ∀ (u : Addr) (o : HO), H10 u = some o → u ≠ s → H12 u = some o := fun u o g n => bt12 _ _ n (bt11 _ _ n g)
          have hb12 := up12 _ _ hb10 (st10.ne_dk hb10)
          have hk12 := up12 _ _ hk10 (st10.ne_dk hk10)
          have hB12 : BaseAt H12 kv2 kb := hB10.keep fun u ms g => up12 _ _ g (st10.ne_strs g)
          have hC12 : BaseAt H12 kvs kb := hC10.keep fun u ms g => up12 _ _ g (st10.ne_strs g)
          have sk12 : Same H1 H12 := bt12.under hs1 (bt11.under hs1 sk10)
          clear hB10 hC10 hb10 hk10 up12 up10 hB9 hC9 hb9 hn9
          have hml : ms.length ≤ 25 := by omega
          have hkl2 : kv2.length = kb.length := paired_len hB12
          -- handed = list(one); due = []
          refine ⟨_, rfl, one, _, rfl, .inl (SqL.of hD12), fun hd hhd => ?_⟩
          refine ⟨Nat.zero_le _, fun u hu0 => ?_⟩
          generalize hHh : (upd H12 hd (.lst (ms.map V.str))) = H13 at *
          have hhd13 : H13 hd = some (.lst (ms.map V.str)) := by rw [← hHh]; exact upd_same
          have sm13 : Same H12 H13 := by rw [← hHh]; exact same_new hhd
          have sm14 : Same H12 (upd H13 u (.lst [])) := sm13.trans (same_new hu0)
          -- due
          refine ⟨_, rfl, one, rfl, ⟨_, SqL.of (sm14 _ _ hD12)⟩, for_list (K := K) (a := one) (xs := ms.map V.str) (fun i σ' H' => ∃ (x7 : Option V) (du : Addr), σ' = [some (.ref a), some (.ref c2), some (.int cell), some (.ref s), some (.ref nl), some (.ref b), y6, x7, some (.ref kd), some (.int z), some (.ref one), some (.ref hd), some (.ref du), x13, x14, x15, x16] ∧ Same H13 H' ∧ H' du = some (.lst ((outs kb (ms.take i)).map V.str))) ?_ ?_ ?_ ?_⟩
          · exact ⟨y7, u, rfl, same_new hu0, upd_same⟩
          · rintro i σ' H' _ ⟨_, _, rfl, smd, _⟩
            exact SqL.of (smd _ _ (sm13 _ _ hD12))
          · rintro i x σ' H14 hi3 ⟨x7, du, rfl, smd, hdu⟩
            obtain ⟨n, hn, rfl⟩ := map_at hi3
            have hmk := mk_len h46 n
            have hlo : (outs kb (ms.take i)).length ≤ 100 := by
              have h1 := outs_len h46 (ms.take i)
              have h2 : (ms.take i).length ≤ ms.length := by rw [List.length_take]; exact Nat.min_le_right _ _
              omega
            refine ⟨_, rfl, _, rfl, kd, rfl, .inl ⟨kv2, .inl (smd _ _ (sm13 _ _ hk12))⟩, _, rfl, _, rfl, sl2 (by show 1 ≤ 1000000; decide), fun c hc => ?_⟩
            have smc := same_new hc (o := .lst [V.str n])
            have fin : ∀ (w : Addr) (zs : List Str), (upd H14 c (.lst [V.str n])) w = some (.lst (zs.map V.str)) → mk kb n = zs → rCat (.ref du) (.ref w) (upd H14 c (.lst [V.str n])) fun x H2 => ∃ (x7 : Option V) (du2 : Addr), [some (.ref a), some (.ref c2), some (.int cell), some (.ref s), some (.ref nl), some (.ref b), y6, some (.str n), some (.ref kd), some (.int z), some (.ref one), some (.ref hd), some x, x13, x14, x15, x16] = [some (.ref a), some (.ref c2), some (.int cell), some (.ref s), some (.ref nl), some (.ref b), y6, x7, some (.ref kd), some (.int z), some (.ref one), some (.ref hd), some (.ref du2), x13, x14, x15, x16] ∧ Same H13 H2 ∧ H2 du2 = some (.lst ((outs kb (ms.take (i + 1))).map V.str)) := by
              intro w zs hw hmz
              refine ⟨du, w, _, _, rfl, rfl, smc _ _ hdu, hw, ?_, fun p hp => ⟨_, p, rfl, (smd.trans smc).trans (same_new hp), ?_⟩⟩
              · rw [List.length_map, List.length_map, ← hmz]; exact sl2 (by omega)
              · rw [upd_same, take_snoc hn, outs_snoc, hmz, List.map_append]
            rcases baseAt_val hB12 n with ⟨e1, e2⟩ | ⟨a2, zs, e1, e2, e3, e4⟩
            · exact ⟨none, .inl ⟨kv2, Sum.inr n, .inl (smc _ _ (smd _ _ (sm13 _ _ hk12))), rfl, e1.symm⟩, fin c [n] upd_same (by unfold mk; rw [e2]; rfl)⟩
            · exact ⟨some (.ref a2), .inl ⟨kv2, Sum.inr n, .inl (smc _ _ (smd _ _ (sm13 _ _ hk12))), rfl, e1.symm⟩, fin a2 zs (smc _ _ (smd _ _ (sm13 _ _ e2))) (by unfold mk; rw [e3]; rfl)⟩
          rintro σ' H14 ⟨x7, du, rfl, smd, hdu⟩
          rw [List.length_map, List.take_length] at hdu
          have sm15 : Same H12 H14 := sm13.trans smd
          have b14 := sm15 _ _ hb12
          have k14 := sm15 _ _ hk12
          have o14 := sm15 _ _ hD12
          have h14 := smd _ _ hhd13
          have hB14 := hB12.same sm15
          have hC14 := hC12.same sm15
          have sk14 := sk12.trans sm15
          clear hB12 hC12 sm13 sm14 hHh
          -- twice
          refine ⟨2, rfl, by decide, by decide, for_range (n := 2) (fun i σ' H' => ∃ x13 x14 x15 : Option V, σ' = [some (.ref a), some (.ref c2), some (.int cell), some (.ref s), some (.ref nl), some (.ref b), y6, x7, some (.ref kd), some (.int z), some (.ref one), some (.ref hd), some (.ref du), x13, x14, x15, x16] ∧ Same H14 H') ?_ ?_ ?_⟩
          · exact ⟨x13, x14, x15, rfl, Same.refl _⟩
          · rintro i σ' H15 hi4 ⟨x13, x14, x15, rfl, sm16⟩
            refine ⟨_, rfl, _, rfl, ("row" : Str), b, hd, kvs, kb, ms, rfl, sm16 _ _ b14, hC14.same sm16, h46, sm16 _ _ h14, by omega, fun fo H17 sm17 hfo hfl => ?_⟩
            rw [if_neg (by decide +kernel)] at hfl
            have t17 := sm16.trans sm17
            refine ⟨_, rfl, _, rfl, hd, _, rfl, SqL.of (t17 _ _ h14), fun rv hrv => ?_⟩
            have t18 := t17.trans (same_new hrv (o := .lst (ms.map V.str).reverse))
            refine ⟨("bag" : Str), b, rv, kvs, kb, ms.reverse, rfl, t18 _ _ b14, hC14.same t18, h46, by rw [upd_same, List.map_reverse], by rw [List.length_reverse]; omega, fun ot H18 sm18 hot hol => ?_⟩
            rw [if_pos rfl] at hol
            have hfl18 := sm18 _ _ (same_new hrv _ _ hfl)
            have t19 := t18.trans sm18
            have ho : outs kb ms.reverse = outs kb ms.reverse := rfl
            have hpo : (outs kb ms.reverse).Perm (outs kb ms) := by
              unfold outs
              exact (List.reverse_perm ms).flatMap_right _
            rw [ssort_eq hpo] at hol
            have rfl1 : ∀ l : List Str, PyData.eqv (eSs l) (eSs l) = true := fun l => by rw [enc_Ss]; simp
            have dep1 : ∀ l : List Str, (eSs l).depth ≤ 60 := fun l => Nat.le_trans (dep_Ss l) (by decide)
            -- found != due
            refine ⟨_, rfl, _, rfl, eSs _, eSs _, dp_Ss hfl18, dp_Ss (t19 _ _ hdu), dep1 _, _, rfl, iteNE (rfl1 _) ?_⟩
            -- other != sorted(due)
            refine ⟨_, rfl, _, rfl, du, _, _, rfl, SqL.of (t19 _ _ hdu), dpAll_strs _, alike_strs _, sortable_strs _, fun d hd => ?_, fun ys p2 hd2 _ hp2 => ?_⟩
            · obtain ⟨x, _, rfl⟩ := List.mem_map.mp hd
              rw [PyData.depth]
              decide
            rw [dsort_strs] at hd2
            have ey := of_dpAll_strs hd2
            subst ey
            have t20 := same_new hp2 (o := .lst ((ssort (outs kb ms)).map V.str))
            refine ⟨eSs _, eSs _, dp_Ss (t20 _ _ hol), dp_Ss upd_same, dep1 _, _, rfl, iteNE (rfl1 _) ?_⟩
            have t21 := t19.trans t20
            refine ⟨_, rfl, _, rfl, eSs _, eSs _, dp_Ss (t21 _ _ h14), dp_Ss (t21 _ _ o14), dep1 _, _, rfl, iteNE (rfl1 _) ?_⟩
            refine ⟨_, rfl, _, rfl, b, kd, kvs, kv2, rfl, rfl, t21 _ _ b14, t21 _ _ k14, by omega, fun p hp => ?_, false, rfl, iteF ?_⟩
            · obtain ⟨i, hi⟩ := List.mem_iff_getElem?.mp hp
              obtain ⟨m, hm, e1, a', e2, e3⟩ := paired_get (hC14.same t21) hi
              rcases baseAt_val (hB14.same t21) m.1 with ⟨_, g2⟩ | ⟨a2, zs, g1, g2, g3, g4⟩
              · rw [find_nd hnd hm] at g2; cases g2
              · rw [find_nd hnd hm] at g3
                have ez : m.2 = zs := Option.some.inj g3
                subst ez
                exact ⟨.ref a2, eSs m.2, eSs m.2, by rw [e1]; exact g1, by rw [e2]; exact dp_Ss e3, dp_Ss g2, dep1 _, rfl1 _⟩
            -- the appends
            have hfl20 := t20 _ _ hfl18
            have hol20 := t20 _ _ hol
            have lo : (outs kb ms).length ≤ 1000 := by have := outs_len h46 ms; omega
            refine ⟨_, rfl, .inl ⟨rfl, _, SqL.of hfl20⟩, fo, _, _, rfl, rfl, hfl20, by rw [List.length_map]; exact sl1 (by omega), ?_⟩
            have nfo : ot ≠ fo := fun e => by rw [e, same_new hrv _ _ hfl] at hot; cases hot
            have hol22 : (upd (upd H18 p2 (.lst ((ssort (outs kb ms)).map V.str))) fo (.lst ((outs kb ms).map V.str ++ [V.str "x"]))) ot = some (.lst ((ssort (outs kb ms)).map V.str)) := by rw [upd_ne nfo]; exact hol20
            refine ⟨_, rfl, .inl ⟨rfl, _, SqL.of hol22⟩, ot, _, _, rfl, rfl, hol22, by rw [List.length_map, (ssort_perm _).length_eq]; exact sl1 (by omega), ?_⟩
            have f1 : H14 fo = none := sm16.free hfo
            have f2 : H14 ot = none := t18.free hot
            exact ⟨_, _, _, rfl, same_mut (same_mut t21 f1) f2⟩
          · rintro σ' H15 ⟨x13, x14, x15, rfl, sm16⟩
            exact ⟨_, _, _, _, _, _, _, _, _, _, _, _, _, _, _, rfl, sk14.trans sm16⟩
    · rintro σ' H2 ⟨_, _, _, _, _, _, _, _, _, _, _, _, _, _, _, rfl, sm⟩
      exact q _
end
theorem all_mk {l : PySem.W.OpenLaw} {w : World} {K : PySem.W.Frag} {h : Heap} {mg : Str → Option Value} {fa f1 f2 f3 f4 f5 : Addr} (X : K.In h) (G : h.Ns mainGlobals mg) (hfa : mg "law" = some (.ref fa))
    {od1 an1 od2 an2 od3 an3 od4 an4 od5 an5 : Option Addr} {sl1 sl2 sl3 sl4 sl5 : Array (Option Value)} {oc1 kV1 dc1 pm1 cd1 ct1 oc2 kV2 dc2 pm2 cd2 ct2 oc3 kV3 dc3 pm3 cd3 ct3 oc4 kV4 dc4 pm4 cd4 ct4 oc5 kV5 dc5 pm5 cd5 ct5 : Value}
    (a1 : PySem.W.nsIn K mainGlobals "put_out" = some (some (.ref f1))) (l1 : K.lookup f1 = some ⟨oc1, od1, .func (PySem.W.fnOf "put_out" "put_out" (defArgs s_put_out) (defBody s_put_out) (defScope s_put_out) .none kV1 dc1 pm1 an1 cd1 ct1), sl1⟩) (c1 : PySem.W.codeIn K cd1 "put_out" = true) (k1 : PySem.W.keepIn K (.ref f1) = true)
    (a2 : PySem.W.nsIn K mainGlobals "_law_digits" = some (some (.ref f2))) (l2 : K.lookup f2 = some ⟨oc2, od2, .func (PySem.W.fnOf "_law_digits" "_law_digits" (defArgs s__law_digits) (defBody s__law_digits) (defScope s__law_digits) .none kV2 dc2 pm2 an2 cd2 ct2), sl2⟩) (c2 : PySem.W.codeIn K cd2 "_law_digits" = true) (k2 : PySem.W.keepIn K (.ref f2) = true)
    (a3 : PySem.W.nsIn K mainGlobals "_law_next_of" = some (some (.ref f3))) (l3 : K.lookup f3 = some ⟨oc3, od3, .func (PySem.W.fnOf "_law_next_of" "_law_next_of" (defArgs s__law_next_of) (defBody s__law_next_of) (defScope s__law_next_of) .none kV3 dc3 pm3 an3 cd3 ct3), sl3⟩) (c3 : PySem.W.codeIn K cd3 "_law_next_of" = true) (k3 : PySem.W.keepIn K (.ref f3) = true)
    (a4 : PySem.W.nsIn K mainGlobals "_law_called" = some (some (.ref f4))) (l4 : K.lookup f4 = some ⟨oc4, od4, .func (PySem.W.fnOf "_law_called" "_law_called" (defArgs s__law_called) (defBody s__law_called) (defScope s__law_called) .none kV4 dc4 pm4 an4 cd4 ct4), sl4⟩) (c4 : PySem.W.codeIn K cd4 "_law_called" = true) (k4 : PySem.W.keepIn K (.ref f4) = true)
    (a5 : PySem.W.nsIn K mainGlobals "law" = some (some (.ref f5))) (l5 : K.lookup f5 = some ⟨oc5, od5, .func (PySem.W.fnOf "law" "law" (defArgs s_law) (defBody s_law) (defScope s_law) .none kV5 dc5 pm5 an5 cd5 ct5), sl5⟩) (c5 : PySem.W.codeIn K cd5 "law" = true) (k5 : PySem.W.keepIn K (.ref f5) = true)
    (z_len : PySem.W.nsIn K mainGlobals "len" = some none) (z_range : PySem.W.nsIn K mainGlobals "range" = some none) (z_sorted : PySem.W.nsIn K mainGlobals "sorted" = some none) (z_dict : PySem.W.nsIn K mainGlobals "dict" = some none) (z_list : PySem.W.nsIn K mainGlobals "list" = some none) :
    ∃ fd : FuncData, (∀ (s : Shared) (v : Value), BindsTo s fd ⟨[v], []⟩ [("_law_script", v)]) ∧ ∀ base : Heap, K.In base → base.Ns mainGlobals mg → FnOk l.prog w K mg base CX0 3 fa fd ["_law_script"] (sp_law K) := by
  have e := hfa.symm.trans (PySem.W.mg_of X G a5)
  cases e
  have F1 := fun_mk (st := s_put_out) l1 c1 k1
  have b1 := F1.binds (ps := ["kind", "base", "one"]) fun _ _ _ _ _ _ us hl => match us, hl with | [_, _, _], _ => rfl
  have F2 := fun_mk (st := s__law_digits) l2 c2 k2
  have b2 := F2.binds (ps := ["_law_cell_here", "_law_many"]) fun _ _ _ _ _ _ us hl => match us, hl with | [_, _], _ => rfl
  have F3 := fun_mk (st := s__law_next_of) l3 c3 k3
  have b3 := F3.binds (ps := ["_law_state"]) fun _ _ _ _ _ _ us hl => match us, hl with | [_], _ => rfl
  have F4 := fun_mk (st := s__law_called) l4 c4 k4
  have b4 := F4.binds (ps := ["_law_state", "_law_many"]) fun _ _ _ _ _ _ us hl => match us, hl with | [_, _], _ => rfl
  have F5 := fun_mk (st := s_law) l5 c5 k5
  have T : Txt K mg ⟨f1, PySem.W.fnOf "put_out" "put_out" (defArgs s_put_out) (defBody s_put_out) (defScope s_put_out) .none kV1 dc1 pm1 an1 cd1 ct1, f2, PySem.W.fnOf "_law_digits" "_law_digits" (defArgs s__law_digits) (defBody s__law_digits) (defScope s__law_digits) .none kV2 dc2 pm2 an2 cd2 ct2, f3, PySem.W.fnOf "_law_next_of" "_law_next_of" (defArgs s__law_next_of) (defBody s__law_next_of) (defScope s__law_next_of) .none kV3 dc3 pm3 an3 cd3 ct3, f4, PySem.W.fnOf "_law_called" "_law_called" (defArgs s__law_called) (defBody s__law_called) (defScope s__law_called) .none kV4 dc4 pm4 an4 cd4 ct4⟩ := ⟨F1, PySem.W.mg_of X G a1, b1, F2, PySem.W.mg_of X G a2, b2, F3, PySem.W.mg_of X G a3, b3, F4, PySem.W.mg_of X G a4, b4, PySem.W.mg_none_of X G z_len, PySem.W.mg_none_of X G z_range, PySem.W.mg_none_of X G z_sorted, PySem.W.mg_none_of X G z_dict, PySem.W.mg_none_of X G z_list⟩
  exact ⟨_, fun s v => .of_eq rfl, fun base _ _ => ok_law F5 T⟩
theorem walk {l : PySem.W.OpenLaw} {q : Program} {loose : List Str} {XP : (Str → Option Value) → Heap → Prop} {YP : World → Heap → Prop} {d : DefRec} {K : Params → PySem.W.Frag} (hn : l.most = some 63) (hdf : d.params.defaults = [])
    (hY : ∀ (w : World) (h : Heap), YP w h → (K w.params).In h)
    (F : ∀ (w : World) (mg : Str → Option Value) (fa : Addr) (h : Heap), (K w.params).In h → h.Ns mainGlobals mg → mg d.name = some (.ref fa) →
      ∃ fd : FuncData, (∀ (s : Shared) (u : Value), BindsTo s fd ⟨[u], []⟩ [("_law_script", u)]) ∧ ∀ base : Heap, (K w.params).In base → base.Ns mainGlobals mg → FnOk l.prog w (K w.params) mg base CX0 3 fa fd ["_law_script"] (sp_law (K w.params))) :
    PySem.W.WalkO q loose XP YP l.row.toRowW d [] (fun f vs => PySem.call f vs) :=
  L2.walk_of (n := 63) (k := 3) (x := "_law_script") (CX := fun _ => CX0) (sp := fun w => sp_law (K w.params)) hn (by decide) hdf ⟨rfl, by decide, by decide⟩ hY F (fun _ _ a ns hl _ hS => ⟨a, ns, rfl, hS, hl, fun _ => rfl⟩) fun _ _ _ _ _ z => z
end SG
open PySem PySem.W PyProof.Rows
set_option maxRecDepth 100000 in
set_option maxHeartbeats 0 in
theorem PySem.Challenge.cw_samegoing_k27_outs_holds : PySem.Challenge.rw_samegoing_k27_outs.Holds := by
  w_on; o_law; k_head; (case hw => w_witness2)
  k_fill
  refine SG.walk (l := PySem.Challenge.rw_samegoing_k27_outs) rfl rfl (fun w h Y => PySem.W.kIn_of Y) ?F
  case F =>
    intro w mg fa h KX G hmg
    refine' SG.all_mk KX G hmg ?a1 ?l1 ?c1 ?k1 ?a2 ?l2 ?c2 ?k2 ?a3 ?l3 ?c3 ?k3 ?a4 ?l4 ?c4 ?k4 ?a5 ?l5 ?c5 ?k5 ?z_len ?z_range ?z_sorted ?z_dict ?z_list
    (case a1 => k_is)
    (case l1 => k_is)
    (case c1 => k_is)
    (case k1 => k_is)
    (case a2 => k_is)
    (case l2 => k_is)
    (case c2 => k_is)
    (case k2 => k_is)
    (case a3 => k_is)
    (case l3 => k_is)
    (case c3 => k_is)
    (case k3 => k_is)
    (case a4 => k_is)
    (case l4 => k_is)
    (case c4 => k_is)
    (case k4 => k_is)
    (case a5 => k_is)
    (case l5 => k_is)
    (case c5 => k_is)
    (case k5 => k_is)
    (case z_len => k_is)
    (case z_range => k_is)
    (case z_sorted => k_is)
    (case z_dict => k_is)
    (case z_list => k_is)
