import PyProof.Rows.All
import Wide.All
import OpenK.AllK
import Wide.FinOn
import KE.KStateDown
import KE.KMathG
import KE.SortData
import HandS.ForMost
import HandS.Property
import HandS.MakeKwOnly
import HandS.Gcd
import HandS.CallLocal
import HandS.IsInst
import HandS.Defaults
import HandS.DictComp
import HandS.Conv
import HandS.Evl
import HandS.SetKeys
import HandS.Exc
import HandS.ExcInit
import HandS.ExcIs
import HandS.TryMany
import HandS.Head0
import HandS.Head1
import HandS.Head2
import HandS.HeadEnd
import HandS.HeadNt
import HandS.HeadHook4
import HandS.EndTab
import HandS.Lambda
import HandS.Nested
import HandS.NestedK
import HandS.Head3
import HandS.Walk
import HandS.MakeKw
import KE.DataMinMax
import HandS.SortKw
import HandS.ExcOwn
import HandS.ExcField
import HandS.SetFor
import HandS.SortInts
import HandS.Strs
import HandS.TupSets
import HandS.SetBool
import HandS.WordsDict
import HandS.Text
import HandS.More
import HandS.TupLen
import HandS.Deep
import HandS.HeadWalk
import PySem.Challenge.RW_jawturns_k52_whole_shortest_plan_does
set_option Elab.async false
set_option linter.all false
section Part_JRules1
set_option Elab.async false
set_option linter.all false
set_option maxRecDepth 100000
set_option maxHeartbeats 4000000
/-! Rules of my own over the layer: an own __getitem__, math.lcm. -/
namespace JR
open PySem PySem.Spec PyProof.Rows L2

section
variable {X : Cx} {k : Nat} {C f : Addr} {fd : FuncData} {ps : List Str} {sp : Sp} {a b : Expr} {ta tb : TE} {pos : Pos}
/-- o[i], o of the class at C with an own __getitem__ -/
def tOwnIx (C : Addr) (sp : Sp) (ta tb : TE) : TE := fun σ H Q => ta σ H fun x H1 => tb σ H1 fun y H2 => ∃ a dx fs, x = .ref a ∧ H2 a = some (.ins C dx fs) ∧ sp [.ref a, y] H2 Q E0
theorem pe_ownix (ha : PE X a ta) (hb : PE X b tb) (c : Cls X.K C) (hm : Meth X.K C "__getitem__" f) (hf : PySem.W.fnIn X.K f = true) (F : FnOk X.prog X.w X.K X.mg X.base CX0 k f fd ps sp) (hr : Room (k + 1) X.A) (hbd : Binds X.K fd ps [])
    (hsl : ∀ o i, subscripted b true o i = runValue (.builtin "lifetime.subscript" ⟨[o, i], []⟩) := by intro _ _; with_unfolding_all rfl) : PE X (.Subscript a b pos) (tOwnIx C sp ta tb) := by
  refine ⟨fun pins s σ H Q I h => ?_⟩
  refine Subscript_ (binT ha hb I h fun v u s2 x y H2 I2 rx ry q => ?_)
  obtain ⟨p, dx, fs, rfl, hp, q⟩ := q
  obtain rfl : v = Value.ref p := rx
  obtain ⟨mA, O, _, _, _, _⟩ := ins_get I2.hok hp
  obtain ⟨od, J, _⟩ := O.look
  obtain ⟨m, fr⟩ := I2.fr
  refine PySem.W.sub_K fr I2.ok.mod.kin J hm.at_ hf hm.fn (wpAny_call ?_) (hsl _ _)
  have hl : ([Value.ref p, u] ++ []).length = ps.length := (F.len _ _ _ _ q)
  refine codeAny_mono (F.run X.A.in1 X.stack s2 H2 ⟨[.ref p, u], []⟩ [.ref p, u] [.ref p, y] Q E0 hr.in1 I2.env0.in1 (hbd _ [.ref p, u] I2.kIn hl) (.cons rfl (.cons ry .nil)) q) fun r s' hq => ?_
  cases r with
  | error er => exact False.elim hq
  | ok fl =>
    cases fl with
    | ret w' => exact I2.after hq
    | next => exact False.elim hq
    | brk => exact False.elim hq
    | cont => exact False.elim hq
end
section
variable {X : Cx}
/-- lcm(a, b) of two numbers below 2^30 -/
def rLcm : List V → Hp → VK → Prop := fun vs H Q => ∃ a b : Int, vs = [.int a, .int b] ∧ (0 < a ∧ a < 2 ^ 30) ∧ (0 < b ∧ b < 2 ^ 30) ∧ Q (.int (((Nat.lcm 1 a.natAbs).lcm b.natAbs : Nat) : Int)) H
theorem cr_lcm : CallR X (.builtin "math.lcm") rLcm := by
  intro pins s σ H vs us Q I r h
  obtain ⟨a, b, rfl, ha', hb', q⟩ := h
  obtain ⟨t, u, rfl⟩ := Vals.int2 r
  have ha : a.natAbs < 2 ^ 30 := by omega
  have hb : b.natAbs < 2 ^ 30 := by omega
  have hle : (Nat.lcm 1 a.natAbs).lcm b.natAbs ≤ a.natAbs * b.natAbs := by
    rw [Nat.lcm_one_left]
    exact Nat.lcm_le_mul (by omega) (by omega)
  have h2 : a.natAbs * b.natAbs ≤ 2 ^ 30 * 2 ^ 30 := Nat.mul_le_mul (Nat.le_of_lt ha) (Nat.le_of_lt hb)
  refine PySem.W.mg_lcm (by omega) (by omega) ?_ ⟨.int _, H, I.tok _, ⟨_, rfl⟩, q⟩
  rw [Int.natAbs_natCast]
  by_cases h0 : (Nat.lcm 1 a.natAbs).lcm b.natAbs = 0
  · rw [h0]; decide +kernel
  · refine Nat.lt_of_lt_of_le ((Nat.log2_lt h0).mpr (Nat.lt_of_le_of_lt (Nat.le_trans hle h2) (by decide : 2 ^ 30 * 2 ^ 30 < 2 ^ 61))) (by decide +kernel)
end
end JR
end Part_JRules1
section Part_JRules2
set_option Elab.async false
set_option linter.all false
set_option maxRecDepth 100000
set_option maxHeartbeats 4000000
/-! Data that never changes (Im), lists of such (Ls), sorted of them. -/
namespace JR
open PySem PySem.Spec PyProof.Rows L2

mutual
/-- v stands for the data d: a plain value, or a tuple of such -/
def Im (H : Hp) (v : V) : PyData → Prop
  | .none => v = .non
  | .bool b => v = .bl b
  | .int i => v = .int i
  | .str x => v = .str x
  | .tuple ds => ∃ a xs, v = .ref a ∧ H a = some (.tup xs) ∧ ImAll H xs ds
  | .list _ => False
  | .dict _ => False
def ImAll (H : Hp) (vs : List V) : List PyData → Prop
  | [] => vs = []
  | d :: ds => ∃ v r, vs = v :: r ∧ Im H v d ∧ ImAll H r ds
end
/-- the tuples stay -/
def Tups (H H' : Hp) : Prop := ∀ a xs, H a = some (.tup xs) → H' a = some (.tup xs)
theorem Tups.refl (H : Hp) : Tups H H := fun _ _ h => h
theorem Tups.trans {H H1 H2 : Hp} (a : Tups H H1) (b : Tups H1 H2) : Tups H H2 := fun x o h => b x o (a x o h)
theorem Tups.of {H H' : Hp} (e : Evl.Ex H H') : Tups H H' := fun a xs h => e a _ h
theorem Tups.new {H : Hp} {p : Addr} {o : HO} (h : H p = none) : Tups H (upd H p o) := Tups.of (Evl.Ex.new h)
theorem Tups.mut {H : Hp} {p : Addr} {o u : HO} (h : H p = some u) (hu : ∀ xs, u ≠ .tup xs) : Tups H (upd H p o) := fun a xs e => by
  rw [upd_ne (fun q => by subst q; rw [h] at e; exact hu xs (Option.some.inj e))]
  exact e
mutual
theorem Im.keep {H H' : Hp} (t : Tups H H') {v : V} : ∀ {d : PyData}, Im H v d → Im H' v d
  | .none, h => h
  | .bool _, h => h
  | .int _, h => h
  | .str _, h => h
  | .tuple ds, h => by
    obtain ⟨a, xs, e, ha, hs⟩ := h
    exact ⟨a, xs, e, t _ _ ha, ImAll.keep t hs⟩
  | .list _, h => h
  | .dict _, h => h
theorem ImAll.keep {H H' : Hp} (t : Tups H H') {vs : List V} : ∀ {ds : List PyData}, ImAll H vs ds → ImAll H' vs ds
  | [], h => h
  | d :: ds, h => by
    obtain ⟨v, r, e, h1, h2⟩ := h
    exact ⟨v, r, e, Im.keep t h1, ImAll.keep t h2⟩
end
mutual
theorem Im.dp {K : PySem.W.Frag} {H : Hp} : ∀ {d : PyData} {v : V}, Im H v d → Dp K H v d
  | .none, v, h => by cases (show v = V.non from h); exact .non
  | .bool b, v, h => by cases (show v = V.bl b from h); exact .bl b
  | .int i, v, h => by cases (show v = V.int i from h); exact .int i
  | .str x, v, h => by cases (show v = V.str x from h); exact .str x
  | .tuple ds, v, h => by
    obtain ⟨a, xs, rfl, ha, hs⟩ := h
    exact .tup (SqT.of ha) (ImAll.dp hs)
  | .list _, v, h => (show False from h).elim
  | .dict _, v, h => (show False from h).elim
theorem ImAll.dp {K : PySem.W.Frag} {H : Hp} : ∀ {ds : List PyData} {vs : List V}, ImAll H vs ds → DpAll K H vs ds
  | [], vs, h => by cases (show vs = [] from h); exact .nil
  | d :: ds, vs, h => by
    obtain ⟨v, r, rfl, h1, h2⟩ := h
    exact .cons (Im.dp h1) (ImAll.dp h2)
end
/-- typed items -/
abbrev Ls {β : Type} (H : Hp) (enc : β → PyData) (xs : List V) (bs : List β) : Prop := Paired (fun x b => Im H x (enc b)) xs bs
section
variable {β : Type} {H H' : Hp} {enc : β → PyData}
theorem Ls.keep (t : Tups H H') : ∀ {xs : List V} {bs : List β}, Ls H enc xs bs → Ls H' enc xs bs
  | _, _, .nil => .nil
  | _, _, .cons h r => .cons (h.keep t) (Ls.keep t r)
theorem Ls.all : ∀ {xs : List V} {bs : List β}, Ls H enc xs bs → ImAll H xs (bs.map enc)
  | _, _, .nil => rfl
  | _, _, .cons h r => ⟨_, _, rfl, h, Ls.all r⟩
theorem Ls.of_all : ∀ {bs : List β} {xs : List V}, ImAll H xs (bs.map enc) → Ls H enc xs bs
  | [], xs, h => by cases (show xs = [] from h); exact .nil
  | b :: bs, xs, h => by
    obtain ⟨v, r, rfl, h1, h2⟩ := h
    exact .cons h1 (Ls.of_all h2)
theorem Ls.len {xs : List V} {bs : List β} (h : Ls H enc xs bs) : xs.length = bs.length := Paired.length h
theorem Ls.get : ∀ {xs : List V} {bs : List β} {i : Nat} {x : V}, Ls H enc xs bs → xs[i]? = some x → ∃ b, bs[i]? = some b ∧ Im H x (enc b)
  | _, _, _, _, .nil, e => by simp at e
  | _, _, 0, _, .cons h _, e => by
    simp at e; subst e
    exact ⟨_, rfl, h⟩
  | _, _, i + 1, x, .cons _ r, e => by
    obtain ⟨b, h1, h2⟩ := Ls.get (i := i) (x := x) r (by simpa using e)
    exact ⟨b, by simpa using h1, h2⟩
theorem Ls.get' : ∀ {xs : List V} {bs : List β} {i : Nat} {b : β}, Ls H enc xs bs → bs[i]? = some b → ∃ x, xs[i]? = some x ∧ Im H x (enc b)
  | _, _, _, _, .nil, e => by simp at e
  | _, _, 0, _, .cons h _, e => by
    simp at e; subst e
    exact ⟨_, rfl, h⟩
  | _, _, i + 1, b, .cons _ r, e => by
    obtain ⟨x, h1, h2⟩ := Ls.get' (i := i) (b := b) r (by simpa using e)
    exact ⟨x, by simpa using h1, h2⟩
theorem Ls.snoc {xs : List V} {bs : List β} {x : V} {b : β} (h : Ls H enc xs bs) (hx : Im H x (enc b)) : Ls H enc (xs ++ [x]) (bs ++ [b]) := by
  induction h with
  | nil => exact .cons hx .nil
  | cons h _ ih => exact .cons h ih
theorem Ls.append {xs ys : List V} {bs cs : List β} (h : Ls H enc xs bs) (h' : Ls H enc ys cs) : Ls H enc (xs ++ ys) (bs ++ cs) := by
  induction h with
  | nil => exact h'
  | cons h _ ih => exact .cons h ih
/-- plain values -/
theorem Ls.ints : ∀ (ns : List Int), Ls H PyData.int (ns.map V.int) ns
  | [] => .nil
  | n :: ns => .cons rfl (Ls.ints ns)
theorem Ls.ints_eq : ∀ {xs : List V} {ns : List Int}, Ls H PyData.int xs ns → xs = ns.map V.int
  | _, _, .nil => rfl
  | _, _, .cons h r => by rw [List.map_cons, ← Ls.ints_eq r, show _ = V.int _ from h]
theorem Ls.strs : ∀ (ns : List Str), Ls H PyData.str (ns.map V.str) ns
  | [] => .nil
  | n :: ns => .cons rfl (Ls.strs ns)
theorem Ls.strs_eq : ∀ {xs : List V} {ns : List Str}, Ls H PyData.str xs ns → xs = ns.map V.str
  | _, _, .nil => rfl
  | _, _, .cons h r => by rw [List.map_cons, ← Ls.strs_eq r, show _ = V.str _ from h]
end

/-! ### sorted -/
/-- data of one shape, that can be sorted -/
structure Shape {β : Type} (enc : β → PyData) : Prop where
  like : ∀ b b', PySem.W.alike (enc b) (enc b') = true
  sort : (∀ b, ∃ x r, enc b = .tuple (x :: r)) ∨ (∀ b, enc b ≠ .none ∧ ∀ xs, enc b ≠ .tuple xs)
  deep : ∀ b, (enc b).depth ≤ 8
def rSortedE {β : Type} (K : PySem.W.Frag) (enc : β → PyData) : List V → Hp → VK → Prop := fun vs H Q => ∃ (a : Addr) (xs : List V) (bs : List β), vs = [V.ref a] ∧ SqL K H a xs ∧ Ls H enc xs bs ∧
  ∀ (xs' : List V) (bs' : List β) (p : Addr), bs'.Perm bs → bs'.Pairwise (fun a b => PySem.W.dataLe false enc a b = true) → Ls H enc xs' bs' → H p = none → Q (.ref p) (upd H p (.lst xs'))
theorem eachIs_of {β : Type} {H : Hp} {enc : β → PyData} : ∀ {xs : List V} {bs : List β} {us : List Value}, Ls H enc xs bs → Vals xs us → PySem.W.EachIs (fun u (z : β × V) => RelV z.2 u) us (bs.zip xs)
  | _, _, _, .nil, r => by cases r; exact .nil
  | _, _, _, .cons h t, r => by
    cases r with
    | cons r1 r2 => exact .cons r1 (eachIs_of t r2)
theorem vals_of_each {β : Type} : ∀ {us : List Value} {zs : List (β × V)}, PySem.W.EachIs (fun u (z : β × V) => RelV z.2 u) us zs → Vals (zs.map (·.2)) us
  | _, _, .nil => .nil
  | _, _, .cons h t => .cons h (vals_of_each t)
theorem ls_of_mem {β : Type} {H : Hp} {enc : β → PyData} : ∀ {zs : List (β × V)}, (∀ z ∈ zs, Im H z.2 (enc z.1)) → Ls H enc (zs.map (·.2)) (zs.map (·.1))
  | [], _ => .nil
  | z :: zs, h => .cons (h z List.mem_cons_self) (ls_of_mem fun y hy => h y (List.mem_cons_of_mem _ hy))
theorem Ls.zip_im {β : Type} {H : Hp} {enc : β → PyData} : ∀ {xs : List V} {bs : List β}, Ls H enc xs bs → ∀ z ∈ bs.zip xs, Im H z.2 (enc z.1)
  | _, _, .nil, z, hz => by simp at hz
  | _, _, .cons h t, z, hz => by
    rw [List.zip_cons_cons] at hz
    rcases List.mem_cons.mp hz with rfl | hz
    · exact h
    · exact Ls.zip_im t z hz
section
variable {X : Cx} {β : Type} {enc : β → PyData}
theorem cr_sortedE (S : Shape enc) (hu : X.A.units + 64 < cLine) : CallR X (.builtin "sorted") (rSortedE X.K enc) := by
  intro pins s σ H vs us Q I r h
  obtain ⟨a, xs, bs, rfl, hs, hx, q⟩ := h
  obtain ⟨its, rv, hl, hz⟩ := I.list hs
  obtain ⟨u, rfl, ru⟩ := vals1 r
  obtain rfl : u = Value.ref a := ru
  have e := eachIs_of hx rv
  have hlen : (bs.zip xs).length = bs.length := by rw [List.length_zip, hx.len]; omega
  have er : PySem.W.EachIs (fun v (z : β × V) => ∃ as, Reads s.heap v (enc z.1) as) its (bs.zip xs) := by
    refine PySem.W.EachIs.of_zip e.length fun p hp => ?_
    have h1 := e.zip p hp
    have h2 := hx.zip_im p.2 (List.of_mem_zip hp).2
    exact Dp.reads I _ _ _ h2.dp h1
  refine PySem.W.sorted_data (enc := fun z : β × V => enc z.1) hl.isList e er (PySem.W.AllAlike.of fun b b' => S.like _ _) ?_ (by rw [hlen, ← hx.len]; exact hz) (fun b _ => ?_) fun out ho eo => ?_
  · rcases S.sort with h | h
    · exact PySem.W.Sortable.tuples fun b => h b.1
    · exact PySem.W.Sortable.others fun b => h b.1
  · have := S.deep b.1
    show X.A.units + 2 + (enc b.1).depth < cLine
    omega
  · obtain ⟨ep, he⟩ := PyProof.Rows.sortedAll_at s.heap its (List.toArray out)
    have pm := List.mergeSort_perm (bs.zip xs) (PySem.W.dataLe false fun z : β × V => enc z.1)
    have rv2 := vals_of_each eo
    have hn : H (s.heap.objs.size + 1) = none := I.hok.fresh (Nat.le_succ _)
    have e1 : (bs.zip xs).map (·.1) = bs := List.map_fst_zip (by rw [hx.len]; omega)
    refine ⟨.ref (s.heap.objs.size + 1), upd H (s.heap.objs.size + 1) (.lst (((bs.zip xs).mergeSort (PySem.W.dataLe false fun z : β × V => enc z.1)).map (·.2))), ?_, rfl, q _ (((bs.zip xs).mergeSort (PySem.W.dataLe false fun z : β × V => enc z.1)).map (·.1)) _ ?_ ?_ ?_ hn⟩
    · refine I.laid (t' := s.toks) (fun _ _ => PyProof.Rows.sortedAll_old) (Nat.le_succ _) ⟨?_, out, ep, rv2, he⟩
      rw [List.length_map, pm.length_eq, hlen, ← hx.len]
      exact hz
    · have := pm.map (·.1)
      rwa [e1] at this
    · exact List.pairwise_map.mpr (PySem.W.sort_pairwise (PySem.W.sortLe_total _ false _) (bs.zip xs))
    · exact ls_of_mem fun z hz => hx.zip_im z (pm.mem_iff.mp hz)
end
theorem le_int {a b : Int} (h : PySem.W.dataLe false PyData.int a b = true) : a ≤ b := by
  have e := PySem.W.dataLe_int (fun b : Int => b)
  have h2 : PySem.W.dataLe false (fun b : Int => PyData.int b) a b = true := h
  rw [e] at h2
  exact of_decide_eq_true h2
def encRow (p : Int × Int) : PyData := .tuple [.int p.1, .int p.2]
theorem le_row {a b : Int × Int} (h : PySem.W.dataLe false encRow a b = true) : a.1 < b.1 ∨ (a.1 = b.1 ∧ a.2 ≤ b.2) := by
  have e := PySem.W.dataLe_ii (fun b : Int × Int => b.1) (fun b => b.2)
  have h2 : PySem.W.dataLe false (fun b : Int × Int => PyData.tuple [.int b.1, .int b.2]) a b = true := h
  rw [e] at h2
  exact of_decide_eq_true h2
theorem shape_int : Shape PyData.int := ⟨fun _ _ => rfl, .inr fun b => ⟨(fun h => nomatch h), (fun xs h => nomatch h)⟩, fun b => Nat.zero_le _⟩
theorem shape_str : Shape PyData.str := ⟨fun _ _ => rfl, .inr fun b => ⟨(fun h => nomatch h), (fun xs h => nomatch h)⟩, fun b => Nat.zero_le _⟩
theorem shape_row : Shape encRow := ⟨fun _ _ => rfl, .inl fun b => ⟨_, _, rfl⟩, fun b => by simp [encRow, PyData.depth, PyData.depthAll]⟩
end JR
end Part_JRules2
section Part_JText
set_option Elab.async false
set_option linter.all false
set_option maxRecDepth 100000
set_option maxHeartbeats 4000000
/-! The text by places; what the top leaves, by one kernel run. -/
namespace JX
open PySem PySem.Spec PyProof.Rows L2
def top (i : Nat) : Stmt := PySem.Challenge.pw_jawturns_k52_whole_shortest_plan_does.main.body.getD i (.Pass ⟨0, 0, 0, 0⟩)
abbrev s_TooMany_init : Stmt := inClass (top 11) 0
abbrev s_is_integer : Stmt := top 17
abbrev s_is_row : Stmt := top 18
abbrev s_is_place : Stmt := top 19
abbrev s_check_round : Stmt := top 20
abbrev s_is_pair : Stmt := top 21
abbrev s_checked_rows : Stmt := top 22
abbrev s_rows_turned : Stmt := top 23
abbrev s_least_period : Stmt := top 24
abbrev s_Turning_init : Stmt := inClass (top 25) 0
abbrev s_Turning_period : Stmt := inClass (top 25) 2
abbrev s_Turning_rests : Stmt := inClass (top 25) 3
abbrev s_Turning_lifted : Stmt := inClass (top 25) 5
abbrev s_Turning_is_even : Stmt := inClass (top 25) 9
abbrev s_is_word : Stmt := top 28
abbrev s_check_even : Stmt := top 30
abbrev s_Part_init : Stmt := inClass (top 31) 0
abbrev s_Part_words : Stmt := inClass (top 31) 1
abbrev s_Part_period : Stmt := inClass (top 31) 2
abbrev s_Part_getitem : Stmt := inClass (top 31) 5
abbrev s_Part_rests : Stmt := inClass (top 31) 8
abbrev s_is_deed : Stmt := top 34
abbrev s_Plan_init : Stmt := inClass (top 35) 0
abbrev s_is_name : Stmt := top 42
abbrev s_is_rule : Stmt := top 43
abbrev s_checked_rules : Stmt := top 44
abbrev s_Let_init : Stmt := inClass (top 45) 0
abbrev s_Let_states : Stmt := inClass (top 45) 1
abbrev s_Let_words : Stmt := inClass (top 45) 2
abbrev s_Let_rules : Stmt := inClass (top 45) 4
abbrev s_check_let : Stmt := top 46
abbrev s_Board_init : Stmt := inClass (top 48) 0
abbrev s_Board_carried : Stmt := inClass (top 48) 1
abbrev s_steps_by_state : Stmt := top 49
abbrev s_first_steps : Stmt := top 50
abbrev s_stands_of : Stmt := top 51
abbrev s_is_closed : Stmt := top 52
abbrev s_stand_behind : Stmt := top 53
abbrev s_stand_moves : Stmt := top 54
abbrev s_explored : Stmt := top 57
abbrev s_distances : Stmt := top 58
abbrev s_least_count : Stmt := top 59
abbrev s_least_walk : Stmt := top 60
abbrev s_CutSearch_init : Stmt := inClass (top 62) 0
abbrev s_least_length : Stmt := top 63
abbrev s_shortest : Stmt := top 64
abbrev s_law_pool : Stmt := top 66
abbrev s_law_draw : Stmt := top 67
abbrev s_law_laps : Stmt := top 68
abbrev s_law_rows : Stmt := top 69
abbrev s_law_world : Stmt := top 70
abbrev s_law_part : Stmt := top 71
abbrev s_law_table : Stmt := top 72
abbrev s_law_lift : Stmt := top 73
abbrev s_law_keeps : Stmt := top 74
abbrev s_law_tables : Stmt := top 75
abbrev s_law_span : Stmt := top 76
abbrev s_law_model : Stmt := top 77
abbrev s_law_rules : Stmt := top 78
abbrev s_law_rules_of : Stmt := top 79
abbrev s_law_handed : Stmt := top 80
abbrev s_law_let : Stmt := top 81
abbrev s_law_asked : Stmt := top 82
abbrev s_law_is_let : Stmt := top 83
abbrev s_law_is_plan : Stmt := top 84
abbrev s_law_counts : Stmt := top 85
abbrev s_law : Stmt := top 86
/-- a class's own addresses -/
abbrev cA (K : PySem.W.Frag) (x : Str) : Addr := He.ga K x
abbrev mA (K : PySem.W.Frag) (x m : Str) : Addr := He.ma K (He.ga K x) m
/-- the getter of a property -/
abbrev gA (K : PySem.W.Frag) (x m : Str) : Addr := He5.wf K (He.ga K x) "property" m
def propB (K : PySem.W.Frag) (x f : Str) : Bool := He.eqO (PySem.W.findIn K (.ref (cA K x)) f) (some (some (.ref (mA K x f)))) && (decide (PySem.W.specialIn K (.ref (mA K x f)) "__get__" = some (some (.builtin "property.__get__"))) && (decide (PySem.W.takesIn K (.ref (mA K x f)) = some true) &&
  (match PySem.W.recIn K (mA K x f) "property" with
    | some (.ref g :: _) => decide (g = gA K x f)
    | _ => false)))
theorem propB_ok {K : PySem.W.Frag} {x f : Str} (h : propB K x f = true) : PropOf K (cA K x) f (mA K x f) (gA K x f) := by
  obtain ⟨h1, h2⟩ := He.ba h
  obtain ⟨h3, h4⟩ := He.ba h2
  obtain ⟨h5, h6⟩ := He.ba h4
  refine ⟨He.eqO_ok h1, of_decide_eq_true h3, of_decide_eq_true h5, ?_⟩
  split at h6
  · rename_i g r e
    have e2 := of_decide_eq_true h6
    exact ⟨r, by rw [← e2]; exact e⟩
  · cases h6
/-- an own exception class over ValueError, with its dict -/
def oexB (K : PySem.W.Frag) (C : Addr) : Bool := (match K.lookup C with
  | some ⟨.type "type", _, .cls cd, sl⟩ => (match cd.mro, sl.toList with
    | .ref C' :: bm, [_, _, _, _, some (.builtin n), _] => C' == C && (n == "ValueError.__new__" && (!cd.hasDel && (PySem.HandSPX.refsVE bm && cd.hasDict)))
    | _, _ => false)
  | _ => false) && (He.eqO (PySem.W.findIn K (.ref C) "__setattr__") (some (some (.builtin "object.__setattr__"))) && (decide (PySem.W.subIn K (.ref C) (.type "BaseException") = some true) && (decide (PySem.W.typeIn K (.ref C) = some (.type "type")) && PySem.W.keepIn K (.ref C))))
theorem oexB_ok {K : PySem.W.Frag} {C : Addr} (h : oexB K C = true) : OexC K C := by
  obtain ⟨h1, h2⟩ := He.ba h
  obtain ⟨h3, h4⟩ := He.ba h2
  obtain ⟨h5, h6⟩ := He.ba h4
  obtain ⟨h7, h8⟩ := He.ba h6
  refine ⟨?_, He.eqO_ok h3, of_decide_eq_true h5, of_decide_eq_true h7, h8⟩
  split at h1
  · rename_i dd cd sl ho
    split at h1
    · rename_i C' bm k0 k1 k2 k3 n k5 hm hs
      simp only [Bool.and_eq_true, beq_iff_eq, Bool.not_eq_true'] at h1
      obtain ⟨rfl, rfl, hdel, hbm, hdc⟩ := h1
      obtain ⟨nm, bs, mro, ns, qn, hd, sn, sub, ab, col, del⟩ := cd
      dsimp only at hm hdel hdc
      subst hm hdel hdc
      have hsl : sl = #[k0, k1, k2, k3, some (.builtin "ValueError.__new__"), k5] := by
        obtain ⟨l⟩ := sl
        simp only at hs
        rw [hs]
      subst hsl
      exact ⟨nm, qn, ns, bs, bm, sn, sub, ab, col, dd, k0, k1, k2, k3, k5, ho, hbm⟩
    · cases h1
  · cases h1
/-- what isinstance asks of an own class whose instance is looked at -/
def insB (K : PySem.W.Frag) (C : Addr) : Bool := He.eqO (PySem.W.findIn K (.ref C) "__class__") (some (some (.builtin "object.__class__"))) && (decide (PySem.W.specialIn K (.builtin "object.__class__") "__get__" = some (some (.builtin "getset_descriptor.__get__"))) && (decide (PySem.W.takesIn K (.builtin "object.__class__") = some true) && decide (PySem.W.mroIn K C (.type "object") = some true)))
theorem insB_ok {K : PySem.W.Frag} {C : Addr} (h : insB K C = true) (cl : Cls K C) {H : Hp} {a dx : Addr} {fs : List (Str × V)} (e : H a = some (.ins C dx fs)) : TyOf K H (.ref a) (.ref C) := by
  obtain ⟨h1, h2⟩ := He.ba h
  obtain ⟨h3, h4⟩ := He.ba h2
  obtain ⟨h5, h6⟩ := He.ba h4
  exact .ins e cl (He.eqO_ok h1) (of_decide_eq_true h3) (of_decide_eq_true h5) (of_decide_eq_true h6)
/-- what isinstance asks of a caught exception -/
def excB (K : PySem.W.Frag) (D : Addr) : Bool := He.eqO (PySem.W.findIn K (.ref D) "__getattribute__") (some (some (.builtin "BaseException.__getattribute__"))) && (He.eqO (PySem.W.findIn K (.ref D) "__getattr__") (some none) && (decide (PySem.W.subIn K (.ref D) (.type "BaseException") = some true) && (PySem.W.hasDictIn K D && insB K D)))
theorem excB_ok {K : PySem.W.Frag} {D : Addr} (h : excB K D = true) : ExcC K D := by
  obtain ⟨h1, h2⟩ := He.ba h
  obtain ⟨h3, h4⟩ := He.ba h2
  obtain ⟨h5, h6⟩ := He.ba h4
  obtain ⟨h7, h8⟩ := He.ba h6
  obtain ⟨g1, g2⟩ := He.ba h8
  obtain ⟨g3, g4⟩ := He.ba g2
  obtain ⟨g5, g6⟩ := He.ba g4
  exact ⟨He.eqO_ok h1, He.eqO_ok h3, of_decide_eq_true h5, h7, He.eqO_ok g1, of_decide_eq_true g3, of_decide_eq_true g5, of_decide_eq_true g6⟩
/-! ### the facts -/
def fa0 : List (He.Fa) := [
  .glo "is_integer",
  .glo "is_row",
  .glo "is_place",
  .glo "check_round",
  .glo "is_pair",
  .glo "checked_rows",
  .glo "rows_turned",
  .glo "least_period",
  .glo "is_word",
  .glo "check_even",
  .glo "is_deed",
  .glo "is_name",
  .glo "is_rule",
  .glo "checked_rules",
  .glo "check_let",
  .glo "steps_by_state",
  .glo "first_steps",
  .glo "stands_of",
  .glo "is_closed",
  .glo "stand_behind",
  .glo "stand_moves",
  .glo "explored",
  .glo "distances",
  .glo "least_count",
  .glo "least_walk",
  .glo "least_length",
  .glo "shortest",
  .glo "_law_pool",
  .glo "_law_draw",
  .glo "_law_laps"]
def fa1 : List (He.Fa) := [
  .glo "_law_rows",
  .glo "_law_world",
  .glo "_law_part",
  .glo "_law_table",
  .glo "_law_lift",
  .glo "_law_keeps",
  .glo "_law_tables",
  .glo "_law_span",
  .glo "_law_model",
  .glo "_law_rules",
  .glo "_law_rules_of",
  .glo "_law_handed",
  .glo "_law_let",
  .glo "_law_asked",
  .glo "_law_is_let",
  .glo "_law_is_plan",
  .glo "_law_counts",
  .glo "law",
  .glo "Turning",
  .glo "Part",
  .glo "Plan",
  .glo "Let",
  .glo "Board",
  .glo "CutSearch",
  .glo "TooMany",
  .glo "NoPlan",
  .glo "JawError",
  .glo "WORDS",
  .free "all",
  .free "any"]
def fa2 : List (He.Fa) := [
  .free "dict",
  .free "divmod",
  .free "enumerate",
  .free "int",
  .free "isinstance",
  .free "len",
  .free "list",
  .free "max",
  .free "min",
  .free "range",
  .free "set",
  .free "sorted",
  .free "str",
  .free "tuple",
  .free "bool",
  .int "MOST_ROUND" 360,
  .int "MOST_ROWS" 12,
  .int "MOST_DEEDS_plans" 400,
  .int "MOST_STATES" 5,
  .int "MOST_RULES" 40,
  .int "MOST_DEEDS_walks" 400,
  .str "START" "start",
  .str "LETTERS" "abcdefghijklmnopqrstuvwxyz",
  .cls "Turning",
  .mkr "Turning",
  .noat "Turning" "around",
  .noat "Turning" "rows",
  .noat "Turning" "_period",
  .cls "Part",
  .mkr "Part"]
def fa3 : List (He.Fa) := [
  .noat "Part" "around",
  .noat "Part" "_shown",
  .noat "Part" "_turnings",
  .cls "Plan",
  .mkr "Plan",
  .noat "Plan" "around",
  .noat "Plan" "deeds",
  .cls "Let",
  .mkr "Let",
  .noat "Let" "around",
  .noat "Let" "_table",
  .cls "Board",
  .mkr "Board",
  .noat "Board" "source",
  .noat "Board" "span",
  .noat "Board" "spots",
  .noat "Board" "slots",
  .noat "Board" "found",
  .cls "CutSearch",
  .mkr "CutSearch",
  .noat "CutSearch" "start",
  .noat "CutSearch" "table",
  .noat "CutSearch" "far",
  .meth "Turning" "rests",
  .meth "Turning" "lifted",
  .meth "Turning" "is_even",
  .meth "Part" "__getitem__",
  .meth "Part" "rests",
  .meth "Let" "rules",
  .meth "Board" "carried"]
def fa4 : List (He.Fa) := [
  .noat "TooMany" "limit"]
def fa : List (He.Fa) := fa0 ++ fa1 ++ fa2 ++ fa3 ++ fa4
def xb0 : List (PySem.W.Frag → Bool) := [
  fun K => propB K "Turning" "period",
  fun K => propB K "Part" "words",
  fun K => propB K "Part" "period",
  fun K => propB K "Let" "states",
  fun K => propB K "Let" "words",
  fun K => PySem.W.fnIn K (mA K "Part" "__getitem__"),
  fun K => He.tupB K "WORDS" [.str "push", .str "squeeze"],
  fun K => He.eqO (PySem.W.nsIn K mainGlobals "lcm") (some (some (.builtin "math.lcm"))),
  fun K => insB K (cA K "Plan"),
  fun K => oexB K (cA K "TooMany"),
  fun K => He.eqO (PySem.W.findIn K (.ref (cA K "TooMany")) "__init__") (some (some (.ref (mA K "TooMany" "__init__")))),
  fun K => decide (PySem.W.typeIn K (.ref (mA K "TooMany" "__init__")) = some (.type "function")),
  fun K => PySem.W.excIn K (cA K "NoPlan") He.veBase "ValueError.__new__",
  fun K => PySem.W.keepIn K (.ref (cA K "NoPlan")),
  fun K => decide (PySem.W.subIn K (.ref (cA K "NoPlan")) (.type "BaseException") = some true),
  fun K => decide (PySem.W.typeIn K (.ref (cA K "NoPlan")) = some (.type "type")),
  fun K => excB K (cA K "NoPlan"),
  fun K => decide (PySem.W.exmOne K (.ref (cA K "NoPlan")) (.ref (cA K "NoPlan")) = some true),
  fun K => decide (PySem.W.exmOne K (.ref (cA K "NoPlan")) (.ref (cA K "TooMany")) = some false),
  fun K => excB K (cA K "TooMany"),
  fun K => decide (PySem.W.exmOne K (.ref (cA K "TooMany")) (.ref (cA K "NoPlan")) = some false),
  fun K => decide (PySem.W.exmOne K (.ref (cA K "TooMany")) (.ref (cA K "TooMany")) = some true),
  fun K => decide (PySem.W.kitOne K (.ref (cA K "NoPlan")) (.ref (cA K "JawError")) = some true)]
def xb : List (PySem.W.Frag → Bool) := xb0
def fn0 : List (He5.DefA) := [
  ⟨fun K => mA K "TooMany" "__init__", "__init__", "TooMany.__init__", defArgs s_TooMany_init, defBody s_TooMany_init, defScope s_TooMany_init, [], []⟩,
  ⟨fun K => He.ga K "is_integer", "is_integer", "is_integer", defArgs s_is_integer, defBody s_is_integer, defScope s_is_integer, [], []⟩,
  ⟨fun K => He.ga K "is_row", "is_row", "is_row", defArgs s_is_row, defBody s_is_row, defScope s_is_row, [], []⟩,
  ⟨fun K => He.ga K "is_place", "is_place", "is_place", defArgs s_is_place, defBody s_is_place, defScope s_is_place, [], []⟩,
  ⟨fun K => He.ga K "check_round", "check_round", "check_round", defArgs s_check_round, defBody s_check_round, defScope s_check_round, [], []⟩,
  ⟨fun K => He.ga K "is_pair", "is_pair", "is_pair", defArgs s_is_pair, defBody s_is_pair, defScope s_is_pair, [], []⟩,
  ⟨fun K => He.ga K "checked_rows", "checked_rows", "checked_rows", defArgs s_checked_rows, defBody s_checked_rows, defScope s_checked_rows, [], []⟩,
  ⟨fun K => He.ga K "rows_turned", "rows_turned", "rows_turned", defArgs s_rows_turned, defBody s_rows_turned, defScope s_rows_turned, [], []⟩,
  ⟨fun K => He.ga K "least_period", "least_period", "least_period", defArgs s_least_period, defBody s_least_period, defScope s_least_period, [], []⟩,
  ⟨fun K => mA K "Turning" "__init__", "__init__", "Turning.__init__", defArgs s_Turning_init, defBody s_Turning_init, defScope s_Turning_init, [], []⟩]
def fn1 : List (He5.DefA) := [
  ⟨fun K => gA K "Turning" "period", "period", "Turning.period", defArgs s_Turning_period, defBody s_Turning_period, defScope s_Turning_period, [], []⟩,
  ⟨fun K => mA K "Turning" "rests", "rests", "Turning.rests", defArgs s_Turning_rests, defBody s_Turning_rests, defScope s_Turning_rests, [], []⟩,
  ⟨fun K => mA K "Turning" "lifted", "lifted", "Turning.lifted", defArgs s_Turning_lifted, defBody s_Turning_lifted, defScope s_Turning_lifted, [], []⟩,
  ⟨fun K => mA K "Turning" "is_even", "is_even", "Turning.is_even", defArgs s_Turning_is_even, defBody s_Turning_is_even, defScope s_Turning_is_even, [], []⟩,
  ⟨fun K => He.ga K "is_word", "is_word", "is_word", defArgs s_is_word, defBody s_is_word, defScope s_is_word, [], []⟩,
  ⟨fun K => He.ga K "check_even", "check_even", "check_even", defArgs s_check_even, defBody s_check_even, defScope s_check_even, [], []⟩,
  ⟨fun K => mA K "Part" "__init__", "__init__", "Part.__init__", defArgs s_Part_init, defBody s_Part_init, defScope s_Part_init, [.non, .non, .non], []⟩,
  ⟨fun K => gA K "Part" "words", "words", "Part.words", defArgs s_Part_words, defBody s_Part_words, defScope s_Part_words, [], []⟩,
  ⟨fun K => gA K "Part" "period", "period", "Part.period", defArgs s_Part_period, defBody s_Part_period, defScope s_Part_period, [], []⟩,
  ⟨fun K => mA K "Part" "__getitem__", "__getitem__", "Part.__getitem__", defArgs s_Part_getitem, defBody s_Part_getitem, defScope s_Part_getitem, [], []⟩]
def fn2 : List (He5.DefA) := [
  ⟨fun K => mA K "Part" "rests", "rests", "Part.rests", defArgs s_Part_rests, defBody s_Part_rests, defScope s_Part_rests, [], []⟩,
  ⟨fun K => He.ga K "is_deed", "is_deed", "is_deed", defArgs s_is_deed, defBody s_is_deed, defScope s_is_deed, [], []⟩,
  ⟨fun K => mA K "Plan" "__init__", "__init__", "Plan.__init__", defArgs s_Plan_init, defBody s_Plan_init, defScope s_Plan_init, [], []⟩,
  ⟨fun K => He.ga K "is_name", "is_name", "is_name", defArgs s_is_name, defBody s_is_name, defScope s_is_name, [], []⟩,
  ⟨fun K => He.ga K "is_rule", "is_rule", "is_rule", defArgs s_is_rule, defBody s_is_rule, defScope s_is_rule, [], []⟩,
  ⟨fun K => He.ga K "checked_rules", "checked_rules", "checked_rules", defArgs s_checked_rules, defBody s_checked_rules, defScope s_checked_rules, [], []⟩,
  ⟨fun K => mA K "Let" "__init__", "__init__", "Let.__init__", defArgs s_Let_init, defBody s_Let_init, defScope s_Let_init, [], []⟩,
  ⟨fun K => gA K "Let" "states", "states", "Let.states", defArgs s_Let_states, defBody s_Let_states, defScope s_Let_states, [], []⟩,
  ⟨fun K => gA K "Let" "words", "words", "Let.words", defArgs s_Let_words, defBody s_Let_words, defScope s_Let_words, [], []⟩,
  ⟨fun K => mA K "Let" "rules", "rules", "Let.rules", defArgs s_Let_rules, defBody s_Let_rules, defScope s_Let_rules, [], []⟩]
def fn3 : List (He5.DefA) := [
  ⟨fun K => He.ga K "check_let", "check_let", "check_let", defArgs s_check_let, defBody s_check_let, defScope s_check_let, [], []⟩,
  ⟨fun K => mA K "Board" "__init__", "__init__", "Board.__init__", defArgs s_Board_init, defBody s_Board_init, defScope s_Board_init, [], []⟩,
  ⟨fun K => mA K "Board" "carried", "carried", "Board.carried", defArgs s_Board_carried, defBody s_Board_carried, defScope s_Board_carried, [], []⟩,
  ⟨fun K => He.ga K "steps_by_state", "steps_by_state", "steps_by_state", defArgs s_steps_by_state, defBody s_steps_by_state, defScope s_steps_by_state, [], []⟩,
  ⟨fun K => He.ga K "first_steps", "first_steps", "first_steps", defArgs s_first_steps, defBody s_first_steps, defScope s_first_steps, [], []⟩,
  ⟨fun K => He.ga K "stands_of", "stands_of", "stands_of", defArgs s_stands_of, defBody s_stands_of, defScope s_stands_of, [], []⟩,
  ⟨fun K => He.ga K "is_closed", "is_closed", "is_closed", defArgs s_is_closed, defBody s_is_closed, defScope s_is_closed, [], []⟩,
  ⟨fun K => He.ga K "stand_behind", "stand_behind", "stand_behind", defArgs s_stand_behind, defBody s_stand_behind, defScope s_stand_behind, [], []⟩,
  ⟨fun K => He.ga K "stand_moves", "stand_moves", "stand_moves", defArgs s_stand_moves, defBody s_stand_moves, defScope s_stand_moves, [], []⟩,
  ⟨fun K => He.ga K "explored", "explored", "explored", defArgs s_explored, defBody s_explored, defScope s_explored, [.non], []⟩]
def fn4 : List (He5.DefA) := [
  ⟨fun K => He.ga K "distances", "distances", "distances", defArgs s_distances, defBody s_distances, defScope s_distances, [], []⟩,
  ⟨fun K => He.ga K "least_count", "least_count", "least_count", defArgs s_least_count, defBody s_least_count, defScope s_least_count, [], []⟩,
  ⟨fun K => He.ga K "least_walk", "least_walk", "least_walk", defArgs s_least_walk, defBody s_least_walk, defScope s_least_walk, [], []⟩,
  ⟨fun K => mA K "CutSearch" "__init__", "__init__", "CutSearch.__init__", defArgs s_CutSearch_init, defBody s_CutSearch_init, defScope s_CutSearch_init, [], []⟩,
  ⟨fun K => He.ga K "least_length", "least_length", "least_length", defArgs s_least_length, defBody s_least_length, defScope s_least_length, [.non], []⟩,
  ⟨fun K => He.ga K "shortest", "shortest", "shortest", defArgs s_shortest, defBody s_shortest, defScope s_shortest, [.non], []⟩,
  ⟨fun K => He.ga K "_law_pool", "_law_pool", "_law_pool", defArgs s_law_pool, defBody s_law_pool, defScope s_law_pool, [], []⟩,
  ⟨fun K => He.ga K "_law_draw", "_law_draw", "_law_draw", defArgs s_law_draw, defBody s_law_draw, defScope s_law_draw, [], []⟩,
  ⟨fun K => He.ga K "_law_laps", "_law_laps", "_law_laps", defArgs s_law_laps, defBody s_law_laps, defScope s_law_laps, [], []⟩,
  ⟨fun K => He.ga K "_law_rows", "_law_rows", "_law_rows", defArgs s_law_rows, defBody s_law_rows, defScope s_law_rows, [], []⟩]
def fn5 : List (He5.DefA) := [
  ⟨fun K => He.ga K "_law_world", "_law_world", "_law_world", defArgs s_law_world, defBody s_law_world, defScope s_law_world, [], []⟩,
  ⟨fun K => He.ga K "_law_part", "_law_part", "_law_part", defArgs s_law_part, defBody s_law_part, defScope s_law_part, [], []⟩,
  ⟨fun K => He.ga K "_law_table", "_law_table", "_law_table", defArgs s_law_table, defBody s_law_table, defScope s_law_table, [], []⟩,
  ⟨fun K => He.ga K "_law_lift", "_law_lift", "_law_lift", defArgs s_law_lift, defBody s_law_lift, defScope s_law_lift, [], []⟩,
  ⟨fun K => He.ga K "_law_keeps", "_law_keeps", "_law_keeps", defArgs s_law_keeps, defBody s_law_keeps, defScope s_law_keeps, [], []⟩,
  ⟨fun K => He.ga K "_law_tables", "_law_tables", "_law_tables", defArgs s_law_tables, defBody s_law_tables, defScope s_law_tables, [], []⟩,
  ⟨fun K => He.ga K "_law_span", "_law_span", "_law_span", defArgs s_law_span, defBody s_law_span, defScope s_law_span, [], []⟩,
  ⟨fun K => He.ga K "_law_model", "_law_model", "_law_model", defArgs s_law_model, defBody s_law_model, defScope s_law_model, [], []⟩,
  ⟨fun K => He.ga K "_law_rules", "_law_rules", "_law_rules", defArgs s_law_rules, defBody s_law_rules, defScope s_law_rules, [], []⟩,
  ⟨fun K => He.ga K "_law_rules_of", "_law_rules_of", "_law_rules_of", defArgs s_law_rules_of, defBody s_law_rules_of, defScope s_law_rules_of, [], []⟩]
def fn6 : List (He5.DefA) := [
  ⟨fun K => He.ga K "_law_handed", "_law_handed", "_law_handed", defArgs s_law_handed, defBody s_law_handed, defScope s_law_handed, [], []⟩,
  ⟨fun K => He.ga K "_law_let", "_law_let", "_law_let", defArgs s_law_let, defBody s_law_let, defScope s_law_let, [], []⟩,
  ⟨fun K => He.ga K "_law_asked", "_law_asked", "_law_asked", defArgs s_law_asked, defBody s_law_asked, defScope s_law_asked, [], []⟩,
  ⟨fun K => He.ga K "_law_is_let", "_law_is_let", "_law_is_let", defArgs s_law_is_let, defBody s_law_is_let, defScope s_law_is_let, [], []⟩,
  ⟨fun K => He.ga K "_law_is_plan", "_law_is_plan", "_law_is_plan", defArgs s_law_is_plan, defBody s_law_is_plan, defScope s_law_is_plan, [], []⟩,
  ⟨fun K => He.ga K "_law_counts", "_law_counts", "_law_counts", defArgs s_law_counts, defBody s_law_counts, defScope s_law_counts, [], []⟩,
  ⟨fun K => He.ga K "law", "law", "law", defArgs s_law, defBody s_law, defScope s_law, [], []⟩]
def fn : List (He5.DefA) := fn0 ++ fn1 ++ fn2 ++ fn3 ++ fn4 ++ fn5 ++ fn6
/-! ### forced: the kernel reads each object once -/
section
variable {α β γ : Type}
def fNat (n : Nat) (k : Nat → β) : β := match n with
  | 0 => k 0
  | m + 1 => k (m + 1)
theorem fNat_eq (n : Nat) (k : Nat → β) : fNat n k = k n := by cases n <;> rfl
def fL (fe : α → (α → β) → β) : List α → (List α → β) → β
  | [], k => k []
  | a :: r, k => fe a fun a => fL fe r fun r => k (a :: r)
theorem fL_eq {fe : α → (α → β) → β} (h : ∀ a k, fe a k = k a) : ∀ (l : List α) (k : List α → β), fL fe l k = k l
  | [], _ => rfl
  | a :: r, k => by
    show fe a (fun a => fL fe r fun r => k (a :: r)) = _
    rw [h, fL_eq h r]
def fA (fe : α → (α → β) → β) (a : Array α) (k : Array α → β) : β := match a with
  | ⟨l⟩ => fL fe l fun l => k ⟨l⟩
theorem fA_eq {fe : α → (α → β) → β} (h : ∀ a k, fe a k = k a) (a : Array α) (k : Array α → β) : fA fe a k = k a := by
  cases a
  exact fL_eq h _ _
def fStr (x : Str) (k : Str → β) : β := match x with
  | ⟨a⟩ => fA fNat a fun a => k ⟨a⟩
theorem fStr_eq (x : Str) (k : Str → β) : fStr x k = k x := by
  obtain ⟨a⟩ := x
  exact fA_eq fNat_eq a fun a => k ⟨a⟩
def fVal (v : Value) (k : Value → β) : β := match v with
  | .str x t => fStr x fun x => k (.str x t)
  | .ref a => fNat a fun a => k (.ref a)
  | v => k v
theorem fVal_eq (v : Value) (k : Value → β) : fVal v k = k v := by
  cases v with
  | str x t => exact fStr_eq x fun x => k (.str x t)
  | ref a => exact fNat_eq a fun a => k (.ref a)
  | _ => rfl
def fEnt (e : DictEntry) (k : DictEntry → β) : β := match e with
  | ⟨h, a, b⟩ => fVal a fun a => fVal b fun b => k ⟨h, a, b⟩
theorem fEnt_eq (e : DictEntry) (k : DictEntry → β) : fEnt e k = k e := by
  obtain ⟨h, a, b⟩ := e
  show fVal a (fun a => fVal b fun b => k ⟨h, a, b⟩) = _
  rw [fVal_eq, fVal_eq]
def fData (d : Data) (k : Data → β) : β := match d with
  | .dict es n => fA fEnt es fun es => k (.dict es n)
  | .seq its n => fA fVal its fun its => k (.seq its n)
  | .fields vs => fA fVal vs fun vs => k (.fields vs)
  | .cls ⟨a1, a2, m, ns, a5, a6, a7, a8, a9, a10, a11⟩ => fL fVal m fun m => fNat ns fun ns => k (.cls ⟨a1, a2, m, ns, a5, a6, a7, a8, a9, a10, a11⟩)
  | .func ⟨a1, a2, a3, a4, a5, g, a7, df, a9, a10, a11, a12, c, a14, b⟩ => fNat g fun g => fVal df fun df => fVal c fun c => fNat b fun b => k (.func ⟨a1, a2, a3, a4, a5, g, a7, df, a9, a10, a11, a12, c, a14, b⟩)
  | d => k d
theorem fData_eq (d : Data) (k : Data → β) : fData d k = k d := by
  cases d with
  | dict es n => exact fA_eq fEnt_eq es fun es => k (.dict es n)
  | seq its n => exact fA_eq fVal_eq its fun its => k (.seq its n)
  | fields vs => exact fA_eq fVal_eq vs fun vs => k (.fields vs)
  | cls cd =>
    obtain ⟨a1, a2, m, ns, a5, a6, a7, a8, a9, a10, a11⟩ := cd
    show fL fVal m (fun m => fNat ns fun ns => k (.cls ⟨a1, a2, m, ns, a5, a6, a7, a8, a9, a10, a11⟩)) = _
    rw [fL_eq fVal_eq, fNat_eq]
  | func fd =>
    obtain ⟨a1, a2, a3, a4, a5, g, a7, df, a9, a10, a11, a12, c, a14, b⟩ := fd
    show fNat g (fun g => fVal df fun df => fVal c fun c => fNat b fun b => k (.func ⟨a1, a2, a3, a4, a5, g, a7, df, a9, a10, a11, a12, c, a14, b⟩)) = _
    rw [fNat_eq, fVal_eq, fVal_eq, fNat_eq]
  | _ => rfl
def fObj (o : Obj) (k : Obj → β) : β := match o with
  | ⟨c, d, dt, sl⟩ => fVal c fun c => fData dt fun dt => k ⟨c, d, dt, sl⟩
theorem fObj_eq (o : Obj) (k : Obj → β) : fObj o k = k o := by
  obtain ⟨c, d, dt, sl⟩ := o
  show fVal c (fun c => fData dt fun dt => k ⟨c, d, dt, sl⟩) = _
  rw [fVal_eq, fData_eq]
def fPair (p : Addr × Obj) (k : Addr × Obj → β) : β := match p with
  | (a, o) => fNat a fun a => fObj o fun o => k (a, o)
theorem fPair_eq (p : Addr × Obj) (k : Addr × Obj → β) : fPair p k = k p := by
  obtain ⟨a, o⟩ := p
  show fNat a (fun a => fObj o fun o => k (a, o)) = _
  rw [fNat_eq, fObj_eq]
end
/-- what an object names that the proofs ask for; modules, code objects and tuples are not entered -/
def refsJ (o : Obj) : List Addr := match o.data with
  | .dict es _ => es.toList.flatMap fun e => He.refV e.val
  | .func fd => He.refV fd.code ++ He.refV fd.defaults
  | .cls cd => [cd.ns]
  | .fields vs => (match o.cls with
    | .type "property" => vs.toList.flatMap He.refV
    | _ => [])
  | _ => []
def lev (g : Addr → Option Obj) (as : List Addr) : List Addr := as.flatMap fun a => match g a with
  | some o => refsJ o
  | none => []
/-- so many levels from as, forced -/
def levs {β : Type} (g : Addr → Option Obj) : Nat → List Addr → List Addr → (List Addr → β) → β
  | 0, acc, _, k => k acc
  | n + 1, acc, as, k => fL fNat (lev g as) fun bs => levs g n (acc ++ bs) bs k
def levL (g : Addr → Option Obj) : Nat → List Addr → List Addr → List Addr
  | 0, acc, _ => acc
  | n + 1, acc, as => levL g n (acc ++ lev g as) (lev g as)
theorem levs_eq {β : Type} (g : Addr → Option Obj) : ∀ (n : Nat) (acc as : List Addr) (k : List Addr → β), levs g n acc as k = k (levL g n acc as)
  | 0, _, _, _ => rfl
  | n + 1, acc, as, k => by
    show fL fNat (lev g as) (fun bs => levs g n (acc ++ bs) bs k) = _
    rw [fL_eq fNat_eq, levs_eq g n]
    rfl
abbrev asJ (g : Addr → Option Obj) : List Addr := levL g 5 [mainGlobals] [mainGlobals]
def withK {β : Type} (g : Addr → Option Obj) (k : PySem.W.Frag → β) : β := levs g 5 [mainGlobals] [mainGlobals] fun as => fL fPair (He.frT g as) k
theorem withK_eq {β : Type} (g : Addr → Option Obj) (k : PySem.W.Frag → β) : withK g k = k (He.frT g (asJ g)) := by
  unfold withK
  rw [levs_eq, fL_eq fPair_eq]
/-! ### the Hook -/
abbrev lamAt : He.Defn := ("CutSearch", some "__init__")
abbrev Xb : Type := List (PySem.W.Frag → Bool)
structure SaysG (fa : List He.Fa) (fn : List He5.DefA) (xb : Xb) (h : Heap) (K : PySem.W.Frag) : Prop where
  t : He5.SaysA fa fn K
  more : (xb.all fun f => f K) = true
  hd : PySem.W.codeHdIn K (He.cT K lamAt).1 (He.cT K lamAt).2 = true
  out : K.lookup (He.cT K lamAt).2 = none
  empty : h.get? (He.cT K lamAt).2 = some { cls := .none, data := .fields #[] }
abbrev AlJ : Type := He.AlD × Bool
def obsG (fa : List He.Fa) (fn : List He5.DefA) (xb : Xb) (g : Addr → Option Obj) : AlJ := withK g fun K => (He5.obsA fa fn K, (xb.all fun f => f K) && He.tabsB g [lamAt] K)
def valG (fn : List He5.DefA) : AlJ := (He5.valA fn, true)
theorem saysG_of {fa : List He.Fa} {fn : List He5.DefA} {xb : Xb} {h : Heap} (e : obsG fa fn xb h.get? = valG fn) : SaysG fa fn xb h (He.frT h.get? (asJ h.get?)) := by
  unfold obsG at e
  rw [withK_eq] at e
  have e1 : He5.obsA fa fn (He.frT h.get? (asJ h.get?)) = He5.valA fn := congrArg (fun z : AlJ => z.1) e
  have e2 : ((xb.all fun f => f (He.frT h.get? (asJ h.get?))) && He.tabsB h.get? [lamAt] (He.frT h.get? (asJ h.get?))) = true := congrArg (fun z : AlJ => z.2) e
  obtain ⟨h1, h2⟩ := He.ba e2
  obtain ⟨h3, h4⟩ := He.ba (List.all_eq_true.mp h2 lamAt List.mem_cons_self)
  cases q : h.get? (He.cT (He.frT h.get? (asJ h.get?)) lamAt).2 with
  | none =>
    rw [q] at h4
    cases h4
  | some o =>
    rw [q] at h4
    have h5 : He.emptyTab o = true := h4
    exact ⟨e1, h1, h3, He.frT_none q h5, by rw [q, He.emptyTab_eq h5]⟩
def hookG (fa : List He.Fa) (fn : List He5.DefA) (xb : Xb) : PySem.W.Hook where
  α := AlJ
  obs := fun s => obsG fa fn xb s.heap.get?
  val := fun _ => valG fn
  says := fun _ h => ∃ K : PySem.W.Frag, K.In h ∧ SaysG fa fn xb h K
  of := fun _ _ e => ⟨_, He.frT_in, saysG_of e⟩
  keeps := fun _ _ _ ⟨K, hK, c⟩ k => ⟨K, PySem.W.Frag.In.keeps hK k, ⟨c.t, c.more, c.hd, c.out, k _ _ c.empty⟩⟩
theorem obG_eq {fa : List He.Fa} {fn : List He5.DefA} {xb : Xb} (s : PySem.W.SharedT) : obsG fa fn xb (HandSHeadRun.getT s) = (hookG fa fn xb).obs s.abs := by
  have e : HandSHeadRun.getT s = s.abs.heap.get? := funext (HandSHeadRun.getT_eq s)
  show obsG fa fn xb (HandSHeadRun.getT s) = obsG fa fn xb s.abs.heap.get?
  rw [e]
theorem SaysG.x {fa : List He.Fa} {fn : List He5.DefA} {xb : Xb} {h : Heap} {K : PySem.W.Frag} (c : SaysG fa fn xb h K) (i : Nat) {f : PySem.W.Frag → Bool} (e : xb[i]? = some f := by rfl) : f K = true := List.all_eq_true.mp c.more f (List.mem_of_getElem? e)
abbrev Says (h : Heap) (K : PySem.W.Frag) : Prop := SaysG fa fn xb h K
abbrev hookJ : PySem.W.Hook := hookG fa fn xb
def ob (s : PySem.W.SharedT) : AlJ := obsG fa fn xb (HandSHeadRun.getT s)
theorem ob_eq (s : PySem.W.SharedT) : ob s = hookJ.obs s.abs := obG_eq s
abbrev FnD (K : PySem.W.Frag) (x qual : Str) (st : Stmt) (dvs : List V) (f : Addr) (fd : FuncData) : Prop := FunD K x qual (defArgs st) (defBody st) (defScope st) dvs [] f fd
/-- all that the proofs ask of the text -/
structure Txt (K : PySem.W.Frag) (mg : Str → Option Value) : Prop where
  g_is_integer : mg "is_integer" = some (.ref (He.ga K "is_integer"))
  g_is_row : mg "is_row" = some (.ref (He.ga K "is_row"))
  g_is_place : mg "is_place" = some (.ref (He.ga K "is_place"))
  g_check_round : mg "check_round" = some (.ref (He.ga K "check_round"))
  g_is_pair : mg "is_pair" = some (.ref (He.ga K "is_pair"))
  g_checked_rows : mg "checked_rows" = some (.ref (He.ga K "checked_rows"))
  g_rows_turned : mg "rows_turned" = some (.ref (He.ga K "rows_turned"))
  g_least_period : mg "least_period" = some (.ref (He.ga K "least_period"))
  g_is_word : mg "is_word" = some (.ref (He.ga K "is_word"))
  g_check_even : mg "check_even" = some (.ref (He.ga K "check_even"))
  g_is_deed : mg "is_deed" = some (.ref (He.ga K "is_deed"))
  g_is_name : mg "is_name" = some (.ref (He.ga K "is_name"))
  g_is_rule : mg "is_rule" = some (.ref (He.ga K "is_rule"))
  g_checked_rules : mg "checked_rules" = some (.ref (He.ga K "checked_rules"))
  g_check_let : mg "check_let" = some (.ref (He.ga K "check_let"))
  g_steps_by_state : mg "steps_by_state" = some (.ref (He.ga K "steps_by_state"))
  g_first_steps : mg "first_steps" = some (.ref (He.ga K "first_steps"))
  g_stands_of : mg "stands_of" = some (.ref (He.ga K "stands_of"))
  g_is_closed : mg "is_closed" = some (.ref (He.ga K "is_closed"))
  g_stand_behind : mg "stand_behind" = some (.ref (He.ga K "stand_behind"))
  g_stand_moves : mg "stand_moves" = some (.ref (He.ga K "stand_moves"))
  g_explored : mg "explored" = some (.ref (He.ga K "explored"))
  g_distances : mg "distances" = some (.ref (He.ga K "distances"))
  g_least_count : mg "least_count" = some (.ref (He.ga K "least_count"))
  g_least_walk : mg "least_walk" = some (.ref (He.ga K "least_walk"))
  g_least_length : mg "least_length" = some (.ref (He.ga K "least_length"))
  g_shortest : mg "shortest" = some (.ref (He.ga K "shortest"))
  g_law_pool : mg "_law_pool" = some (.ref (He.ga K "_law_pool"))
  g_law_draw : mg "_law_draw" = some (.ref (He.ga K "_law_draw"))
  g_law_laps : mg "_law_laps" = some (.ref (He.ga K "_law_laps"))
  g_law_rows : mg "_law_rows" = some (.ref (He.ga K "_law_rows"))
  g_law_world : mg "_law_world" = some (.ref (He.ga K "_law_world"))
  g_law_part : mg "_law_part" = some (.ref (He.ga K "_law_part"))
  g_law_table : mg "_law_table" = some (.ref (He.ga K "_law_table"))
  g_law_lift : mg "_law_lift" = some (.ref (He.ga K "_law_lift"))
  g_law_keeps : mg "_law_keeps" = some (.ref (He.ga K "_law_keeps"))
  g_law_tables : mg "_law_tables" = some (.ref (He.ga K "_law_tables"))
  g_law_span : mg "_law_span" = some (.ref (He.ga K "_law_span"))
  g_law_model : mg "_law_model" = some (.ref (He.ga K "_law_model"))
  g_law_rules : mg "_law_rules" = some (.ref (He.ga K "_law_rules"))
  g_law_rules_of : mg "_law_rules_of" = some (.ref (He.ga K "_law_rules_of"))
  g_law_handed : mg "_law_handed" = some (.ref (He.ga K "_law_handed"))
  g_law_let : mg "_law_let" = some (.ref (He.ga K "_law_let"))
  g_law_asked : mg "_law_asked" = some (.ref (He.ga K "_law_asked"))
  g_law_is_let : mg "_law_is_let" = some (.ref (He.ga K "_law_is_let"))
  g_law_is_plan : mg "_law_is_plan" = some (.ref (He.ga K "_law_is_plan"))
  g_law_counts : mg "_law_counts" = some (.ref (He.ga K "_law_counts"))
  g_law : mg "law" = some (.ref (He.ga K "law"))
  g_Turning : mg "Turning" = some (.ref (cA K "Turning"))
  g_Part : mg "Part" = some (.ref (cA K "Part"))
  g_Plan : mg "Plan" = some (.ref (cA K "Plan"))
  g_Let : mg "Let" = some (.ref (cA K "Let"))
  g_Board : mg "Board" = some (.ref (cA K "Board"))
  g_CutSearch : mg "CutSearch" = some (.ref (cA K "CutSearch"))
  g_TooMany : mg "TooMany" = some (.ref (cA K "TooMany"))
  g_NoPlan : mg "NoPlan" = some (.ref (cA K "NoPlan"))
  g_JawError : mg "JawError" = some (.ref (cA K "JawError"))
  g_WORDS : mg "WORDS" = some (.ref (cA K "WORDS"))
  b_all : mg "all" = none
  b_any : mg "any" = none
  b_dict : mg "dict" = none
  b_divmod : mg "divmod" = none
  b_enumerate : mg "enumerate" = none
  b_int : mg "int" = none
  b_isinstance : mg "isinstance" = none
  b_len : mg "len" = none
  b_list : mg "list" = none
  b_max : mg "max" = none
  b_min : mg "min" = none
  b_range : mg "range" = none
  b_set : mg "set" = none
  b_sorted : mg "sorted" = none
  b_str : mg "str" = none
  b_tuple : mg "tuple" = none
  b_bool : mg "bool" = none
  i_MOST_ROUND : ∃ t, mg "MOST_ROUND" = some (.int 360 t)
  i_MOST_ROWS : ∃ t, mg "MOST_ROWS" = some (.int 12 t)
  i_MOST_DEEDS_plans : ∃ t, mg "MOST_DEEDS_plans" = some (.int 400 t)
  i_MOST_STATES : ∃ t, mg "MOST_STATES" = some (.int 5 t)
  i_MOST_RULES : ∃ t, mg "MOST_RULES" = some (.int 40 t)
  i_MOST_DEEDS_walks : ∃ t, mg "MOST_DEEDS_walks" = some (.int 400 t)
  i_START : ∃ t, mg "START" = some (.str "start" t)
  i_LETTERS : ∃ t, mg "LETTERS" = some (.str "abcdefghijklmnopqrstuvwxyz" t)
  c_Turning : Cls K (cA K "Turning")
  k_Turning : Mk K (cA K "Turning") (mA K "Turning" "__init__")
  n_Turning_around : NoAttr K (cA K "Turning") "around"
  n_Turning_rows : NoAttr K (cA K "Turning") "rows"
  n_Turning_period : NoAttr K (cA K "Turning") "_period"
  c_Part : Cls K (cA K "Part")
  k_Part : Mk K (cA K "Part") (mA K "Part" "__init__")
  n_Part_around : NoAttr K (cA K "Part") "around"
  n_Part_shown : NoAttr K (cA K "Part") "_shown"
  n_Part_turnings : NoAttr K (cA K "Part") "_turnings"
  c_Plan : Cls K (cA K "Plan")
  k_Plan : Mk K (cA K "Plan") (mA K "Plan" "__init__")
  n_Plan_around : NoAttr K (cA K "Plan") "around"
  n_Plan_deeds : NoAttr K (cA K "Plan") "deeds"
  c_Let : Cls K (cA K "Let")
  k_Let : Mk K (cA K "Let") (mA K "Let" "__init__")
  n_Let_around : NoAttr K (cA K "Let") "around"
  n_Let_table : NoAttr K (cA K "Let") "_table"
  c_Board : Cls K (cA K "Board")
  k_Board : Mk K (cA K "Board") (mA K "Board" "__init__")
  n_Board_source : NoAttr K (cA K "Board") "source"
  n_Board_span : NoAttr K (cA K "Board") "span"
  n_Board_spots : NoAttr K (cA K "Board") "spots"
  n_Board_slots : NoAttr K (cA K "Board") "slots"
  n_Board_found : NoAttr K (cA K "Board") "found"
  c_CutSearch : Cls K (cA K "CutSearch")
  k_CutSearch : Mk K (cA K "CutSearch") (mA K "CutSearch" "__init__")
  n_CutSearch_start : NoAttr K (cA K "CutSearch") "start"
  n_CutSearch_table : NoAttr K (cA K "CutSearch") "table"
  n_CutSearch_far : NoAttr K (cA K "CutSearch") "far"
  m_Turning_rests : Meth K (cA K "Turning") "rests" (mA K "Turning" "rests")
  m_Turning_lifted : Meth K (cA K "Turning") "lifted" (mA K "Turning" "lifted")
  m_Turning_is_even : Meth K (cA K "Turning") "is_even" (mA K "Turning" "is_even")
  m_Part_getitem : Meth K (cA K "Part") "__getitem__" (mA K "Part" "__getitem__")
  m_Part_rests : Meth K (cA K "Part") "rests" (mA K "Part" "rests")
  m_Let_rules : Meth K (cA K "Let") "rules" (mA K "Let" "rules")
  m_Board_carried : Meth K (cA K "Board") "carried" (mA K "Board" "carried")
  n_TooMany_limit : NoAttr K (cA K "TooMany") "limit"
  p_Turning_period : PropOf K (cA K "Turning") "period" (mA K "Turning" "period") (gA K "Turning" "period")
  p_Part_words : PropOf K (cA K "Part") "words" (mA K "Part" "words") (gA K "Part" "words")
  p_Part_period : PropOf K (cA K "Part") "period" (mA K "Part" "period") (gA K "Part" "period")
  p_Let_states : PropOf K (cA K "Let") "states" (mA K "Let" "states") (gA K "Let" "states")
  p_Let_words : PropOf K (cA K "Let") "words" (mA K "Let" "words") (gA K "Let" "words")
  f_getitem : PySem.W.fnIn K (mA K "Part" "__getitem__") = true
  t_WORDS : ∀ H : Hp, SqT K H (cA K "WORDS") [.str "push", .str "squeeze"]
  g_lcm : mg "lcm" = some (.builtin "math.lcm")
  o_Plan : insB K (cA K "Plan") = true
  x_TooMany : OexC K (cA K "TooMany")
  xi_TooMany : PySem.W.findIn K (.ref (cA K "TooMany")) "__init__" = some (some (.ref (mA K "TooMany" "__init__")))
  xt_TooMany : PySem.W.typeIn K (.ref (mA K "TooMany" "__init__")) = some (.type "function")
  xc_NoPlan : PySem.W.excIn K (cA K "NoPlan") He.veBase "ValueError.__new__" = true
  xk_NoPlan : PySem.W.keepIn K (.ref (cA K "NoPlan")) = true
  xs_NoPlan : PySem.W.subIn K (.ref (cA K "NoPlan")) (.type "BaseException") = some true
  xy_NoPlan : PySem.W.typeIn K (.ref (cA K "NoPlan")) = some (.type "type")
  xe_NoPlan : ExcC K (cA K "NoPlan")
  xm_NoPlan_NoPlan : PySem.W.exmOne K (.ref (cA K "NoPlan")) (.ref (cA K "NoPlan")) = some true
  xm_NoPlan_TooMany : PySem.W.exmOne K (.ref (cA K "NoPlan")) (.ref (cA K "TooMany")) = some false
  xe_TooMany : ExcC K (cA K "TooMany")
  xm_TooMany_NoPlan : PySem.W.exmOne K (.ref (cA K "TooMany")) (.ref (cA K "NoPlan")) = some false
  xm_TooMany_TooMany : PySem.W.exmOne K (.ref (cA K "TooMany")) (.ref (cA K "TooMany")) = some true
  xj_NoPlan : PySem.W.kitOne K (.ref (cA K "NoPlan")) (.ref (cA K "JawError")) = some true
  d_TooMany_init : ∃ fd, FnD K "__init__" "TooMany.__init__" s_TooMany_init [] (mA K "TooMany" "__init__") fd
  d_is_integer : ∃ fd, FnD K "is_integer" "is_integer" s_is_integer [] (He.ga K "is_integer") fd
  d_is_row : ∃ fd, FnD K "is_row" "is_row" s_is_row [] (He.ga K "is_row") fd
  d_is_place : ∃ fd, FnD K "is_place" "is_place" s_is_place [] (He.ga K "is_place") fd
  d_check_round : ∃ fd, FnD K "check_round" "check_round" s_check_round [] (He.ga K "check_round") fd
  d_is_pair : ∃ fd, FnD K "is_pair" "is_pair" s_is_pair [] (He.ga K "is_pair") fd
  d_checked_rows : ∃ fd, FnD K "checked_rows" "checked_rows" s_checked_rows [] (He.ga K "checked_rows") fd
  d_rows_turned : ∃ fd, FnD K "rows_turned" "rows_turned" s_rows_turned [] (He.ga K "rows_turned") fd
  d_least_period : ∃ fd, FnD K "least_period" "least_period" s_least_period [] (He.ga K "least_period") fd
  d_Turning_init : ∃ fd, FnD K "__init__" "Turning.__init__" s_Turning_init [] (mA K "Turning" "__init__") fd
  d_Turning_period : ∃ fd, FnD K "period" "Turning.period" s_Turning_period [] (gA K "Turning" "period") fd
  d_Turning_rests : ∃ fd, FnD K "rests" "Turning.rests" s_Turning_rests [] (mA K "Turning" "rests") fd
  d_Turning_lifted : ∃ fd, FnD K "lifted" "Turning.lifted" s_Turning_lifted [] (mA K "Turning" "lifted") fd
  d_Turning_is_even : ∃ fd, FnD K "is_even" "Turning.is_even" s_Turning_is_even [] (mA K "Turning" "is_even") fd
  d_is_word : ∃ fd, FnD K "is_word" "is_word" s_is_word [] (He.ga K "is_word") fd
  d_check_even : ∃ fd, FnD K "check_even" "check_even" s_check_even [] (He.ga K "check_even") fd
  d_Part_init : ∃ fd, FnD K "__init__" "Part.__init__" s_Part_init [V.non, V.non, V.non] (mA K "Part" "__init__") fd
  d_Part_words : ∃ fd, FnD K "words" "Part.words" s_Part_words [] (gA K "Part" "words") fd
  d_Part_period : ∃ fd, FnD K "period" "Part.period" s_Part_period [] (gA K "Part" "period") fd
  d_Part_getitem : ∃ fd, FnD K "__getitem__" "Part.__getitem__" s_Part_getitem [] (mA K "Part" "__getitem__") fd
  d_Part_rests : ∃ fd, FnD K "rests" "Part.rests" s_Part_rests [] (mA K "Part" "rests") fd
  d_is_deed : ∃ fd, FnD K "is_deed" "is_deed" s_is_deed [] (He.ga K "is_deed") fd
  d_Plan_init : ∃ fd, FnD K "__init__" "Plan.__init__" s_Plan_init [] (mA K "Plan" "__init__") fd
  d_is_name : ∃ fd, FnD K "is_name" "is_name" s_is_name [] (He.ga K "is_name") fd
  d_is_rule : ∃ fd, FnD K "is_rule" "is_rule" s_is_rule [] (He.ga K "is_rule") fd
  d_checked_rules : ∃ fd, FnD K "checked_rules" "checked_rules" s_checked_rules [] (He.ga K "checked_rules") fd
  d_Let_init : ∃ fd, FnD K "__init__" "Let.__init__" s_Let_init [] (mA K "Let" "__init__") fd
  d_Let_states : ∃ fd, FnD K "states" "Let.states" s_Let_states [] (gA K "Let" "states") fd
  d_Let_words : ∃ fd, FnD K "words" "Let.words" s_Let_words [] (gA K "Let" "words") fd
  d_Let_rules : ∃ fd, FnD K "rules" "Let.rules" s_Let_rules [] (mA K "Let" "rules") fd
  d_check_let : ∃ fd, FnD K "check_let" "check_let" s_check_let [] (He.ga K "check_let") fd
  d_Board_init : ∃ fd, FnD K "__init__" "Board.__init__" s_Board_init [] (mA K "Board" "__init__") fd
  d_Board_carried : ∃ fd, FnD K "carried" "Board.carried" s_Board_carried [] (mA K "Board" "carried") fd
  d_steps_by_state : ∃ fd, FnD K "steps_by_state" "steps_by_state" s_steps_by_state [] (He.ga K "steps_by_state") fd
  d_first_steps : ∃ fd, FnD K "first_steps" "first_steps" s_first_steps [] (He.ga K "first_steps") fd
  d_stands_of : ∃ fd, FnD K "stands_of" "stands_of" s_stands_of [] (He.ga K "stands_of") fd
  d_is_closed : ∃ fd, FnD K "is_closed" "is_closed" s_is_closed [] (He.ga K "is_closed") fd
  d_stand_behind : ∃ fd, FnD K "stand_behind" "stand_behind" s_stand_behind [] (He.ga K "stand_behind") fd
  d_stand_moves : ∃ fd, FnD K "stand_moves" "stand_moves" s_stand_moves [] (He.ga K "stand_moves") fd
  d_explored : ∃ fd, FnD K "explored" "explored" s_explored [V.non] (He.ga K "explored") fd
  d_distances : ∃ fd, FnD K "distances" "distances" s_distances [] (He.ga K "distances") fd
  d_least_count : ∃ fd, FnD K "least_count" "least_count" s_least_count [] (He.ga K "least_count") fd
  d_least_walk : ∃ fd, FnD K "least_walk" "least_walk" s_least_walk [] (He.ga K "least_walk") fd
  d_CutSearch_init : ∃ fd, FnD K "__init__" "CutSearch.__init__" s_CutSearch_init [] (mA K "CutSearch" "__init__") fd
  d_least_length : ∃ fd, FnD K "least_length" "least_length" s_least_length [V.non] (He.ga K "least_length") fd
  d_shortest : ∃ fd, FnD K "shortest" "shortest" s_shortest [V.non] (He.ga K "shortest") fd
  d_law_pool : ∃ fd, FnD K "_law_pool" "_law_pool" s_law_pool [] (He.ga K "_law_pool") fd
  d_law_draw : ∃ fd, FnD K "_law_draw" "_law_draw" s_law_draw [] (He.ga K "_law_draw") fd
  d_law_laps : ∃ fd, FnD K "_law_laps" "_law_laps" s_law_laps [] (He.ga K "_law_laps") fd
  d_law_rows : ∃ fd, FnD K "_law_rows" "_law_rows" s_law_rows [] (He.ga K "_law_rows") fd
  d_law_world : ∃ fd, FnD K "_law_world" "_law_world" s_law_world [] (He.ga K "_law_world") fd
  d_law_part : ∃ fd, FnD K "_law_part" "_law_part" s_law_part [] (He.ga K "_law_part") fd
  d_law_table : ∃ fd, FnD K "_law_table" "_law_table" s_law_table [] (He.ga K "_law_table") fd
  d_law_lift : ∃ fd, FnD K "_law_lift" "_law_lift" s_law_lift [] (He.ga K "_law_lift") fd
  d_law_keeps : ∃ fd, FnD K "_law_keeps" "_law_keeps" s_law_keeps [] (He.ga K "_law_keeps") fd
  d_law_tables : ∃ fd, FnD K "_law_tables" "_law_tables" s_law_tables [] (He.ga K "_law_tables") fd
  d_law_span : ∃ fd, FnD K "_law_span" "_law_span" s_law_span [] (He.ga K "_law_span") fd
  d_law_model : ∃ fd, FnD K "_law_model" "_law_model" s_law_model [] (He.ga K "_law_model") fd
  d_law_rules : ∃ fd, FnD K "_law_rules" "_law_rules" s_law_rules [] (He.ga K "_law_rules") fd
  d_law_rules_of : ∃ fd, FnD K "_law_rules_of" "_law_rules_of" s_law_rules_of [] (He.ga K "_law_rules_of") fd
  d_law_handed : ∃ fd, FnD K "_law_handed" "_law_handed" s_law_handed [] (He.ga K "_law_handed") fd
  d_law_let : ∃ fd, FnD K "_law_let" "_law_let" s_law_let [] (He.ga K "_law_let") fd
  d_law_asked : ∃ fd, FnD K "_law_asked" "_law_asked" s_law_asked [] (He.ga K "_law_asked") fd
  d_law_is_let : ∃ fd, FnD K "_law_is_let" "_law_is_let" s_law_is_let [] (He.ga K "_law_is_let") fd
  d_law_is_plan : ∃ fd, FnD K "_law_is_plan" "_law_is_plan" s_law_is_plan [] (He.ga K "_law_is_plan") fd
  d_law_counts : ∃ fd, FnD K "_law_counts" "_law_counts" s_law_counts [] (He.ga K "_law_counts") fd
  d_law : ∃ fd, FnD K "law" "law" s_law [] (He.ga K "law") fd
theorem txt_of {h : Heap} {K : PySem.W.Frag} {mg : Str → Option Value} (X : K.In h) (G : h.Ns mainGlobals mg) (c : Says h K) : Txt K mg where
  g_is_integer := He.glo_ok X G (c.t.fact 0 (f := .glo "is_integer"))
  g_is_row := He.glo_ok X G (c.t.fact 1 (f := .glo "is_row"))
  g_is_place := He.glo_ok X G (c.t.fact 2 (f := .glo "is_place"))
  g_check_round := He.glo_ok X G (c.t.fact 3 (f := .glo "check_round"))
  g_is_pair := He.glo_ok X G (c.t.fact 4 (f := .glo "is_pair"))
  g_checked_rows := He.glo_ok X G (c.t.fact 5 (f := .glo "checked_rows"))
  g_rows_turned := He.glo_ok X G (c.t.fact 6 (f := .glo "rows_turned"))
  g_least_period := He.glo_ok X G (c.t.fact 7 (f := .glo "least_period"))
  g_is_word := He.glo_ok X G (c.t.fact 8 (f := .glo "is_word"))
  g_check_even := He.glo_ok X G (c.t.fact 9 (f := .glo "check_even"))
  g_is_deed := He.glo_ok X G (c.t.fact 10 (f := .glo "is_deed"))
  g_is_name := He.glo_ok X G (c.t.fact 11 (f := .glo "is_name"))
  g_is_rule := He.glo_ok X G (c.t.fact 12 (f := .glo "is_rule"))
  g_checked_rules := He.glo_ok X G (c.t.fact 13 (f := .glo "checked_rules"))
  g_check_let := He.glo_ok X G (c.t.fact 14 (f := .glo "check_let"))
  g_steps_by_state := He.glo_ok X G (c.t.fact 15 (f := .glo "steps_by_state"))
  g_first_steps := He.glo_ok X G (c.t.fact 16 (f := .glo "first_steps"))
  g_stands_of := He.glo_ok X G (c.t.fact 17 (f := .glo "stands_of"))
  g_is_closed := He.glo_ok X G (c.t.fact 18 (f := .glo "is_closed"))
  g_stand_behind := He.glo_ok X G (c.t.fact 19 (f := .glo "stand_behind"))
  g_stand_moves := He.glo_ok X G (c.t.fact 20 (f := .glo "stand_moves"))
  g_explored := He.glo_ok X G (c.t.fact 21 (f := .glo "explored"))
  g_distances := He.glo_ok X G (c.t.fact 22 (f := .glo "distances"))
  g_least_count := He.glo_ok X G (c.t.fact 23 (f := .glo "least_count"))
  g_least_walk := He.glo_ok X G (c.t.fact 24 (f := .glo "least_walk"))
  g_least_length := He.glo_ok X G (c.t.fact 25 (f := .glo "least_length"))
  g_shortest := He.glo_ok X G (c.t.fact 26 (f := .glo "shortest"))
  g_law_pool := He.glo_ok X G (c.t.fact 27 (f := .glo "_law_pool"))
  g_law_draw := He.glo_ok X G (c.t.fact 28 (f := .glo "_law_draw"))
  g_law_laps := He.glo_ok X G (c.t.fact 29 (f := .glo "_law_laps"))
  g_law_rows := He.glo_ok X G (c.t.fact 30 (f := .glo "_law_rows"))
  g_law_world := He.glo_ok X G (c.t.fact 31 (f := .glo "_law_world"))
  g_law_part := He.glo_ok X G (c.t.fact 32 (f := .glo "_law_part"))
  g_law_table := He.glo_ok X G (c.t.fact 33 (f := .glo "_law_table"))
  g_law_lift := He.glo_ok X G (c.t.fact 34 (f := .glo "_law_lift"))
  g_law_keeps := He.glo_ok X G (c.t.fact 35 (f := .glo "_law_keeps"))
  g_law_tables := He.glo_ok X G (c.t.fact 36 (f := .glo "_law_tables"))
  g_law_span := He.glo_ok X G (c.t.fact 37 (f := .glo "_law_span"))
  g_law_model := He.glo_ok X G (c.t.fact 38 (f := .glo "_law_model"))
  g_law_rules := He.glo_ok X G (c.t.fact 39 (f := .glo "_law_rules"))
  g_law_rules_of := He.glo_ok X G (c.t.fact 40 (f := .glo "_law_rules_of"))
  g_law_handed := He.glo_ok X G (c.t.fact 41 (f := .glo "_law_handed"))
  g_law_let := He.glo_ok X G (c.t.fact 42 (f := .glo "_law_let"))
  g_law_asked := He.glo_ok X G (c.t.fact 43 (f := .glo "_law_asked"))
  g_law_is_let := He.glo_ok X G (c.t.fact 44 (f := .glo "_law_is_let"))
  g_law_is_plan := He.glo_ok X G (c.t.fact 45 (f := .glo "_law_is_plan"))
  g_law_counts := He.glo_ok X G (c.t.fact 46 (f := .glo "_law_counts"))
  g_law := He.glo_ok X G (c.t.fact 47 (f := .glo "law"))
  g_Turning := He.glo_ok X G (c.t.fact 48 (f := .glo "Turning"))
  g_Part := He.glo_ok X G (c.t.fact 49 (f := .glo "Part"))
  g_Plan := He.glo_ok X G (c.t.fact 50 (f := .glo "Plan"))
  g_Let := He.glo_ok X G (c.t.fact 51 (f := .glo "Let"))
  g_Board := He.glo_ok X G (c.t.fact 52 (f := .glo "Board"))
  g_CutSearch := He.glo_ok X G (c.t.fact 53 (f := .glo "CutSearch"))
  g_TooMany := He.glo_ok X G (c.t.fact 54 (f := .glo "TooMany"))
  g_NoPlan := He.glo_ok X G (c.t.fact 55 (f := .glo "NoPlan"))
  g_JawError := He.glo_ok X G (c.t.fact 56 (f := .glo "JawError"))
  g_WORDS := He.glo_ok X G (c.t.fact 57 (f := .glo "WORDS"))
  b_all := He.free_ok X G (c.t.fact 58 (f := .free "all"))
  b_any := He.free_ok X G (c.t.fact 59 (f := .free "any"))
  b_dict := He.free_ok X G (c.t.fact 60 (f := .free "dict"))
  b_divmod := He.free_ok X G (c.t.fact 61 (f := .free "divmod"))
  b_enumerate := He.free_ok X G (c.t.fact 62 (f := .free "enumerate"))
  b_int := He.free_ok X G (c.t.fact 63 (f := .free "int"))
  b_isinstance := He.free_ok X G (c.t.fact 64 (f := .free "isinstance"))
  b_len := He.free_ok X G (c.t.fact 65 (f := .free "len"))
  b_list := He.free_ok X G (c.t.fact 66 (f := .free "list"))
  b_max := He.free_ok X G (c.t.fact 67 (f := .free "max"))
  b_min := He.free_ok X G (c.t.fact 68 (f := .free "min"))
  b_range := He.free_ok X G (c.t.fact 69 (f := .free "range"))
  b_set := He.free_ok X G (c.t.fact 70 (f := .free "set"))
  b_sorted := He.free_ok X G (c.t.fact 71 (f := .free "sorted"))
  b_str := He.free_ok X G (c.t.fact 72 (f := .free "str"))
  b_tuple := He.free_ok X G (c.t.fact 73 (f := .free "tuple"))
  b_bool := He.free_ok X G (c.t.fact 74 (f := .free "bool"))
  i_MOST_ROUND := He.int_ok X G (c.t.fact 75 (f := .int "MOST_ROUND" 360))
  i_MOST_ROWS := He.int_ok X G (c.t.fact 76 (f := .int "MOST_ROWS" 12))
  i_MOST_DEEDS_plans := He.int_ok X G (c.t.fact 77 (f := .int "MOST_DEEDS_plans" 400))
  i_MOST_STATES := He.int_ok X G (c.t.fact 78 (f := .int "MOST_STATES" 5))
  i_MOST_RULES := He.int_ok X G (c.t.fact 79 (f := .int "MOST_RULES" 40))
  i_MOST_DEEDS_walks := He.int_ok X G (c.t.fact 80 (f := .int "MOST_DEEDS_walks" 400))
  i_START := He.str_ok X G (c.t.fact 81 (f := .str "START" "start"))
  i_LETTERS := He.str_ok X G (c.t.fact 82 (f := .str "LETTERS" "abcdefghijklmnopqrstuvwxyz"))
  c_Turning := He.cls_ok (c.t.fact 83 (f := .cls "Turning"))
  k_Turning := He.mkr_ok (c.t.fact 84 (f := .mkr "Turning"))
  n_Turning_around := He.noat_ok (c.t.fact 85 (f := .noat "Turning" "around"))
  n_Turning_rows := He.noat_ok (c.t.fact 86 (f := .noat "Turning" "rows"))
  n_Turning_period := He.noat_ok (c.t.fact 87 (f := .noat "Turning" "_period"))
  c_Part := He.cls_ok (c.t.fact 88 (f := .cls "Part"))
  k_Part := He.mkr_ok (c.t.fact 89 (f := .mkr "Part"))
  n_Part_around := He.noat_ok (c.t.fact 90 (f := .noat "Part" "around"))
  n_Part_shown := He.noat_ok (c.t.fact 91 (f := .noat "Part" "_shown"))
  n_Part_turnings := He.noat_ok (c.t.fact 92 (f := .noat "Part" "_turnings"))
  c_Plan := He.cls_ok (c.t.fact 93 (f := .cls "Plan"))
  k_Plan := He.mkr_ok (c.t.fact 94 (f := .mkr "Plan"))
  n_Plan_around := He.noat_ok (c.t.fact 95 (f := .noat "Plan" "around"))
  n_Plan_deeds := He.noat_ok (c.t.fact 96 (f := .noat "Plan" "deeds"))
  c_Let := He.cls_ok (c.t.fact 97 (f := .cls "Let"))
  k_Let := He.mkr_ok (c.t.fact 98 (f := .mkr "Let"))
  n_Let_around := He.noat_ok (c.t.fact 99 (f := .noat "Let" "around"))
  n_Let_table := He.noat_ok (c.t.fact 100 (f := .noat "Let" "_table"))
  c_Board := He.cls_ok (c.t.fact 101 (f := .cls "Board"))
  k_Board := He.mkr_ok (c.t.fact 102 (f := .mkr "Board"))
  n_Board_source := He.noat_ok (c.t.fact 103 (f := .noat "Board" "source"))
  n_Board_span := He.noat_ok (c.t.fact 104 (f := .noat "Board" "span"))
  n_Board_spots := He.noat_ok (c.t.fact 105 (f := .noat "Board" "spots"))
  n_Board_slots := He.noat_ok (c.t.fact 106 (f := .noat "Board" "slots"))
  n_Board_found := He.noat_ok (c.t.fact 107 (f := .noat "Board" "found"))
  c_CutSearch := He.cls_ok (c.t.fact 108 (f := .cls "CutSearch"))
  k_CutSearch := He.mkr_ok (c.t.fact 109 (f := .mkr "CutSearch"))
  n_CutSearch_start := He.noat_ok (c.t.fact 110 (f := .noat "CutSearch" "start"))
  n_CutSearch_table := He.noat_ok (c.t.fact 111 (f := .noat "CutSearch" "table"))
  n_CutSearch_far := He.noat_ok (c.t.fact 112 (f := .noat "CutSearch" "far"))
  m_Turning_rests := He.meth_ok (c.t.fact 113 (f := .meth "Turning" "rests"))
  m_Turning_lifted := He.meth_ok (c.t.fact 114 (f := .meth "Turning" "lifted"))
  m_Turning_is_even := He.meth_ok (c.t.fact 115 (f := .meth "Turning" "is_even"))
  m_Part_getitem := He.meth_ok (c.t.fact 116 (f := .meth "Part" "__getitem__"))
  m_Part_rests := He.meth_ok (c.t.fact 117 (f := .meth "Part" "rests"))
  m_Let_rules := He.meth_ok (c.t.fact 118 (f := .meth "Let" "rules"))
  m_Board_carried := He.meth_ok (c.t.fact 119 (f := .meth "Board" "carried"))
  n_TooMany_limit := He.noat_ok (c.t.fact 120 (f := .noat "TooMany" "limit"))
  p_Turning_period := (propB_ok) (c.x 0 (f := fun K => propB K "Turning" "period"))
  p_Part_words := (propB_ok) (c.x 1 (f := fun K => propB K "Part" "words"))
  p_Part_period := (propB_ok) (c.x 2 (f := fun K => propB K "Part" "period"))
  p_Let_states := (propB_ok) (c.x 3 (f := fun K => propB K "Let" "states"))
  p_Let_words := (propB_ok) (c.x 4 (f := fun K => propB K "Let" "words"))
  f_getitem := (id) (c.x 5 (f := fun K => PySem.W.fnIn K (mA K "Part" "__getitem__")))
  t_WORDS := (fun h => He.tupB_ok (vs := [.str "push", .str "squeeze"]) h) (c.x 6 (f := fun K => He.tupB K "WORDS" [.str "push", .str "squeeze"]))
  g_lcm := (fun h => PySem.W.mg_of X G (He.eqO_ok h)) (c.x 7 (f := fun K => He.eqO (PySem.W.nsIn K mainGlobals "lcm") (some (some (.builtin "math.lcm")))))
  o_Plan := (id) (c.x 8 (f := fun K => insB K (cA K "Plan")))
  x_TooMany := (oexB_ok) (c.x 9 (f := fun K => oexB K (cA K "TooMany")))
  xi_TooMany := (He.eqO_ok) (c.x 10 (f := fun K => He.eqO (PySem.W.findIn K (.ref (cA K "TooMany")) "__init__") (some (some (.ref (mA K "TooMany" "__init__"))))))
  xt_TooMany := (of_decide_eq_true) (c.x 11 (f := fun K => decide (PySem.W.typeIn K (.ref (mA K "TooMany" "__init__")) = some (.type "function"))))
  xc_NoPlan := (id) (c.x 12 (f := fun K => PySem.W.excIn K (cA K "NoPlan") He.veBase "ValueError.__new__"))
  xk_NoPlan := (id) (c.x 13 (f := fun K => PySem.W.keepIn K (.ref (cA K "NoPlan"))))
  xs_NoPlan := (of_decide_eq_true) (c.x 14 (f := fun K => decide (PySem.W.subIn K (.ref (cA K "NoPlan")) (.type "BaseException") = some true)))
  xy_NoPlan := (of_decide_eq_true) (c.x 15 (f := fun K => decide (PySem.W.typeIn K (.ref (cA K "NoPlan")) = some (.type "type"))))
  xe_NoPlan := (excB_ok) (c.x 16 (f := fun K => excB K (cA K "NoPlan")))
  xm_NoPlan_NoPlan := (of_decide_eq_true) (c.x 17 (f := fun K => decide (PySem.W.exmOne K (.ref (cA K "NoPlan")) (.ref (cA K "NoPlan")) = some true)))
  xm_NoPlan_TooMany := (of_decide_eq_true) (c.x 18 (f := fun K => decide (PySem.W.exmOne K (.ref (cA K "NoPlan")) (.ref (cA K "TooMany")) = some false)))
  xe_TooMany := (excB_ok) (c.x 19 (f := fun K => excB K (cA K "TooMany")))
  xm_TooMany_NoPlan := (of_decide_eq_true) (c.x 20 (f := fun K => decide (PySem.W.exmOne K (.ref (cA K "TooMany")) (.ref (cA K "NoPlan")) = some false)))
  xm_TooMany_TooMany := (of_decide_eq_true) (c.x 21 (f := fun K => decide (PySem.W.exmOne K (.ref (cA K "TooMany")) (.ref (cA K "TooMany")) = some true)))
  xj_NoPlan := (of_decide_eq_true) (c.x 22 (f := fun K => decide (PySem.W.kitOne K (.ref (cA K "NoPlan")) (.ref (cA K "JawError")) = some true)))
  d_TooMany_init := c.t.def_ 0 (d := ⟨fun K => mA K "TooMany" "__init__", "__init__", "TooMany.__init__", defArgs s_TooMany_init, defBody s_TooMany_init, defScope s_TooMany_init, [], []⟩)
  d_is_integer := c.t.def_ 1 (d := ⟨fun K => He.ga K "is_integer", "is_integer", "is_integer", defArgs s_is_integer, defBody s_is_integer, defScope s_is_integer, [], []⟩)
  d_is_row := c.t.def_ 2 (d := ⟨fun K => He.ga K "is_row", "is_row", "is_row", defArgs s_is_row, defBody s_is_row, defScope s_is_row, [], []⟩)
  d_is_place := c.t.def_ 3 (d := ⟨fun K => He.ga K "is_place", "is_place", "is_place", defArgs s_is_place, defBody s_is_place, defScope s_is_place, [], []⟩)
  d_check_round := c.t.def_ 4 (d := ⟨fun K => He.ga K "check_round", "check_round", "check_round", defArgs s_check_round, defBody s_check_round, defScope s_check_round, [], []⟩)
  d_is_pair := c.t.def_ 5 (d := ⟨fun K => He.ga K "is_pair", "is_pair", "is_pair", defArgs s_is_pair, defBody s_is_pair, defScope s_is_pair, [], []⟩)
  d_checked_rows := c.t.def_ 6 (d := ⟨fun K => He.ga K "checked_rows", "checked_rows", "checked_rows", defArgs s_checked_rows, defBody s_checked_rows, defScope s_checked_rows, [], []⟩)
  d_rows_turned := c.t.def_ 7 (d := ⟨fun K => He.ga K "rows_turned", "rows_turned", "rows_turned", defArgs s_rows_turned, defBody s_rows_turned, defScope s_rows_turned, [], []⟩)
  d_least_period := c.t.def_ 8 (d := ⟨fun K => He.ga K "least_period", "least_period", "least_period", defArgs s_least_period, defBody s_least_period, defScope s_least_period, [], []⟩)
  d_Turning_init := c.t.def_ 9 (d := ⟨fun K => mA K "Turning" "__init__", "__init__", "Turning.__init__", defArgs s_Turning_init, defBody s_Turning_init, defScope s_Turning_init, [], []⟩)
  d_Turning_period := c.t.def_ 10 (d := ⟨fun K => gA K "Turning" "period", "period", "Turning.period", defArgs s_Turning_period, defBody s_Turning_period, defScope s_Turning_period, [], []⟩)
  d_Turning_rests := c.t.def_ 11 (d := ⟨fun K => mA K "Turning" "rests", "rests", "Turning.rests", defArgs s_Turning_rests, defBody s_Turning_rests, defScope s_Turning_rests, [], []⟩)
  d_Turning_lifted := c.t.def_ 12 (d := ⟨fun K => mA K "Turning" "lifted", "lifted", "Turning.lifted", defArgs s_Turning_lifted, defBody s_Turning_lifted, defScope s_Turning_lifted, [], []⟩)
  d_Turning_is_even := c.t.def_ 13 (d := ⟨fun K => mA K "Turning" "is_even", "is_even", "Turning.is_even", defArgs s_Turning_is_even, defBody s_Turning_is_even, defScope s_Turning_is_even, [], []⟩)
  d_is_word := c.t.def_ 14 (d := ⟨fun K => He.ga K "is_word", "is_word", "is_word", defArgs s_is_word, defBody s_is_word, defScope s_is_word, [], []⟩)
  d_check_even := c.t.def_ 15 (d := ⟨fun K => He.ga K "check_even", "check_even", "check_even", defArgs s_check_even, defBody s_check_even, defScope s_check_even, [], []⟩)
  d_Part_init := c.t.def_ 16 (d := ⟨fun K => mA K "Part" "__init__", "__init__", "Part.__init__", defArgs s_Part_init, defBody s_Part_init, defScope s_Part_init, [.non, .non, .non], []⟩)
  d_Part_words := c.t.def_ 17 (d := ⟨fun K => gA K "Part" "words", "words", "Part.words", defArgs s_Part_words, defBody s_Part_words, defScope s_Part_words, [], []⟩)
  d_Part_period := c.t.def_ 18 (d := ⟨fun K => gA K "Part" "period", "period", "Part.period", defArgs s_Part_period, defBody s_Part_period, defScope s_Part_period, [], []⟩)
  d_Part_getitem := c.t.def_ 19 (d := ⟨fun K => mA K "Part" "__getitem__", "__getitem__", "Part.__getitem__", defArgs s_Part_getitem, defBody s_Part_getitem, defScope s_Part_getitem, [], []⟩)
  d_Part_rests := c.t.def_ 20 (d := ⟨fun K => mA K "Part" "rests", "rests", "Part.rests", defArgs s_Part_rests, defBody s_Part_rests, defScope s_Part_rests, [], []⟩)
  d_is_deed := c.t.def_ 21 (d := ⟨fun K => He.ga K "is_deed", "is_deed", "is_deed", defArgs s_is_deed, defBody s_is_deed, defScope s_is_deed, [], []⟩)
  d_Plan_init := c.t.def_ 22 (d := ⟨fun K => mA K "Plan" "__init__", "__init__", "Plan.__init__", defArgs s_Plan_init, defBody s_Plan_init, defScope s_Plan_init, [], []⟩)
  d_is_name := c.t.def_ 23 (d := ⟨fun K => He.ga K "is_name", "is_name", "is_name", defArgs s_is_name, defBody s_is_name, defScope s_is_name, [], []⟩)
  d_is_rule := c.t.def_ 24 (d := ⟨fun K => He.ga K "is_rule", "is_rule", "is_rule", defArgs s_is_rule, defBody s_is_rule, defScope s_is_rule, [], []⟩)
  d_checked_rules := c.t.def_ 25 (d := ⟨fun K => He.ga K "checked_rules", "checked_rules", "checked_rules", defArgs s_checked_rules, defBody s_checked_rules, defScope s_checked_rules, [], []⟩)
  d_Let_init := c.t.def_ 26 (d := ⟨fun K => mA K "Let" "__init__", "__init__", "Let.__init__", defArgs s_Let_init, defBody s_Let_init, defScope s_Let_init, [], []⟩)
  d_Let_states := c.t.def_ 27 (d := ⟨fun K => gA K "Let" "states", "states", "Let.states", defArgs s_Let_states, defBody s_Let_states, defScope s_Let_states, [], []⟩)
  d_Let_words := c.t.def_ 28 (d := ⟨fun K => gA K "Let" "words", "words", "Let.words", defArgs s_Let_words, defBody s_Let_words, defScope s_Let_words, [], []⟩)
  d_Let_rules := c.t.def_ 29 (d := ⟨fun K => mA K "Let" "rules", "rules", "Let.rules", defArgs s_Let_rules, defBody s_Let_rules, defScope s_Let_rules, [], []⟩)
  d_check_let := c.t.def_ 30 (d := ⟨fun K => He.ga K "check_let", "check_let", "check_let", defArgs s_check_let, defBody s_check_let, defScope s_check_let, [], []⟩)
  d_Board_init := c.t.def_ 31 (d := ⟨fun K => mA K "Board" "__init__", "__init__", "Board.__init__", defArgs s_Board_init, defBody s_Board_init, defScope s_Board_init, [], []⟩)
  d_Board_carried := c.t.def_ 32 (d := ⟨fun K => mA K "Board" "carried", "carried", "Board.carried", defArgs s_Board_carried, defBody s_Board_carried, defScope s_Board_carried, [], []⟩)
  d_steps_by_state := c.t.def_ 33 (d := ⟨fun K => He.ga K "steps_by_state", "steps_by_state", "steps_by_state", defArgs s_steps_by_state, defBody s_steps_by_state, defScope s_steps_by_state, [], []⟩)
  d_first_steps := c.t.def_ 34 (d := ⟨fun K => He.ga K "first_steps", "first_steps", "first_steps", defArgs s_first_steps, defBody s_first_steps, defScope s_first_steps, [], []⟩)
  d_stands_of := c.t.def_ 35 (d := ⟨fun K => He.ga K "stands_of", "stands_of", "stands_of", defArgs s_stands_of, defBody s_stands_of, defScope s_stands_of, [], []⟩)
  d_is_closed := c.t.def_ 36 (d := ⟨fun K => He.ga K "is_closed", "is_closed", "is_closed", defArgs s_is_closed, defBody s_is_closed, defScope s_is_closed, [], []⟩)
  d_stand_behind := c.t.def_ 37 (d := ⟨fun K => He.ga K "stand_behind", "stand_behind", "stand_behind", defArgs s_stand_behind, defBody s_stand_behind, defScope s_stand_behind, [], []⟩)
  d_stand_moves := c.t.def_ 38 (d := ⟨fun K => He.ga K "stand_moves", "stand_moves", "stand_moves", defArgs s_stand_moves, defBody s_stand_moves, defScope s_stand_moves, [], []⟩)
  d_explored := c.t.def_ 39 (d := ⟨fun K => He.ga K "explored", "explored", "explored", defArgs s_explored, defBody s_explored, defScope s_explored, [.non], []⟩)
  d_distances := c.t.def_ 40 (d := ⟨fun K => He.ga K "distances", "distances", "distances", defArgs s_distances, defBody s_distances, defScope s_distances, [], []⟩)
  d_least_count := c.t.def_ 41 (d := ⟨fun K => He.ga K "least_count", "least_count", "least_count", defArgs s_least_count, defBody s_least_count, defScope s_least_count, [], []⟩)
  d_least_walk := c.t.def_ 42 (d := ⟨fun K => He.ga K "least_walk", "least_walk", "least_walk", defArgs s_least_walk, defBody s_least_walk, defScope s_least_walk, [], []⟩)
  d_CutSearch_init := c.t.def_ 43 (d := ⟨fun K => mA K "CutSearch" "__init__", "__init__", "CutSearch.__init__", defArgs s_CutSearch_init, defBody s_CutSearch_init, defScope s_CutSearch_init, [], []⟩)
  d_least_length := c.t.def_ 44 (d := ⟨fun K => He.ga K "least_length", "least_length", "least_length", defArgs s_least_length, defBody s_least_length, defScope s_least_length, [.non], []⟩)
  d_shortest := c.t.def_ 45 (d := ⟨fun K => He.ga K "shortest", "shortest", "shortest", defArgs s_shortest, defBody s_shortest, defScope s_shortest, [.non], []⟩)
  d_law_pool := c.t.def_ 46 (d := ⟨fun K => He.ga K "_law_pool", "_law_pool", "_law_pool", defArgs s_law_pool, defBody s_law_pool, defScope s_law_pool, [], []⟩)
  d_law_draw := c.t.def_ 47 (d := ⟨fun K => He.ga K "_law_draw", "_law_draw", "_law_draw", defArgs s_law_draw, defBody s_law_draw, defScope s_law_draw, [], []⟩)
  d_law_laps := c.t.def_ 48 (d := ⟨fun K => He.ga K "_law_laps", "_law_laps", "_law_laps", defArgs s_law_laps, defBody s_law_laps, defScope s_law_laps, [], []⟩)
  d_law_rows := c.t.def_ 49 (d := ⟨fun K => He.ga K "_law_rows", "_law_rows", "_law_rows", defArgs s_law_rows, defBody s_law_rows, defScope s_law_rows, [], []⟩)
  d_law_world := c.t.def_ 50 (d := ⟨fun K => He.ga K "_law_world", "_law_world", "_law_world", defArgs s_law_world, defBody s_law_world, defScope s_law_world, [], []⟩)
  d_law_part := c.t.def_ 51 (d := ⟨fun K => He.ga K "_law_part", "_law_part", "_law_part", defArgs s_law_part, defBody s_law_part, defScope s_law_part, [], []⟩)
  d_law_table := c.t.def_ 52 (d := ⟨fun K => He.ga K "_law_table", "_law_table", "_law_table", defArgs s_law_table, defBody s_law_table, defScope s_law_table, [], []⟩)
  d_law_lift := c.t.def_ 53 (d := ⟨fun K => He.ga K "_law_lift", "_law_lift", "_law_lift", defArgs s_law_lift, defBody s_law_lift, defScope s_law_lift, [], []⟩)
  d_law_keeps := c.t.def_ 54 (d := ⟨fun K => He.ga K "_law_keeps", "_law_keeps", "_law_keeps", defArgs s_law_keeps, defBody s_law_keeps, defScope s_law_keeps, [], []⟩)
  d_law_tables := c.t.def_ 55 (d := ⟨fun K => He.ga K "_law_tables", "_law_tables", "_law_tables", defArgs s_law_tables, defBody s_law_tables, defScope s_law_tables, [], []⟩)
  d_law_span := c.t.def_ 56 (d := ⟨fun K => He.ga K "_law_span", "_law_span", "_law_span", defArgs s_law_span, defBody s_law_span, defScope s_law_span, [], []⟩)
  d_law_model := c.t.def_ 57 (d := ⟨fun K => He.ga K "_law_model", "_law_model", "_law_model", defArgs s_law_model, defBody s_law_model, defScope s_law_model, [], []⟩)
  d_law_rules := c.t.def_ 58 (d := ⟨fun K => He.ga K "_law_rules", "_law_rules", "_law_rules", defArgs s_law_rules, defBody s_law_rules, defScope s_law_rules, [], []⟩)
  d_law_rules_of := c.t.def_ 59 (d := ⟨fun K => He.ga K "_law_rules_of", "_law_rules_of", "_law_rules_of", defArgs s_law_rules_of, defBody s_law_rules_of, defScope s_law_rules_of, [], []⟩)
  d_law_handed := c.t.def_ 60 (d := ⟨fun K => He.ga K "_law_handed", "_law_handed", "_law_handed", defArgs s_law_handed, defBody s_law_handed, defScope s_law_handed, [], []⟩)
  d_law_let := c.t.def_ 61 (d := ⟨fun K => He.ga K "_law_let", "_law_let", "_law_let", defArgs s_law_let, defBody s_law_let, defScope s_law_let, [], []⟩)
  d_law_asked := c.t.def_ 62 (d := ⟨fun K => He.ga K "_law_asked", "_law_asked", "_law_asked", defArgs s_law_asked, defBody s_law_asked, defScope s_law_asked, [], []⟩)
  d_law_is_let := c.t.def_ 63 (d := ⟨fun K => He.ga K "_law_is_let", "_law_is_let", "_law_is_let", defArgs s_law_is_let, defBody s_law_is_let, defScope s_law_is_let, [], []⟩)
  d_law_is_plan := c.t.def_ 64 (d := ⟨fun K => He.ga K "_law_is_plan", "_law_is_plan", "_law_is_plan", defArgs s_law_is_plan, defBody s_law_is_plan, defScope s_law_is_plan, [], []⟩)
  d_law_counts := c.t.def_ 65 (d := ⟨fun K => He.ga K "_law_counts", "_law_counts", "_law_counts", defArgs s_law_counts, defBody s_law_counts, defScope s_law_counts, [], []⟩)
  d_law := c.t.def_ 66 (d := ⟨fun K => He.ga K "law", "law", "law", defArgs s_law, defBody s_law, defScope s_law, [], []⟩)
end JX
end Part_JText
section Part_JHead
set_option Elab.async false
set_option linter.all false
set_option maxRecDepth 100000
set_option maxHeartbeats 0
namespace JX
open PySem PySem.W PySem.Calls PyProof.Rows
abbrev R : OpenRow := OpenLaw.row PySem.Challenge.rw_jawturns_k52_whole_shortest_plan_does
abbrev qv : Program := view R.prog [0, 86]
def nm0 : List PySem.Str := ["_wall", "JawError", "BadRound", "BadRows", "BadTurn", "BadStanding", "BadWord", "BadPlan", "BadMachine", "TooMany", "NoPlan", "MOST_ROUND", "MOST_ROWS", "MOST_WIDTH", "is_integer", "is_row", "is_place", "check_round", "is_pair", "checked_rows", "rows_turned", "least_period", "Turning", "WORDS", "is_word", "checked_widths", "check_even", "Part", "MOST_DEEDS_plans", "is_deed"]
def nm1 : List PySem.Str := ["Plan", "repeated", "START", "MOST_STATES", "MOST_RULES", "LETTERS", "is_name", "is_rule", "checked_rules", "Let", "check_let", "Board", "steps_by_state", "first_steps", "stands_of", "is_closed", "stand_behind", "stand_moves", "MOST_DEEDS_walks", "explored", "distances", "least_count", "least_walk", "CutSearch", "least_length", "shortest", "_law_pool", "_law_draw", "_law_laps", "_law_rows"]
def nm2 : List PySem.Str := ["_law_world", "_law_part", "_law_table", "_law_lift", "_law_keeps", "_law_tables", "_law_span", "_law_model", "_law_rules", "_law_rules_of", "_law_handed", "_law_let", "_law_asked", "_law_is_let", "_law_is_plan", "_law_counts"]
def names : List PySem.Str := nm0 ++ nm1 ++ nm2
theorem run (w : World) : HandSHeadRun.RunEqI R qv hookJ ob 20000 names w := by
  unfold HandSHeadRun.RunEqI
  kernel_rfl
end JX
end Part_JHead
section Part_JRules3
set_option Elab.async false
set_option linter.all false
set_option maxRecDepth 100000
set_option maxHeartbeats 4000000
/-! Dict comprehensions whose keys are tuples (after the layer's own rule for plain keys). -/
namespace JR
open PySem PySem.Spec PyProof.Rows L2

/-- d[k] = v by a comprehension, k a tuple -/
theorem dt_dictSet {X : Cx} {pins : List (Addr × Obj)} {σ : L2.St} {H : Hp} {s : Shared} {E : Value → Shared → Prop} {A : Around} {D b : Addr} {kvs : List (List Key × V)} {k : List Key} {v : V} {r : Value} {Q : Unit → Shared → Prop}
    (hu : A.units < cLine) (I : Inv X pins σ H s) (hD : H D = some (.dT kvs)) (hb : H b = some (.tup (k.map kV))) (hz : kvs.length < sizeLine) (rv : RelV v r)
    (h : ∀ s', Inv X pins σ (upd H D (.dT (putK kvs k v))) s' → Q () s') : wpAny (model X.prog X.w) A (dictSet D (.ref b) r) Q E s := by
  obtain ⟨z, hd, xs, rel, dd⟩ := dt_of I.hok hD
  have hzx : xs.length ≤ sizeLine := by rw [← Paired.length rel]; exact z
  have hl : (putK kvs k v).length ≤ sizeLine := by have := length_putK kvs k v; omega
  refine wpAny_dictSet_heap (hsz := hzx) hu (key_of I.hok hb) dd fun h' dd' hs => h _ ?_
  obtain ⟨q, es, ep, hq, h2, h3, h4, _, h5⟩ := dd'
  refine d_write I (by rw [hD]; exact True.intro) hs ⟨q, hq⟩ ⟨hl, hd, _, (rel.put k hb rv).keeps fun c ys ec => ?_, q, es, ep, hq, h2, h3, h4, h5⟩
  rw [upd_ne (ne_of ec hD (fun z => nomatch z))]
  exact ec

section
variable {X : Cx}
/-- {k: v for target in iter if ..}, keys tuples of ints and texts -/
def tDcT (wi : TI) (g : TG) (tt : TT) (tk tv : TE) (vs : List Nat) : TE := fun σ H Q => wi σ H fun J H1 => ∀ D, H1 D = none → ∃ W : Nat → Nat → Hp → Prop, (∃ m, W 0 m (upd H1 D (.dT []))) ∧ ∀ i m H, W i m H →
  (J.stop i H ∧ Q (.ref D) H) ∨ (J.go i H ∧ ∃ Nx : Hp → Prop, (∀ H', Nx H' → ∃ m', m' < m ∧ W (i + 1) m' H') ∧ ∀ x H', J.yld i H x H' → g x (wipe σ vs) H' fun σ2 H2 => wipe σ2 vs = wipe σ vs ∧ tt σ2 H2 fun b H3 =>
    if b = true then tk σ2 H3 fun y H4 => tv σ2 H4 fun z H5 => ∃ kvs k p, y = .ref p ∧ H5 p = some (.tup (k.map kV)) ∧ H5 D = some (.dT kvs) ∧ kvs.length < sizeLine ∧ Nx (upd H5 D (.dT (putK kvs k z))) else Nx H3)
theorem pe_dcT {kx vx tg iter : Expr} {ifs : List Expr} {scope : Scope} {own : List (Str × Nat)} {pos : Pos} {wi : TI} {g : TG} {tt : TT} {tk tv : TE} (hu : X.A.units < cLine) (hc : X.calm = true) (hN : X.N.Nodup) (hi : PI X tg iter wi) (ok : BlkOk X.N X.env.scope scope own)
    (hg : ∀ (s : Shared) (H : Hp) (C : Addr) (cl : List (Str × Addr)) (fp : List Addr), PG (X.blk s H scope (compEnvC scope cl C X.env) fp) tg g) (ht : ∀ (s : Shared) (H : Hp) (C : Addr) (cl : List (Str × Addr)) (fp : List Addr), PTs (X.blk s H scope (compEnvC scope cl C X.env) fp) ifs tt)
    (hk : ∀ (s : Shared) (H : Hp) (C : Addr) (cl : List (Str × Addr)) (fp : List Addr), PE (X.blk s H scope (compEnvC scope cl C X.env) fp) kx tk)
    (he : ∀ (s : Shared) (H : Hp) (C : Addr) (cl : List (Str × Addr)) (fp : List Addr), PE (X.blk s H scope (compEnvC scope cl C X.env) fp) vx tv) (hs : ∀ x, foldedSetIterable iter X.env x = pure x := by intro _; rfl) :
    PE X (.DictComp kx vx [⟨tg, iter, ifs, 0⟩] scope pos) (tDcT wi g tt tk tv (own.map (·.2))) := by
  refine ⟨fun pins s σ H Q I h => ?_⟩
  rw [arm_eval_DictComp]
  have free : ∀ y ∈ scope.names, y.2 = .free → ∃ c, X.env.cells.lookup y.1 = some c := fun y hy e => (ok.free y hy e).elim (fun k => I.ok.has _ (.inl k)) fun k => I.ok.has _ (.inr k)
  refine wpAny_comprehension_free (use := none) rfl hs (closure_ok free) ok.kind (fun y hy e => by rw [ok.uniq y hy, e]) (thn (hi.run pins s σ H _ I h) fun xv s1 hx => thn hx fun itv s2 h2 => ?_)
  obtain ⟨it, fp, tn, J, H2, rfl, I2, T, st2, f2, q⟩ := h2
  refine wpAny_newObj_type (newEnv_comp ?_)
  -- the new dict at D
  obtain ⟨D, hD⟩ : ∃ D, D = s2.heap.objs.size := ⟨_, rfl⟩
  rw [← hD]
  have hDn : H2 D = none := I2.hok.fresh (by rw [hD]; exact Nat.le_refl _)
  obtain ⟨W, ⟨m0, w0⟩, turn⟩ := q D hDn
  obtain ⟨s3, e3⟩ : ∃ s3 : Shared, s3 = { s2 with heap := s2.heap.push { cls := .type "dict", data := .dict #[] } } := ⟨_, rfl⟩
  have h3 : s3.heap = s2.heap.push { cls := .type "dict", data := .dict #[] } := by rw [e3]
  obtain ⟨H3, eH3⟩ : ∃ H3, H3 = upd H2 D (.dT []) := ⟨_, rfl⟩
  rw [← eH3] at w0
  have I3 : Inv X pins σ H3 s3 := by
    rw [e3, eH3]
    exact I2.laid (t' := s2.toks) (fun b o e => Heap.get?_push_of_some _ e) (by rw [hD]; exact Nat.le_refl _) (by rw [hD]; exact dt_empty s2.heap I2.big)
  have small : ∀ b ∈ fp, b < s2.heap.objs.size := fun b hb => by
    obtain ⟨o, e, _⟩ := T.obj _ _ st2 b hb
    exact Heap.lt_size e
  have f3 : ∀ b ∈ fp, FpOk X pins H3 b ∧ b < s3.heap.objs.size := fun b hb => by
    have hlt := small b hb
    refine ⟨⟨?_, (f2 b hb).2⟩, by rw [h3, Heap.size_push]; exact Nat.lt_succ_of_lt hlt⟩
    rw [eH3, upd_ne (by rw [hD]; exact Nat.ne_of_lt hlt)]
    exact (f2 b hb).1
  have st3 : tn 0 s3.heap := T.keep _ _ _ st2 fun b _ o e => by rw [h3]; exact Heap.get?_push_of_some _ e
  have I4 := block_start I3 ok hN f3
  -- the block
  obtain ⟨ce, ece⟩ : ∃ ce, ce = compEnvC scope (cellsFrom (s3.heap.objs.size + 1) scope.names (cloFrom X.env.cells scope.names [])) s3.heap.objs.size X.env := ⟨_, rfl⟩
  have pg := hg s3 H3 s3.heap.objs.size (cellsFrom (s3.heap.objs.size + 1) scope.names (cloFrom X.env.cells scope.names [])) fp
  have pt := ht s3 H3 s3.heap.objs.size (cellsFrom (s3.heap.objs.size + 1) scope.names (cloFrom X.env.cells scope.names [])) fp
  have pk := hk s3 H3 s3.heap.objs.size (cellsFrom (s3.heap.objs.size + 1) scope.names (cloFrom X.env.cells scope.names [])) fp
  have pe := he s3 H3 s3.heap.objs.size (cellsFrom (s3.heap.objs.size + 1) scope.names (cloFrom X.env.cells scope.names [])) fp
  rw [← ece] at I4 pg pt pk pe
  have cL : ce.locals = s3.heap.objs.size := by rw [ece]; rfl
  show codeAny _ _ (.compStart (.DictComp kx vx [⟨tg, iter, ifs, 0⟩] scope pos) 0 (.ref it) (.ref D) (compEnvC scope (cellsFrom ((s2.heap.push { cls := .type "dict", data := .dict #[] }).objs.size + 1) scope.names (cloFrom X.env.cells scope.names [])) (s2.heap.push { cls := .type "dict", data := .dict #[] }).objs.size X.env)) _ _
  rw [← h3, ← ece]
  obtain ⟨s4, e4⟩ : ∃ s4 : Shared, s4 = { s3 with heap := pushCells (s3.heap.push { cls := .type "dict", data := .dict #[] }) scope.names } := ⟨_, rfl⟩
  have e4' : ({ s2 with heap := pushCells (s3.heap.push { cls := .type "dict", data := .dict #[] }) scope.names } : Shared) = s4 := by rw [e4, e3]
  rw [← e4] at I4
  rw [e4']
  have st4 : tn 0 s4.heap := T.keep _ _ _ st3 fun b _ o e => by rw [e4]; exact pushCells_keeps _ _ _ _ (Heap.get?_push_of_some _ e)
  have stat : ∀ {σ' : L2.St} {H' : Hp} {s' : Shared}, Inv (X.blk s3 H3 scope ce fp) [] σ' H' s' → (∀ b ∈ fp, H' b = none) → ∀ b ∈ fp, FpOk (X.blk s3 H3 scope ce fp) [] H' b := fun {σ' H' s'} I' hn b hb =>
    ⟨hn b hb, (I'.ok.exf b hb).1, I'.ok.exfs b hb, .inl hb, fun x c e => (I'.ok.exf b hb).2 x c e, fun p hp => absurd (show p ∈ ([] : List (Addr × Obj)) ++ [] from hp) (by simp)⟩
  have nfp : ∀ b ∈ fp, H3 b = none := fun b hb => (f3 b hb).1.1
  refine codeAny_compStart_dict (?loop : codeAny (model X.prog X.w) X.A (.compLoop (.DictComp kx vx [⟨tg, iter, ifs, 0⟩] scope pos) 0 (.ref it) (.ref D) ce) _ s4) (T.self X.A 0 _ _ _ st4 ?loop)
  refine compLoop_anyD (fun n s' => ∃ i H', Inv (X.blk s3 H3 scope ce fp) [] (wipe σ (own.map (·.2))) H' s' ∧ tn i s'.heap ∧ (∀ b ∈ fp, H' b = none) ∧ W i n H') ?_ m0 ⟨0, H3, I4, st4, nfp, w0⟩
  rintro n s5 ⟨i, H5, I5, st5, n5, w5⟩
  rcases turn i n H5 w5 with ⟨stop, qq⟩ | ⟨go, Nx, hNx, step⟩
  · refine thnF (T.done (X.blk s3 H3 scope ce fp) rfl rfl rfl hc i [] s5 _ H5 (fun _ _ => False) I5 (stat I5 n5) st5 stop) fun r s6 ⟨hr, I6⟩ => ?_
    subst hr
    have I7 : Inv X pins σ H5 s6 := I3.call' (ch := fp) I6.os I6.base I6.hok I6.bare fun b hb => ⟨(f3 b hb).1.2.2.2.1, (f3 b hb).1.2.1, (f3 b hb).1.2.2.2.2.1, (f3 b hb).1.2.2.2.2.2⟩
    have nC : H5 s3.heap.objs.size = none := by
      have z : H5 ce.locals = none := I6.free
      rwa [cL] at z
    obtain ⟨m, hn, _⟩ := I6.loc
    have hn : s6.heap.Ns ce.locals m := hn
    rw [cL] at hn
    obtain ⟨f0, f1, _, g3, g4, g5⟩ := I3.fpOk (Nat.le_refl _) nC
    exact ⟨m, hn, fun h'' sb => ⟨.ref D, H5, I7.turned (t' := s6.toks) (fun b o hb e => (sb.2 b hb).trans e) f0 f1 g3 g4 g5, rfl, qq⟩⟩
  · refine thnF (T.item (X.blk s3 H3 scope ce fp) rfl rfl rfl hc i [] s5 _ H5 (fun _ _ => False) I5 (stat I5 n5) st5 go) fun r s6 ⟨u, hr, h6⟩ => ?_
    subst hr
    refine thnF h6 fun _ s7 ⟨x, H7, I7, r7, y7, st7, n7⟩ => ?_
    have I7' := I7.pinned (stat I7 n7) (T.obj _ _ st7)
    refine thnF (pg.run _ s7 _ H7 x u _ I7' r7 (step x H7 y7)) fun _ s8 ⟨σ8, H8, I8, hw8, q8⟩ => ?_
    refine thnF (pt.run _ s8 σ8 H8 _ I8 q8) fun b s9 ⟨H9, I9, q9⟩ => ?_
    have fin : ∀ {s' : Shared} {H' : Hp}, Inv (X.blk s3 H3 scope ce fp) ([] ++ pinsAt fp s7.heap) σ8 H' s' → Nx H' → ∃ m, m < n ∧ ∃ i H', Inv (X.blk s3 H3 scope ce fp) [] (wipe σ (own.map (·.2))) H' s' ∧ tn i s'.heap ∧ (∀ b ∈ fp, H' b = none) ∧ W i m H' := fun {s' H'} I' nx => by
      obtain ⟨m', hm, w'⟩ := hNx H' nx
      have pin' : ∀ b ∈ fp, ∀ o, s7.heap.get? b = some o → s'.heap.get? b = some o ∧ H' b = none := fun b hb o e => by
        obtain ⟨z1, z2, _⟩ := I'.pin (b, o) (List.mem_append_right _ (List.mem_append_right _ (mem_pinsAt hb e)))
        exact ⟨z1, z2⟩
      have hl : (wipe σ (own.map (·.2))).length = σ8.length := by rw [← hw8, wipe_length]
      refine ⟨m', hm, i + 1, H', (I'.unpinned (pins := [])).weak hl (fun j v e => ?_), T.keep _ _ _ st7 fun b hb o e => (pin' b hb o e).1, fun b hb => ?_, w'⟩
      · rw [← hw8] at e
        exact (wipe_some e).1
      · obtain ⟨o, e, _⟩ := T.obj _ _ st7 b hb
        exact (pin' b hb o e).2
    cases b with
    | false =>
      simp only [Bool.false_eq_true, if_false] at q9 ⊢
      exact fin I9 q9
    | true =>
      simp only [if_true] at q9 ⊢
      refine thnF (pk.run _ s9 σ8 H9 _ I9 q9) fun z s10 ⟨yk, H10, I10, r10, q10⟩ => ?_
      refine thnF (pe.run _ s10 σ8 H10 _ I10 q10) fun z2 s11 ⟨yv, H11, I11, r11, kvs, k, p, ek, hp11, hD11, hz11, nx⟩ => ?_
      subst ek
      obtain rfl : z = Value.ref p := r10
      exact dt_dictSet (X := X.blk s3 H3 scope ce fp) hu I11 hD11 hp11 hz11 r11 fun s12 I12 => fin I12 nx
end
end JR
end Part_JRules3
section Part_JMath1
/-! Turnings: what lifted gives, its periods. Plain Lean. -/
namespace JT

abbrev Row := Int × Int
/-- the rest's distance from its begin -/
def off (N : Int) (p : Row) : Int := (p.2 - p.1) % N
structure Rows (N : Int) (rows : List Row) : Prop where
  pos : 1 < N
  ne : rows ≠ []
  asc : rows.Pairwise (fun a b => a.1 < b.1)
  rng : ∀ p ∈ rows, 0 ≤ p.1 ∧ p.1 < N ∧ 0 ≤ p.2 ∧ p.2 < N
  own : ∀ p ∈ rows, ∀ q ∈ rows, p.1 < q.1 → p.1 + off N p < q.1
  wrap : ∀ p ∈ rows, ∀ q ∈ rows, p.1 + off N p < q.1 + N

/-- the last row whose begin is at most place -/
def pick (place : Int) : List Row → Row → Row
  | [], c => c
  | r :: rest, c => pick place rest (if r.1 ≤ place then r else c)
def lifted (N : Int) (rows : List Row) (x : Int) : Int :=
  let b0 := (rows.headD (0, 0)).1
  let lap := if x % N < b0 then x / N - 1 else x / N
  let place := if x % N < b0 then x % N + N else x % N
  let p := pick place rows (rows.headD (0, 0))
  lap * N + p.1 + off N p

/-- b is a lifted begin with the offset o -/
def Beg (N : Int) (rows : List Row) (b o : Int) : Prop := ∃ p ∈ rows, ∃ k : Int, b = p.1 + k * N ∧ o = off N p

theorem pick_mem (place : Int) : ∀ (rows : List Row) (c : Row), pick place rows c = c ∨ pick place rows c ∈ rows
  | [], c => .inl rfl
  | r :: rest, c => by
    unfold pick
    rcases pick_mem place rest (if r.1 ≤ place then r else c) with h | h
    · by_cases e : r.1 ≤ place
      · rw [if_pos e] at h ⊢; right; rw [h]; exact List.mem_cons_self
      · rw [if_neg e] at h ⊢; left; exact h
    · right; exact List.mem_cons_of_mem _ h
theorem pick_le (place : Int) : ∀ (rows : List Row) (c : Row), c.1 ≤ place → (pick place rows c).1 ≤ place
  | [], c, h => h
  | r :: rest, c, h => by
    unfold pick
    apply pick_le
    by_cases e : r.1 ≤ place
    · rw [if_pos e]; exact e
    · rw [if_neg e]; exact h
theorem pick_max (place : Int) : ∀ (rows : List Row) (c : Row), rows.Pairwise (fun a b => a.1 < b.1) → (∀ q ∈ rows, c.1 ≤ q.1) → ∀ q ∈ rows, q.1 ≤ place → q.1 ≤ (pick place rows c).1
  | [], c, _, _, q, hq, _ => by cases hq
  | r :: rest, c, hp, hc, q, hq, hle => by
    have hp1 := List.pairwise_cons.mp hp
    unfold pick
    have mono : ∀ (l : List Row) (c : Row), (∀ q ∈ l, c.1 ≤ q.1) → c.1 ≤ (pick place l c).1 := by
      intro l c hc
      rcases pick_mem place l c with h | h
      · rw [h]; exact Int.le_refl _
      · exact hc _ h
    rcases List.mem_cons.mp hq with rfl | hq
    · rw [if_pos hle]
      exact mono rest q fun z hz => Int.le_of_lt (hp1.1 z hz)
    · by_cases e : r.1 ≤ place
      · rw [if_pos e]
        exact pick_max place rest r hp1.2 (fun z hz => Int.le_of_lt (hp1.1 z hz)) q hq hle
      · rw [if_neg e]
        exact pick_max place rest c hp1.2 (fun z hz => hc z (List.mem_cons_of_mem _ hz)) q hq hle

section
variable {N : Int} {rows : List Row} (V : Rows N rows)
include V

theorem Rows.N0 : 0 < N := by have := V.pos; omega
theorem Rows.head : rows.headD (0, 0) ∈ rows := by
  cases h : rows with
  | nil => exact absurd h V.ne
  | cons a l => exact List.mem_cons_self
theorem Rows.head_le (q : Row) (hq : q ∈ rows) : (rows.headD (0, 0)).1 ≤ q.1 := by
  have ha := V.asc
  cases h : rows with
  | nil => exact absurd h V.ne
  | cons a l =>
    rw [h] at ha hq
    rcases List.mem_cons.mp hq with rfl | hq
    · exact Int.le_refl _
    · exact Int.le_of_lt ((List.pairwise_cons.mp ha).1 q hq)
theorem Rows.off_rng (p : Row) : 0 ≤ off N p ∧ off N p < N := by
  have := V.N0
  exact ⟨Int.emod_nonneg _ (by omega), Int.emod_lt_of_pos _ (by omega)⟩
theorem Rows.same {p q : Row} (hp : p ∈ rows) (hq : q ∈ rows) (e : p.1 = q.1) : p = q := by
  obtain ⟨i, hi, rfl⟩ := List.mem_iff_getElem.mp hp
  obtain ⟨j, hj, rfl⟩ := List.mem_iff_getElem.mp hq
  have h := List.pairwise_iff_getElem.mp V.asc
  rcases Nat.lt_trichotomy i j with c | c | c
  · have := h i j hi hj c; omega
  · subst c; rfl
  · have := h j i hj hi c; omega

theorem Beg.ap {b o b' o' : Int} (h : Beg N rows b o) (h' : Beg N rows b' o') (lt : b < b') : b + o < b' := by
  obtain ⟨p, hp, k, rfl, rfl⟩ := h
  obtain ⟨q, hq, j, rfl, rfl⟩ := h'
  have N0 := V.N0
  have rp := V.rng p hp
  have rq := V.rng q hq
  have ro := V.off_rng p
  have hw := V.wrap p hp q hq
  rcases Int.lt_trichotomy k j with c | c | c
  · have h1 : (k + 1) * N ≤ j * N := Int.mul_le_mul_of_nonneg_right (by omega) (by omega)
    rw [Int.add_mul] at h1
    omega
  · subst c
    have := V.own p hp q hq (by omega)
    omega
  · have h1 : (j + 1) * N ≤ k * N := Int.mul_le_mul_of_nonneg_right (by omega) (by omega)
    rw [Int.add_mul] at h1
    omega
theorem Beg.uniq {b o o' : Int} (h : Beg N rows b o) (h' : Beg N rows b o') : o = o' := by
  obtain ⟨p, hp, k, e, rfl⟩ := h
  obtain ⟨q, hq, j, e', rfl⟩ := h'
  have N0 := V.N0
  have rp := V.rng p hp
  have rq := V.rng q hq
  rcases Int.lt_trichotomy k j with c | c | c
  · have h1 : (k + 1) * N ≤ j * N := Int.mul_le_mul_of_nonneg_right (by omega) (by omega)
    rw [Int.add_mul] at h1
    omega
  · subst c
    have e2 : p.1 = q.1 := by omega
    rw [V.same hp hq e2]
  · have h1 : (j + 1) * N ≤ k * N := Int.mul_le_mul_of_nonneg_right (by omega) (by omega)
    rw [Int.add_mul] at h1
    omega
theorem Beg.rng {b o : Int} (h : Beg N rows b o) : 0 ≤ o ∧ o < N := by
  obtain ⟨p, hp, k, e, rfl⟩ := h
  exact V.off_rng p
omit V in
theorem Beg.add {b o : Int} (h : Beg N rows b o) (j : Int) : Beg N rows (b + j * N) o := by
  obtain ⟨p, hp, k, rfl, rfl⟩ := h
  exact ⟨p, hp, k + j, by rw [Int.add_mul]; omega, rfl⟩

/-- lifted: the rest of the stretch that x lies in -/
theorem lifted_spec (x : Int) : ∃ b o, Beg N rows b o ∧ b ≤ x ∧ (∀ b' o', Beg N rows b' o' → b' ≤ x → b' ≤ b) ∧ lifted N rows x = b + o := by
  have N0 := V.N0
  have hx : x % N + N * (x / N) = x := Int.emod_add_mul_ediv x N
  have hm : 0 ≤ x % N := Int.emod_nonneg _ (by omega)
  have hm2 : x % N < N := Int.emod_lt_of_pos _ (by omega)
  rw [Int.mul_comm] at hx
  have hh := V.head
  have hrh := V.rng _ hh
  have key : ∀ (lap place : Int), lap * N + place = x → (rows.headD (0, 0)).1 ≤ place → place < (rows.headD (0, 0)).1 + N →
      ∃ b o, Beg N rows b o ∧ b ≤ x ∧ (∀ b' o', Beg N rows b' o' → b' ≤ x → b' ≤ b) ∧ lap * N + (pick place rows (rows.headD (0, 0))).1 + off N (pick place rows (rows.headD (0, 0))) = b + o := by
    intro lap place e1 e2 e3
    have hmem : pick place rows (rows.headD (0, 0)) ∈ rows := by
      rcases pick_mem place rows (rows.headD (0, 0)) with h | h
      · rw [h]; exact hh
      · exact h
    have hle := pick_le place rows (rows.headD (0, 0)) e2
    refine ⟨(pick place rows (rows.headD (0, 0))).1 + lap * N, off N (pick place rows (rows.headD (0, 0))), ⟨_, hmem, lap, rfl, rfl⟩, by omega, ?_, by omega⟩
    rintro b' o' ⟨q, hq, k, rfl, rfl⟩ hb
    have hmax := pick_max place rows (rows.headD (0, 0)) V.asc (fun z hz => V.head_le z hz) q hq
    have rq := V.rng q hq
    have hhq := V.head_le q hq
    have hpk := V.rng _ hmem
    rcases Int.lt_trichotomy k lap with c | c | c
    · have h1 : (k + 1) * N ≤ lap * N := Int.mul_le_mul_of_nonneg_right (by omega) (by omega)
      rw [Int.add_mul] at h1
      omega
    · subst c
      have := hmax (by omega)
      omega
    · have h1 : (lap + 1) * N ≤ k * N := Int.mul_le_mul_of_nonneg_right (by omega) (by omega)
      rw [Int.add_mul] at h1
      omega
  unfold lifted
  dsimp only
  by_cases c : x % N < (rows.headD (0, 0)).1
  · simp only [if_pos c]
    exact key (x / N - 1) (x % N + N) (by rw [Int.sub_mul]; omega) (by omega) (by omega)
  · simp only [if_neg c]
    exact key (x / N) (x % N) (by omega) (by omega) (by omega)

theorem lifted_of {x b o : Int} (h : Beg N rows b o) (le : b ≤ x) (mx : ∀ b' o', Beg N rows b' o' → b' ≤ x → b' ≤ b) : lifted N rows x = b + o := by
  obtain ⟨b1, o1, h1, le1, mx1, e⟩ := lifted_spec V x
  have e2 : b1 = b := Int.le_antisymm (mx _ _ h1 le1) (mx1 _ _ h le)
  subst e2
  rw [e, Beg.uniq V h1 h]
theorem lifted_mono {x y : Int} (h : x ≤ y) : lifted N rows x ≤ lifted N rows y := by
  obtain ⟨b, o, hb, le, mx, e⟩ := lifted_spec V x
  obtain ⟨b', o', hb', le', mx', e'⟩ := lifted_spec V y
  have h1 : b ≤ b' := mx' b o hb (by omega)
  have r' := Beg.rng V hb'
  rcases Int.lt_or_eq_of_le h1 with c | c
  · have := Beg.ap V hb hb' c; omega
  · subst c; have := Beg.uniq V hb hb'; omega
theorem lifted_idem (x : Int) : lifted N rows (lifted N rows x) = lifted N rows x := by
  obtain ⟨b, o, hb, le, mx, e⟩ := lifted_spec V x
  have r := Beg.rng V hb
  rw [e]
  refine lifted_of V hb (by omega) fun b' o' hb' le' => ?_
  by_cases c : b < b'
  · have := Beg.ap V hb hb' c; omega
  · omega
theorem lifted_shiftN (x j : Int) : lifted N rows (x + j * N) = lifted N rows x + j * N := by
  obtain ⟨b, o, hb, le, mx, e⟩ := lifted_spec V x
  rw [e, lifted_of V (hb.add j) (by omega) fun b' o' hb' le' => ?_]
  · omega
  · have h2 := hb'.add (-j)
    rw [Int.neg_mul] at h2
    have := mx _ _ h2 (by omega)
    omega
/-- the map moves along with x -/
def Comm (N : Int) (rows : List Row) (e : Int) : Prop := ∀ x, lifted N rows (x + e) = lifted N rows x + e
theorem comm_N : Comm N rows N := fun x => by
  have := lifted_shiftN V x 1
  simpa using this
omit V in
theorem Comm.add {e f : Int} (h : Comm N rows e) (g : Comm N rows f) : Comm N rows (e + f) := fun x => by
  have h1 := h x
  have h2 := g (x + e)
  have e1 : x + (e + f) = x + e + f := by omega
  rw [e1, h2, h1]
  omega
omit V in
theorem Comm.neg {e : Int} (h : Comm N rows e) : Comm N rows (-e) := fun x => by
  have h1 := h (x + -e)
  have e1 : x + -e + e = x := by omega
  rw [e1] at h1
  omega
omit V in
theorem Comm.mulNat {e : Int} (h : Comm N rows e) : ∀ n : Nat, Comm N rows ((n : Int) * e)
  | 0 => fun x => by simp
  | n + 1 => by
    have h1 := (Comm.mulNat h n).add h
    have e1 : ((n + 1 : Nat) : Int) * e = (n : Int) * e + e := by rw [Int.natCast_add, Int.add_mul]; simp
    rw [e1]; exact h1
omit V in
theorem Comm.mul {e : Int} (h : Comm N rows e) (k : Int) : Comm N rows (k * e) := by
  rcases Int.le_total 0 k with c | c
  · obtain ⟨n, rfl⟩ := Int.eq_ofNat_of_zero_le c
    exact h.mulNat n
  · obtain ⟨n, hn⟩ := Int.eq_ofNat_of_zero_le (show 0 ≤ -k by omega)
    have h1 := (h.mulNat n).neg
    have e1 : k * e = -((n : Int) * e) := by
      have : k = -(n : Int) := by omega
      rw [this, Int.neg_mul]
    rw [e1]; exact h1
omit V in
theorem Comm.mod {e f : Int} (h : Comm N rows e) (g : Comm N rows f) : Comm N rows (e % f) := by
  have h1 := h.add (g.mul (-(e / f)))
  have e1 : e % f = e + -(e / f) * f := by
    have := Int.emod_add_mul_ediv e f
    rw [Int.neg_mul, Int.mul_comm (e / f) f]; omega
  rw [e1]; exact h1
/-- the begins move along -/
theorem comm_of_beg {e : Int} (h : ∀ b o, Beg N rows b o ↔ Beg N rows (b + e) o) : Comm N rows e := fun x => by
  obtain ⟨b, o, hb, le, mx, e1⟩ := lifted_spec V x
  rw [e1, lifted_of V ((h b o).mp hb) (by omega) fun b' o' hb' le' => ?_]
  · omega
  · have h2 := (h (b' - e) o').mpr (by rw [Int.sub_add_cancel]; exact hb')
    have := mx _ _ h2 (by omega)
    omega
theorem lifted_beg {b o : Int} (h : Beg N rows b o) : lifted N rows b = b + o ∧ lifted N rows (b - 1) < b := by
  refine ⟨lifted_of V h (Int.le_refl _) fun _ _ _ le => le, ?_⟩
  obtain ⟨b1, o1, h1, le1, mx1, e⟩ := lifted_spec V (b - 1)
  have := Beg.ap V h1 h (by omega)
  omega
theorem beg_of_lifted {y o : Int} (h1 : lifted N rows y = y + o) (h2 : lifted N rows (y - 1) < y) (h0 : 0 ≤ o) : Beg N rows y o := by
  obtain ⟨b1, o1, hb, le1, mx1, e⟩ := lifted_spec V y
  rcases Int.lt_or_eq_of_le le1 with c | c
  · have := lifted_of V hb (x := y - 1) (by omega) fun b' o' hb' le' => mx1 b' o' hb' (by omega)
    omega
  · subst c
    have e2 : o1 = o := by omega
    rw [← e2]; exact hb
theorem beg_of_comm {e : Int} (h : Comm N rows e) {b o : Int} (hb : Beg N rows b o) : Beg N rows (b + e) o := by
  obtain ⟨h1, h2⟩ := lifted_beg V hb
  have r := Beg.rng V hb
  have g1 := h b
  have g2 := h (b - 1)
  refine beg_of_lifted V (by omega) ?_ r.1
  have e1 : b + e - 1 = b - 1 + e := by omega
  rw [e1, g2]; omega
theorem beg_iff_comm {e : Int} : Comm N rows e ↔ ∀ b o, Beg N rows b o ↔ Beg N rows (b + e) o := by
  refine ⟨fun h b o => ⟨fun hb => beg_of_comm V h hb, fun hb => ?_⟩, comm_of_beg V⟩
  have := beg_of_comm V h.neg hb
  rwa [show b + e + -e = b by omega] at this
/-- x is kept -/
theorem rest_of_fixed {r : Int} (h : lifted N rows r = r) : ∃ b o, Beg N rows b o ∧ r = b + o := by
  obtain ⟨b, o, hb, _, _, e⟩ := lifted_spec V r
  exact ⟨b, o, hb, by omega⟩
theorem fixed_of_beg {b o : Int} (h : Beg N rows b o) : lifted N rows (b + o) = b + o := by
  have := lifted_idem V b
  rwa [(lifted_beg V h).1] at this
/-- the rests: the kept places -/
theorem fixed_iff {r : Int} (h0 : 0 ≤ r) (h1 : r < N) : lifted N rows r = r ↔ r ∈ rows.map (·.2) := by
  have N0 := V.N0
  constructor
  · intro h
    obtain ⟨b, o, ⟨p, hp, k, rfl, rfl⟩, e⟩ := rest_of_fixed V h
    have rp := V.rng p hp
    have e2 : r % N = p.2 % N := by
      rw [e]
      unfold off
      rw [Int.add_emod, Int.emod_emod_of_dvd _ (Int.dvd_refl N), ← Int.add_emod]
      have : p.1 + k * N + (p.2 - p.1) = p.2 + k * N := by omega
      rw [this, Int.add_mul_emod_self_right]
    rw [Int.emod_eq_of_lt h0 h1, Int.emod_eq_of_lt rp.2.2.1 rp.2.2.2] at e2
    rw [e2]
    exact List.mem_map_of_mem hp
  · intro h
    obtain ⟨p, hp, rfl⟩ := List.mem_map.mp h
    have rp := V.rng p hp
    have e2 : ∃ k : Int, p.2 = p.1 + off N p + k * N := by
      unfold off
      refine ⟨(p.2 - p.1) / N, ?_⟩
      have := Int.emod_add_mul_ediv (p.2 - p.1) N
      rw [Int.mul_comm] at this
      omega
    obtain ⟨k, e2⟩ := e2
    have hb : Beg N rows (p.1 + k * N) (off N p) := ⟨p, hp, k, rfl, rfl⟩
    have := fixed_of_beg V hb
    rw [show p.1 + k * N + off N p = p.2 by omega] at this
    exact this
end
end JT
end Part_JMath1
section Part_JMath2
/-! Periods, the span of several turnings, the rests within a span. Plain Lean. -/
namespace JT

def turnRow (N e : Int) (p : Row) : Row := ((p.1 + e) % N, (p.2 + e) % N)
def rowLe (a b : Row) : Prop := a.1 < b.1 ∨ (a.1 = b.1 ∧ a.2 ≤ b.2)

section
variable {N : Int} {rows : List Row} (V : Rows N rows)
include V
theorem off_turn (e : Int) (p : Row) : off N (turnRow N e p) = off N p := by
  unfold off turnRow
  dsimp only
  rw [Int.sub_emod, Int.emod_emod_of_dvd _ (Int.dvd_refl N), Int.emod_emod_of_dvd _ (Int.dvd_refl N), ← Int.sub_emod]
  congr 1; omega
omit V in
theorem mod_lift (N x : Int) : ∃ k : Int, x = x % N + k * N := ⟨x / N, by have := Int.emod_add_mul_ediv x N; rw [Int.mul_comm] at this; omega⟩
theorem turn_inj (e : Int) {p q : Row} (hp : p ∈ rows) (hq : q ∈ rows) (h : turnRow N e p = turnRow N e q) : p = q := by
  have h1 : (p.1 + e) % N = (q.1 + e) % N := congrArg (·.1) h
  have rp := V.rng p hp
  have rq := V.rng q hq
  have h2 : (p.1 + e - e) % N = (q.1 + e - e) % N := by
    rw [Int.sub_emod, h1, ← Int.sub_emod]
  rw [show p.1 + e - e = p.1 by omega, show q.1 + e - e = q.1 by omega, Int.emod_eq_of_lt rp.1 rp.2.1, Int.emod_eq_of_lt rq.1 rq.2.1] at h2
  exact V.same hp hq h2
theorem nodup_rows : rows.Nodup := V.asc.imp fun {a b} h e => by subst e; omega
omit V in
theorem nodup_map_of {α β : Type} {f : α → β} : ∀ {l : List α}, l.Nodup → (∀ a ∈ l, ∀ b ∈ l, f a = f b → a = b) → (l.map f).Nodup
  | [], _, _ => List.nodup_nil
  | a :: l, h, g => by
    rw [List.map_cons, List.nodup_cons]
    have h1 := List.nodup_cons.mp h
    refine ⟨fun hm => ?_, nodup_map_of h1.2 fun x hx y hy => g x (List.mem_cons_of_mem _ hx) y (List.mem_cons_of_mem _ hy)⟩
    obtain ⟨b, hb, e⟩ := List.mem_map.mp hm
    have := g b (List.mem_cons_of_mem _ hb) a List.mem_cons_self e
    subst this
    exact h1.1 hb
/-- the turned rows are the rows exactly if the map moves along -/
theorem turned_iff {e : Int} {T : List Row} (hp : T.Perm (rows.map (turnRow N e))) (hs : T.Pairwise rowLe) : T = rows ↔ Comm N rows e := by
  have N0 := V.N0
  constructor
  · intro h
    subst h
    refine comm_of_beg V fun b o => ⟨?_, ?_⟩
    · rintro ⟨p, hm, k, rfl, rfl⟩
      have h1 : turnRow N e p ∈ T := hp.symm.subset (List.mem_map_of_mem hm)
      obtain ⟨j, hj⟩ := mod_lift N (p.1 + e)
      refine ⟨_, h1, k + j, ?_, (off_turn V e p).symm⟩
      show p.1 + k * N + e = (p.1 + e) % N + (k + j) * N
      rw [Int.add_mul]; omega
    · rintro ⟨q, hm, k, h1, rfl⟩
      obtain ⟨p, hpm, rfl⟩ := List.mem_map.mp (hp.subset hm)
      obtain ⟨j, hj⟩ := mod_lift N (p.1 + e)
      refine ⟨p, hpm, k - j, ?_, off_turn V e p⟩
      have h2 : b + e = (p.1 + e) % N + k * N := h1
      rw [Int.sub_mul]; omega
  · intro h
    have hb := (beg_iff_comm V).mp h
    have nd := nodup_rows V
    have nd2 : (rows.map (turnRow N e)).Nodup := nodup_map_of nd fun p hp q hq => turn_inj V e hp hq
    have hsub : rows.map (turnRow N e) ⊆ rows := by
      intro z hz
      obtain ⟨p, hpm, rfl⟩ := List.mem_map.mp hz
      have h1 : Beg N rows p.1 (off N p) := ⟨p, hpm, 0, by omega, rfl⟩
      obtain ⟨q, hq, k, e1, e2⟩ := (hb _ _).mp h1
      have rq := V.rng q hq
      have rp := V.rng p hpm
      have e3 : (p.1 + e) % N = q.1 := by
        rw [e1, Int.add_mul_emod_self_right, Int.emod_eq_of_lt rq.1 rq.2.1]
      have e4 : (p.2 + e) % N = q.2 := by
        have h2 : (q.1 + off N q) % N = (p.2 + e) % N := by
          rw [← e2, ← e3]
          unfold off
          rw [← Int.add_emod]
          congr 1; omega
        have h3 : (q.1 + off N q) % N = q.2 % N := by
          unfold off
          rw [Int.add_emod, Int.emod_emod_of_dvd _ (Int.dvd_refl N), ← Int.add_emod]
          congr 1; omega
        rw [← h2, h3, Int.emod_eq_of_lt rq.2.2.1 rq.2.2.2]
      have : turnRow N e p = q := Prod.ext e3 e4
      rw [this]; exact hq
    have hperm : (rows.map (turnRow N e)).Perm rows := by
      have hl := List.length_map (as := rows) (turnRow N e)
      have hsub2 : rows ⊆ rows.map (turnRow N e) := by
        intro z hz
        by_cases c : z ∈ rows.map (turnRow N e)
        · exact c
        · have h1 : (z :: rows.map (turnRow N e)).Nodup := List.nodup_cons.mpr ⟨c, nd2⟩
          have h2 := h1.length_le_of_subset (l₂ := rows) (List.cons_subset.mpr ⟨hz, hsub⟩)
          rw [List.length_cons, hl] at h2
          omega
      exact (List.perm_ext_iff_of_nodup nd2 nd).mpr fun a => ⟨fun h => hsub h, fun h => hsub2 h⟩
    refine List.Perm.eq_of_pairwise (le := rowLe) ?_ hs (V.asc.imp fun h => .inl h) (hp.trans hperm)
    intro a b _ _ h1 h2
    unfold rowLe at h1 h2
    apply Prod.ext <;> omega

/-! ### the period -/
structure IsPeriod (N : Int) (rows : List Row) (P : Int) : Prop where
  pos : 0 < P
  le : P ≤ N
  dvd : N % P = 0
  comm : Comm N rows P
  least : ∀ e, 0 < e → e < P → N % e = 0 → ¬ Comm N rows e
omit V in
theorem least_pos (C : Nat → Prop) : ∀ n : Nat, 0 < n → C n → ∃ d, 0 < d ∧ C d ∧ d ≤ n ∧ ∀ e, 0 < e → C e → d ≤ e := by
  intro n
  induction n using Nat.strongRecOn with
  | ind n ih =>
    intro h0 hc
    by_cases h : ∃ e, 0 < e ∧ C e ∧ e < n
    · obtain ⟨e, h1, h2, h3⟩ := h
      obtain ⟨d, a, b, c, f⟩ := ih e h3 h1 h2
      exact ⟨d, a, b, by omega, f⟩
    · refine ⟨n, h0, hc, Nat.le_refl _, fun e h1 h2 => ?_⟩
      apply Decidable.byContradiction
      intro h3
      exact h ⟨e, h1, h2, by omega⟩
omit V in
theorem comm_zero : Comm N rows 0 := fun x => by simp
theorem IsPeriod.iff {P : Int} (hP : IsPeriod N rows P) (e : Int) : Comm N rows e ↔ e % P = 0 := by
  have hp0 := hP.pos
  obtain ⟨d, d0, dc, dle, dmin⟩ := least_pos (fun n => Comm N rows (n : Int)) P.toNat (by omega) (by
    show Comm N rows (P.toNat : Int)
    rw [Int.toNat_of_nonneg (by omega)]; exact hP.comm)
  have all : ∀ f : Int, Comm N rows f → f % (d : Int) = 0 := fun f hf => by
    have h1 : Comm N rows (f % (d : Int)) := hf.mod dc
    have h2 : 0 ≤ f % (d : Int) := Int.emod_nonneg _ (by omega)
    have h3 : f % (d : Int) < d := Int.emod_lt_of_pos _ (by omega)
    apply Decidable.byContradiction
    intro h4
    have := dmin (f % (d : Int)).toNat (by omega) (by rw [Int.toNat_of_nonneg h2]; exact h1)
    omega
  have eP : (d : Int) = P := by
    have h1 := all N (comm_N V)
    apply Decidable.byContradiction
    intro h2
    exact hP.least d (by omega) (by omega) h1 dc
  constructor
  · intro h
    have := all e h
    rwa [eP] at this
  · intro h
    have h1 := hP.comm.mul (e / P)
    have h2 := Int.emod_add_mul_ediv e P
    rw [Int.mul_comm] at h2
    rw [show e = e / P * P by omega]
    exact h1
theorem isPeriod_found {P : Int} (h0 : 0 < P) (h1 : P < N) (h2 : N % P = 0) (hc : Comm N rows P) (hl : ∀ e, 0 < e → e < P → N % e = 0 → ¬ Comm N rows e) : IsPeriod N rows P := ⟨h0, by omega, h2, hc, hl⟩
theorem isPeriod_N (hl : ∀ e, 0 < e → e < N → N % e = 0 → ¬ Comm N rows e) : IsPeriod N rows N := ⟨V.N0, Int.le_refl _, Int.emod_self, comm_N V, hl⟩
end

/-! ### several turnings -/
structure IsSpan (N : Int) (F : List (List Row)) (s : Int) : Prop where
  pos : 0 < s
  dvd : N % s = 0
  iff : ∀ e, (∀ rows ∈ F, Comm N rows e) ↔ e % s = 0
theorem isSpan_nil (N : Int) : IsSpan N [] 1 := ⟨by decide, Int.emod_one _, fun e => ⟨fun _ => Int.emod_one _, fun _ rows h => by cases h⟩⟩
theorem emod_zero_iff {a b : Int} : a % b = 0 ↔ b.natAbs ∣ a.natAbs := by
  rw [Int.natAbs_dvd_natAbs]
  exact ⟨fun h => Int.dvd_of_emod_eq_zero h, fun h => Int.emod_eq_zero_of_dvd h⟩
def lcmI (a b : Int) : Int := (((Nat.lcm 1 a.natAbs).lcm b.natAbs : Nat) : Int)
theorem lcmI_iff (a b e : Int) : e % lcmI a b = 0 ↔ e % a = 0 ∧ e % b = 0 := by
  rw [emod_zero_iff, emod_zero_iff, emod_zero_iff]
  unfold lcmI
  rw [Int.natAbs_natCast, Nat.lcm_one_left]
  exact ⟨fun h => ⟨Nat.dvd_trans (Nat.dvd_lcm_left _ _) h, Nat.dvd_trans (Nat.dvd_lcm_right _ _) h⟩, fun ⟨h, g⟩ => Nat.lcm_dvd h g⟩
theorem lcmI_pos {a b : Int} (ha : 0 < a) (hb : 0 < b) : 0 < lcmI a b := by
  unfold lcmI
  have : 0 < (Nat.lcm 1 a.natAbs).lcm b.natAbs := Nat.lcm_pos (Nat.lcm_pos (by decide) (by omega)) (by omega)
  omega
theorem IsSpan.cons {N : Int} {F : List (List Row)} {s P : Int} {rows : List Row} (S : IsSpan N F s) (V : Rows N rows) (hP : IsPeriod N rows P) : IsSpan N (F ++ [rows]) (lcmI s P) := by
  refine ⟨lcmI_pos S.pos hP.pos, (lcmI_iff _ _ _).mpr ⟨S.dvd, hP.dvd⟩, fun e => ?_⟩
  rw [lcmI_iff, ← S.iff, ← hP.iff V]
  exact ⟨fun h => ⟨fun r hr => h r (List.mem_append_left _ hr), h rows (List.mem_append_right _ List.mem_cons_self)⟩, fun ⟨h, g⟩ r hr => by
    rcases List.mem_append.mp hr with hr | hr
    · exact h r hr
    · rw [List.mem_singleton.mp hr]; exact g⟩
/-- the least step that keeps all, by a search -/
theorem IsSpan.least {N : Int} {F : List (List Row)} {s t : Int} (S : IsSpan N F s) (h0 : 0 < N) (ht : (0 < t ∧ t < N ∧ N % t = 0 ∧ ∀ rows ∈ F, Comm N rows t) ∨ t = N)
    (hl : ∀ e, 0 < e → e < t → N % e = 0 → ¬ ∀ rows ∈ F, Comm N rows e) : t = s := by
  have hs := S.pos
  have hsN : s ≤ N := by
    have := Int.le_of_dvd h0 (Int.dvd_of_emod_eq_zero S.dvd); exact this
  have hts : t % s = 0 := by
    rcases ht with ⟨_, _, _, h⟩ | h
    · exact (S.iff t).mp h
    · rw [h]; exact S.dvd
  have ht0 : 0 < t := by rcases ht with ⟨h, _⟩ | h <;> omega
  have h1 : s ≤ t := Int.le_of_dvd ht0 (Int.dvd_of_emod_eq_zero hts)
  apply Decidable.byContradiction
  intro h2
  exact hl s hs (by omega) S.dvd ((S.iff s).mpr Int.emod_self)
theorem IsSpan.le {N : Int} {F : List (List Row)} {s : Int} (S : IsSpan N F s) (h0 : 0 < N) : s ≤ N := Int.le_of_dvd h0 (Int.dvd_of_emod_eq_zero S.dvd)

/-! ### the rests within the span -/
structure Spots (g : Int → Int) (s : Int) (l : List Int) : Prop where
  asc : l.Pairwise (· < ·)
  mem : ∀ r, r ∈ l ↔ 0 ≤ r ∧ r < s ∧ g r = r
  ne : l ≠ []
theorem nodup_rests {N : Int} {rows : List Row} (V : Rows N rows) : (rows.map (·.2)).Nodup := by
  refine nodup_map_of (nodup_rows V) fun p hp q hq e => ?_
  have rp := V.rng p hp
  have rq := V.rng q hq
  have lift : ∀ p : Row, p ∈ rows → ∃ k : Int, p.1 + k * N + off N p = p.2 := fun p hp => by
    refine ⟨(p.2 - p.1) / N, ?_⟩
    have := Int.emod_add_mul_ediv (p.2 - p.1) N
    rw [Int.mul_comm] at this
    unfold off; omega
  obtain ⟨k, hk⟩ := lift p hp
  obtain ⟨j, hj⟩ := lift q hq
  have b1 : Beg N rows (p.1 + k * N) (off N p) := ⟨p, hp, k, rfl, rfl⟩
  have b2 : Beg N rows (q.1 + j * N) (off N q) := ⟨q, hq, j, rfl, rfl⟩
  have o1 := V.off_rng p
  have o2 := V.off_rng q
  have e' : p.2 = q.2 := e
  rcases Int.lt_trichotomy (p.1 + k * N) (q.1 + j * N) with c | c | c
  · have := Beg.ap V b1 b2 c; omega
  · have h1 : (p.1 + k * N) % N = (q.1 + j * N) % N := by rw [c]
    rw [Int.add_mul_emod_self_right, Int.add_mul_emod_self_right, Int.emod_eq_of_lt rp.1 rp.2.1, Int.emod_eq_of_lt rq.1 rq.2.1] at h1
    exact V.same hp hq h1
  · have := Beg.ap V b2 b1 c; omega
theorem spots_of {N s : Int} {rows : List Row} (V : Rows N rows) (h0 : 0 < s) (hs : s ≤ N) (hc : Comm N rows s) {l : List Int} (hp : l.Perm (rows.map (·.2))) (hl : l.Pairwise (· ≤ ·)) :
    Spots (lifted N rows) s (l.filter fun r => decide (r < s)) := by
  have nd : l.Nodup := (hp.nodup_iff).mpr (nodup_rests V)
  have memr : ∀ r, r ∈ l ↔ r ∈ rows.map (·.2) := fun r => hp.mem_iff
  have rng : ∀ r ∈ rows.map (·.2), 0 ≤ r ∧ r < N := fun r hr => by
    obtain ⟨p, hp, rfl⟩ := List.mem_map.mp hr
    have := V.rng p hp
    exact ⟨this.2.2.1, this.2.2.2⟩
  have mem : ∀ r, r ∈ (l.filter fun r => decide (r < s)) ↔ 0 ≤ r ∧ r < s ∧ lifted N rows r = r := fun r => by
    rw [List.mem_filter, memr]
    constructor
    · rintro ⟨h1, h2⟩
      have h2 := of_decide_eq_true h2
      have := rng r h1
      exact ⟨this.1, h2, (fixed_iff V this.1 this.2).mpr h1⟩
    · rintro ⟨h1, h2, h3⟩
      exact ⟨(fixed_iff V h1 (by omega)).mp h3, decide_eq_true h2⟩
  refine ⟨?_, mem, ?_⟩
  · have h1 : l.Pairwise (fun a b => a ≤ b ∧ a ≠ b) := List.Pairwise.and hl nd
    have h2 : l.Pairwise (· < ·) := h1.imp fun {a b} h => by omega
    exact h2.filter _
  · have hh := V.head
    have rh := V.rng _ hh
    intro e
    have fx : lifted N rows (rows.headD (0, 0)).2 = (rows.headD (0, 0)).2 := (fixed_iff V rh.2.2.1 rh.2.2.2).mpr (List.mem_map_of_mem hh)
    have h1 : lifted N rows ((rows.headD (0, 0)).2 % s) = (rows.headD (0, 0)).2 % s := by
      have h2 := (hc.mul (-((rows.headD (0, 0)).2 / s))) (rows.headD (0, 0)).2
      have h3 := Int.emod_add_mul_ediv (rows.headD (0, 0)).2 s
      rw [Int.mul_comm] at h3
      rw [Int.neg_mul, fx] at h2
      rw [show (rows.headD (0, 0)).2 % s = (rows.headD (0, 0)).2 + -((rows.headD (0, 0)).2 / s * s) by omega]
      exact h2
    have := (mem ((rows.headD (0, 0)).2 % s)).mpr ⟨Int.emod_nonneg _ (by omega), Int.emod_lt_of_pos _ h0, h1⟩
    rw [e] at this
    cases this
end JT
end Part_JMath2
section Part_JMath3
/-! The rests numbered over all integers, the ends of a cut, steps that shrink it. Plain Lean. -/
namespace JT

/-- the rest of number k -/
def R (s : Int) (l : List Int) (k : Int) : Int := l.getD (k % (l.length : Int)).toNat 0 + k / (l.length : Int) * s
/-- the number of the rest y -/
def ix (s : Int) (l : List Int) (y : Int) : Int := y / s * (l.length : Int) + (l.idxOf (y % s) : Int)

structure Bd {W : Type} (s : Int) (G : W → Int → Int) (sp : W → List Int) (ws : List W) : Prop where
  pos : 0 < s
  ne : ws ≠ []
  mono : ∀ w ∈ ws, ∀ x y, x ≤ y → G w x ≤ G w y
  shift : ∀ w ∈ ws, ∀ x k : Int, G w (x + k * s) = G w x + k * s
  idem : ∀ w ∈ ws, ∀ x, G w (G w x) = G w x
  spots : ∀ w ∈ ws, Spots (G w) s (sp w)
  prim : ∀ e, (∀ w ∈ ws, ∀ x, G w (x + e) = G w x + e) → e % s = 0

section
variable {g : Int → Int} {s : Int} {l : List Int} (S : Spots g s l) (h0 : 0 < s)
include S
theorem Spots.len : 0 < (l.length : Int) := by
  have := S.ne
  cases l with
  | nil => exact absurd rfl this
  | cons a r => simp
theorem Spots.at {n : Nat} (h : n < l.length) : 0 ≤ l.getD n 0 ∧ l.getD n 0 < s ∧ g (l.getD n 0) = l.getD n 0 := by
  have e : l.getD n 0 = l[n] := by rw [List.getD_eq_getElem?_getD, List.getElem?_eq_getElem h]; rfl
  rw [e]
  exact (S.mem _).mp (List.getElem_mem h)
theorem Spots.lt {n k : Nat} (h : n < k) (hk : k < l.length) : l.getD n 0 < l.getD k 0 := by
  have e1 : l.getD n 0 = l[n]'(by omega) := by rw [List.getD_eq_getElem?_getD, List.getElem?_eq_getElem (by omega)]; rfl
  have e2 : l.getD k 0 = l[k] := by rw [List.getD_eq_getElem?_getD, List.getElem?_eq_getElem hk]; rfl
  rw [e1, e2]
  exact List.pairwise_iff_getElem.mp S.asc n k (by omega) hk h
theorem Spots.place (k : Int) : (k % (l.length : Int)).toNat < l.length ∧ 0 ≤ k % (l.length : Int) ∧ k % (l.length : Int) < l.length := by
  have hl := S.len
  have h1 := Int.emod_nonneg k (show (l.length : Int) ≠ 0 by omega)
  have h2 := Int.emod_lt_of_pos k hl
  exact ⟨by omega, h1, h2⟩
theorem R_add (k q : Int) : R s l (k + q * (l.length : Int)) = R s l k + q * s := by
  have hl := S.len
  unfold R
  rw [Int.add_mul_emod_self_right, Int.add_mul_ediv_right _ _ (by omega), Int.add_mul]
  omega
include h0
theorem R_rng (k : Int) : k / (l.length : Int) * s ≤ R s l k ∧ R s l k < k / (l.length : Int) * s + s := by
  have := S.at (S.place k).1
  unfold R
  omega
theorem R_lt {k j : Int} (h : k < j) : R s l k < R s l j := by
  have hl := S.len
  have pk := S.place k
  have pj := S.place j
  have ek := Int.emod_add_mul_ediv k (l.length : Int)
  have ej := Int.emod_add_mul_ediv j (l.length : Int)
  have hle : k / (l.length : Int) ≤ j / (l.length : Int) := Int.ediv_le_ediv hl (Int.le_of_lt h)
  rcases Int.lt_or_eq_of_le hle with c | c
  · have h1 := (R_rng S h0 k).2
    have h2 := (R_rng S h0 j).1
    have h3 : (k / (l.length : Int) + 1) * s ≤ j / (l.length : Int) * s := Int.mul_le_mul_of_nonneg_right (by omega) (by omega)
    rw [Int.add_mul] at h3
    omega
  · have h4 : k % (l.length : Int) < j % (l.length : Int) := by rw [c] at ek; omega
    have := S.lt (n := (k % (l.length : Int)).toNat) (k := (j % (l.length : Int)).toNat) (by omega) pj.1
    unfold R
    rw [c]
    omega
theorem R_le {k j : Int} (h : k ≤ j) : R s l k ≤ R s l j := by
  rcases Int.lt_or_eq_of_le h with c | c
  · exact Int.le_of_lt (R_lt S h0 c)
  · rw [c]; exact Int.le_refl _
theorem R_inj {k j : Int} (h : R s l k = R s l j) : k = j := by
  rcases Int.lt_trichotomy k j with c | c | c
  · have := R_lt S h0 c; omega
  · exact c
  · have := R_lt S h0 c; omega
theorem R_lt_iff {k j : Int} : R s l k < R s l j ↔ k < j :=
  ⟨fun h => by
    apply Decidable.byContradiction
    intro c
    have := R_le S h0 (show j ≤ k by omega)
    omega, R_lt S h0⟩
theorem R_fix (sh : ∀ x k : Int, g (x + k * s) = g x + k * s) (k : Int) : g (R s l k) = R s l k := by
  unfold R
  rw [sh, (S.at (S.place k).1).2.2]
theorem R_ix (sh : ∀ x k : Int, g (x + k * s) = g x + k * s) {y : Int} (hy : g y = y) : R s l (ix s l y) = y := by
  have hl := S.len
  have e := Int.emod_add_mul_ediv y s
  rw [Int.mul_comm] at e
  have h1 := Int.emod_nonneg y (show s ≠ 0 by omega)
  have h2 := Int.emod_lt_of_pos y h0
  have h3 : g (y % s) = y % s := by
    have := sh (y % s) (y / s)
    rw [e, hy] at this
    omega
  have hm : y % s ∈ l := (S.mem _).mpr ⟨h1, h2, h3⟩
  have hi : l.idxOf (y % s) < l.length := List.idxOf_lt_length_iff.mpr hm
  have hg : l.getD (l.idxOf (y % s)) 0 = y % s := by
    rw [List.getD_eq_getElem?_getD, List.getElem?_eq_getElem hi]
    exact List.getElem_idxOf hi
  unfold ix
  rw [Int.add_comm, R_add S]
  unfold R
  rw [Int.emod_eq_of_lt (by omega) (by omega), Int.ediv_eq_zero_of_lt (by omega) (by omega), Int.toNat_natCast, hg]
  omega
end

/-- where the ends of a cut come to -/
def stepIJ (s : Int) (g : Int → Int) (l l' : List Int) (b i j : Int) : Option (Int × Int) :=
  let p := ix s l' (g (R s l i - b))
  let q := ix s l' (g (R s l j - b))
  if q = p + (l'.length : Int) then none else some (p - p / (l'.length : Int) * (l'.length : Int), q - p / (l'.length : Int) * (l'.length : Int))

def okIJ (l : List Int) (i j : Int) : Prop := 0 ≤ i ∧ i < (l.length : Int) ∧ i ≤ j ∧ j < i + (l.length : Int)

section
variable {g g' : Int → Int} {s : Int} {l l' : List Int} (S : Spots g s l) (S' : Spots g' s l') (h0 : 0 < s) (sh : ∀ x k : Int, g x = g x → g' (x + k * s) = g' x + k * s) (mono : ∀ x y, x ≤ y → g' x ≤ g' y) (idem : ∀ x, g' (g' x) = g' x)
include S S' h0 sh mono idem
theorem step_ends (b : Int) {i j : Int} (ok : okIJ l i j) : R s l' (ix s l' (g' (R s l i - b))) = g' (R s l i - b) ∧ R s l' (ix s l' (g' (R s l j - b))) = g' (R s l j - b) ∧
    g' (R s l i - b) ≤ g' (R s l j - b) ∧ g' (R s l j - b) ≤ g' (R s l i - b) + s := by
  have sh' : ∀ x k : Int, g' (x + k * s) = g' x + k * s := fun x k => sh x k rfl
  refine ⟨R_ix S' h0 sh' (idem _), R_ix S' h0 sh' (idem _), mono _ _ ?_, ?_⟩
  · have := R_le S h0 ok.2.2.1; omega
  · have h1 := R_lt S h0 ok.2.2.2
    have h2 := R_add S i 1
    rw [Int.one_mul, Int.one_mul] at h2
    have h3 := sh' (R s l i - b) 1
    rw [Int.one_mul] at h3
    rw [← h3]
    exact mono _ _ (by omega)
theorem step_none {b i j : Int} (ok : okIJ l i j) (h : stepIJ s g' l l' b i j = none) : g' (R s l j - b) = g' (R s l i - b) + s := by
  obtain ⟨e1, e2, _, _⟩ := step_ends S S' h0 sh mono idem b ok
  unfold stepIJ at h
  dsimp only at h
  split at h
  · rename_i e
    have h2 := R_add S' (ix s l' (g' (R s l i - b))) 1
    rw [Int.one_mul, Int.one_mul, ← e, e1, e2] at h2
    exact h2
  · cases h
theorem step_some {b i j i' j' : Int} (ok : okIJ l i j) (h : stepIJ s g' l l' b i j = some (i', j')) : okIJ l' i' j' ∧ ∃ c : Int, R s l' i' = g' (R s l i - b) + c * s ∧ R s l' j' = g' (R s l j - b) + c * s := by
  obtain ⟨e1, e2, le1, le2⟩ := step_ends S S' h0 sh mono idem b ok
  have hl := S'.len
  unfold stepIJ at h
  dsimp only at h
  split at h
  · cases h
  · rename_i ne
    generalize hp : ix s l' (g' (R s l i - b)) = p at h ne e1
    generalize hq : ix s l' (g' (R s l j - b)) = q at h ne e2
    have h1 : p - p / (l'.length : Int) * (l'.length : Int) = i' := congrArg (fun z : Int × Int => z.1) (Option.some.inj h)
    have h2 : q - p / (l'.length : Int) * (l'.length : Int) = j' := congrArg (fun z : Int × Int => z.2) (Option.some.inj h)
    have m1 := Int.emod_add_mul_ediv p (l'.length : Int)
    have m2 := Int.emod_nonneg p (show (l'.length : Int) ≠ 0 by omega)
    have m3 := Int.emod_lt_of_pos p hl
    rw [Int.mul_comm] at m1
    have a1 := R_add S' p (-(p / (l'.length : Int)))
    have a2 := R_add S' q (-(p / (l'.length : Int)))
    rw [Int.neg_mul, Int.neg_mul] at a1 a2
    have hpq : p ≤ q := by
      apply Decidable.byContradiction
      intro c
      have := R_lt S' h0 (show q < p by omega)
      omega
    have hqm : q ≤ p + (l'.length : Int) := by
      apply Decidable.byContradiction
      intro c
      have h3 := R_lt S' h0 (show p + (l'.length : Int) < q by omega)
      have h4 := R_add S' p 1
      rw [Int.one_mul, Int.one_mul] at h4
      omega
    refine ⟨⟨by omega, by omega, by omega, by omega⟩, -(p / (l'.length : Int)), ?_, ?_⟩
    · rw [← h1, ← e1, Int.neg_mul]
      exact a1
    · rw [← h2, ← e2, Int.neg_mul]
      exact a2
theorem step_lt {b i j : Int} (ok : okIJ l i j) (h : g' (R s l j - b) < g' (R s l i - b) + s) : ∃ i' j', stepIJ s g' l l' b i j = some (i', j') := by
  cases e : stepIJ s g' l l' b i j with
  | none =>
    have := step_none S S' h0 sh mono idem ok e
    omega
  | some p => exact ⟨p.1, p.2, rfl⟩
end

/-! ### a step that shrinks -/
def sumTo (f : Nat → Int) : Nat → Int
  | 0 => 0
  | n + 1 => sumTo f n + f n
theorem sumTo_front (f : Nat → Int) : ∀ n, sumTo f (n + 1) = f 0 + sumTo (fun k => f (k + 1)) n
  | 0 => by simp [sumTo]
  | n + 1 => by
    rw [show sumTo f (n + 1 + 1) = sumTo f (n + 1) + f (n + 1) from rfl, sumTo_front f n]
    show _ = f 0 + (sumTo (fun k => f (k + 1)) n + f (n + 1))
    omega
theorem sumTo_congr {f f' : Nat → Int} : ∀ n, (∀ k, k < n → f k = f' k) → sumTo f n = sumTo f' n
  | 0, _ => rfl
  | n + 1, h => by
    show sumTo f n + f n = sumTo f' n + f' n
    rw [sumTo_congr n fun k hk => h k (by omega), h n (by omega)]
theorem sumTo_sub (f f' : Nat → Int) : ∀ n, sumTo (fun k => f k - f' k) n = sumTo f n - sumTo f' n
  | 0 => rfl
  | n + 1 => by
    show sumTo (fun k => f k - f' k) n + (f n - f' n) = (sumTo f n + f n) - (sumTo f' n + f' n)
    rw [sumTo_sub f f' n]; omega
theorem sumTo_all {T : Nat → Int} {d : Int} : ∀ n : Nat, (∀ k, k < n → d ≤ T k) → sumTo T n ≤ (n : Int) * d → ∀ k, k < n → T k = d
  | 0, _, _, k, hk => by omega
  | n + 1, h, hs, k, hk => by
    have low : ∀ m, m ≤ n + 1 → (m : Int) * d ≤ sumTo T m := by
      intro m
      induction m with
      | zero => intro _; simp [sumTo]
      | succ m ih =>
        intro hm
        have h1 := ih (by omega)
        have h2 := h m (by omega)
        have e : ((m + 1 : Nat) : Int) * d = (m : Int) * d + d := by rw [Int.natCast_add, Int.add_mul]; simp
        rw [e]
        show _ ≤ sumTo T m + T m
        omega
    have e : ((n + 1 : Nat) : Int) * d = (n : Int) * d + d := by rw [Int.natCast_add, Int.add_mul]; simp
    rw [e] at hs
    have hs' : sumTo T n + T n ≤ (n : Int) * d + d := hs
    have h1 := low n (by omega)
    have h2 := h n (by omega)
    by_cases c : k = n
    · subst c; omega
    · exact sumTo_all n (fun k hk => h k (by omega)) (by omega) k (by omega)
theorem sum_next {g : Int → Int} {s : Int} (sh : ∀ x k : Int, g (x + k * s) = g x + k * s) (n : Nat) (hn : (n : Int) = s) (x : Int) : sumTo (fun b => g (x + 1 - (b : Int))) n = sumTo (fun b => g (x - (b : Int))) n + s := by
  have h1 := sumTo_front (fun b => g (x + 1 - (b : Int))) n
  have h2 : sumTo (fun b => g (x + 1 - (b : Int))) (n + 1) = sumTo (fun b => g (x + 1 - (b : Int))) n + g (x + 1 - (n : Int)) := rfl
  have h3 : sumTo (fun k => g (x + 1 - ((k + 1 : Nat) : Int))) n = sumTo (fun b => g (x - (b : Int))) n := sumTo_congr n fun k _ => by
    congr 1; omega
  have h4 := sh (x + 1 - (n : Int)) 1
  rw [Int.one_mul, hn, Int.sub_add_cancel] at h4
  rw [h2, hn] at h1
  have h5 : g (x + 1 - ((0 : Nat) : Int)) = g (x + 1) := by congr 1; omega
  rw [h3, h5] at h1
  omega
theorem sum_move {g : Int → Int} {s : Int} (sh : ∀ x k : Int, g (x + k * s) = g x + k * s) (n : Nat) (hn : (n : Int) = s) (x : Int) : ∀ d : Nat, sumTo (fun b => g (x + (d : Int) - (b : Int))) n = sumTo (fun b => g (x - (b : Int))) n + (d : Int) * s
  | 0 => by
    rw [sumTo_congr (f' := fun b => g (x - (b : Int))) n fun k _ => by congr 1; omega]
    simp
  | d + 1 => by
    have h1 := sum_next sh n hn (x + (d : Int))
    have h2 := sum_move sh n hn x d
    have e : ((d + 1 : Nat) : Int) * s = (d : Int) * s + s := by rw [Int.natCast_add, Int.add_mul]; simp
    rw [e, sumTo_congr (f' := fun b => g (x + (d : Int) + 1 - (b : Int))) n fun k _ => by congr 1; omega, h1, h2]
    omega
/-- if no turn shrinks the stretch from x to x + d, the map moves along with d -/
theorem comm_of_wide {g : Int → Int} {s : Int} (h0 : 0 < s) (sh : ∀ x k : Int, g (x + k * s) = g x + k * s) {x : Int} {d : Nat} (h : ∀ b : Int, 0 ≤ b → b < s → (d : Int) ≤ g (x + d - b) - g (x - b)) (z : Int) : g (z + d) = g z + d := by
  have hn : ((s.toNat : Nat) : Int) = s := Int.toNat_of_nonneg (by omega)
  have h1 := sum_move sh s.toNat hn x d
  have h2 := sumTo_sub (fun b => g (x + (d : Int) - (b : Int))) (fun b => g (x - (b : Int))) s.toNat
  have h3 := sumTo_all (T := fun b => g (x + (d : Int) - (b : Int)) - g (x - (b : Int))) (d := d) s.toNat (fun k hk => h k (by omega) (by omega)) (by
    rw [h2, h1, hn, Int.mul_comm]; omega)
  have e := Int.emod_add_mul_ediv (x - z) s
  have m1 := Int.emod_nonneg (x - z) (show s ≠ 0 by omega)
  have m2 := Int.emod_lt_of_pos (x - z) h0
  rw [Int.mul_comm] at e
  have h4 := h3 ((x - z) % s).toNat (by omega)
  rw [Int.toNat_of_nonneg m1] at h4
  have a1 := sh z ((x - z) / s)
  have a2 := sh (z + d) ((x - z) / s)
  have e1 : z + (x - z) / s * s = x - (x - z) % s := by omega
  have e2 : z + d + (x - z) / s * s = x + d - (x - z) % s := by omega
  rw [e1] at a1
  rw [e2] at a2
  omega
theorem Bd.shrinks {W : Type} {s : Int} {G : W → Int → Int} {sp : W → List Int} {ws : List W} (B : Bd s G sp ws) {x y : Int} (h1 : x < y) (h2 : y < x + s) : ∃ v ∈ ws, ∃ b : Int, 0 ≤ b ∧ b < s ∧ G v (y - b) - G v (x - b) < y - x := by
  apply Classical.byContradiction
  intro c
  have hd : ((y - x).toNat : Int) = y - x := Int.toNat_of_nonneg (by omega)
  have key : ∀ w ∈ ws, ∀ z, G w (z + (y - x)) = G w z + (y - x) := fun w hw z => by
    have := comm_of_wide (g := G w) B.pos (B.shift w hw) (x := x) (d := (y - x).toNat) (fun b hb0 hb1 => by
      rw [hd, show x + (y - x) - b = y - b by omega]
      apply Decidable.byContradiction
      intro c2
      exact c ⟨w, hw, b, hb0, hb1, by omega⟩) z
    rwa [hd] at this
  have := B.prim _ key
  rw [Int.emod_eq_of_lt (by omega) (by omega)] at this
  omega
end JT
end Part_JMath3
section Part_JMath4
/-! Stands, ways along the steps, plans: when a plan does, and why its beginning does not. Plain Lean. -/
namespace JT

structure Nd (W S : Type) where
  st : S
  w : W
  i : Int
  j : Int
  deriving DecidableEq

section
variable {W S : Type} (s : Int) (G : W → Int → Int) (sp : W → List Int) (ws : List W) (rules : S → W → Int → S → Prop)
/-- a step of the table: from an open stand, not lost -/
structure Edge (n : Nd W S) (v : W) (b : Int) (n' : Nd W S) : Prop where
  rule : rules n.st v b n'.st
  wd : n'.w = v
  op : n.i ≠ n.j
  to : stepIJ s (G v) (sp n.w) (sp v) b n.i n.j = some (n'.i, n'.j)
inductive Goes : Nd W S → Nat → Prop where
  | here {n : Nd W S} {k : Nat} : n.i = n.j → Goes n k
  | step {n n' : Nd W S} {v : W} {b : Int} {k : Nat} : Edge s G sp rules n v b n' → Goes n' k → Goes n (k + 1)
inductive Run : Nd W S → Nat → Nd W S → Prop where
  | refl (n : Nd W S) : Run n 0 n
  | snoc {n n' n'' : Nd W S} {v : W} {b : Int} {k : Nat} : Run n k n' → Edge s G sp rules n' v b n'' → Run n (k + 1) n''
structure Far (keys : Nd W S → Prop) (far : Nd W S → Option Nat) : Prop where
  zero : ∀ n, keys n → n.i = n.j → far n = some 0
  next : ∀ n v b n', keys n → Edge s G sp rules n v b n' → keys n'
  up : ∀ n v b n' d, keys n → Edge s G sp rules n v b n' → far n' = some d → ∃ d', far n = some d' ∧ d' ≤ d + 1
def Nd.ok (n : Nd W S) : Prop := n.w ∈ ws ∧ okIJ (sp n.w) n.i n.j
/-- one deed, a plan -/
def dm (d : W × Int) (x : Int) : Int := G d.1 (x - d.2) + d.2
def ev (ds : List (W × Int)) (x : Int) : Int := ds.foldl (fun x d => dm G d x) x
/-- the stand's ends behind a deed at the turn t -/
def Att (n : Nd W S) (t x y : Int) : Prop := ∃ c : Int, x = R s (sp n.w) n.i + t + c * s ∧ y = R s (sp n.w) n.j + t + c * s
variable (start : W → Int → Nd W S → Prop) (M : Int)
inductive Way : List (W × Int) → Int → Nd W S → Prop where
  | one {w : W} {t : Int} {n : Nd W S} : start w t n → Way [(w, t)] t n
  | more {ds : List (W × Int)} {t b : Int} {v : W} {n n' : Nd W S} : Way ds t n → Edge s G sp rules n v b n' → Way (ds ++ [(v, (t + b) % M)]) ((t + b) % M) n'
structure Starts : Prop where
  wd : ∀ w t n, start w t n → w ∈ ws ∧ n.w = w ∧ 0 ≤ n.i ∧ n.i < ((sp w).length : Int) ∧ n.j = n.i + ((sp w).length : Int) - 1
  all : ∀ w t n i, start w t n → 0 ≤ i → i < ((sp w).length : Int) → start w t ⟨n.st, w, i, i + ((sp w).length : Int) - 1⟩
end

section
variable {W S : Type} {s : Int} {G : W → Int → Int} {sp : W → List Int} {ws : List W} {rules : S → W → Int → S → Prop} {start : W → Int → Nd W S → Prop} {M : Int}
theorem ev_snoc (ds : List (W × Int)) (d : W × Int) (x : Int) : ev G (ds ++ [d]) x = dm G d (ev G ds x) := by simp [ev, List.foldl_append]
theorem ev_cons (ds : List (W × Int)) (d : W × Int) (x : Int) : ev G (d :: ds) x = ev G ds (dm G d x) := rfl
theorem Run.goes {n n' : Nd W S} {k : Nat} (r : Run s G sp rules n k n') : ∀ {j : Nat}, Goes s G sp rules n' j → Goes s G sp rules n (k + j) := by
  induction r with
  | refl =>
    intro j h
    rw [Nat.zero_add]; exact h
  | @snoc n1 n2 v b k r e ih =>
    intro j h
    have := ih (Goes.step e h)
    rw [show k + 1 + j = k + (j + 1) by omega]; exact this
theorem Goes.mono {n : Nd W S} {k : Nat} (h : Goes s G sp rules n k) : ∀ {j : Nat}, k ≤ j → Goes s G sp rules n j := by
  induction h with
  | here e => intro j _; exact .here e
  | @step n n' v b k e _ ih =>
    intro j hj
    obtain ⟨i, rfl⟩ : ∃ i, j = i + 1 := ⟨j - 1, by omega⟩
    exact .step e (ih (by omega))
theorem Far.goes {keys : Nd W S → Prop} {far : Nd W S → Option Nat} (F : Far s G sp rules keys far) {n : Nd W S} {k : Nat} (h : Goes s G sp rules n k) : keys n → ∃ d, far n = some d ∧ d ≤ k := by
  induction h with
  | here e => intro hk; exact ⟨0, F.zero _ hk e, Nat.zero_le _⟩
  | @step n n' v b k e _ ih =>
    intro hk
    obtain ⟨d, h1, h2⟩ := ih (F.next _ _ _ _ hk e)
    obtain ⟨d', h3, h4⟩ := F.up _ _ _ _ _ hk e h1
    exact ⟨d', h3, by omega⟩

variable (B : Bd s G sp ws)
include B
theorem dm_mono {d : W × Int} (hd : d.1 ∈ ws) {x y : Int} (h : x ≤ y) : dm G d x ≤ dm G d y := by
  have := B.mono _ hd (x - d.2) (y - d.2) (by omega)
  unfold dm; omega
theorem dm_shift {d : W × Int} (hd : d.1 ∈ ws) (x k : Int) : dm G d (x + k * s) = dm G d x + k * s := by
  have := B.shift _ hd (x - d.2) k
  unfold dm
  rw [show x + k * s - d.2 = x - d.2 + k * s by omega, this]; omega
theorem ev_mono : ∀ {ds : List (W × Int)}, (∀ d ∈ ds, d.1 ∈ ws) → ∀ {x y : Int}, x ≤ y → ev G ds x ≤ ev G ds y
  | [], _, _, _, h => h
  | d :: ds, hw, x, y, h => by
    rw [ev_cons, ev_cons]
    exact ev_mono (fun e he => hw e (List.mem_cons_of_mem _ he)) (dm_mono B (hw d List.mem_cons_self) h)
theorem ev_shift : ∀ {ds : List (W × Int)}, (∀ d ∈ ds, d.1 ∈ ws) → ∀ (x k : Int), ev G ds (x + k * s) = ev G ds x + k * s
  | [], _, _, _ => rfl
  | d :: ds, hw, x, k => by
    rw [ev_cons, ev_cons, dm_shift B (hw d List.mem_cons_self)]
    exact ev_shift (fun e he => hw e (List.mem_cons_of_mem _ he)) _ k
theorem att_eq {n : Nd W S} (hn : n.ok sp ws) {t x y : Int} (h : Att s sp n t x y) : x = y ↔ n.i = n.j := by
  obtain ⟨c, h1, h2⟩ := h
  constructor
  · intro e
    exact R_inj (B.spots _ hn.1) B.pos (by omega)
  · intro e
    rw [h1, h2, e]
theorem step_ok {n : Nd W S} (hn : n.ok sp ws) {v : W} (hv : v ∈ ws) {b i' j' : Int} (h : stepIJ s (G v) (sp n.w) (sp v) b n.i n.j = some (i', j')) {t t' x y : Int} (a : Att s sp n t x y) (ht : (t + b - t') % s = 0) (st : S) :
    (⟨st, v, i', j'⟩ : Nd W S).ok sp ws ∧ Att s sp (⟨st, v, i', j'⟩ : Nd W S) t' (dm G (v, t') x) (dm G (v, t') y) := by
  obtain ⟨ok, c, e1, e2⟩ := step_some (B.spots _ hn.1) (B.spots _ hv) B.pos (fun x k _ => B.shift _ hv x k) (B.mono _ hv) (B.idem _ hv) hn.2 h
  refine ⟨⟨hv, ok⟩, ?_⟩
  obtain ⟨c0, h1, h2⟩ := a
  have e3 := Int.emod_add_mul_ediv (t + b - t') s
  rw [ht, Int.zero_add, Int.mul_comm] at e3
  generalize (t + b - t') / s = q at e3
  have f1 := B.shift _ hv (R s (sp n.w) n.i - b) (c0 + q)
  have f2 := B.shift _ hv (R s (sp n.w) n.j - b) (c0 + q)
  rw [Int.add_mul] at f1 f2
  refine ⟨c0 + q - c, ?_, ?_⟩
  · unfold dm
    show G v (x - t') + t' = R s (sp v) i' + t' + (c0 + q - c) * s
    rw [show x - t' = R s (sp n.w) n.i - b + (c0 * s + q * s) by omega, f1, Int.sub_mul, Int.add_mul]
    omega
  · unfold dm
    show G v (y - t') + t' = R s (sp v) j' + t' + (c0 + q - c) * s
    rw [show y - t' = R s (sp n.w) n.j - b + (c0 * s + q * s) by omega, f2, Int.sub_mul, Int.add_mul]
    omega
theorem step_lost {n : Nd W S} (hn : n.ok sp ws) {v : W} (hv : v ∈ ws) {b : Int} (h : stepIJ s (G v) (sp n.w) (sp v) b n.i n.j = none) {t t' x y : Int} (a : Att s sp n t x y) (ht : (t + b - t') % s = 0) :
    dm G (v, t') y = dm G (v, t') x + s := by
  have e := step_none (B.spots _ hn.1) (B.spots _ hv) B.pos (fun x k _ => B.shift _ hv x k) (B.mono _ hv) (B.idem _ hv) hn.2 h
  obtain ⟨c0, h1, h2⟩ := a
  have e3 := Int.emod_add_mul_ediv (t + b - t') s
  rw [ht, Int.zero_add, Int.mul_comm] at e3
  generalize (t + b - t') / s = q at e3
  have f1 := B.shift _ hv (R s (sp n.w) n.i - b) (c0 + q)
  have f2 := B.shift _ hv (R s (sp n.w) n.j - b) (c0 + q)
  rw [Int.add_mul] at f1 f2
  unfold dm
  show G v (y - t') + t' = G v (x - t') + t' + s
  rw [show x - t' = R s (sp n.w) n.i - b + (c0 * s + q * s) by omega, f1, show y - t' = R s (sp n.w) n.j - b + (c0 * s + q * s) by omega, f2]
  omega
variable (hrw : ∀ st v b st', rules st v b st' → v ∈ ws) (SS : Starts sp ws start) (hM : M % s = 0)
include hrw SS hM
omit hM hrw in
theorem start_ok {w : W} {t : Int} {n : Nd W S} (h : start w t n) : n.ok sp ws := by
  obtain ⟨h1, h2, h3, h4, h5⟩ := SS.wd _ _ _ h
  have := (B.spots w h1).len
  unfold Nd.ok okIJ
  rw [h2]
  exact ⟨h1, by omega, by omega, by omega, by omega⟩
omit SS hrw in
theorem turn_mod (a : Int) : (a - a % M) % s = 0 := by
  have e := Int.emod_add_mul_ediv a M
  rw [show a - a % M = M * (a / M) by omega, Int.mul_emod, hM, Int.zero_mul, Int.zero_emod]
/-- every cut of the first deed, followed along a way -/
theorem way_cut {ds : List (W × Int)} {t : Int} {n : Nd W S} (h : Way s G sp rules start M ds t n) :
    ∃ w0 t0 tail st0, ds = (w0, t0) :: tail ∧ w0 ∈ ws ∧ (∀ d ∈ ds, d.1 ∈ ws) ∧ (∃ i, 0 ≤ i ∧ i < ((sp w0).length : Int) ∧ n.ok sp ws ∧ Att s sp n t (ev G tail (R s (sp w0) i + t0)) (ev G tail (R s (sp w0) (i + ((sp w0).length : Int) - 1) + t0))) ∧
      ∀ i, 0 ≤ i → i < ((sp w0).length : Int) → start w0 t0 ⟨st0, w0, i, i + ((sp w0).length : Int) - 1⟩ ∧
        (Goes s G sp rules ⟨st0, w0, i, i + ((sp w0).length : Int) - 1⟩ tail.length ∨
        ev G tail (R s (sp w0) (i + ((sp w0).length : Int) - 1) + t0) = ev G tail (R s (sp w0) i + t0) + s ∨
        ∃ n' : Nd W S, n'.st = n.st ∧ n'.w = n.w ∧ n'.ok sp ws ∧ n'.i ≠ n'.j ∧ Att s sp n' t (ev G tail (R s (sp w0) i + t0)) (ev G tail (R s (sp w0) (i + ((sp w0).length : Int) - 1) + t0)) ∧
          Run s G sp rules ⟨st0, w0, i, i + ((sp w0).length : Int) - 1⟩ tail.length n') := by
  induction h with
  | @one w t n hs =>
    obtain ⟨h1, h2, h3, h4, h5⟩ := SS.wd _ _ _ hs
    have hok := start_ok B SS hs
    refine ⟨w, t, [], n.st, rfl, h1, fun d hd => by rw [List.mem_singleton.mp hd]; exact h1, ⟨n.i, h3, h4, hok, 0, ?_, ?_⟩, fun i hi0 hi1 => ?_⟩
    · rw [h2]; show R s (sp w) n.i + t = _; omega
    · rw [h2, h5]; show R s (sp w) (n.i + ((sp w).length : Int) - 1) + t = _; omega
    · have hst := SS.all _ _ _ i hs hi0 hi1
      refine ⟨hst, ?_⟩
      by_cases c : i = i + ((sp w).length : Int) - 1
      · exact .inl (.here c)
      · refine .inr (.inr ⟨⟨n.st, w, i, i + ((sp w).length : Int) - 1⟩, rfl, h2.symm, start_ok B SS hst, c, ⟨0, ?_, ?_⟩, .refl _⟩)
        · show R s (sp w) i + t = R s (sp w) i + t + 0 * s; omega
        · show R s (sp w) (i + ((sp w).length : Int) - 1) + t = R s (sp w) (i + ((sp w).length : Int) - 1) + t + 0 * s; omega
  | @more ds t b v n n' hw e ih =>
    obtain ⟨w0, t0, tail, st0, rfl, hw0, hds, ⟨i0, hi0, hi1, hok, hat⟩, all⟩ := ih
    have hv := hrw _ _ _ _ e.rule
    have htm := turn_mod (s := s) (M := M) B hM (t + b)
    refine ⟨w0, t0, tail ++ [(v, (t + b) % M)], st0, rfl, hw0, ?_, ⟨i0, hi0, hi1, ?_⟩, fun i h1 h2 => ?_⟩
    · intro d hd
      rcases List.mem_append.mp hd with hd | hd
      · exact hds d hd
      · rw [List.mem_singleton.mp hd]; exact hv
    · have := step_ok B hok hv e.to hat htm n'.st
      rw [ev_snoc, ev_snoc]
      obtain ⟨st', w', i', j'⟩ := n'
      have hwd : w' = v := e.wd
      subst hwd
      exact this
    · obtain ⟨hst, hor⟩ := all i h1 h2
      refine ⟨hst, ?_⟩
      rw [ev_snoc, ev_snoc, List.length_append, List.length_singleton]
      rcases hor with hg | hl | ⟨m, m1, m2, m3, m4, m5, m6⟩
      · exact .inl (hg.mono (Nat.le_succ _))
      · refine .inr (.inl ?_)
        rw [hl]
        have := dm_shift B (d := (v, (t + b) % M)) hv (ev G tail (R s (sp w0) i + t0)) 1
        rw [Int.one_mul] at this
        exact this
      · cases q : stepIJ s (G v) (sp m.w) (sp v) b m.i m.j with
        | none => exact .inr (.inl (step_lost B m3 hv q m5 htm))
        | some p =>
          obtain ⟨i', j'⟩ := p
          obtain ⟨k1, k2⟩ := step_ok B m3 hv q m5 htm n'.st
          have ed : Edge s G sp rules m v b ⟨n'.st, v, i', j'⟩ := ⟨by rw [m1]; exact e.rule, rfl, m4, q⟩
          by_cases c : i' = j'
          · exact .inl (Run.goes (m6.snoc ed) (j := 0) (.here c))
          · exact .inr (.inr ⟨⟨n'.st, v, i', j'⟩, rfl, e.wd.symm, k1, c, k2, m6.snoc ed⟩)
omit hrw SS hM in
theorem way_prefix {ds : List (W × Int)} {t : Int} {n : Nd W S} (h : Way s G sp rules start M ds t n) : ∀ k, 0 < k → k ≤ ds.length → ∃ t' n', Way s G sp rules start M (ds.take k) t' n' := by
  induction h with
  | @one w t n hs =>
    intro k h0 h1
    have : k = 1 := by simp at h1; omega
    subst this
    exact ⟨t, n, .one hs⟩
  | @more ds t b v n n' hw e ih =>
    intro k h0 h1
    rw [List.length_append, List.length_singleton] at h1
    by_cases c : k ≤ ds.length
    · obtain ⟨t', n'', h⟩ := ih k h0 c
      rw [List.take_append_of_le_length c]
      exact ⟨t', n'', h⟩
    · have : k = (ds ++ [(v, (t + b) % M)]).length := by rw [List.length_append, List.length_singleton]; omega
      rw [this, List.take_length]
      exact ⟨_, _, .more hw e⟩
def AllOne (s : Int) (G : W → Int → Int) (ds : List (W × Int)) : Prop := ∀ x y, ev G ds x % s = ev G ds y % s
omit hrw SS hM in
/-- one cut come together: all one standing -/
theorem all_of_cut {w0 : W} {t0 : Int} {tail : List (W × Int)} (hw0 : w0 ∈ ws) (ht : ∀ d ∈ tail, d.1 ∈ ws) {i : Int} (e : ev G tail (R s (sp w0) i + t0) = ev G tail (R s (sp w0) (i + ((sp w0).length : Int) - 1) + t0)) : AllOne s G ((w0, t0) :: tail) := by
  have Sp := B.spots _ hw0
  have hl := Sp.len
  have key : ∀ x, ev G ((w0, t0) :: tail) x % s = ev G tail (R s (sp w0) i + t0) % s := fun x => by
    rw [ev_cons]
    have e1 : dm G (w0, t0) x = R s (sp w0) (ix s (sp w0) (G w0 (x - t0))) + t0 := by
      rw [R_ix Sp B.pos (B.shift _ hw0) (B.idem _ hw0 _)]; rfl
    rw [e1]
    generalize ix s (sp w0) (G w0 (x - t0)) = k
    have q1 := Int.emod_add_mul_ediv (k - i) ((sp w0).length : Int)
    have q2 := Int.emod_nonneg (k - i) (show ((sp w0).length : Int) ≠ 0 by omega)
    have q3 := Int.emod_lt_of_pos (k - i) hl
    rw [Int.mul_comm] at q1
    have a := R_add (s := s) Sp (i + (k - i) % ((sp w0).length : Int)) ((k - i) / ((sp w0).length : Int))
    rw [show i + (k - i) % ((sp w0).length : Int) + (k - i) / ((sp w0).length : Int) * ((sp w0).length : Int) = k by omega] at a
    have b := ev_shift B ht (R s (sp w0) (i + (k - i) % ((sp w0).length : Int)) + t0) ((k - i) / ((sp w0).length : Int))
    rw [a, show R s (sp w0) (i + (k - i) % ((sp w0).length : Int)) + (k - i) / ((sp w0).length : Int) * s + t0 = R s (sp w0) (i + (k - i) % ((sp w0).length : Int)) + t0 + (k - i) / ((sp w0).length : Int) * s by omega, b, Int.add_mul_emod_self_right]
    have m1 := ev_mono B ht (show R s (sp w0) i + t0 ≤ R s (sp w0) (i + (k - i) % ((sp w0).length : Int)) + t0 by
      have := R_le Sp B.pos (show i ≤ i + (k - i) % ((sp w0).length : Int) by omega); omega)
    have m2 := ev_mono B ht (show R s (sp w0) (i + (k - i) % ((sp w0).length : Int)) + t0 ≤ R s (sp w0) (i + ((sp w0).length : Int) - 1) + t0 by
      have := R_le Sp B.pos (show i + (k - i) % ((sp w0).length : Int) ≤ i + ((sp w0).length : Int) - 1 by omega); omega)
    rw [show ev G tail (R s (sp w0) (i + (k - i) % ((sp w0).length : Int)) + t0) = ev G tail (R s (sp w0) i + t0) by omega]
  intro x y
  rw [key x, key y]
omit hrw SS hM in
/-- all one standing: one cut has come together -/
theorem cut_of_all {w0 : W} {t0 : Int} {tail : List (W × Int)} (hw0 : w0 ∈ ws) (ht : ∀ d ∈ tail, d.1 ∈ ws) (h : AllOne s G ((w0, t0) :: tail)) : ∃ i, 0 ≤ i ∧ i < ((sp w0).length : Int) ∧ ev G tail (R s (sp w0) i + t0) = ev G tail (R s (sp w0) (i + ((sp w0).length : Int) - 1) + t0) := by
  have Sp := B.spots _ hw0
  have hl := Sp.len
  have h0 := B.pos
  have fx : ∀ k, dm G (w0, t0) (R s (sp w0) k + t0) = R s (sp w0) k + t0 := fun k => by
    unfold dm
    show G w0 (R s (sp w0) k + t0 - t0) + t0 = _
    rw [show R s (sp w0) k + t0 - t0 = R s (sp w0) k by omega, R_fix Sp h0 (B.shift _ hw0)]
  have same : ∀ k k', ev G tail (R s (sp w0) k + t0) % s = ev G tail (R s (sp w0) k' + t0) % s := fun k k' => by
    have := h (R s (sp w0) k + t0) (R s (sp w0) k' + t0)
    rw [ev_cons, ev_cons, fx, fx] at this
    exact this
  have per : ∀ k, ev G tail (R s (sp w0) (k + ((sp w0).length : Int)) + t0) = ev G tail (R s (sp w0) k + t0) + s := fun k => by
    have a := R_add (s := s) Sp k 1
    rw [Int.one_mul, Int.one_mul] at a
    have b := ev_shift B ht (R s (sp w0) k + t0) 1
    rw [Int.one_mul] at b
    rw [a, show R s (sp w0) k + s + t0 = R s (sp w0) k + t0 + s by omega, b]
  have mono : ∀ k k', k ≤ k' → ev G tail (R s (sp w0) k + t0) ≤ ev G tail (R s (sp w0) k' + t0) := fun k k' hk => by
    refine ev_mono B ht ?_
    have := R_le Sp h0 hk; omega
  -- the place where it rises
  have rise : ∃ i, 0 ≤ i ∧ i < ((sp w0).length : Int) ∧ ev G tail (R s (sp w0) (i - 1) + t0) ≠ ev G tail (R s (sp w0) i + t0) := by
    apply Classical.byContradiction
    intro c
    have flat : ∀ n : Nat, (n : Int) ≤ (sp w0).length → ev G tail (R s (sp w0) ((n : Int) - 1) + t0) = ev G tail (R s (sp w0) (-1) + t0) := by
      intro n
      induction n with
      | zero => intro _; rfl
      | succ n ih =>
        intro hn
        have h1 := ih (by omega)
        have h2 : ev G tail (R s (sp w0) ((n : Int) - 1) + t0) = ev G tail (R s (sp w0) (n : Int) + t0) := by
          apply Classical.byContradiction
          intro c2
          exact c ⟨n, by omega, by omega, c2⟩
        rw [show ((n + 1 : Nat) : Int) - 1 = (n : Int) by omega, ← h2, h1]
    have h3 := flat (sp w0).length (Int.le_refl _)
    have h4 := per (-1)
    rw [show -1 + ((sp w0).length : Int) = ((sp w0).length : Int) - 1 by omega] at h4
    omega
  obtain ⟨i, hi0, hi1, hne⟩ := rise
  refine ⟨i, hi0, hi1, ?_⟩
  have h1 := mono (i - 1) i (by omega)
  have h2 := mono i (i + ((sp w0).length : Int) - 1) (by omega)
  have h3 := per (i - 1)
  rw [show i - 1 + ((sp w0).length : Int) = i + ((sp w0).length : Int) - 1 by omega] at h3
  have h4 := same (i - 1) i
  have h5 := Int.emod_eq_emod_iff_emod_sub_eq_zero.mp h4.symm
  have h6 := Int.le_of_dvd (by omega) (Int.dvd_of_emod_eq_zero h5)
  omega
/-- the plan does, and no beginning of it -/
theorem plan_does {ds : List (W × Int)} {t : Int} {n : Nd W S} (h : Way s G sp rules start M ds t n) (hc : n.i = n.j) : AllOne s G ds := by
  obtain ⟨w0, t0, tail, st0, rfl, hw0, hds, ⟨i, _, _, hok, hat⟩, _⟩ := way_cut B hrw SS hM h
  exact all_of_cut B hw0 (fun d hd => hds d (List.mem_cons_of_mem _ hd)) ((att_eq B hok hat).mpr hc)
theorem plan_first {keys : Nd W S → Prop} {far : Nd W S → Option Nat} (F : Far s G sp rules keys far) (hk : ∀ w t n, start w t n → keys n) {c : Nat} (hmin : ∀ w t n d, start w t n → far n = some d → c ≤ d + 1) (hs : s ≠ 1)
    {ds : List (W × Int)} {t : Int} {n : Nd W S} (h : Way s G sp rules start M ds t n) (hlen : ds.length = c) : ¬ AllOne s G (ds.take (c - 1)) := by
  intro all
  have h0 := B.pos
  by_cases c1 : c - 1 = 0
  · rw [c1] at all
    have := all 0 1
    simp only [List.take_zero, ev, List.foldl_nil] at this
    rw [Int.emod_eq_of_lt (by omega) (by omega), Int.emod_eq_of_lt (by omega) (by omega)] at this
    omega
  · obtain ⟨t', n', hw⟩ := way_prefix B h (c - 1) (by omega) (by omega)
    obtain ⟨w0, t0, tail, st0, e, hw0, hds, _, cuts⟩ := way_cut B hrw SS hM hw
    have hl : tail.length + 1 = c - 1 := by
      have := congrArg List.length e
      rw [List.length_take, List.length_cons] at this
      omega
    rw [e] at all hds
    obtain ⟨i, hi0, hi1, hcut⟩ := cut_of_all B hw0 (fun d hd => hds d (List.mem_cons_of_mem _ hd)) all
    obtain ⟨hst, hor⟩ := cuts i hi0 hi1
    rcases hor with hg | hl2 | ⟨m, _, _, m3, m4, m5, _⟩
    · obtain ⟨d, hd1, hd2⟩ := F.goes hg (hk _ _ _ hst)
      have := hmin _ _ _ _ hst hd1
      omega
    · omega
    · exact m4 ((att_eq B m3 m5).mp hcut)
omit SS hM hrw in
/-- where every step is let, each open stand comes together in as many steps as it is wide, or fewer -/
theorem free_goes (st : S) (hall : ∀ v ∈ ws, ∀ b : Int, 0 ≤ b → b < s → rules st v b st) : ∀ (k : Nat) (n : Nd W S), n.st = st → n.ok sp ws → R s (sp n.w) n.j - R s (sp n.w) n.i ≤ (k : Int) → Goes s G sp rules n k := by
  intro k
  induction k with
  | zero =>
    intro n hs hok hle
    refine .here ?_
    have := hok.2.2.2.1
    apply Decidable.byContradiction
    intro c
    have := R_lt (B.spots _ hok.1) B.pos (show n.i < n.j by omega)
    omega
  | succ k ih =>
    intro n hs hok hle
    by_cases c : n.i = n.j
    · exact .here c
    · have hij := hok.2.2.2.1
      have Sp := B.spots _ hok.1
      have h1 := R_lt Sp B.pos (show n.i < n.j by omega)
      have h2 := R_lt Sp B.pos hok.2.2.2.2
      have a := R_add (s := s) Sp n.i 1
      rw [Int.one_mul, Int.one_mul] at a
      obtain ⟨v, hv, b, hb0, hb1, hlt⟩ := B.shrinks h1 (by omega)
      obtain ⟨i', j', q⟩ := step_lt Sp (B.spots _ hv) B.pos (fun x k _ => B.shift _ hv x k) (B.mono _ hv) (B.idem _ hv) hok.2 (b := b) (by omega)
      obtain ⟨ok', cc, e1, e2⟩ := step_some Sp (B.spots _ hv) B.pos (fun x k _ => B.shift _ hv x k) (B.mono _ hv) (B.idem _ hv) hok.2 q
      refine .step (n' := ⟨st, v, i', j'⟩) ⟨by rw [hs]; exact hall v hv b hb0 hb1, rfl, c, q⟩ (ih _ rfl ⟨hv, ok'⟩ ?_)
      show R s (sp v) j' - R s (sp v) i' ≤ (k : Int)
      omega
omit hM hrw in
theorem free_start {w : W} {t : Int} {n : Nd W S} (h : start w t n) : R s (sp n.w) n.j - R s (sp n.w) n.i ≤ s - 1 := by
  have hok := start_ok B SS h
  have Sp := B.spots _ hok.1
  have h2 := R_lt Sp B.pos hok.2.2.2.2
  have a := R_add (s := s) Sp n.i 1
  rw [Int.one_mul, Int.one_mul] at a
  omega
end
end JT
end Part_JMath4
section Part_JBase
set_option Elab.async false
set_option linter.all false
set_option maxRecDepth 100000
set_option maxHeartbeats 4000000
/-! What is said of a def; how the heap stays; the objects of the program. -/
namespace JD
open PySem PySem.Spec PyProof.Rows L2 JR
open Evl (Ex)
/-- a def at f keeps the promise sp -/
def DefOk (P : Program) (w : World) (K : PySem.W.Frag) (mg : Str → Option Value) (base : Heap) (k : Nat) (f : Addr) (ps : List Str) (sp : Sp) : Prop :=
  ∃ fd, FnOk P w K mg base CX0 k f fd ps sp ∧ PySem.W.keepIn K (.ref f) = true ∧ Binds K fd ps []
/-! ### how the heap stays -/
/-- all but the object at F is kept; what stood there stays of its kind -/
def Wx (F : Addr) (Ok : HO → Prop) (H H' : Hp) : Prop := (∀ a o, a ≠ F → H a = some o → H' a = some o) ∧ ((∃ o, H F = some o ∧ Ok o) → ∃ o, H' F = some o ∧ Ok o)
theorem Wx.refl {F : Addr} {Ok : HO → Prop} (H : Hp) : Wx F Ok H H := ⟨fun _ _ _ h => h, fun h => h⟩
theorem Wx.trans {F : Addr} {Ok : HO → Prop} {H H1 H2 : Hp} (a : Wx F Ok H H1) (b : Wx F Ok H1 H2) : Wx F Ok H H2 := ⟨fun x o n h => b.1 x o n (a.1 x o n h), fun h => b.2 (a.2 h)⟩
theorem Wx.ex {F : Addr} {Ok : HO → Prop} {H H' : Hp} (e : Ex H H') : Wx F Ok H H' := ⟨fun x o _ h => e x o h, fun ⟨o, h, k⟩ => ⟨o, e _ _ h, k⟩⟩
theorem Wx.put {F : Addr} {Ok : HO → Prop} {H : Hp} {o : HO} (h : Ok o) : Wx F Ok H (upd H F o) := ⟨fun x u n e => by rw [upd_ne n]; exact e, fun _ => ⟨o, upd_same, h⟩⟩
/-- tuples stay, where F holds none -/
theorem Wx.tups {F : Addr} {Ok : HO → Prop} {H H' : Hp} {u : HO} (e : Wx F Ok H H') (h : H F = some u) (hu : ∀ xs, u ≠ .tup xs) : Tups H H' := fun a xs q =>
  e.1 a _ (fun n => by subst n; rw [h] at q; exact hu xs (Option.some.inj q)) q
/-- a way in which a heap grows: what is new may change; what is Gd is kept -/
structure Rel (R : Hp → Hp → Prop) (Gd : Addr → Prop) : Prop where
  refl : ∀ H, R H H
  trans : ∀ {H H1 H2}, R H H1 → R H1 H2 → R H H2
  ex : ∀ {H H'}, Ex H H' → R H H'
  alt : ∀ {H H' p o}, R H H' → H p = none → R H (upd H' p o)
  keep : ∀ {H H' D u}, R H H' → H D = some u → Gd D → H' D = some u
theorem relEx : Rel Ex (fun _ => True) := ⟨Ex.refl, Ex.trans, id, Evl.Ex.mut, fun e h _ => e _ _ h⟩
theorem relWx {F : Addr} {Ok : HO → Prop} : Rel (Wx F Ok) (· ≠ F) where
  refl := Wx.refl
  trans := Wx.trans
  ex := Wx.ex
  alt := fun {H H' p o} e h => ⟨fun a u n q => by
    rw [upd_ne (ne_of_none q h)]
    exact e.1 a u n q, fun ⟨u, q, k⟩ => by
    obtain ⟨z, hz, kz⟩ := e.2 ⟨u, q, k⟩
    exact ⟨z, by rw [upd_ne (ne_of_none q h)]; exact hz, kz⟩⟩
  keep := fun e h n => e.1 _ _ n h
theorem ex_new {H : Hp} {p : Addr} {o : HO} (h : H p = none) : Ex H (upd H p o) := Evl.Ex.new h
theorem yes_go {σ : L2.St} {H : Hp} {A B : Hp → Prop} (h : A H) : tYes σ H (fun b H3 => if b = true then A H3 else B H3) := (if_pos rfl : (if true = true then A H else B H) = A H).mpr h
theorem fm_succ {β : Type} (ok : Nat → Option β) (i : Nat) : (List.range (i + 1)).filterMap ok = (List.range i).filterMap ok ++ (match ok i with | some c => [c] | none => []) := by
  rw [List.range_succ, List.filterMap_append]
  congr 1
  cases h : ok i <;> simp [h]
theorem fm_all {β : Type} {l : List β} {n : Nat} (h : n = l.length) : (List.range n).filterMap (fun i => l[i]?) = l := by
  subst h
  induction l with
  | nil => rfl
  | cons a l ih =>
    rw [List.length_cons, List.range_succ_eq_map, List.filterMap_cons]
    simp only [List.getElem?_cons_zero, List.filterMap_map]
    congr 1
theorem fm_len {β : Type} (ok : Nat → Option β) (i : Nat) : ((List.range i).filterMap ok).length ≤ i := by
  have := List.length_filterMap_le ok (List.range i)
  rw [List.length_range] at this
  exact this
section
variable {J : It} {n : Nat} {G : Hp → Prop} {Y : Nat → Hp → V → Hp → Prop} {R : Hp → Hp → Prop} {Gd : Addr → Prop} {β : Type} {enc : β → PyData}
/-- a comprehension that lists c for each turn i with ok i = some c -/
theorem lc_ls (L : Rel R Gd) (w : Walk J n G Y) {g : TG} {tt : TT} {te : TE} {vs : List Nat} {σ : L2.St} {H1 : Hp} {D : Addr} {Qd : Hp → Prop} (ok : Nat → Option β) (hD : H1 D = none) (hg : Gd D) (hn : n < sizeLine)
    (ht : ∀ H, R H1 H → Tups H1 H → G H)
    (hs : ∀ i x H H', i < n → R H1 H → Tups H1 H → Y i H x H' → ∀ (Go : VK) (Sk : Hp → Prop), (∀ c y H4, ok i = some c → R H H4 → Tups H H4 → Im H4 y (enc c) → Go y H4) → (∀ H3, ok i = none → R H H3 → Tups H H3 → Sk H3) →
      g x (wipe σ vs) H' fun σ2 H2 => wipe σ2 vs = wipe σ vs ∧ tt σ2 H2 fun b H3 => if b = true then te σ2 H3 Go else Sk H3)
    (hd : ∀ H xs, R H1 H → Tups H1 H → H D = some (.lst xs) → Ls H enc xs ((List.range n).filterMap ok) → Qd H) :
    ∃ W : Nat → Nat → Hp → Prop, (∃ m, W 0 m (upd H1 D (.lst []))) ∧ ∀ i m H, W i m H →
      (J.stop i H ∧ Qd H) ∨ (J.go i H ∧ ∃ Nx : Hp → Prop, (∀ H', Nx H' → ∃ m', m' < m ∧ W (i + 1) m' H') ∧ ∀ x H', J.yld i H x H' → g x (wipe σ vs) H' fun σ2 H2 => wipe σ2 vs = wipe σ vs ∧ tt σ2 H2 fun b H3 =>
        if b = true then te σ2 H3 fun y H4 => ∃ acc, H4 D = some (.lst acc) ∧ acc.length < sizeLine ∧ Nx (upd H4 D (.lst (acc ++ [y]))) else Nx H3) := by
  refine lc_it w (fun i H => R H1 H ∧ Tups H1 H ∧ ∃ xs, H D = some (.lst xs) ∧ Ls H enc xs ((List.range i).filterMap ok)) ⟨L.alt (L.refl H1) hD, Tups.new hD, [], upd_same, .nil⟩ (fun i H _ ⟨r, t, _⟩ => ht H r t) (fun i x H H' hi ⟨r, t, xs, hx, hl⟩ y => ?_) (fun H ⟨r, t, xs, hx, hl⟩ => hd H xs r t hx hl)
  refine hs i x H H' hi r t y (fun v H4 => ∃ acc, H4 D = some (.lst acc) ∧ acc.length < sizeLine ∧ R H1 (upd H4 D (.lst (acc ++ [v]))) ∧ Tups H1 (upd H4 D (.lst (acc ++ [v]))) ∧ ∃ xs, upd H4 D (.lst (acc ++ [v])) D = some (.lst xs) ∧ Ls (upd H4 D (.lst (acc ++ [v]))) enc xs ((List.range (i + 1)).filterMap ok)) _ (fun c v H4 e r4 t4 im => ?_) (fun H3 e r3 t3 => ?_)
  · have h4 : H4 D = some (.lst xs) := L.keep r4 hx hg
    have tu : Tups H4 (upd H4 D (.lst (xs ++ [v]))) := Tups.mut h4 fun _ z => nomatch z
    refine ⟨xs, h4, ?_, L.alt (L.trans r r4) hD, (t.trans t4).trans tu, _, upd_same, ?_⟩
    · have := hl.len
      have := fm_len ok i
      omega
    · rw [fm_succ, e]
      exact ((hl.keep t4).keep tu).snoc (im.keep tu)
  · refine ⟨L.trans r r3, t.trans t3, xs, L.keep r3 hx hg, ?_⟩
    rw [fm_succ, e, List.append_nil]
    exact hl.keep t3
end
section
variable {J : It} {n : Nat} {G : Hp → Prop} {Y : Nat → Hp → V → Hp → Prop}
/-- a dict comprehension over a walk: Pv by the turn and the heap (the new dict at D within) -/
theorem dc_it (w : Walk J n G Y) {g : TG} {tt : TT} {tk tv : TE} {vs : List Nat} {σ : L2.St} {H1 : Hp} {D : Addr} {Qd : Hp → Prop} (Pv : Nat → Hp → Prop) (h0 : Pv 0 (upd H1 D (.dK []))) (hG : ∀ i H, i ≤ n → Pv i H → G H)
    (hs : ∀ i x H H', i < n → Pv i H → Y i H x H' → g x (wipe σ vs) H' fun σ2 H2 => wipe σ2 vs = wipe σ vs ∧ tt σ2 H2 fun b H3 =>
      if b = true then tk σ2 H3 fun y H4 => tv σ2 H4 fun z H5 => ∃ kvs k, y = kV k ∧ H5 D = some (.dK kvs) ∧ kvs.length < sizeLine ∧ Pv (i + 1) (upd H5 D (.dK (putK kvs k z))) else Pv (i + 1) H3) (hd : ∀ H, Pv n H → Qd H) :
    ∃ W : Nat → Nat → Hp → Prop, (∃ m, W 0 m (upd H1 D (.dK []))) ∧ ∀ i m H, W i m H →
      (J.stop i H ∧ Qd H) ∨ (J.go i H ∧ ∃ Nx : Hp → Prop, (∀ H', Nx H' → ∃ m', m' < m ∧ W (i + 1) m' H') ∧ ∀ x H', J.yld i H x H' → g x (wipe σ vs) H' fun σ2 H2 => wipe σ2 vs = wipe σ vs ∧ tt σ2 H2 fun b H3 =>
        if b = true then tk σ2 H3 fun y H4 => tv σ2 H4 fun z H5 => ∃ kvs k, y = kV k ∧ H5 D = some (.dK kvs) ∧ kvs.length < sizeLine ∧ Nx (upd H5 D (.dK (putK kvs k z))) else Nx H3) := by
  refine ⟨fun i m H => m = n - i ∧ i ≤ n ∧ Pv i H, ⟨n, by simp, Nat.zero_le _, h0⟩, ?_⟩
  rintro i m H ⟨rfl, hi, p⟩
  have q := hG i H hi p
  by_cases hlt : i < n
  · exact .inr ⟨w.goes i H hlt q, Pv (i + 1), fun H' p' => ⟨n - (i + 1), by omega, rfl, hlt, p'⟩, fun x H' y => hs i x H H' hlt p (w.yields i H x H' hlt q y)⟩
  · have e : i = n := by omega
    subst e
    exact .inl ⟨w.stops H q, hd H p⟩
/-- .. whose keys are tuples -/
theorem dcT_it (w : Walk J n G Y) {g : TG} {tt : TT} {tk tv : TE} {vs : List Nat} {σ : L2.St} {H1 : Hp} {D : Addr} {Qd : Hp → Prop} (Pv : Nat → Hp → Prop) (h0 : Pv 0 (upd H1 D (.dT []))) (hG : ∀ i H, i ≤ n → Pv i H → G H)
    (hs : ∀ i x H H', i < n → Pv i H → Y i H x H' → g x (wipe σ vs) H' fun σ2 H2 => wipe σ2 vs = wipe σ vs ∧ tt σ2 H2 fun b H3 =>
      if b = true then tk σ2 H3 fun y H4 => tv σ2 H4 fun z H5 => ∃ kvs k p, y = .ref p ∧ H5 p = some (.tup (k.map kV)) ∧ H5 D = some (.dT kvs) ∧ kvs.length < sizeLine ∧ Pv (i + 1) (upd H5 D (.dT (putK kvs k z))) else Pv (i + 1) H3) (hd : ∀ H, Pv n H → Qd H) :
    ∃ W : Nat → Nat → Hp → Prop, (∃ m, W 0 m (upd H1 D (.dT []))) ∧ ∀ i m H, W i m H →
      (J.stop i H ∧ Qd H) ∨ (J.go i H ∧ ∃ Nx : Hp → Prop, (∀ H', Nx H' → ∃ m', m' < m ∧ W (i + 1) m' H') ∧ ∀ x H', J.yld i H x H' → g x (wipe σ vs) H' fun σ2 H2 => wipe σ2 vs = wipe σ vs ∧ tt σ2 H2 fun b H3 =>
        if b = true then tk σ2 H3 fun y H4 => tv σ2 H4 fun z H5 => ∃ kvs k p, y = .ref p ∧ H5 p = some (.tup (k.map kV)) ∧ H5 D = some (.dT kvs) ∧ kvs.length < sizeLine ∧ Nx (upd H5 D (.dT (putK kvs k z))) else Nx H3) := by
  refine ⟨fun i m H => m = n - i ∧ i ≤ n ∧ Pv i H, ⟨n, by simp, Nat.zero_le _, h0⟩, ?_⟩
  rintro i m H ⟨rfl, hi, p⟩
  have q := hG i H hi p
  by_cases hlt : i < n
  · exact .inr ⟨w.goes i H hlt q, Pv (i + 1), fun H' p' => ⟨n - (i + 1), by omega, rfl, hlt, p'⟩, fun x H' y => hs i x H H' hlt p (w.yields i H x H' hlt q y)⟩
  · have e : i = n := by omega
    subst e
    exact .inl ⟨w.stops H q, hd H p⟩
end
/-- a new key -/
theorem putK_new {κ : Type} [DecidableEq κ] {kvs : List (κ × V)} {k : κ} {v : V} (h : k ∉ kvs.map (·.1)) : putK kvs k v = kvs ++ [(k, v)] := by
  unfold putK
  rw [if_neg]
  simp only [List.any_eq_true, decide_eq_true_eq, not_exists, not_and]
  intro q hq e
  exact h (by rw [← e]; exact List.mem_map_of_mem hq)
/-- a dict that was held while a loop walked it -/
theorem ex_unlock {H H' : Hp} {d : Addr} {u : HO} {od : Obj} (h : H d = some u) (e : Ex (upd H d (.frz od u)) H') : Ex H (upd H' d u) := fun a o q => by
  by_cases n : a = d
  · subst n
    rw [h] at q
    rw [upd_same]
    exact q
  · rw [upd_ne n]
    refine e _ _ ?_
    rw [upd_ne n]
    exact q
theorem ex_lock {H : Hp} {d : Addr} {u : HO} {od : Obj} (h : H d = some u) {a : Addr} {o : HO} (q : H a = some o) (n : o ≠ u) : upd H d (.frz od u) a = some o := by
  rw [upd_ne (ne_of q h n)]
  exact q
/-- the scope of the comprehension that a def returns -/
def retScope : List Stmt → Scope
  | [.Return (some (.ListComp _ _ sc _)) _] => sc
  | _ => ⟨.function, [], false, false, []⟩
/-- .. as its block sees it -/
def relabS (sc fs : Scope) : Scope := { sc with names := sc.names.map fun (n, k) => if (k == .free && fs.kind == .function && fs.names.lookup n == some .cell) then (n, .cell) else (n, k) }
section
variable {J : It} {n : Nat} {G : Hp → Prop} {Y : Nat → Hp → V → Hp → Prop}
theorem lc2_it (w : Walk J n G Y) {g g1 : TG} {tt tt1 : TT} {wi1 : TI} {te : TE} {vs vs1 : List Nat} {σ : L2.St} {H1 : Hp} {D : Addr} {Qd : Hp → Prop} (Pv : Nat → Hp → Prop) (h0 : Pv 0 (upd H1 D (.lst []))) (hG : ∀ i H, i ≤ n → Pv i H → G H)
    (hs : ∀ i x H H', i < n → Pv i H → Y i H x H' → g x (wipe σ vs) H' fun σ2 H2 => wipe σ2 vs = wipe σ vs ∧ tt σ2 H2 fun b H3 =>
      if b = true then wi1 σ2 H3 fun J1 H4 => ∃ W1 : Nat → Nat → Hp → Prop, (∃ m, W1 0 m H4) ∧ ∀ j k H, W1 j k H →
        (J1.stop j H ∧ Pv (i + 1) H) ∨ (J1.go j H ∧ ∃ Nx1 : Hp → Prop, (∀ H', Nx1 H' → ∃ k', k' < k ∧ W1 (j + 1) k' H') ∧ ∀ x H', J1.yld j H x H' → g1 x (wipe σ2 vs1) H' fun σ3 H5 => wipe σ3 vs1 = wipe σ2 vs1 ∧ tt1 σ3 H5 fun b H6 =>
          if b = true then te σ3 H6 fun y H7 => ∃ acc, H7 D = some (.lst acc) ∧ acc.length < sizeLine ∧ Nx1 (upd H7 D (.lst (acc ++ [y]))) else Nx1 H6)
      else Pv (i + 1) H3) (hd : ∀ H, Pv n H → Qd H) :
    ∃ W : Nat → Nat → Hp → Prop, (∃ m, W 0 m (upd H1 D (.lst []))) ∧ ∀ i m H, W i m H →
      (J.stop i H ∧ Qd H) ∨ (J.go i H ∧ ∃ Nx : Hp → Prop, (∀ H', Nx H' → ∃ m', m' < m ∧ W (i + 1) m' H') ∧ ∀ x H', J.yld i H x H' → g x (wipe σ vs) H' fun σ2 H2 => wipe σ2 vs = wipe σ vs ∧ tt σ2 H2 fun b H3 =>
        if b = true then wi1 σ2 H3 fun J1 H4 => ∃ W1 : Nat → Nat → Hp → Prop, (∃ m, W1 0 m H4) ∧ ∀ j k H, W1 j k H →
          (J1.stop j H ∧ Nx H) ∨ (J1.go j H ∧ ∃ Nx1 : Hp → Prop, (∀ H', Nx1 H' → ∃ k', k' < k ∧ W1 (j + 1) k' H') ∧ ∀ x H', J1.yld j H x H' → g1 x (wipe σ2 vs1) H' fun σ3 H5 => wipe σ3 vs1 = wipe σ2 vs1 ∧ tt1 σ3 H5 fun b H6 =>
            if b = true then te σ3 H6 fun y H7 => ∃ acc, H7 D = some (.lst acc) ∧ acc.length < sizeLine ∧ Nx1 (upd H7 D (.lst (acc ++ [y]))) else Nx1 H6)
        else Nx H3) := by
  refine ⟨fun i m H => m = n - i ∧ i ≤ n ∧ Pv i H, ⟨n, by simp, Nat.zero_le _, h0⟩, ?_⟩
  rintro i m H ⟨rfl, hi, p⟩
  have q := hG i H hi p
  by_cases hlt : i < n
  · exact .inr ⟨w.goes i H hlt q, Pv (i + 1), fun H' p' => ⟨n - (i + 1), by omega, rfl, hlt, p'⟩, fun x H' y => hs i x H H' hlt p (w.yields i H x H' hlt q y)⟩
  · have e : i = n := by omega
    subst e
    exact .inl ⟨w.stops H q, hd H p⟩
/-- the inner for -/
theorem lc1_it (w : Walk J n G Y) {g : TG} {tt : TT} {te : TE} {vs : List Nat} {σ : L2.St} {H1 : Hp} {D : Addr} {Nx : Hp → Prop} (Pv : Nat → Hp → Prop) (h0 : Pv 0 H1) (hG : ∀ i H, i ≤ n → Pv i H → G H)
    (hs : ∀ i x H H', i < n → Pv i H → Y i H x H' → g x (wipe σ vs) H' fun σ2 H2 => wipe σ2 vs = wipe σ vs ∧ tt σ2 H2 fun b H3 =>
      if b = true then te σ2 H3 fun y H4 => ∃ acc, H4 D = some (.lst acc) ∧ acc.length < sizeLine ∧ Pv (i + 1) (upd H4 D (.lst (acc ++ [y]))) else Pv (i + 1) H3) (hd : ∀ H, Pv n H → Nx H) :
    ∃ W1 : Nat → Nat → Hp → Prop, (∃ m, W1 0 m H1) ∧ ∀ j k H, W1 j k H →
      (J.stop j H ∧ Nx H) ∨ (J.go j H ∧ ∃ Nx1 : Hp → Prop, (∀ H', Nx1 H' → ∃ k', k' < k ∧ W1 (j + 1) k' H') ∧ ∀ x H', J.yld j H x H' → g x (wipe σ vs) H' fun σ3 H5 => wipe σ3 vs = wipe σ vs ∧ tt σ3 H5 fun b H6 =>
        if b = true then te σ3 H6 fun y H7 => ∃ acc, H7 D = some (.lst acc) ∧ acc.length < sizeLine ∧ Nx1 (upd H7 D (.lst (acc ++ [y]))) else Nx1 H6) := by
  refine ⟨fun i m H => m = n - i ∧ i ≤ n ∧ Pv i H, ⟨n, by simp, Nat.zero_le _, h0⟩, ?_⟩
  rintro i m H ⟨rfl, hi, p⟩
  have q := hG i H hi p
  by_cases hlt : i < n
  · exact .inr ⟨w.goes i H hlt q, Pv (i + 1), fun H' p' => ⟨n - (i + 1), by omega, rfl, hlt, p'⟩, fun x H' y => hs i x H H' hlt p (w.yields i H x H' hlt q y)⟩
  · have e : i = n := by omega
    subst e
    exact .inl ⟨w.stops H q, hd H p⟩
end
/-- an expression that is not reached -/
theorem pe_dead {X : Cx} {e : Expr} : PE X e (fun _ _ _ => False) := ⟨fun _ _ _ _ _ _ h => h.elim⟩
/-- all but x is kept -/
def But (x : Addr) (H H' : Hp) : Prop := ∀ a o, a ≠ x → H a = some o → H' a = some o
/-! ### rules whose reading names the written part: it is told -/
section
variable {X : Cx} {e : Expr} {ta : TE} {f : Str} {pos : Pos}
theorem pe_fldK (K : PySem.W.Frag) (he : PE X e ta) (hb : attributeBase e f X.env (eval e X.env) = eval e X.env) (hK : X.K = K := by rfl) : PE X (.Attribute e f pos) (tFld K ta f) := by subst hK; exact pe_fld he hb
theorem ix_tupK (K : PySem.W.Frag) (hK : X.K = K := by rfl) : IxR X (rIxT K) := by subst hK; exact ix_tup
theorem ix_listK (K : PySem.W.Frag) (hK : X.K = K := by rfl) : IxR X (rIxL K) := by subst hK; exact ix_list
theorem op_in_seqK (K : PySem.W.Frag) (hK : X.K = K := by rfl) : OpR X (compareOp .In) (rIn K false) := by subst hK; exact op_in_seq
theorem op_notIn_seqK (K : PySem.W.Frag) (hK : X.K = K := by rfl) : OpR X (compareOp .NotIn) (rIn K true) := by subst hK; exact op_notIn_seq
theorem pi_listK {tg l : Expr} {tl : TE} (K : PySem.W.Frag) (hl : PE X l tl) (hK : X.K = K := by rfl) : PI X tg l (iList K tl) := by subst hK; exact pi_list hl
theorem pi_tupK {tg l : Expr} {tl : TE} (K : PySem.W.Frag) (hl : PE X l tl) (hK : X.K = K := by rfl) : PI X tg l (iTup K tl) := by subst hK; exact pi_tup hl
theorem cr_anyK (K : PySem.W.Frag) (hc : X.calm = true) (hK : X.K = K := by rfl) : CallR X (.builtin "any") (rAny K) := by subst hK; exact cr_any hc
theorem op_eqDK (K : PySem.W.Frag) (hu : X.A.units + 64 < cLine) (hK : X.K = K := by rfl) : OpR X (compareOp .Eq) (rEqD K) := by subst hK; exact op_eqD hu
end
end JD
end Part_JBase
section Part_JD1
set_option Elab.async false
set_option linter.all false
set_option maxRecDepth 100000
set_option maxHeartbeats 4000000
namespace JD
open PySem PySem.Spec PyProof.Rows L2 JR JX
open Evl (Ex)
section
variable {P : Program} {w : World} {K : PySem.W.Frag} {mg : Str → Option Value} {base : Heap}
def sp_is_integer : Sp := fun vs H Q _ => ∃ i : Int, vs = [.int i] ∧ Q (.bl true) H
abbrev N_is_integer : List Str := ["thing"]
theorem sc_is_integer : FnScope N_is_integer ["thing"] (defScope s_is_integer) := ⟨rfl, rfl, rfl, by decide +kernel, rfl, by decide +kernel, by decide +kernel⟩
theorem ok_is_integer (T : Txt K mg) : DefOk P w K mg base 1 (He.ga K "is_integer") ["thing"] sp_is_integer := by
  obtain ⟨fd, F⟩ := T.d_is_integer
  refine ⟨fd, F.ok sc_is_integer (fun vs H Q E h => ?_) (fun cdv A outer s H vs Q E hr h => ?_), F.kp, F.bindsN fun _ _ _ _ _ _ us hl => match us, hl with | [_], _ => rfl⟩
  · obtain ⟨i, rfl, k⟩ := h
    rfl
  have hu := hu_of hr
  have nd := sc_is_integer.nd
  obtain ⟨i, rfl, k⟩ := h
  refine ⟨_, PSs.nox (pss_one (ps_ret (pe_and (pe_callB call_isi (by rfl) T.b_isinstance rfl (pa_cons (pv 0) (pa_cons (pe_bltn (v := .ty "int") rfl T.b_int rfl rfl) pa_nil))) (pe_one (pe_not (pe_callB call_isi (by rfl) T.b_isinstance rfl (pa_cons (pv 0) (pa_cons (pe_bltn (v := .ty "bool") rfl T.b_bool rfl rfl) pa_nil)))))))), ?_⟩
  exact ⟨_, rfl, .int i, .ty "int", _, _, true, rfl, .ty _, .base (.int i), kit_ty (by decide +kernel), true, rfl, _, rfl, .int i, .ty "bool", _, _, false, rfl, .ty _, .base (.int i), kit_ty (by decide +kernel), false, rfl, k⟩
/-- a row that is handed in: a list or a tuple -/
def IsRow (H : Hp) (p : Addr) : Prop := (∃ xs, H p = some (.lst xs)) ∨ ∃ xs, H p = some (.tup xs)
def sp_is_row : Sp := fun vs H Q _ => ∃ p : Addr, vs = [.ref p] ∧ IsRow H p ∧ ∀ H', Ex H H' → Q (.bl true) H'
abbrev N_is_row : List Str := ["thing"]
theorem sc_is_row : FnScope N_is_row ["thing"] (defScope s_is_row) := ⟨rfl, rfl, rfl, by decide +kernel, rfl, by decide +kernel, by decide +kernel⟩
theorem ok_is_row (T : Txt K mg) : DefOk P w K mg base 1 (He.ga K "is_row") ["thing"] sp_is_row := by
  obtain ⟨fd, F⟩ := T.d_is_row
  refine ⟨fd, F.ok sc_is_row (fun vs H Q E h => ?_) (fun cdv A outer s H vs Q E hr h => ?_), F.kp, F.bindsN fun _ _ _ _ _ _ us hl => match us, hl with | [_], _ => rfl⟩
  · obtain ⟨p, rfl, hp, k⟩ := h
    rfl
  have hu := hu_of hr
  have nd := sc_is_row.nd
  obtain ⟨p, rfl, hp, k⟩ := h
  refine ⟨_, PSs.nox (pss_one (ps_ret (pe_callB call_isiT (by rfl) T.b_isinstance rfl (pa_cons (pv 0) (pa_cons (pe_tup (pa_cons (pe_bltn (v := .ty "list") rfl T.b_list rfl rfl) (pa_cons (pe_bltn (v := .ty "tuple") rfl T.b_tuple rfl rfl) pa_nil))) pa_nil))))), ?_⟩
  refine ⟨_, rfl, (by show 2 ≤ sizeLine; decide), fun t ht => ?_⟩
  have e := ex_new (o := .tup [.ty "list", .ty "tuple"]) ht
  rcases hp with ⟨xs, h⟩ | ⟨xs, h⟩
  · exact ⟨.ref p, t, _, .type "list", [.type "list", .type "tuple"], true, rfl, upd_same, .cons (.ty _) (.cons (.ty _) .nil), .base (.lst (e _ _ h)), kitAny_cons (b := true) (kit_ty (by decide +kernel)) (fun h => nomatch h) (fun _ => rfl), k _ e⟩
  · exact ⟨.ref p, t, _, .type "tuple", [.type "list", .type "tuple"], true, rfl, upd_same, .cons (.ty _) (.cons (.ty _) .nil), .base (.tup (e _ _ h)), kitAny_cons (b := false) (kit_ty (by decide +kernel)) (fun _ => kitAny_cons (b := true) (kit_ty (by decide +kernel)) (fun h => nomatch h) fun _ => rfl) (fun h => nomatch h), k _ e⟩
def sp_is_place : Sp := fun vs H Q _ => ∃ i N : Int, vs = [.int i, .int N] ∧ (0 ≤ i ∧ i < N) ∧ Q (.bl true) H
abbrev N_is_place : List Str := ["thing", "around"]
theorem sc_is_place : FnScope N_is_place ["thing", "around"] (defScope s_is_place) := ⟨rfl, rfl, rfl, by decide +kernel, rfl, by decide +kernel, by decide +kernel⟩
theorem ok_is_place (T : Txt K mg) : DefOk P w K mg base 2 (He.ga K "is_place") ["thing", "around"] sp_is_place := by
  obtain ⟨fd, F⟩ := T.d_is_place
  obtain ⟨fd_is_integer, G_is_integer, kp_is_integer, b_is_integer⟩ := ok_is_integer (P := P) (w := w) (base := base) T
  refine ⟨fd, F.ok sc_is_place (fun vs H Q E h => ?_) (fun cdv A outer s H vs Q E hr h => ?_), F.kp, F.bindsN fun _ _ _ _ _ _ us hl => match us, hl with | [_, _], _ => rfl⟩
  · obtain ⟨i, N, rfl, hi, k⟩ := h
    rfl
  have hu := hu_of hr
  have nd := sc_is_place.nd
  obtain ⟨i, N, rfl, hi, k⟩ := h
  refine ⟨_, PSs.nox (pss_one (ps_ret (pe_and (pe_call G_is_integer (hr.mono (by decide)) rfl T.g_is_integer kp_is_integer b_is_integer .nil pass0 (pa_cons (pv 0) pa_nil)) (pe_one (pe_chain op_le op_lt pe_int (pv 0) (pv 1)))))), ?_⟩
  refine ⟨_, rfl, i, rfl, true, rfl, ?_⟩
  refine ⟨_, rfl, _, _, rfl, rfl, _, rfl, ?_⟩
  rw [decide_eq_true hi.1]
  refine ⟨_, rfl, _, _, rfl, rfl, ?_⟩
  show Q (.bl (decide (i < N))) H
  rw [decide_eq_true hi.2]
  exact k
def sp_check_round : Sp := fun vs H Q _ => ∃ N : Int, vs = [.int N] ∧ (2 ≤ N ∧ N ≤ 360) ∧ Q .non H
abbrev N_check_round : List Str := ["around"]
theorem sc_check_round : FnScope N_check_round ["around"] (defScope s_check_round) := ⟨rfl, rfl, rfl, by decide +kernel, rfl, by decide +kernel, by decide +kernel⟩
theorem ok_check_round (T : Txt K mg) : DefOk P w K mg base 2 (He.ga K "check_round") ["around"] sp_check_round := by
  obtain ⟨fd, F⟩ := T.d_check_round
  obtain ⟨fd_is_integer, G_is_integer, kp_is_integer, b_is_integer⟩ := ok_is_integer (P := P) (w := w) (base := base) T
  refine ⟨fd, F.ok sc_check_round (fun vs H Q E h => ?_) (fun cdv A outer s H vs Q E hr h => ?_), F.kp, F.bindsN fun _ _ _ _ _ _ us hl => match us, hl with | [_], _ => rfl⟩
  · obtain ⟨N, rfl, hN, k⟩ := h
    rfl
  have hu := hu_of hr
  have nd := sc_check_round.nd
  obtain ⟨N, rfl, hN, k⟩ := h
  refine ⟨_, PSs.nox (pss_one (ps_if (PW.pt (pw_or (pt_not (pt_val (pe_call G_is_integer (hr.mono (by decide)) rfl T.g_is_integer kp_is_integer b_is_integer .nil pass0 (pa_cons (pv 0) pa_nil)))) (pw_or1 (pt_not (pt_chain op_le op_le pe_int (pv 0) (pe_glob (v := .int 360) rfl T.i_MOST_ROUND.choose_spec ⟨_, rfl⟩)))))) pss_never pss_nil)), ?_⟩
  refine ⟨_, rfl, N, rfl, true, rfl, iteF ⟨_, rfl, _, _, rfl, rfl, _, rfl, ?_⟩⟩
  rw [decide_eq_true hN.1]
  refine ⟨_, _, rfl, rfl, _, rfl, ?_⟩
  rw [decide_eq_true hN.2]
  exact k
/-! ### rows -/
/-- a row's pair -/
def PairAt (H : Hp) (v : V) (p : Int × Int) : Prop := Im H v (encRow p)
theorem PairAt.get {H : Hp} {v : V} {p : Int × Int} (h : Im H v (encRow p)) : ∃ a, v = .ref a ∧ H a = some (.tup [.int p.1, .int p.2]) := by
  obtain ⟨a, xs, rfl, ha, h2⟩ := h
  obtain ⟨x, r, rfl, rfl, y, r2, rfl, rfl, rfl⟩ := h2
  exact ⟨a, rfl, ha⟩
theorem PairAt.mk {H : Hp} {a : Addr} {i j : Int} (h : H a = some (.tup [.int i, .int j])) : Im H (.ref a) (encRow (i, j)) := ⟨a, _, rfl, h, _, _, rfl, rfl, _, _, rfl, rfl, rfl⟩
def sp_is_pair : Sp := fun vs H Q _ => ∃ (a : Addr) (i j N : Int), vs = [.ref a, .int N] ∧ H a = some (.tup [.int i, .int j]) ∧ (0 ≤ i ∧ i < N) ∧ (0 ≤ j ∧ j < N) ∧ Q (.bl true) H
abbrev N_is_pair : List Str := ["thing", "around"]
theorem sc_is_pair : FnScope N_is_pair ["thing", "around"] (defScope s_is_pair) := ⟨rfl, rfl, rfl, by decide +kernel, rfl, by decide +kernel, by decide +kernel⟩
theorem ok_is_pair (T : Txt K mg) : DefOk P w K mg base 3 (He.ga K "is_pair") ["thing", "around"] sp_is_pair := by
  obtain ⟨fd, F⟩ := T.d_is_pair
  obtain ⟨fd_is_place, G_is_place, kp_is_place, b_is_place⟩ := ok_is_place (P := P) (w := w) (base := base) T
  refine ⟨fd, F.ok sc_is_pair (fun vs H Q E h => ?_) (fun cdv A outer s H vs Q E hr h => ?_), F.kp, F.bindsN fun _ _ _ _ _ _ us hl => match us, hl with | [_, _], _ => rfl⟩
  · obtain ⟨a, i, j, N, rfl, ha, hi, hj, k⟩ := h
    rfl
  have hu := hu_of hr
  have nd := sc_is_pair.nd
  obtain ⟨a, i, j, N, rfl, ha, hi, hj, k⟩ := h
  refine ⟨_, PSs.nox (pss_cons (ps_if (PW.pt (pw_or (pt_not (pt_val (pe_callB call_isi (by rfl) T.b_isinstance rfl (pa_cons (pv 0) (pa_cons (pe_bltn (v := .ty "tuple") rfl T.b_tuple rfl rfl) pa_nil))))) (pw_or1 (pt_cmpR op_ne (pe_callB call_len_seq (by rfl) T.b_len rfl (pa_cons (pv 0) pa_nil)) pe_int (nomark _))))) (pss_one (ps_ret pe_bl)) pss_nil)
  (pss_one (ps_ret (pe_and (pe_call G_is_place (hr.mono (by decide)) rfl T.g_is_place kp_is_place b_is_place .nil pass0 (pa_cons (pe_ix (ix_tupK K) (pv 0) pe_int (fun _ _ => rfl)) (pa_cons (pv 1) pa_nil))) (pe_one (pe_call G_is_place (hr.mono (by decide)) rfl T.g_is_place kp_is_place b_is_place .nil pass0 (pa_cons (pe_ix (ix_tupK K) (pv 0) pe_int (fun _ _ => rfl)) (pa_cons (pv 1) pa_nil)))))))), ?_⟩
  have hT : SqT K H a [.int i, .int j] := SqT.of ha
  refine ⟨_, rfl, .ref a, .ty "tuple", _, _, true, rfl, .ty _, .base (.tup ha), kit_ty (by decide +kernel), true, rfl, iteF ?_⟩
  refine ⟨_, rfl, a, _, rfl, .inr hT, rfl, _, rfl, iteF ?_⟩
  refine ⟨_, rfl, a, _, _, _, rfl, rfl, hT, atI_nat rfl, _, rfl, i, N, rfl, hi, true, rfl, iteT ?_⟩
  exact ⟨_, rfl, a, _, _, _, rfl, rfl, hT, atI_nat rfl, _, rfl, j, N, rfl, hj, k⟩
end
end JD
end Part_JD1
section Part_JD2
set_option Elab.async false
set_option linter.all false
set_option maxRecDepth 100000
set_option maxHeartbeats 4000000
namespace JD
open PySem PySem.Spec PyProof.Rows L2 JR JX JT
open Evl (Ex)
section
variable {P : Program} {w : World} {K : PySem.W.Frag} {mg : Str → Option Value} {base : Heap}
/-- a new tuple of rows -/
def sp_checked_rows : Sp := fun vs H Q _ => ∃ (r : Addr) (N : Int) (xs : List V) (rows : List JT.Row), vs = [.int N, .ref r] ∧ H r = some (.lst xs) ∧ Ls H encRow xs rows ∧ Rows N rows ∧ rows.length ≤ 12 ∧
  ∀ H' p ys, Ex H H' → H' p = some (.tup ys) → Ls H' encRow ys rows → Q (.ref p) H'
abbrev N_checked_rows : List Str := ["around", "rows", "before", "at", "pair", "begin", "rest", "behind"]
theorem sc_checked_rows : FnScope N_checked_rows ["around", "rows"] (defScope s_checked_rows) := ⟨rfl, rfl, rfl, by decide +kernel, rfl, by decide +kernel, by decide +kernel⟩
theorem ok_checked_rows (T : Txt K mg) : DefOk P w K mg base 4 (He.ga K "checked_rows") ["around", "rows"] sp_checked_rows := by
  obtain ⟨fd, F⟩ := T.d_checked_rows
  obtain ⟨fd_is_row, G_is_row, kp_is_row, b_is_row⟩ := ok_is_row (P := P) (w := w) (base := base) T
  obtain ⟨fd_is_pair, G_is_pair, kp_is_pair, b_is_pair⟩ := ok_is_pair (P := P) (w := w) (base := base) T
  refine ⟨fd, F.ok sc_checked_rows (fun vs H Q E h => ?_) (fun cdv A outer s H vs Q E hr h => ?_), F.kp, F.bindsN fun _ _ _ _ _ _ us hl => match us, hl with | [_, _], _ => rfl⟩
  · obtain ⟨r, N, xs, rows, rfl, h0, hl, V, hz, k⟩ := h
    rfl
  have hu := hu_of hr
  have nd := sc_checked_rows.nd
  obtain ⟨r, N, xs, rows, rfl, h0, hl, V, hz, k⟩ := h
  refine ⟨_, PSs.nox (pss_cons (ps_if (PW.pt (pw_or (pt_not (pt_val (pe_call G_is_row (hr.mono (by decide)) rfl T.g_is_row kp_is_row b_is_row .nil pass0 (pa_cons (pv 1) pa_nil)))) (pw_or1 (pt_not (pt_chain op_le op_le pe_int (pe_callB call_len_seq (by rfl) T.b_len rfl (pa_cons (pv 1) pa_nil)) (pe_glob (v := .int 12) rfl T.i_MOST_ROWS.choose_spec ⟨_, rfl⟩)))))) pss_never pss_nil)
  (pss_cons (ps_set (i := 2) nd rfl (by first | exact Or.inl rfl | exact Or.inr rfl) (pe_un un_neg pe_int))
  (pss_cons (ps_for PassesOwn.never rfl (pi_enum (by rfl) T.b_enumerate (pa_cons (pv 1) pa_nil)) (pg_tup rfl (pgs_cons (pg_name (i := 3) nd rfl (by first | exact Or.inl rfl | exact Or.inr rfl)) (pgs_cons (pg_name (i := 4) nd rfl (by first | exact Or.inl rfl | exact Or.inr rfl)) pgs_nil))) (pss_cons (ps_if (PW.pt (pw_or (pt_not (pt_val (pe_call G_is_pair (hr.mono (by decide)) rfl T.g_is_pair kp_is_pair b_is_pair .nil pass0 (pa_cons (pv 4) (pa_cons (pv 0) pa_nil))))) (pw_or1 (pt_cmpR op_le (pe_ix (ix_tupK K) (pv 4) pe_int (fun _ _ => rfl)) (pv 2) (nomark _))))) pss_never pss_nil)
  (pss_one (ps_set (i := 2) nd rfl (by first | exact Or.inl rfl | exact Or.inr rfl) (pe_ix (ix_tupK K) (pv 4) pe_int (fun _ _ => rfl))))))
  (pss_cons (ps_for PassesOwn.never rfl (pi_enum (by rfl) T.b_enumerate (pa_cons (pv 1) pa_nil)) (pg_tup rfl (pgs_cons (pg_name (i := 3) nd rfl (by first | exact Or.inl rfl | exact Or.inr rfl)) (pgs_cons (pg_tup rfl (pgs_cons (pg_name (i := 5) nd rfl (by first | exact Or.inl rfl | exact Or.inr rfl)) (pgs_cons (pg_name (i := 6) nd rfl (by first | exact Or.inl rfl | exact Or.inr rfl)) pgs_nil))) pgs_nil))) (pss_cons (ps_set (i := 7) nd rfl (by first | exact Or.inl rfl | exact Or.inr rfl) (pe_ifExp (pt_cmpR op_lt (pe_op op_add (pv 3) pe_int) (pe_callB call_len_seq (by rfl) T.b_len rfl (pa_cons (pv 1) pa_nil)) (nomark _)) (pe_ix (ix_tupK K) (pe_ix (ix_listK K) (pv 1) (pe_op op_add (pv 3) pe_int) (fun _ _ => rfl)) pe_int (fun _ _ => rfl)) (pe_op op_add (pe_ix (ix_tupK K) (pe_ix (ix_listK K) (pv 1) pe_int (fun _ _ => rfl)) pe_int (fun _ _ => rfl)) (pv 0))))
  (pss_one (ps_if (pt_cmpR op_ge (pe_op op_add (pv 5) (pe_op op_mod (pe_op op_sub (pv 6) (pv 5)) (pv 0))) (pv 7) (nomark _)) pss_never pss_nil))))
  (pss_one (ps_ret (pe_callTy call_tuple_of (by rfl) T.b_tuple rfl (pa_cons (pe_lc (own := [("begin", 5), ("rest", 6)]) (g := (gTup K 2 (gCons (gName 5) (gCons (gName 6) gNil)))) (tt := tYes) rfl nd (pi_list (pv 1)) (blkOk_by (N := N_checked_rows) (sc := defScope s_checked_rows) (by decide +kernel)) (fun _ _ _ _ _ => (pg_tup rfl (pgs_cons (pg_name (i := 5) nd rfl (by first | exact Or.inl rfl | exact Or.inr rfl)) (pgs_cons (pg_name (i := 6) nd rfl (by first | exact Or.inl rfl | exact Or.inr rfl)) pgs_nil)))) (fun _ _ _ _ _ => pts_nil) (fun _ _ _ _ _ => (pe_tup (pa_cons (pv 5) (pa_cons (pv 6) pa_nil))))) pa_nil)))))))), ?_⟩
  have lx : xs.length = rows.length := hl.len
  have ne : 0 < rows.length := List.length_pos_iff.mpr V.ne
  refine ⟨_, rfl, r, rfl, .inl ⟨_, h0⟩, fun H1 e1 => ⟨true, rfl, iteF ⟨_, rfl, r, xs, rfl, .inl (SqL.of (e1 _ _ h0)), ?_⟩⟩⟩
  refine ⟨_, _, rfl, rfl, _, rfl, ?_⟩
  rw [decide_eq_true (by omega)]
  refine ⟨_, _, rfl, rfl, _, rfl, ?_⟩
  rw [decide_eq_true (by omega)]
  refine ⟨_, rfl, _, rfl, r, xs, rfl, SqL.of (e1 _ _ h0), ?_⟩
  refine for_it walk_enum (fun i σ H' => Ex H H' ∧ ∃ b x3 x4, σ = [some (.int N), some (.ref r), some (.int b), x3, x4, none, none, none] ∧ ∀ p, rows[i]? = some p → b < p.1) ⟨e1, -1, none, none, rfl, ?_⟩ (fun i σ H' _ ⟨e, _⟩ => SqL.of (e _ _ h0)) ?_ ?_
  · intro p hp
    have := V.rng p (List.mem_of_getElem? hp)
    omega
  · rintro i x σ H' H'' hi ⟨e, b, x3, x4, rfl, hb⟩ ⟨T, x, y, rfl, hT, rfl, ex, ey⟩
    cases ex
    obtain ⟨p, hp, ip⟩ := (hl.keep (Tups.of e)).get ey
    obtain ⟨a, rfl, ha⟩ := PairAt.get ip
    have e2 : Ex H' (upd H' T (.tup [.int (i : Nat), .ref a])) := ex_new hT
    have ha2 := e2 _ _ ha
    have hT2 : SqT K (upd H' T (.tup [.int (i : Nat), .ref a])) a [.int p.1, .int p.2] := SqT.of ha2
    have rp := V.rng p (List.mem_of_getElem? hp)
    refine ⟨T, _, rfl, SqT.of upd_same, rfl, _, _, rfl, _, _, rfl, rfl, ?_⟩
    refine ⟨_, rfl, _, rfl, a, p.1, p.2, N, rfl, ha2, ⟨rp.1, rp.2.1⟩, rp.2.2, true, rfl, iteF ?_⟩
    refine ⟨_, rfl, a, _, _, _, rfl, rfl, hT2, atI_nat rfl, _, rfl, _, _, rfl, rfl, _, rfl, ?_⟩
    rw [decide_eq_false (by have := hb p hp; omega)]
    refine iteF ⟨_, rfl, a, _, _, _, rfl, rfl, hT2, atI_nat rfl, e.trans e2, p.1, _, _, rfl, fun q hq => ?_⟩
    have hi2 := (List.getElem?_eq_some_iff.mp hp).1
    have hj2 := (List.getElem?_eq_some_iff.mp hq).1
    have := List.pairwise_iff_getElem.mp V.asc i (i + 1) hi2 hj2 (Nat.lt_succ_self i)
    rw [(List.getElem?_eq_some_iff.mp hp).2, (List.getElem?_eq_some_iff.mp hq).2] at this
    exact this
  · rintro σ H' ⟨e, b, x3, x4, rfl, _⟩
    have h0' := e _ _ h0
    refine ⟨_, rfl, r, xs, rfl, SqL.of h0', ?_⟩
    refine for_it walk_enum (fun i σ H' => Ex H H' ∧ ∃ b x3 x4 x5 x6 x7, σ = [some (.int N), some (.ref r), b, x3, x4, x5, x6, x7]) ⟨e, _, _, _, _, _, _, rfl⟩ (fun i σ H' _ ⟨e, _⟩ => SqL.of (e _ _ h0)) ?_ ?_
    · rintro i x σ H' H'' hi ⟨e, b, x3, x4, x5, x6, x7, rfl⟩ ⟨T, x, y, rfl, hT, rfl, ex, ey⟩
      cases ex
      obtain ⟨p, hp, ip⟩ := (hl.keep (Tups.of e)).get ey
      obtain ⟨a, rfl, ha⟩ := PairAt.get ip
      have e2 : Ex H' (upd H' T (.tup [.int (i : Nat), .ref a])) := ex_new hT
      have ha2 := e2 _ _ ha
      have hT2 : SqT K (upd H' T (.tup [.int (i : Nat), .ref a])) a [.int p.1, .int p.2] := SqT.of ha2
      refine ⟨T, _, rfl, SqT.of upd_same, rfl, _, _, rfl, _, _, rfl, ⟨a, _, rfl, hT2, rfl, _, _, rfl, _, _, rfl, rfl, ?_⟩⟩
      have rp := V.rng p (List.mem_of_getElem? hp)
      have eH : Ex H (upd H' T (.tup [.int (i : Nat), .ref a])) := e.trans e2
      obtain ⟨F, eF⟩ : ∃ F, F = upd H' T (.tup [.int (i : Nat), .ref a]) := ⟨_, rfl⟩
      rw [← eF] at eH hT2 ⊢
      have hS : SqL K F r xs := SqL.of (eH _ _ h0)
      have hlF := hl.keep (Tups.of eH)
      refine ⟨rfl, _, rfl, _, _, rfl, rfl, _, rfl, r, xs, rfl, .inl hS, _, _, rfl, rfl, _, rfl, ?_⟩
      by_cases hlast : i + 1 < rows.length
      · rw [decide_eq_true (by omega)]
        obtain ⟨q, hq⟩ : ∃ q, rows[i + 1]? = some q := ⟨_, List.getElem?_eq_getElem hlast⟩
        obtain ⟨y, hy, iq⟩ := hlF.get' hq
        obtain ⟨c, rfl, hc⟩ := PairAt.get iq
        have lt := List.pairwise_iff_getElem.mp V.asc i (i + 1) (by omega) hlast (Nat.lt_succ_self i)
        rw [(List.getElem?_eq_some_iff.mp hp).2, (List.getElem?_eq_some_iff.mp hq).2] at lt
        have own := V.own p (List.mem_of_getElem? hp) q (List.mem_of_getElem? hq) lt
        refine iteT ⟨_, rfl, _, rfl, _, _, rfl, rfl, r, xs, _, _, rfl, rfl, hS, (show atI xs ((i + 1 : Nat) : Int) = some (.ref c) from atI_nat hy), c, _, _, _, rfl, rfl, SqT.of hc, atI_nat rfl, ?_⟩
        refine ⟨_, rfl, _, rfl, _, rfl, _, _, rfl, rfl, _, rfl, _, _, rfl, rfl, (by show 0 < N; have := V.pos; omega), _, _, rfl, rfl, _, rfl, _, _, rfl, rfl, _, rfl, ?_⟩
        rw [decide_eq_false (show ¬ q.1 ≤ p.1 + (p.2 - p.1) % N by unfold JT.off at own; omega)]
        exact iteF ⟨eH, _, _, _, _, _, _, rfl⟩
      · rw [decide_eq_false (by omega)]
        obtain ⟨q, hq⟩ : ∃ q, rows[0]? = some q := ⟨_, List.getElem?_eq_getElem ne⟩
        obtain ⟨y, hy, iq⟩ := hlF.get' hq
        obtain ⟨c, rfl, hc⟩ := PairAt.get iq
        have own := V.wrap p (List.mem_of_getElem? hp) q (List.mem_of_getElem? hq)
        refine iteF ⟨_, rfl, r, xs, _, _, rfl, rfl, hS, (show atI xs ((0 : Nat) : Int) = some (.ref c) from atI_nat hy), c, _, _, _, rfl, rfl, SqT.of hc, atI_nat rfl, _, rfl, _, _, rfl, rfl, ?_⟩
        refine ⟨_, rfl, _, rfl, _, rfl, _, _, rfl, rfl, _, rfl, _, _, rfl, rfl, (by show 0 < N; have := V.pos; omega), _, _, rfl, rfl, _, rfl, _, _, rfl, rfl, _, rfl, ?_⟩
        rw [decide_eq_false (show ¬ q.1 + N ≤ p.1 + (p.2 - p.1) % N by unfold JT.off at own; omega)]
        exact iteF ⟨eH, _, _, _, _, _, _, rfl⟩
    · rintro σ H' ⟨e, b, x3, x4, x5, x6, x7, rfl⟩
      refine ⟨_, rfl, r, rfl, ⟨_, SqL.of (e _ _ h0)⟩, fun D hD => ?_⟩
      refine lc_ls (enc := encRow) relEx walk_list (fun i => rows[i]?) hD True.intro (Evl.sz_lt (by omega)) (fun H2 e2 _ => SqL.of (e2 _ _ (e _ _ h0))) ?_ ?_
      · rintro i x F F' hi e2 t2 ⟨rfl, hx⟩ Go Sk go sk
        obtain ⟨p, hp, ip⟩ := (hl.keep (Tups.of (e.trans e2))).get hx
        obtain ⟨a, rfl, ha⟩ := PairAt.get ip
        refine ⟨a, _, rfl, SqT.of ha, rfl, _, _, rfl, _, _, rfl, rfl, rfl, yes_go ⟨_, rfl, _, rfl, (by show 2 ≤ sizeLine; decide), fun T hT => ?_⟩⟩
        exact go p _ _ hp (ex_new hT) (Tups.new hT) (PairAt.mk upd_same)
      · intro F ys e2 t2 hD2 hy
        rw [fm_all lx] at hy
        refine ⟨D, ys, rfl, .inl ⟨SqL.of hD2, fun p hp => ?_⟩⟩
        exact k _ p ys ((e.trans e2).trans (ex_new hp)) upd_same (hy.keep (Tups.new hp))
end
end JD
end Part_JD2
section Part_JRules4
set_option Elab.async false
set_option linter.all false
set_option maxRecDepth 100000
set_option maxHeartbeats 4000000
/-! Data without bools and dicts: Python's == is equality. -/
namespace JR
open PySem PySem.Spec PyProof.Rows L2
mutual
def Pl : PyData → Bool
  | .none => true
  | .int _ => true
  | .str x => (PyData.str x).canLay0
  | .list xs => PlAll xs
  | .tuple xs => PlAll xs
  | .bool _ => false
  | .dict _ => false
def PlAll : List PyData → Bool
  | [] => true
  | d :: ds => Pl d && PlAll ds
end
mutual
theorem eqv_pl : ∀ (d e : PyData), Pl d = true → Pl e = true → (PyData.eqv d e = true ↔ d = e)
  | .none, e, _, h => by cases e <;> simp_all [PyData.eqv, Pl]
  | .int i, e, _, h => by cases e <;> simp_all [PyData.eqv, Pl]
  | .str x, e, _, h => by cases e <;> simp_all [PyData.eqv, Pl]
  | .list xs, e, hd, h => by
    cases e with
    | list ys =>
      have := eqvAll_pl xs ys (by simpa [Pl] using hd) (by simpa [Pl] using h)
      simp only [PyData.eqv, this, PyData.list.injEq]
    | _ => simp_all [PyData.eqv, Pl]
  | .tuple xs, e, hd, h => by
    cases e with
    | tuple ys =>
      have := eqvAll_pl xs ys (by simpa [Pl] using hd) (by simpa [Pl] using h)
      simp only [PyData.eqv, this, PyData.tuple.injEq]
    | _ => simp_all [PyData.eqv, Pl]
  | .bool _, _, hd, _ => by simp [Pl] at hd
  | .dict _, _, hd, _ => by simp [Pl] at hd
theorem eqvAll_pl : ∀ (xs ys : List PyData), PlAll xs = true → PlAll ys = true → (PyData.eqvAll xs ys = true ↔ xs = ys)
  | [], ys, _, _ => by cases ys <;> simp [PyData.eqvAll]
  | x :: xs, [], _, _ => by simp [PyData.eqvAll]
  | x :: xs, y :: ys, h1, h2 => by
    simp only [PlAll, Bool.and_eq_true] at h1 h2
    simp only [PyData.eqvAll, Bool.and_eq_true, eqv_pl x y h1.1 h2.1, eqvAll_pl xs ys h1.2 h2.2, List.cons.injEq]
end
theorem plAll_map {β : Type} {enc : β → PyData} (h : ∀ b, Pl (enc b) = true) : ∀ l : List β, PlAll (l.map enc) = true
  | [] => rfl
  | b :: l => by simp [PlAll, h b, plAll_map h l]
mutual
theorem lay_pl : ∀ (d : PyData), Pl d = true → d.canLay0 = true
  | .none, _ => rfl
  | .int _, _ => rfl
  | .str x, h => by simpa [Pl] using h
  | .list xs, h => by simpa [PyData.canLay0] using layAll_pl xs (by simpa [Pl] using h)
  | .tuple xs, h => by simpa [PyData.canLay0] using layAll_pl xs (by simpa [Pl] using h)
  | .bool _, h => rfl
  | .dict _, h => by simp [Pl] at h
theorem layAll_pl : ∀ (xs : List PyData), PlAll xs = true → PyData.canLayAll0 xs = true
  | [], _ => rfl
  | x :: xs, h => by
    simp only [PlAll, Bool.and_eq_true] at h
    simp [PyData.canLayAll0, lay_pl x h.1, layAll_pl xs h.2]
end
theorem shaped_pl {d : PyData} (h : Pl d = true) (hd : d.depth ≤ 64) : SeqAt.shaped d = true := by
  unfold SeqAt.shaped
  rw [lay_pl d h, decide_eq_true hd]
  rfl
theorem depthAll_map {β : Type} {enc : β → PyData} {k : Nat} (h : ∀ b, (enc b).depth ≤ k) : ∀ l : List β, PyData.depthAll (l.map enc) ≤ k
  | [] => by simp [PyData.depthAll]
  | b :: l => by
    simp only [List.map_cons, PyData.depthAll]
    have := h b
    have := depthAll_map h l
    omega
/-- a sequence of data without bools -/
theorem eqv_seq {β : Type} {enc : β → PyData} (hi : ∀ a b, enc a = enc b → a = b) (hp : ∀ b, Pl (enc b) = true) [DecidableEq β] (l m : List β) : PyData.eqv (.tuple (l.map enc)) (.tuple (m.map enc)) = decide (l = m) := by
  have h := eqv_pl (.tuple (l.map enc)) (.tuple (m.map enc)) (by simpa [Pl] using plAll_map hp l) (by simpa [Pl] using plAll_map hp m)
  by_cases e : l = m
  · subst e
    rw [decide_eq_true rfl]
    exact h.mpr rfl
  · rw [decide_eq_false e]
    cases q : PyData.eqv (.tuple (l.map enc)) (.tuple (m.map enc)) with
    | false => rfl
    | true =>
      have h2 := PyData.tuple.inj (h.mp q)
      exact absurd (List.map_inj_right hi |>.mp h2) e
theorem encRow_inj (a b : Int × Int) (h : encRow a = encRow b) : a = b := by
  obtain ⟨a1, a2⟩ := a
  obtain ⟨b1, b2⟩ := b
  simp only [encRow, PyData.tuple.injEq, List.cons.injEq, PyData.int.injEq] at h
  rw [h.1, h.2.1]
theorem encRow_pl (b : Int × Int) : Pl (encRow b) = true := rfl
theorem encRow_depth (b : Int × Int) : (encRow b).depth ≤ 1 := by simp [encRow, PyData.depth, PyData.depthAll]
end JR
end Part_JRules4
section Part_JD3
set_option Elab.async false
set_option linter.all false
set_option maxRecDepth 100000
set_option maxHeartbeats 4000000
namespace JD
open PySem PySem.Spec PyProof.Rows L2 JR JX JT
open Evl (Ex)
section
variable {P : Program} {w : World} {K : PySem.W.Frag} {mg : Str → Option Value} {base : Heap}
def sp_rows_turned : Sp := fun vs H Q _ => ∃ (r : Addr) (N e : Int) (xs : List V) (rows : List JT.Row), vs = [.int N, .ref r, .int e] ∧ H r = some (.tup xs) ∧ Ls H encRow xs rows ∧ 0 < N ∧ rows.length ≤ 12 ∧
  ∀ H' p ys (T : List JT.Row), Ex H H' → H' p = some (.tup ys) → Ls H' encRow ys T → T.Perm (rows.map (turnRow N e)) → T.Pairwise rowLe → Q (.ref p) H'
theorem fm_map {α β : Type} {l : List α} {n : Nat} (f : α → β) (h : n = l.length) : (List.range n).filterMap (fun i => (l[i]?).map f) = l.map f := by
  rw [← List.map_filterMap, fm_all h]
abbrev N_rows_turned : List Str := ["around", "rows", "by", "begin", "rest"]
theorem sc_rows_turned : FnScope N_rows_turned ["around", "rows", "by"] (defScope s_rows_turned) := ⟨rfl, rfl, rfl, by decide +kernel, rfl, by decide +kernel, by decide +kernel⟩
theorem ok_rows_turned (T : Txt K mg) : DefOk P w K mg base 1 (He.ga K "rows_turned") ["around", "rows", "by"] sp_rows_turned := by
  obtain ⟨fd, F⟩ := T.d_rows_turned
  refine ⟨fd, F.ok sc_rows_turned (fun vs H Q E h => ?_) (fun cdv A outer s H vs Q E hr h => ?_), F.kp, F.bindsN fun _ _ _ _ _ _ us hl => match us, hl with | [_, _, _], _ => rfl⟩
  · obtain ⟨r, N, e, xs, rows, rfl, h0, hl, hN, hz, k⟩ := h
    rfl
  have hu := hu_of hr
  have nd := sc_rows_turned.nd
  obtain ⟨r, N, e, xs, rows, rfl, h0, hl, hN, hz, k⟩ := h
  refine ⟨_, PSs.nox (pss_one (ps_ret (pe_callTy call_tuple_of (by rfl) T.b_tuple rfl (pa_cons (pe_callB (cr_sortedE shape_row hr.units) (by rfl) T.b_sorted rfl (pa_cons (pe_lc (own := [("begin", 3), ("rest", 4)]) (g := (gTup K 2 (gCons (gName 3) (gCons (gName 4) gNil)))) (tt := tYes) rfl nd (pi_tup (pv 1)) (blkOk_by (N := N_rows_turned) (sc := defScope s_rows_turned) (by decide +kernel)) (fun _ _ _ _ _ => (pg_tup rfl (pgs_cons (pg_name (i := 3) nd rfl (by first | exact Or.inl rfl | exact Or.inr rfl)) (pgs_cons (pg_name (i := 4) nd rfl (by first | exact Or.inl rfl | exact Or.inr rfl)) pgs_nil)))) (fun _ _ _ _ _ => pts_nil) (fun _ _ _ _ _ => (pe_tup (pa_cons (pe_op op_mod (pe_op op_add (pv 3) (pv 2)) (pv 0)) (pa_cons (pe_op op_mod (pe_op op_add (pv 4) (pv 2)) (pv 0)) pa_nil))))) pa_nil)) pa_nil)))), ?_⟩
  have lx := hl.len
  refine ⟨_, rfl, r, rfl, ⟨_, SqT.of h0⟩, fun D hD => ?_⟩
  refine lc_ls (enc := encRow) relEx walk_tup (fun i => (rows[i]?).map (turnRow N e)) hD True.intro (Evl.sz_lt (by omega)) (fun H2 e2 _ => SqT.of (e2 _ _ h0)) ?_ ?_
  · rintro i x F F' hi e2 t2 ⟨rfl, hx⟩ Go Sk go sk
    obtain ⟨p, hp, ip⟩ := (hl.keep (Tups.of e2)).get hx
    obtain ⟨a, rfl, ha⟩ := PairAt.get ip
    refine ⟨a, _, rfl, SqT.of ha, rfl, _, _, rfl, _, _, rfl, rfl, rfl, yes_go ⟨_, rfl, _, rfl, _, _, rfl, rfl, _, rfl, _, _, rfl, rfl, hN, _, rfl, _, rfl, _, _, rfl, rfl, _, rfl, _, _, rfl, rfl, hN, (by show 2 ≤ sizeLine; decide), fun T hT => ?_⟩⟩
    exact go (turnRow N e p) _ _ (by rw [hp]; rfl) (ex_new hT) (Tups.new hT) (PairAt.mk upd_same)
  · intro F ys e2 t2 hD2 hy
    rw [fm_map _ lx] at hy
    refine ⟨D, ys, _, rfl, SqL.of hD2, hy, fun zs T q hp hs hq hq0 => ?_⟩
    refine ⟨q, zs, rfl, .inl ⟨SqL.of upd_same, fun p hp0 => ?_⟩⟩
    have e3 : Ex F (upd F q (.lst zs)) := ex_new hq0
    have e4 : Ex (upd F q (.lst zs)) (upd (upd F q (.lst zs)) p (.tup zs)) := ex_new hp0
    exact k _ p zs T (e2.trans (e3.trans e4)) upd_same (hq.keep (Tups.of (e3.trans e4))) hp (hs.imp fun {a b} h => le_row h)
def sp_least_period : Sp := fun vs H Q _ => ∃ (r : Addr) (N : Int) (xs : List V) (rows : List JT.Row), vs = [.int N, .ref r] ∧ H r = some (.tup xs) ∧ Ls H encRow xs rows ∧ Rows N rows ∧ N ≤ 360 ∧ rows.length ≤ 12 ∧
  ∀ H' p, Ex H H' → IsPeriod N rows p → Q (.int p) H'
abbrev N_least_period : List Str := ["around", "rows", "step"]
theorem sc_least_period : FnScope N_least_period ["around", "rows"] (defScope s_least_period) := ⟨rfl, rfl, rfl, by decide +kernel, rfl, by decide +kernel, by decide +kernel⟩
theorem ok_least_period (T : Txt K mg) : DefOk P w K mg base 2 (He.ga K "least_period") ["around", "rows"] sp_least_period := by
  obtain ⟨fd, F⟩ := T.d_least_period
  obtain ⟨fd_rows_turned, G_rows_turned, kp_rows_turned, b_rows_turned⟩ := ok_rows_turned (P := P) (w := w) (base := base) T
  refine ⟨fd, F.ok sc_least_period (fun vs H Q E h => ?_) (fun cdv A outer s H vs Q E hr h => ?_), F.kp, F.bindsN fun _ _ _ _ _ _ us hl => match us, hl with | [_, _], _ => rfl⟩
  · obtain ⟨r, N, xs, rows, rfl, h0, hl, V, hN, hz, k⟩ := h
    rfl
  have hu := hu_of hr
  have nd := sc_least_period.nd
  obtain ⟨r, N, xs, rows, rfl, h0, hl, V, hN, hz, k⟩ := h
  refine ⟨_, PSs.nox (pss_cons (ps_for PassesOwn.never rfl (pi_range2 rfl T.b_range (pa_cons pe_int (pa_cons (pv 0) pa_nil))) (pg_name (i := 2) nd rfl (by first | exact Or.inl rfl | exact Or.inr rfl)) (pss_one (ps_if (PW.pt (pw_and (pt_cmpR op_eq (pe_op op_mod (pv 0) (pv 2)) pe_int (nomark _)) (pw_and1 (pt_cmpR (op_eqDK K hr.units) (pe_call G_rows_turned (hr.mono (by decide)) rfl T.g_rows_turned kp_rows_turned b_rows_turned .nil pass0 (pa_cons (pv 0) (pa_cons (pv 1) (pa_cons (pv 2) pa_nil)))) (pv 1) (nomark _))))) (pss_one (ps_ret (pv 2))) pss_nil)))
  (pss_one (ps_ret (pv 0)))), ?_⟩
  have N1 := V.pos
  refine ⟨_, rfl, 1, N, rfl, ⟨by decide, by decide, by omega, by omega⟩, ?_⟩
  refine for_range (fun i σ H' => Ex H H' ∧ (∃ x2, σ = [some (.int N), some (.ref r), x2]) ∧ ∀ e, 0 < e → e < 1 + (i : Int) → N % e = 0 → ¬ Comm N rows e) ⟨Ex.refl H, ⟨none, rfl⟩, fun e h1 h2 => by omega⟩ ?_ ?_
  · rintro i σ H' hi ⟨e, ⟨x2, rfl⟩, hn⟩
    refine ⟨_, rfl, _, rfl, _, _, rfl, rfl, (by show 0 < 1 + (i : Int); omega), rfl, _, rfl, ?_⟩
    by_cases hm : N % (1 + (i : Int)) = 0
    · rw [decide_eq_true (congrArg L2.V.int hm)]
      refine iteT ⟨_, rfl, _, rfl, _, rfl, r, N, _, xs, rows, rfl, e _ _ h0, hl.keep (Tups.of e), V.N0, hz, fun H2 p ys T e2 hp hT pm so => ?_⟩
      have e02 := e.trans e2
      refine ⟨_, rfl, .tuple (T.map encRow), .tuple (rows.map encRow), Im.dp ⟨p, ys, rfl, hp, hT.all⟩, Im.dp ⟨r, xs, rfl, e02 _ _ h0, (hl.keep (Tups.of e02)).all⟩, shaped_pl (by simpa [Pl] using plAll_map encRow_pl T) (by have := depthAll_map encRow_depth T; simp only [PyData.depth]; omega),
        shaped_pl (by simpa [Pl] using plAll_map encRow_pl rows) (by have := depthAll_map encRow_depth rows; simp only [PyData.depth]; omega), _, rfl, ?_⟩
      rw [eqv_seq encRow_inj encRow_pl]
      have tf := turned_iff V pm so
      by_cases ht : T = rows
      · rw [decide_eq_true ht]
        exact iteT ⟨_, rfl, k _ _ e02 (isPeriod_found V (by omega) (by omega) hm (tf.mp ht) fun e h1 h2 h3 => hn e h1 h2 h3)⟩
      · rw [decide_eq_false ht]
        refine iteF ⟨e02, ⟨_, rfl⟩, fun e h1 h2 h3 => ?_⟩
        by_cases q : e < 1 + (i : Int)
        · exact hn e h1 q h3
        · have : e = 1 + (i : Int) := by omega
          subst this
          exact fun c => ht (tf.mpr c)
    · rw [decide_eq_false (fun q => hm (L2.V.int.inj q))]
      refine iteF ?_
      refine iteF ⟨e, ⟨_, rfl⟩, fun e h1 h2 h3 => ?_⟩
      by_cases q : e < 1 + (i : Int)
      · exact hn e h1 q h3
      · have : e = 1 + (i : Int) := by omega
        subst this
        exact absurd h3 hm
  · rintro σ H' ⟨e, ⟨x2, rfl⟩, hn⟩
    exact ⟨_, rfl, k _ _ e (isPeriod_N V fun e h1 h2 h3 => hn e h1 (by omega) h3)⟩
/-! ### Turning -/
abbrev tf (N : Int) (r : Addr) (p : Int) : List (Str × V) := [("around", .int N), ("rows", .ref r), ("_period", .int p)]
def TurnAt (K : PySem.W.Frag) (H : Hp) (t : Addr) (N : Int) (rows : List JT.Row) (p : Int) : Prop :=
  ∃ dx r xs, H t = some (.ins (cA K "Turning") dx (tf N r p)) ∧ H r = some (.tup xs) ∧ Ls H encRow xs rows
theorem tf_put (N p : Int) (r : Addr) : putF "_period" (.int p) (putF "rows" (.ref r) (putF "around" (.int N) [])) = tf N r p := by kernel_rfl
theorem tf_a (N p : Int) (r : Addr) : (tf N r p).lookup ("around" : Str) = some (.int N) := by kernel_rfl
theorem tf_r (N p : Int) (r : Addr) : (tf N r p).lookup ("rows" : Str) = some (.ref r) := by kernel_rfl
theorem tf_p (N p : Int) (r : Addr) : (tf N r p).lookup ("_period" : Str) = some (.int p) := by kernel_rfl
def sp_Turning_init (K : PySem.W.Frag) : Sp := fun vs H Q _ => ∃ (x dx r : Addr) (N : Int) (xs : List V) (rows : List JT.Row), vs = [.ref x, .int N, .ref r] ∧ H x = some (.ins (cA K "Turning") dx []) ∧ H r = some (.lst xs) ∧ Ls H encRow xs rows ∧ Rows N rows ∧ N ≤ 360 ∧ rows.length ≤ 12 ∧
  ∀ H' p, But x H H' → TurnAt K H' x N rows p → IsPeriod N rows p → Q .non H'
abbrev N_Turning_init : List Str := ["self", "around", "rows"]
theorem sc_Turning_init : FnScope N_Turning_init ["self", "around", "rows"] (defScope s_Turning_init) := ⟨rfl, rfl, rfl, by decide +kernel, rfl, by decide +kernel, by decide +kernel⟩
theorem ok_Turning_init (T : Txt K mg) : DefOk P w K mg base 5 (mA K "Turning" "__init__") ["self", "around", "rows"] (sp_Turning_init K) := by
  obtain ⟨fd, F⟩ := T.d_Turning_init
  obtain ⟨fd_check_round, G_check_round, kp_check_round, b_check_round⟩ := ok_check_round (P := P) (w := w) (base := base) T
  obtain ⟨fd_checked_rows, G_checked_rows, kp_checked_rows, b_checked_rows⟩ := ok_checked_rows (P := P) (w := w) (base := base) T
  obtain ⟨fd_least_period, G_least_period, kp_least_period, b_least_period⟩ := ok_least_period (P := P) (w := w) (base := base) T
  refine ⟨fd, F.ok sc_Turning_init (fun vs H Q E h => ?_) (fun cdv A outer s H vs Q E hr h => ?_), F.kp, F.bindsN fun _ _ _ _ _ _ us hl => match us, hl with | [_, _, _], _ => rfl⟩
  · obtain ⟨x, dx, r, N, xs, rows, rfl, hx, h0, hl, V, hN, hz, k⟩ := h
    rfl
  have hu := hu_of hr
  have nd := sc_Turning_init.nd
  obtain ⟨x, dx, r, N, xs, rows, rfl, hx, h0, hl, V, hN, hz, k⟩ := h
  refine ⟨_, PSs.nox (pss_cons (ps_expr (pe_call G_check_round (hr.mono (by decide)) rfl T.g_check_round kp_check_round b_check_round .nil pass0 (pa_cons (pv 1) pa_nil)))
  (pss_cons (ps_fld (pv 0) (pv 1) rfl)
  (pss_cons (ps_fld (pv 0) (pe_call G_checked_rows (hr.mono (by decide)) rfl T.g_checked_rows kp_checked_rows b_checked_rows .nil pass0 (pa_cons (pv 1) (pa_cons (pv 2) pa_nil))) rfl)
  (pss_one (ps_fld (pv 0) (pe_call G_least_period (hr.mono (by decide)) rfl T.g_least_period kp_least_period b_least_period .nil pass0 (pa_cons (pv 1) (pa_cons (pe_fldK K (pv 0) rfl) pa_nil))) rfl))))), ?_⟩
  have N1 := V.pos
  have hxr : r ≠ x := ne_of h0 hx (fun z => nomatch z)
  refine ⟨_, rfl, N, rfl, ⟨by omega, hN⟩, _, rfl, _, rfl, x, _, dx, _, rfl, hx, T.c_Turning, T.n_Turning_around, by decide, ?_⟩
  obtain ⟨H1, e1⟩ : ∃ H1, H1 = upd H x (.ins (cA K "Turning") dx (putF "around" (.int N) [])) := ⟨_, rfl⟩
  rw [← e1]
  have b1 : But x H H1 := fun a o n h => by rw [e1, upd_ne n]; exact h
  have h1 : H1 x = some (.ins (cA K "Turning") dx (putF "around" (.int N) [])) := by rw [e1]; exact upd_same
  have t1 : Tups H H1 := by rw [e1]; exact Tups.mut hx fun _ z => nomatch z
  refine ⟨_, rfl, _, rfl, r, N, xs, rows, rfl, b1 _ _ hxr h0, hl.keep t1, V, hz, fun H2 q ys e2 hq hys => ?_⟩
  refine ⟨_, rfl, x, _, dx, _, rfl, e2 _ _ h1, T.c_Turning, T.n_Turning_rows, (by show 1 < 1000; decide), ?_⟩
  obtain ⟨H3, e3⟩ : ∃ H3, H3 = upd H2 x (.ins (cA K "Turning") dx (putF "rows" (.ref q) (putF "around" (.int N) []))) := ⟨_, rfl⟩
  rw [← e3]
  have nqx : q ≠ x := ne_of hq (e2 _ _ h1) (fun z => nomatch z)
  have h3 : H3 x = some (.ins (cA K "Turning") dx (putF "rows" (.ref q) (putF "around" (.int N) []))) := by rw [e3]; exact upd_same
  have h3q : H3 q = some (.tup ys) := by rw [e3, upd_ne nqx]; exact hq
  have t3 : Tups H2 H3 := by rw [e3]; exact Tups.mut (e2 _ _ h1) fun _ z => nomatch z
  have l3 : (putF "rows" (L2.V.ref q) (putF "around" (.int N) [])).lookup ("rows" : Str) = some (.ref q) := by kernel_rfl
  refine ⟨_, rfl, _, rfl, x, _, dx, _, _, rfl, h3, T.c_Turning, T.n_Turning_rows, l3, q, N, ys, rows, rfl, h3q, hys.keep t3, V, hN, hz, fun H4 p e4 hp => ?_⟩
  refine ⟨_, rfl, x, _, dx, _, rfl, e4 _ _ h3, T.c_Turning, T.n_Turning_period, (by show 2 < 1000; decide), ?_⟩
  rw [tf_put]
  have t4 : Tups H4 (upd H4 x (.ins (cA K "Turning") dx (tf N q p))) := Tups.mut (e4 _ _ h3) fun _ z => nomatch z
  refine k _ p (fun a o n h => ?_) ⟨dx, q, ys, upd_same, t4 _ _ (e4 _ _ h3q), ((hys.keep t3).keep (Tups.of e4)).keep t4⟩ hp
  rw [upd_ne n]
  refine e4 _ _ ?_
  rw [e3, upd_ne n]
  exact e2 _ _ (b1 _ _ n h)
def sp_Turning_period (K : PySem.W.Frag) : Sp := fun vs H Q _ => ∃ (x : Addr) (N p : Int) (rows : List JT.Row), vs = [.ref x] ∧ TurnAt K H x N rows p ∧ Q (.int p) H
abbrev N_Turning_period : List Str := ["self"]
theorem sc_Turning_period : FnScope N_Turning_period ["self"] (defScope s_Turning_period) := ⟨rfl, rfl, rfl, by decide +kernel, rfl, by decide +kernel, by decide +kernel⟩
theorem ok_Turning_period (T : Txt K mg) : DefOk P w K mg base 1 (gA K "Turning" "period") ["self"] (sp_Turning_period K) := by
  obtain ⟨fd, F⟩ := T.d_Turning_period
  refine ⟨fd, F.ok sc_Turning_period (fun vs H Q E h => ?_) (fun cdv A outer s H vs Q E hr h => ?_), F.kp, F.bindsN fun _ _ _ _ _ _ us hl => match us, hl with | [_], _ => rfl⟩
  · obtain ⟨x, N, p, rows, rfl, ⟨dx, r, xs, hx, h0, hl⟩, k⟩ := h
    rfl
  have hu := hu_of hr
  have nd := sc_Turning_period.nd
  obtain ⟨x, N, p, rows, rfl, ⟨dx, r, xs, hx, h0, hl⟩, k⟩ := h
  refine ⟨_, PSs.nox (pss_one (ps_ret (pe_fldK K (pv 0) rfl))), ?_⟩
  exact ⟨_, rfl, x, _, dx, _, _, rfl, hx, T.c_Turning, T.n_Turning_period, tf_p _ _ _, k⟩
def sp_Turning_rests (K : PySem.W.Frag) : Sp := fun vs H Q _ => ∃ (x : Addr) (N p : Int) (rows : List JT.Row), vs = [.ref x] ∧ TurnAt K H x N rows p ∧ rows.length ≤ 12 ∧
  ∀ H' q (l : List Int), Ex H H' → H' q = some (.lst (l.map .int)) → l.Perm (rows.map (·.2)) → l.Pairwise (· ≤ ·) → Q (.ref q) H'
abbrev N_Turning_rests : List Str := ["self", "begin", "rest"]
theorem sc_Turning_rests : FnScope N_Turning_rests ["self"] (defScope s_Turning_rests) := ⟨rfl, rfl, rfl, by decide +kernel, rfl, by decide +kernel, by decide +kernel⟩
theorem ok_Turning_rests (T : Txt K mg) : DefOk P w K mg base 1 (mA K "Turning" "rests") ["self"] (sp_Turning_rests K) := by
  obtain ⟨fd, F⟩ := T.d_Turning_rests
  refine ⟨fd, F.ok sc_Turning_rests (fun vs H Q E h => ?_) (fun cdv A outer s H vs Q E hr h => ?_), F.kp, F.bindsN fun _ _ _ _ _ _ us hl => match us, hl with | [_], _ => rfl⟩
  · obtain ⟨x, N, p, rows, rfl, ⟨dx, r, xs, hx, h0, hl⟩, hz, k⟩ := h
    rfl
  have hu := hu_of hr
  have nd := sc_Turning_rests.nd
  obtain ⟨x, N, p, rows, rfl, ⟨dx, r, xs, hx, h0, hl⟩, hz, k⟩ := h
  refine ⟨_, PSs.nox (pss_one (ps_ret (pe_callB (cr_sortedE shape_int hr.units) (by rfl) T.b_sorted rfl (pa_cons (pe_lc (own := [("begin", 1), ("rest", 2)]) (g := (gTup K 2 (gCons (gName 1) (gCons (gName 2) gNil)))) (tt := tYes) rfl nd (pi_tup (pe_fldK K (pv 0) rfl)) (blkOk_by (N := N_Turning_rests) (sc := defScope s_Turning_rests) (by decide +kernel)) (fun _ _ _ _ _ => (pg_tup rfl (pgs_cons (pg_name (i := 1) nd rfl (by first | exact Or.inl rfl | exact Or.inr rfl)) (pgs_cons (pg_name (i := 2) nd rfl (by first | exact Or.inl rfl | exact Or.inr rfl)) pgs_nil)))) (fun _ _ _ _ _ => pts_nil) (fun _ _ _ _ _ => (pv 2))) pa_nil)))), ?_⟩
  have lx := hl.len
  refine ⟨_, rfl, x, _, dx, _, _, rfl, hx, T.c_Turning, T.n_Turning_rows, tf_r _ _ _, r, rfl, ⟨_, SqT.of h0⟩, fun D hD => ?_⟩
  refine lc_ls (enc := PyData.int) relEx walk_tup (fun i => (rows[i]?).map (·.2)) hD True.intro (Evl.sz_lt (by omega)) (fun H2 e2 _ => SqT.of (e2 _ _ h0)) ?_ ?_
  · rintro i x F F' hi e2 t2 ⟨rfl, hx⟩ Go Sk go sk
    obtain ⟨p, hp, ip⟩ := (hl.keep (Tups.of e2)).get hx
    obtain ⟨a, rfl, ha⟩ := PairAt.get ip
    refine ⟨a, _, rfl, SqT.of ha, rfl, _, _, rfl, _, _, rfl, rfl, rfl, yes_go ⟨_, rfl, ?_⟩⟩
    exact go p.2 _ _ (by rw [hp]; rfl) (Ex.refl _) (Tups.refl _) rfl
  · intro F ys e2 t2 hD2 hy
    rw [fm_map _ lx] at hy
    refine ⟨D, ys, _, rfl, SqL.of hD2, hy, fun zs T q hp hs hq hq0 => ?_⟩
    refine k _ q T (e2.trans (ex_new hq0)) ?_ hp (hs.imp fun {a b} h => JR.le_int h)
    rw [← Ls.ints_eq hq]
    exact upd_same
theorem pick_snoc (place : Int) (r : JT.Row) : ∀ (l : List JT.Row) (c : JT.Row), pick place (l ++ [r]) c = if r.1 ≤ place then r else pick place l c
  | [], c => rfl
  | a :: l, c => by
    rw [List.cons_append]
    unfold pick
    exact pick_snoc place r l _
def sp_Turning_lifted (K : PySem.W.Frag) : Sp := fun vs H Q _ => ∃ (x : Addr) (N p y : Int) (rows : List JT.Row), vs = [.ref x, .int y] ∧ TurnAt K H x N rows p ∧ Rows N rows ∧ N ≤ 360 ∧
  ∀ H', Ex H H' → Q (.int (lifted N rows y)) H'
abbrev N_Turning_lifted : List Str := ["self", "x", "lap", "place", "begin", "rest", "row"]
theorem sc_Turning_lifted : FnScope N_Turning_lifted ["self", "x"] (defScope s_Turning_lifted) := ⟨rfl, rfl, rfl, by decide +kernel, rfl, by decide +kernel, by decide +kernel⟩
theorem ok_Turning_lifted (T : Txt K mg) : DefOk P w K mg base 2 (mA K "Turning" "lifted") ["self", "x"] (sp_Turning_lifted K) := by
  obtain ⟨fd, F⟩ := T.d_Turning_lifted
  obtain ⟨fd_is_integer, G_is_integer, kp_is_integer, b_is_integer⟩ := ok_is_integer (P := P) (w := w) (base := base) T
  refine ⟨fd, F.ok sc_Turning_lifted (fun vs H Q E h => ?_) (fun cdv A outer s H vs Q E hr h => ?_), F.kp, F.bindsN fun _ _ _ _ _ _ us hl => match us, hl with | [_, _], _ => rfl⟩
  · obtain ⟨x, N, p, y, rows, rfl, ⟨dx, r, xs, hx, h0, hl⟩, V, hN, k⟩ := h
    rfl
  have hu := hu_of hr
  have nd := sc_Turning_lifted.nd
  obtain ⟨x, N, p, y, rows, rfl, ⟨dx, r, xs, hx, h0, hl⟩, V, hN, k⟩ := h
  refine ⟨_, PSs.nox (pss_cons (ps_if (pt_not (pt_val (pe_call G_is_integer (hr.mono (by decide)) rfl T.g_is_integer kp_is_integer b_is_integer .nil pass0 (pa_cons (pv 1) pa_nil)))) pss_never pss_nil)
  (pss_cons (ps_asg (pe_callB call_divmod (by rfl) T.b_divmod rfl (pa_cons (pv 1) (pa_cons (pe_fldK K (pv 0) rfl) pa_nil))) (pg_tup rfl (pgs_cons (pg_name (i := 2) nd rfl (by first | exact Or.inl rfl | exact Or.inr rfl)) (pgs_cons (pg_name (i := 3) nd rfl (by first | exact Or.inl rfl | exact Or.inr rfl)) pgs_nil))))
  (Evl.pss_cut (ps_if (pt_cmpR op_lt (pv 3) (pe_ix (ix_tupK K) (pe_ix (ix_tupK K) (pe_fldK K (pv 0) rfl) pe_int (fun _ _ => rfl)) pe_int (fun _ _ => rfl)) (nomark _)) (pss_one (ps_par (i := 2) (j := 3) rfl nd rfl rfl (by decide) rfl rfl (pa_cons (pe_op op_sub (pv 2) pe_int) (pa_cons (pe_op op_add (pv 3) (pe_fldK K (pv 0) rfl)) pa_nil)) rfl)) pss_nil)
  (pss_cons (ps_asg (pe_ix (ix_tupK K) (pe_fldK K (pv 0) rfl) pe_int (fun _ _ => rfl)) (pg_tup rfl (pgs_cons (pg_name (i := 4) nd rfl (by first | exact Or.inl rfl | exact Or.inr rfl)) (pgs_cons (pg_name (i := 5) nd rfl (by first | exact Or.inl rfl | exact Or.inr rfl)) pgs_nil))))
  (pss_cons (ps_for PassesOwn.never rfl (pi_tup (pe_fldK K (pv 0) rfl)) (pg_name (i := 6) nd rfl (by first | exact Or.inl rfl | exact Or.inr rfl)) (pss_one (ps_if (pt_cmpR op_le (pe_ix (ix_tupK K) (pv 6) pe_int (fun _ _ => rfl)) (pv 3) (nomark _)) (pss_one (ps_asg (pv 6) (pg_tup rfl (pgs_cons (pg_name (i := 4) nd rfl (by first | exact Or.inl rfl | exact Or.inr rfl)) (pgs_cons (pg_name (i := 5) nd rfl (by first | exact Or.inl rfl | exact Or.inr rfl)) pgs_nil))))) pss_nil)))
  (pss_one (ps_ret (pe_op op_add (pe_op op_add (pe_op op_mul (pv 2) (pe_fldK K (pv 0) rfl)) (pv 4)) (pe_op op_mod (pe_op op_sub (pv 5) (pv 4)) (pe_fldK K (pv 0) rfl)))))))))), ?_⟩
  have lx := hl.len
  have N1 := V.pos
  obtain ⟨p0, rest, er⟩ : ∃ p0 rest, rows = p0 :: rest := by
    cases rows with
    | nil => exact absurd rfl V.ne
    | cons a l => exact ⟨a, l, rfl⟩
  have g0 : rows[0]? = some p0 := by rw [er]; rfl
  obtain ⟨v0, hv0, iv0⟩ := hl.get' g0
  obtain ⟨a0, rfl, ha0⟩ := PairAt.get iv0
  have hd : rows.headD (0, 0) = p0 := by rw [er]; rfl
  refine ⟨_, rfl, y, rfl, true, rfl, iteF ?_⟩
  refine ⟨_, rfl, _, rfl, x, _, dx, _, _, rfl, hx, T.c_Turning, T.n_Turning_around, tf_a _ _ _, y, N, rfl, ⟨by omega, by omega⟩, fun q hq => ?_⟩
  have e1 : Ex H (upd H q (.tup [.int (y / N), .int (y % N)])) := ex_new hq
  refine ⟨q, _, rfl, SqT.of upd_same, rfl, _, _, rfl, _, _, rfl, rfl, ?_⟩
  obtain ⟨F, eF⟩ : ∃ F, F = upd H q (.tup [.int (y / N), .int (y % N)]) := ⟨_, rfl⟩
  rw [← eF] at e1 ⊢
  have fx := e1 _ _ hx
  refine ⟨fun σ' H' => H' = F ∧ σ' = [some (.ref x), some (.int y), some (.int (if y % N < p0.1 then y / N - 1 else y / N)), some (.int (if y % N < p0.1 then y % N + N else y % N)), none, none, none], ?_, ?_⟩
  refine ⟨_, rfl, _, rfl, x, _, dx, _, _, rfl, fx, T.c_Turning, T.n_Turning_rows, tf_r _ _ _, r, _, _, _, rfl, rfl, SqT.of (e1 _ _ h0), atI_nat hv0, a0, _, _, _, rfl, rfl, SqT.of (e1 _ _ ha0), atI_nat rfl, _, _, rfl, rfl, _, rfl, ?_⟩
  · by_cases c : y % N < p0.1
    · rw [decide_eq_true c]
      refine iteT ⟨_, rfl, _, _, rfl, rfl, _, rfl, _, rfl, x, _, dx, _, _, rfl, fx, T.c_Turning, T.n_Turning_around, tf_a _ _ _, _, _, rfl, rfl, _, _, rfl, rfl, ?_⟩
      rw [if_pos c, if_pos c]
      rfl
    · rw [decide_eq_false c]
      refine iteF ⟨rfl, ?_⟩
      rw [if_neg c, if_neg c]
      rfl
  rintro σ' H' ⟨rfl, rfl⟩
  obtain ⟨lap, elap⟩ : ∃ z, z = (if y % N < p0.1 then y / N - 1 else y / N) := ⟨_, rfl⟩
  obtain ⟨place, epl⟩ : ∃ z, z = (if y % N < p0.1 then y % N + N else y % N) := ⟨_, rfl⟩
  rw [← elap, ← epl]
  refine ⟨_, rfl, x, _, dx, _, _, rfl, fx, T.c_Turning, T.n_Turning_rows, tf_r _ _ _, r, _, _, _, rfl, rfl, SqT.of (e1 _ _ h0), atI_nat hv0, a0, _, rfl, SqT.of (e1 _ _ ha0), rfl, _, _, rfl, _, _, rfl, rfl, ?_⟩
  refine ⟨_, rfl, x, _, dx, _, _, rfl, fx, T.c_Turning, T.n_Turning_rows, tf_r _ _ _, r, rfl, ⟨_, SqT.of (e1 _ _ h0)⟩, ?_⟩
  refine for_it walk_tup (fun i σ' H2 => H2 = H' ∧ ∃ z, σ' = [some (.ref x), some (.int y), some (.int lap), some (.int place), some (.int (pick place (rows.take i) p0).1), some (.int (pick place (rows.take i) p0).2), z]) ⟨rfl, none, rfl⟩ (fun i σ' H2 _ ⟨e, _⟩ => by rw [e]; exact SqT.of (e1 _ _ h0)) ?_ ?_
  · rintro i v σ' H2 H3 hi ⟨rfl, z, rfl⟩ ⟨rfl, hv⟩
    obtain ⟨q, hq, iq⟩ := (hl.keep (Tups.of e1)).get hv
    obtain ⟨a, rfl, ha⟩ := PairAt.get iq
    have tk : rows.take (i + 1) = rows.take i ++ [q] := by rw [List.take_add_one, hq]; rfl
    refine ⟨_, rfl, a, _, _, _, rfl, rfl, SqT.of ha, atI_nat rfl, _, rfl, _, _, rfl, rfl, _, rfl, ?_⟩
    by_cases c : q.1 ≤ place
    · rw [decide_eq_true c]
      refine iteT ⟨_, rfl, a, _, rfl, SqT.of ha, rfl, _, _, rfl, _, _, rfl, rfl, rfl, some (.ref a), ?_⟩
      rw [tk, pick_snoc, if_pos c]
      rfl
    · rw [decide_eq_false c]
      refine iteF ⟨rfl, some (.ref a), ?_⟩
      rw [tk, pick_snoc, if_neg c]
      rfl
  · rintro σ' H2 ⟨rfl, z, rfl⟩
    have tk : rows.take xs.length = rows := by rw [lx]; exact List.take_length
    rw [tk]
    refine ⟨_, rfl, _, rfl, x, _, dx, _, _, rfl, fx, T.c_Turning, T.n_Turning_around, tf_a _ _ _, _, _, rfl, rfl, .inr ⟨by omega, by omega⟩, _, rfl, _, _, rfl, rfl, _, rfl, _, rfl, _, _, rfl, rfl, _, rfl, x, _, dx, _, _, rfl, fx, T.c_Turning, T.n_Turning_around, tf_a _ _ _, _, _, rfl, rfl, (by show 0 < N; omega), _, _, rfl, rfl, ?_⟩
    have := k H2 e1
    unfold lifted at this
    rw [hd] at this
    simp only [← elap, ← epl] at this
    exact this
def sp_Turning_is_even (K : PySem.W.Frag) : Sp := fun vs H Q _ => ∃ (x : Addr) (N p : Int) (rows : List JT.Row), vs = [.ref x] ∧ TurnAt K H x N rows p ∧ 0 < p ∧ N % 2 = 0 ∧ N / 2 % p = 0 ∧ Q (.bl true) H
abbrev N_Turning_is_even : List Str := ["self"]
theorem sc_Turning_is_even : FnScope N_Turning_is_even ["self"] (defScope s_Turning_is_even) := ⟨rfl, rfl, rfl, by decide +kernel, rfl, by decide +kernel, by decide +kernel⟩
theorem ok_Turning_is_even (T : Txt K mg) : DefOk P w K mg base 1 (mA K "Turning" "is_even") ["self"] (sp_Turning_is_even K) := by
  obtain ⟨fd, F⟩ := T.d_Turning_is_even
  refine ⟨fd, F.ok sc_Turning_is_even (fun vs H Q E h => ?_) (fun cdv A outer s H vs Q E hr h => ?_), F.kp, F.bindsN fun _ _ _ _ _ _ us hl => match us, hl with | [_], _ => rfl⟩
  · obtain ⟨x, N, p, rows, rfl, ⟨dx, r, xs, hx, h0, hl⟩, hp, h1, h2, k⟩ := h
    rfl
  have hu := hu_of hr
  have nd := sc_Turning_is_even.nd
  obtain ⟨x, N, p, rows, rfl, ⟨dx, r, xs, hx, h0, hl⟩, hp, h1, h2, k⟩ := h
  refine ⟨_, PSs.nox (pss_one (ps_ret (pe_and (pe_cmpR op_eq (pe_op op_mod (pe_fldK K (pv 0) rfl) pe_int) pe_int (nomark _)) (pe_one (pe_cmpR op_eq (pe_op op_mod (pe_op op_fdiv (pe_fldK K (pv 0) rfl) pe_int) (pe_fldK K (pv 0) rfl)) pe_int (nomark _)))))), ?_⟩
  refine ⟨_, rfl, x, _, dx, _, _, rfl, hx, T.c_Turning, T.n_Turning_around, tf_a _ _ _, _, _, rfl, rfl, (by show (0 : Int) < 2; decide), rfl, ?_⟩
  refine ⟨true, congrArg V.bl (decide_eq_true (congrArg V.int h1)), iteT ⟨_, rfl, x, _, dx, _, _, rfl, hx, T.c_Turning, T.n_Turning_around, tf_a _ _ _, _, _, rfl, rfl, ⟨by decide, by decide⟩, _, rfl, x, _, dx, _, _, rfl, hx, T.c_Turning, T.n_Turning_period, tf_p _ _ _, _, _, rfl, rfl, hp, rfl, ?_⟩⟩
  show Q (.bl (decide (V.int (N / 2 % p) = V.int 0))) H
  rw [h2]
  exact k
end
end JD
end Part_JD3
section Part_JD4
set_option Elab.async false
set_option linter.all false
set_option maxRecDepth 100000
set_option maxHeartbeats 4000000
namespace JD
open PySem PySem.Spec PyProof.Rows L2 JR JX JT
open Evl (Ex)
section
variable {P : Program} {w : World} {K : PySem.W.Frag} {mg : Str → Option Value} {base : Heap}
/-- one of the two words -/
def IsW (x : Str) : Prop := x = "push" ∨ x = "squeeze"
theorem inW {x : Str} (h : IsW x) : inV (.str x) [.str "push", .str "squeeze"] = true := by
  rcases h with rfl | rfl <;> decide +kernel
def sp_is_word : Sp := fun vs H Q _ => ∃ x : Str, vs = [.str x] ∧ IsW x ∧ Q (.bl true) H
abbrev N_is_word : List Str := ["thing"]
theorem sc_is_word : FnScope N_is_word ["thing"] (defScope s_is_word) := ⟨rfl, rfl, rfl, by decide +kernel, rfl, by decide +kernel, by decide +kernel⟩
theorem ok_is_word (T : Txt K mg) : DefOk P w K mg base 1 (He.ga K "is_word") ["thing"] sp_is_word := by
  obtain ⟨fd, F⟩ := T.d_is_word
  refine ⟨fd, F.ok sc_is_word (fun vs H Q E h => ?_) (fun cdv A outer s H vs Q E hr h => ?_), F.kp, F.bindsN fun _ _ _ _ _ _ us hl => match us, hl with | [_], _ => rfl⟩
  · obtain ⟨x, rfl, hx, k⟩ := h
    rfl
  have hu := hu_of hr
  have nd := sc_is_word.nd
  obtain ⟨x, rfl, hx, k⟩ := h
  refine ⟨_, PSs.nox (pss_one (ps_ret (pe_and (pe_callB call_isi (by rfl) T.b_isinstance rfl (pa_cons (pv 0) (pa_cons (pe_bltn (v := .ty "str") rfl T.b_str rfl rfl) pa_nil))) (pe_one (pe_cmpR (op_in_seqK K) (pv 0) (pe_glob (v := .ref (cA K "WORDS")) rfl T.g_WORDS rfl) rfl))))), ?_⟩
  refine ⟨_, rfl, .str x, .ty "str", _, _, true, rfl, .ty _, .base (.str x), kit_ty (by decide +kernel), true, rfl, iteT ⟨_, rfl, cA K "WORDS", _, rfl, .inr (T.t_WORDS H), rfl, by decide +kernel, ?_⟩⟩
  show Q (.bl (inV (.str x) [.str "push", .str "squeeze"])) H
  rw [inW hx]
  exact k
/-! ### Part -/
structure TurnD where
  t : Addr
  rows : List JT.Row
  p : Int
structure TurnF (N : Int) (d : TurnD) : Prop where
  rows : Rows N d.rows
  per : IsPeriod N d.rows d.p
  len : d.rows.length ≤ 12
def sp_check_even (K : PySem.W.Frag) : Sp := fun vs H Q _ => ∃ (d : TurnD) (N : Int), vs = [.ref d.t] ∧ TurnAt K H d.t N d.rows d.p ∧ 0 < d.p ∧ N % 2 = 0 ∧ N / 2 % d.p = 0 ∧ Q .non H
abbrev N_check_even : List Str := ["turning"]
theorem sc_check_even : FnScope N_check_even ["turning"] (defScope s_check_even) := ⟨rfl, rfl, rfl, by decide +kernel, rfl, by decide +kernel, by decide +kernel⟩
theorem ok_check_even (T : Txt K mg) : DefOk P w K mg base 2 (He.ga K "check_even") ["turning"] (sp_check_even K) := by
  obtain ⟨fd, F⟩ := T.d_check_even
  obtain ⟨fd_Turning_is_even, G_Turning_is_even, kp_Turning_is_even, b_Turning_is_even⟩ := ok_Turning_is_even (P := P) (w := w) (base := base) T
  refine ⟨fd, F.ok sc_check_even (fun vs H Q E h => ?_) (fun cdv A outer s H vs Q E hr h => ?_), F.kp, F.bindsN fun _ _ _ _ _ _ us hl => match us, hl with | [_], _ => rfl⟩
  · obtain ⟨d, N, rfl, hT, h0, h1, h2, k⟩ := h
    rfl
  have hu := hu_of hr
  have nd := sc_check_even.nd
  obtain ⟨d, N, rfl, hT, h0, h1, h2, k⟩ := h
  refine ⟨_, PSs.nox (pss_one (ps_if (pt_not (pt_val (pe_meth0 (pv 0) T.c_Turning T.m_Turning_is_even G_Turning_is_even (hr.mono (by decide)) b_Turning_is_even .nil pass0))) pss_never pss_nil)), ?_⟩
  obtain ⟨dx, r, xs, hx, hr0, hl⟩ := id hT
  exact ⟨_, rfl, d.t, dx, _, rfl, hx, by kernel_rfl, d.t, N, d.p, d.rows, rfl, hT, h0, h1, h2, true, rfl, iteF k⟩
/-- the words of a part with their turnings, in the order of the part's dict -/
abbrev Words := List (Str × TurnD)
abbrev kvsOf (D : Words) : List (Key × V) := D.map fun q => (Sum.inr q.1, .ref q.2.t)
abbrev pf (N : Int) (d : Addr) : List (Str × V) := [("around", .int N), ("_shown", .non), ("_turnings", .ref d)]
def PartAt (K : PySem.W.Frag) (H : Hp) (a : Addr) (N : Int) (D : Words) : Prop :=
  ∃ dx d, H a = some (.ins (cA K "Part") dx (pf N d)) ∧ H d = some (.dK (kvsOf D)) ∧ ∀ q ∈ D, TurnAt K H q.2.t N q.2.rows q.2.p
structure PartF (N : Int) (D : Words) : Prop where
  lo : 2 ≤ N
  hi : N ≤ 360
  tf : ∀ q ∈ D, TurnF N q.2
  ws : D.map (·.1) = (["push"] : List Str) ∨ D.map (·.1) = (["squeeze"] : List Str) ∨ D.map (·.1) = (["push", "squeeze"] : List Str)
theorem pf_put (N : Int) (d : Addr) : putF "_turnings" (.ref d) (putF "_shown" .non (putF "around" (.int N) [])) = pf N d := by kernel_rfl
theorem pf_a (N : Int) (d : Addr) : (pf N d).lookup ("around" : Str) = some (.int N) := by kernel_rfl
theorem pf_t (N : Int) (d : Addr) : (pf N d).lookup ("_turnings" : Str) = some (.ref d) := by kernel_rfl
abbrev optV : Option TurnD → V
  | none => .non
  | some d => .ref d.t
abbrev wordsOf (pu sq : Option TurnD) : Words := (pu.map fun d => (("push" : Str), d)).toList ++ (sq.map fun d => (("squeeze" : Str), d)).toList
def sp_Part_init (K : PySem.W.Frag) : Sp := fun vs H Q _ => ∃ (x dx : Addr) (N : Int) (pu sq : Option TurnD), vs = [.ref x, optV sq, optV pu, .non] ∧ H x = some (.ins (cA K "Part") dx []) ∧ wordsOf pu sq ≠ [] ∧
  (∀ q ∈ wordsOf pu sq, TurnAt K H q.2.t N q.2.rows q.2.p ∧ TurnF N q.2) ∧ (∀ d, sq = some d → N % 2 = 0 ∧ N / 2 % d.p = 0) ∧
  ∀ H', But x H H' → PartAt K H' x N (wordsOf pu sq) → Q .non H'
abbrev N_Part_init : List Str := ["self", "squeeze", "push", "widths"]
theorem sc_Part_init : FnScope N_Part_init ["self", "squeeze", "push", "widths"] (defScope s_Part_init) := ⟨rfl, rfl, rfl, by decide +kernel, rfl, by decide +kernel, by decide +kernel⟩
theorem ok_Part_init (T : Txt K mg) : ∃ (fd : FuncData) (its : List Value), FnOk P w K mg base CX0 3 (mA K "Part" "__init__") fd ["self", "squeeze", "push", "widths"] (sp_Part_init K) ∧ KBn K fd ["self", "squeeze", "push", "widths"] 1 ["squeeze", "push"] (fun us ws => us ++ (ws ++ its.drop 2)) (fun vs zs => vs ++ (zs ++ [V.non])) := by
  obtain ⟨fd, F⟩ := T.d_Part_init
  obtain ⟨fd_check_even, G_check_even, kp_check_even, b_check_even⟩ := ok_check_even (P := P) (w := w) (base := base) T
  obtain ⟨its, hb⟩ := F.kbindsD 1 ["squeeze", "push"] (fun us its ws => us ++ (ws ++ its.drop 2)) (by simp) (fun a b c => Vals.append a (Vals.append c (Vals.drop 2 b))) (fun _ _ _ _ _ _ _ us its ws h1 h2 h3 => match us, its, ws, h1, h2, h3 with | [_], [_, _, _], [_, _], _, _, _ => ⟨_, rfl, by kernel_rfl⟩)
  refine ⟨fd, its, F.ok sc_Part_init (fun vs H Q E h => ?_) (fun cdv A outer s H vs Q E hr h => ?_), hb⟩
  · obtain ⟨x, dx, N, pu, sq, rfl, hx, ne, hT, hE, k⟩ := h
    rfl
  have hu := hu_of hr
  have nd := sc_Part_init.nd
  obtain ⟨x, dx, N, pu, sq, rfl, hx, ne, hT, hE, k⟩ := h
  refine ⟨_, PSs.nox (pss_cons (ps_if (PW.pt (pw_and (pt_cmpR op_isN (pv 1) pe_non (nomark _)) (pw_and1 (pt_cmpR op_isN (pv 2) pe_non (nomark _))))) pss_never pss_nil)
  (pss_cons (ps_if (PW.pt (pw_and (pt_cmpR op_notN (pv 1) pe_non (nomark _)) (pw_and (pt_cmpR op_notN (pv 2) pe_non (nomark _)) (pw_and1 (pt_cmpR op_ne (pe_fldK K (pv 1) rfl) (pe_fldK K (pv 2) rfl) (nomark _)))))) pss_never pss_nil)
  (pss_cons (ps_if (pt_cmpR op_notN (pv 1) pe_non (nomark _)) (pss_one (ps_expr (pe_call G_check_even (hr.mono (by decide)) rfl T.g_check_even kp_check_even b_check_even .nil pass0 (pa_cons (pv 1) pa_nil)))) (pss_one (ps_if (pt_cmpR op_notN (pv 3) pe_non (nomark _)) pss_never pss_nil)))
  (pss_cons (ps_fld (pv 0) (pe_ifExp (pt_cmpR op_isN (pv 1) pe_non (nomark _)) (pe_fldK K (pv 2) rfl) (pe_fldK K (pv 1) rfl)) rfl)
  (pss_cons (ps_fld (pv 0) (pe_ifExp (pt_cmpR op_isN (pv 3) pe_non (nomark _)) pe_non pe_dead) rfl)
  (pss_cons (ps_fld (pv 0) pe_dnewK rfl)
  (pss_cons (ps_if (pt_cmpR op_notN (pv 2) pe_non (nomark _)) (pss_one (ps_dput hu (pe_fldK K (pv 0) rfl) pe_str (pv 2) rfl)) pss_nil)
  (pss_one (ps_if (pt_cmpR op_notN (pv 1) pe_non (nomark _)) (pss_one (ps_dput hu (pe_fldK K (pv 0) rfl) pe_str (pv 1) rfl)) pss_nil))))))))), ?_⟩
  have dn : ∀ d : TurnD, decide ((V.ref d.t) = V.non) = false := fun d => decide_eq_false fun z => nomatch z
  have dT : decide ((V.non) = V.non) = true := decide_eq_true rfl
  have fin : ∀ (kvs : List (Key × V)) (y : Addr) (H' : Hp), kvs = kvsOf (wordsOf pu sq) → But x H H' → H' x = some (.ins (cA K "Part") dx (pf N y)) → H' y = some (.dK kvs) → Tups H H' → H y = none → Q .non H' := fun kvs y H' e b h1 h2 t hy => by
    refine k H' b ⟨dx, y, h1, by rw [h2, e], fun q hq => ?_⟩
    obtain ⟨dx', r, xs, g1, g2, g3⟩ := (hT q hq).1
    have n1 : q.2.t ≠ x := fun z => by
      rw [z, hx] at g1
      injection g1 with g1
      injection g1 with _ _ g1
      cases g1
    exact ⟨dx', r, xs, b _ _ n1 g1, t _ _ g2, g3.keep t⟩
  cases sq with
  | none =>
    cases pu with
    | none => exact absurd rfl ne
    | some pd =>
      obtain ⟨⟨dx', r, xs, g1, g2, g3⟩, TF⟩ := hT ("push", pd) (by simp)
      refine ⟨_, rfl, rfl, _, rfl, iteT ⟨_, rfl, rfl, _, rfl, iteF ?_⟩⟩
      refine ⟨_, rfl, rfl, _, rfl, iteF (iteF ?_)⟩
      refine ⟨_, rfl, rfl, _, rfl, iteF ⟨_, rfl, rfl, _, rfl, iteF ?_⟩⟩
      refine ⟨_, rfl, rfl, _, rfl, iteT ⟨_, rfl, pd.t, _, dx', _, _, rfl, g1, T.c_Turning, T.n_Turning_around, tf_a _ _ _, _, rfl, x, _, dx, _, rfl, hx, T.c_Part, T.n_Part_around, by decide, ?_⟩⟩
      obtain ⟨H1, e1⟩ : ∃ H1, H1 = upd H x (.ins (cA K "Part") dx (putF "around" (.int N) [])) := ⟨_, rfl⟩
      rw [← e1]
      have h1 : H1 x = some (.ins (cA K "Part") dx (putF "around" (.int N) [])) := by rw [e1]; exact upd_same
      have b1 : But x H H1 := fun a o n h => by rw [e1, upd_ne n]; exact h
      have t1 : Tups H H1 := by rw [e1]; exact Tups.mut hx fun _ z => nomatch z
      refine ⟨_, rfl, rfl, _, rfl, iteT ⟨_, rfl, x, _, dx, _, rfl, h1, T.c_Part, T.n_Part_shown, (by show 1 < 1000; decide), ?_⟩⟩
      obtain ⟨H2, e2⟩ : ∃ H2, H2 = upd H1 x (.ins (cA K "Part") dx (putF "_shown" .non (putF "around" (.int N) []))) := ⟨_, rfl⟩
      rw [← e2]
      have h2 : H2 x = some (.ins (cA K "Part") dx (putF "_shown" .non (putF "around" (.int N) []))) := by rw [e2]; exact upd_same
      have b2 : But x H H2 := fun a o n h => by rw [e2, upd_ne n]; exact b1 a o n h
      have t2 : Tups H H2 := by rw [e2]; exact t1.trans (Tups.mut h1 fun _ z => nomatch z)
      intro y hy
      have nyx : y ≠ x := fun z => by rw [z, h2] at hy; cases hy
      have hy0 : H y = none := by rw [e2, upd_ne nyx, e1, upd_ne nyx] at hy; exact hy
      refine ⟨_, rfl, x, _, dx, _, rfl, (by rw [upd_ne nyx.symm]; exact h2), T.c_Part, T.n_Part_turnings, (by show 2 < 1000; decide), ?_⟩
      rw [pf_put]
      obtain ⟨H3, e3⟩ : ∃ H3, H3 = upd (upd H2 y (.dK [])) x (.ins (cA K "Part") dx (pf N y)) := ⟨_, rfl⟩
      rw [← e3]
      have h3 : H3 x = some (.ins (cA K "Part") dx (pf N y)) := by rw [e3]; exact upd_same
      have h3y : H3 y = some (.dK []) := by rw [e3, upd_ne nyx, upd_same]
      have b3 : ∀ a o, a ≠ x → a ≠ y → H a = some o → H3 a = some o := fun a o n m h => by rw [e3, upd_ne n, upd_ne m]; exact b2 a o n h
      have t3 : Tups H H3 := by rw [e3]; exact (t2.trans (Tups.new hy)).trans (Tups.mut (u := .ins (cA K "Part") dx (putF "_shown" .non (putF "around" (.int N) []))) (by rw [upd_ne nyx.symm]; exact h2) fun _ z => nomatch z)
      refine ⟨_, rfl, rfl, _, rfl, iteT ?_⟩
      refine ⟨_, rfl, _, rfl, x, _, dx, _, _, rfl, h3, T.c_Part, T.n_Part_turnings, pf_t _ _, y, _, rfl, DPut.k (k := Sum.inr "push") h3y (Evl.sz_lt (by show 0 < 100000; decide)), ?_⟩
      refine ⟨_, rfl, rfl, _, rfl, iteF ?_⟩
      refine fin _ y _ rfl (fun a o n h => ?_) ?_ upd_same (t3.trans (Tups.mut h3y fun _ z => nomatch z)) hy0
      · rw [upd_ne (ne_of_none h hy0)]
        exact b3 a o n (ne_of_none h hy0) h
      · rw [upd_ne nyx.symm]
        exact h3
  | some sd =>
    cases pu with
    | none =>
      obtain ⟨⟨dx', r, xs, g1, g2, g3⟩, TF⟩ := hT ("squeeze", sd) (by simp)
      obtain ⟨ev1, ev2⟩ := hE sd rfl
      refine ⟨_, rfl, rfl, _, rfl, iteF (iteF ?_)⟩
      refine ⟨_, rfl, rfl, _, rfl, iteT ⟨_, rfl, rfl, _, rfl, iteF (iteF ?_)⟩⟩
      refine ⟨_, rfl, rfl, _, rfl, iteT ⟨_, rfl, sd, N, rfl, ⟨dx', r, xs, g1, g2, g3⟩, TF.per.pos, ev1, ev2, ?_⟩⟩
      refine ⟨_, rfl, rfl, _, rfl, iteF ⟨_, rfl, sd.t, _, dx', _, _, rfl, g1, T.c_Turning, T.n_Turning_around, tf_a _ _ _, _, rfl, x, _, dx, _, rfl, hx, T.c_Part, T.n_Part_around, by decide, ?_⟩⟩
      obtain ⟨H1, e1⟩ : ∃ H1, H1 = upd H x (.ins (cA K "Part") dx (putF "around" (.int N) [])) := ⟨_, rfl⟩
      rw [← e1]
      have h1 : H1 x = some (.ins (cA K "Part") dx (putF "around" (.int N) [])) := by rw [e1]; exact upd_same
      have b1 : But x H H1 := fun a o n h => by rw [e1, upd_ne n]; exact h
      have t1 : Tups H H1 := by rw [e1]; exact Tups.mut hx fun _ z => nomatch z
      refine ⟨_, rfl, rfl, _, rfl, iteT ⟨_, rfl, x, _, dx, _, rfl, h1, T.c_Part, T.n_Part_shown, (by show 1 < 1000; decide), ?_⟩⟩
      obtain ⟨H2, e2⟩ : ∃ H2, H2 = upd H1 x (.ins (cA K "Part") dx (putF "_shown" .non (putF "around" (.int N) []))) := ⟨_, rfl⟩
      rw [← e2]
      have h2 : H2 x = some (.ins (cA K "Part") dx (putF "_shown" .non (putF "around" (.int N) []))) := by rw [e2]; exact upd_same
      have b2 : But x H H2 := fun a o n h => by rw [e2, upd_ne n]; exact b1 a o n h
      have t2 : Tups H H2 := by rw [e2]; exact t1.trans (Tups.mut h1 fun _ z => nomatch z)
      intro y hy
      have nyx : y ≠ x := fun z => by rw [z, h2] at hy; cases hy
      have hy0 : H y = none := by rw [e2, upd_ne nyx, e1, upd_ne nyx] at hy; exact hy
      refine ⟨_, rfl, x, _, dx, _, rfl, (by rw [upd_ne nyx.symm]; exact h2), T.c_Part, T.n_Part_turnings, (by show 2 < 1000; decide), ?_⟩
      rw [pf_put]
      obtain ⟨H3, e3⟩ : ∃ H3, H3 = upd (upd H2 y (.dK [])) x (.ins (cA K "Part") dx (pf N y)) := ⟨_, rfl⟩
      rw [← e3]
      have h3 : H3 x = some (.ins (cA K "Part") dx (pf N y)) := by rw [e3]; exact upd_same
      have h3y : H3 y = some (.dK []) := by rw [e3, upd_ne nyx, upd_same]
      have b3 : ∀ a o, a ≠ x → a ≠ y → H a = some o → H3 a = some o := fun a o n m h => by rw [e3, upd_ne n, upd_ne m]; exact b2 a o n h
      have t3 : Tups H H3 := by rw [e3]; exact (t2.trans (Tups.new hy)).trans (Tups.mut (u := .ins (cA K "Part") dx (putF "_shown" .non (putF "around" (.int N) []))) (by rw [upd_ne nyx.symm]; exact h2) fun _ z => nomatch z)
      refine ⟨_, rfl, rfl, _, rfl, iteF ?_⟩
      refine ⟨_, rfl, rfl, _, rfl, iteT ?_⟩
      refine ⟨_, rfl, _, rfl, x, _, dx, _, _, rfl, h3, T.c_Part, T.n_Part_turnings, pf_t _ _, y, _, rfl, DPut.k (k := Sum.inr "squeeze") h3y (Evl.sz_lt (by show 0 < 100000; decide)), ?_⟩
      refine fin _ y _ rfl (fun a o n h => ?_) ?_ upd_same (t3.trans (Tups.mut h3y fun _ z => nomatch z)) hy0
      · rw [upd_ne (ne_of_none h hy0)]
        exact b3 a o n (ne_of_none h hy0) h
      · rw [upd_ne nyx.symm]
        exact h3
    | some pd =>
      obtain ⟨⟨dx', r, xs, g1, g2, g3⟩, TF⟩ := hT ("squeeze", sd) (by simp)
      obtain ⟨⟨dx2, r2, xs2, f1, f2, f3⟩, TF2⟩ := hT ("push", pd) (by simp)
      obtain ⟨ev1, ev2⟩ := hE sd rfl
      refine ⟨_, rfl, rfl, _, rfl, iteF (iteF ?_)⟩
      refine ⟨_, rfl, rfl, _, rfl, iteT ⟨_, rfl, rfl, _, rfl, iteT ⟨_, rfl, sd.t, _, dx', _, _, rfl, g1, T.c_Turning, T.n_Turning_around, tf_a _ _ _, _, rfl, pd.t, _, dx2, _, _, rfl, f1, T.c_Turning, T.n_Turning_around, tf_a _ _ _, rfl, _, rfl, iteNS rfl ?_⟩⟩⟩
      refine ⟨_, rfl, rfl, _, rfl, iteT ⟨_, rfl, sd, N, rfl, ⟨dx', r, xs, g1, g2, g3⟩, TF.per.pos, ev1, ev2, ?_⟩⟩
      refine ⟨_, rfl, rfl, _, rfl, iteF ⟨_, rfl, sd.t, _, dx', _, _, rfl, g1, T.c_Turning, T.n_Turning_around, tf_a _ _ _, _, rfl, x, _, dx, _, rfl, hx, T.c_Part, T.n_Part_around, by decide, ?_⟩⟩
      obtain ⟨H1, e1⟩ : ∃ H1, H1 = upd H x (.ins (cA K "Part") dx (putF "around" (.int N) [])) := ⟨_, rfl⟩
      rw [← e1]
      have h1 : H1 x = some (.ins (cA K "Part") dx (putF "around" (.int N) [])) := by rw [e1]; exact upd_same
      have b1 : But x H H1 := fun a o n h => by rw [e1, upd_ne n]; exact h
      have t1 : Tups H H1 := by rw [e1]; exact Tups.mut hx fun _ z => nomatch z
      refine ⟨_, rfl, rfl, _, rfl, iteT ⟨_, rfl, x, _, dx, _, rfl, h1, T.c_Part, T.n_Part_shown, (by show 1 < 1000; decide), ?_⟩⟩
      obtain ⟨H2, e2⟩ : ∃ H2, H2 = upd H1 x (.ins (cA K "Part") dx (putF "_shown" .non (putF "around" (.int N) []))) := ⟨_, rfl⟩
      rw [← e2]
      have h2 : H2 x = some (.ins (cA K "Part") dx (putF "_shown" .non (putF "around" (.int N) []))) := by rw [e2]; exact upd_same
      have b2 : But x H H2 := fun a o n h => by rw [e2, upd_ne n]; exact b1 a o n h
      have t2 : Tups H H2 := by rw [e2]; exact t1.trans (Tups.mut h1 fun _ z => nomatch z)
      intro y hy
      have nyx : y ≠ x := fun z => by rw [z, h2] at hy; cases hy
      have hy0 : H y = none := by rw [e2, upd_ne nyx, e1, upd_ne nyx] at hy; exact hy
      refine ⟨_, rfl, x, _, dx, _, rfl, (by rw [upd_ne nyx.symm]; exact h2), T.c_Part, T.n_Part_turnings, (by show 2 < 1000; decide), ?_⟩
      rw [pf_put]
      obtain ⟨H3, e3⟩ : ∃ H3, H3 = upd (upd H2 y (.dK [])) x (.ins (cA K "Part") dx (pf N y)) := ⟨_, rfl⟩
      rw [← e3]
      have h3 : H3 x = some (.ins (cA K "Part") dx (pf N y)) := by rw [e3]; exact upd_same
      have h3y : H3 y = some (.dK []) := by rw [e3, upd_ne nyx, upd_same]
      have b3 : ∀ a o, a ≠ x → a ≠ y → H a = some o → H3 a = some o := fun a o n m h => by rw [e3, upd_ne n, upd_ne m]; exact b2 a o n h
      have t3 : Tups H H3 := by rw [e3]; exact (t2.trans (Tups.new hy)).trans (Tups.mut (u := .ins (cA K "Part") dx (putF "_shown" .non (putF "around" (.int N) []))) (by rw [upd_ne nyx.symm]; exact h2) fun _ z => nomatch z)
      refine ⟨_, rfl, rfl, _, rfl, iteT ?_⟩
      refine ⟨_, rfl, _, rfl, x, _, dx, _, _, rfl, h3, T.c_Part, T.n_Part_turnings, pf_t _ _, y, _, rfl, DPut.k (k := Sum.inr "push") h3y (Evl.sz_lt (by show 0 < 100000; decide)), ?_⟩
      refine ⟨_, rfl, rfl, _, rfl, iteT ?_⟩
      refine ⟨_, rfl, _, rfl, x, _, dx, _, _, rfl, (upd_ne nyx.symm).trans h3, T.c_Part, T.n_Part_turnings, pf_t _ _, y, _, rfl, DPut.k (k := Sum.inr "squeeze") upd_same (Evl.sz_lt (by show 1 < 100000; decide)), ?_⟩
      refine fin _ y _ (by kernel_rfl) (fun a o n h => ?_) ?_ upd_same ((t3.trans (Tups.mut h3y fun _ z => nomatch z)).trans (Tups.mut upd_same fun _ z => nomatch z)) hy0
      · rw [upd_ne (ne_of_none h hy0), upd_ne (ne_of_none h hy0)]
        exact b3 a o n (ne_of_none h hy0) h
      · rw [upd_ne nyx.symm, upd_ne nyx.symm]
        exact h3
end
end JD
end Part_JD4
section Part_JD5
set_option Elab.async false
set_option linter.all false
set_option maxRecDepth 100000
set_option maxHeartbeats 4000000
namespace JD
open PySem PySem.Spec PyProof.Rows L2 JR JX JT
open Evl (Ex)
section
variable {P : Program} {w : World} {K : PySem.W.Frag} {mg : Str → Option Value} {base : Heap}
/-- a key of the dict -/
theorem valV_words {D : Words} {x : Str} : valV (kvsOf D) (Sum.inr x) = (D.find? fun q => decide (q.1 = x)).map fun q => V.ref q.2.t := by
  induction D with
  | nil => rfl
  | cons q D ih =>
    by_cases e : q.1 = x
    · rw [List.find?_cons_of_pos (by simpa using e)]
      exact valV_pos (by simp [e])
    · rw [List.find?_cons_of_neg (by simpa using e), ← ih]
      exact valV_neg fun z => e (Sum.inr.inj z)
theorem PartF.nd {N : Int} {D : Words} (h : PartF N D) : (D.map (·.1)).Nodup := by
  rcases h.ws with e | e | e <;> rw [e] <;> decide +kernel
theorem find_mem {D : Words} (nd : (D.map (·.1)).Nodup) {q : Str × TurnD} (h : q ∈ D) : (D.find? fun z => decide (z.1 = q.1)) = some q := by
  induction D with
  | nil => cases h
  | cons a D ih =>
    rw [List.map_cons, List.nodup_cons] at nd
    rcases List.mem_cons.mp h with rfl | h
    · rw [List.find?_cons_of_pos (by simp)]
    · have : ¬ a.1 = q.1 := fun e => nd.1 (by rw [e]; exact List.mem_map_of_mem h)
      rw [List.find?_cons_of_neg (by simpa using this), ih nd.2 h]
theorem valV_mem {D : Words} (nd : (D.map (·.1)).Nodup) {q : Str × TurnD} (h : q ∈ D) : valV (kvsOf D) (Sum.inr q.1) = some (.ref q.2.t) := by
  rw [valV_words, find_mem nd h]
  rfl
theorem PartF.isW {N : Int} {D : Words} (h : PartF N D) {q : Str × TurnD} (hq : q ∈ D) : IsW q.1 := by
  have m : q.1 ∈ D.map (·.1) := List.mem_map_of_mem hq
  rcases h.ws with e | e | e <;> rw [e] at m <;> simp at m
  · exact .inl m
  · exact .inr m
  · exact m
/-- the dict's lookup of a word -/
abbrev okW (D : Words) (i : Nat) : Option Str := ((["push", "squeeze"] : List Str)[i]?).bind fun x => if (valV (kvsOf D) (Sum.inr x)).isSome = true then some x else none
theorem okW_all {N : Int} {D : Words} (h : PartF N D) : (List.range 2).filterMap (okW D) = D.map (·.1) := by
  have hs : ∀ x : Str, (valV (kvsOf D) (Sum.inr x)).isSome = (D.map (·.1)).any fun y => decide (y = x) := fun x => by
    rw [valV_words, Option.isSome_map, List.any_map]
    clear h
    induction D with
    | nil => rfl
    | cons q D ih =>
      rw [List.find?_cons, List.any_cons]
      cases hq : decide (q.1 = x) <;> simp [hq, ih]
  unfold okW
  simp only [hs]
  rcases h.ws with e | e | e <;> rw [e] <;> decide +kernel
def sp_Part_words (K : PySem.W.Frag) : Sp := fun vs H Q _ => ∃ (a : Addr) (N : Int) (D : Words), vs = [.ref a] ∧ PartAt K H a N D ∧ PartF N D ∧
  ∀ H' p, Ex H H' → H' p = some (.lst (D.map fun q => .str q.1)) → Q (.ref p) H'
abbrev N_Part_words : List Str := ["self", "word"]
theorem sc_Part_words : FnScope N_Part_words ["self"] (defScope s_Part_words) := ⟨rfl, rfl, rfl, by decide +kernel, rfl, by decide +kernel, by decide +kernel⟩
theorem ok_Part_words (T : Txt K mg) : DefOk P w K mg base 1 (gA K "Part" "words") ["self"] (sp_Part_words K) := by
  obtain ⟨fd, F⟩ := T.d_Part_words
  refine ⟨fd, F.ok sc_Part_words (fun vs H Q E h => ?_) (fun cdv A outer s H vs Q E hr h => ?_), F.kp, F.bindsN fun _ _ _ _ _ _ us hl => match us, hl with | [_], _ => rfl⟩
  · obtain ⟨a, N, D, rfl, ⟨dx, d, ha, hd, hT⟩, F0, k⟩ := h
    rfl
  have hu := hu_of hr
  have nd := sc_Part_words.nd
  obtain ⟨a, N, D, rfl, ⟨dx, d, ha, hd, hT⟩, F0, k⟩ := h
  refine ⟨_, PSs.nox (pss_one (ps_ret (pe_lc (own := [("word", 1)]) (g := (gName 1))  rfl nd (pi_tup (pe_glob (v := .ref (cA K "WORDS")) rfl T.g_WORDS rfl)) (blkOk_by (N := N_Part_words) (sc := defScope s_Part_words) (by decide +kernel)) (fun _ _ _ _ _ => (pg_name (i := 1) nd rfl (by first | exact Or.inl rfl | exact Or.inr rfl))) (fun _ _ _ _ _ => (pts_one (pt_cmp (pc_din hu (pv 1) (pe_fldK K (pv 0) rfl))))) (fun _ _ _ _ _ => (pv 1))))), ?_⟩
  refine ⟨_, rfl, ⟨_, T.t_WORDS H⟩, fun L hL => ?_⟩
  refine lc_ls (enc := PyData.str) relEx walk_tup (okW D) hL True.intro (Evl.sz_lt (by show 2 < 100000; decide)) (fun H2 e2 _ => T.t_WORDS H2) ?_ ?_
  · rintro i x F F' hi e2 t2 ⟨rfl, hx⟩ Go Sk go sk
    obtain ⟨z, rfl, hz⟩ : ∃ z : Str, x = .str z ∧ (["push", "squeeze"] : List Str)[i]? = some z := by
      match i, hi with
      | 0, _ => cases hx; exact ⟨_, rfl, rfl⟩
      | 1, _ => cases hx; exact ⟨_, rfl, rfl⟩
    refine ⟨rfl, _, rfl, _, rfl, a, _, dx, _, _, rfl, e2 _ _ ha, T.c_Part, T.n_Part_turnings, pf_t _ _, d, _, rfl, DGet.k (k := Sum.inr z) (e2 _ _ hd), _, rfl, ?_⟩
    cases q : (valV (kvsOf D) (Sum.inr z)).isSome with
    | true => exact iteT ⟨_, rfl, go z _ _ (by show ((["push", "squeeze"] : List Str)[i]?).bind _ = _; rw [hz]; exact if_pos q) (Ex.refl _) (Tups.refl _) rfl⟩
    | false => exact iteF (sk _ (by show ((["push", "squeeze"] : List Str)[i]?).bind _ = _; rw [hz]; exact if_neg (by rw [q]; exact Bool.false_ne_true)) (Ex.refl _) (Tups.refl _))
  · intro F ys e2 t2 hD2 hy
    have e := Ls.strs_eq hy
    rw [show ([V.str "push", V.str "squeeze"] : List V).length = 2 from rfl, okW_all F0, List.map_map] at e
    exact k _ L e2 (by rw [hD2, e]; rfl)
def sp_Part_getitem (K : PySem.W.Frag) : Sp := fun vs H Q _ => ∃ (a : Addr) (N : Int) (D : Words) (q : Str × TurnD), vs = [.ref a, .str q.1] ∧ PartAt K H a N D ∧ PartF N D ∧ q ∈ D ∧ Q (.ref q.2.t) H
abbrev N_Part_getitem : List Str := ["self", "at"]
theorem sc_Part_getitem : FnScope N_Part_getitem ["self", "at"] (defScope s_Part_getitem) := ⟨rfl, rfl, rfl, by decide +kernel, rfl, by decide +kernel, by decide +kernel⟩
theorem ok_Part_getitem (T : Txt K mg) : DefOk P w K mg base 2 (mA K "Part" "__getitem__") ["self", "at"] (sp_Part_getitem K) := by
  obtain ⟨fd, F⟩ := T.d_Part_getitem
  obtain ⟨fd_is_word, G_is_word, kp_is_word, b_is_word⟩ := ok_is_word (P := P) (w := w) (base := base) T
  refine ⟨fd, F.ok sc_Part_getitem (fun vs H Q E h => ?_) (fun cdv A outer s H vs Q E hr h => ?_), F.kp, F.bindsN fun _ _ _ _ _ _ us hl => match us, hl with | [_, _], _ => rfl⟩
  · obtain ⟨a, N, D, q, rfl, ⟨dx, d, ha, hd, hT⟩, F0, hq, k⟩ := h
    rfl
  have hu := hu_of hr
  have nd := sc_Part_getitem.nd
  obtain ⟨a, N, D, q, rfl, ⟨dx, d, ha, hd, hT⟩, F0, hq, k⟩ := h
  refine ⟨_, PSs.nox (pss_cons (ps_if (PW.pt (pw_or (pt_not (pt_val (pe_call G_is_word (hr.mono (by decide)) rfl T.g_is_word kp_is_word b_is_word .nil pass0 (pa_cons (pv 1) pa_nil)))) (pw_or1 (pt_cmp (pc_dnotin hu (pv 1) (pe_fldK K (pv 0) rfl)))))) pss_never pss_nil)
  (pss_one (ps_ret (pe_dget hu (pe_fldK K (pv 0) rfl) (pv 1) (fun _ _ => rfl))))), ?_⟩
  have v := valV_mem F0.nd hq
  refine ⟨_, rfl, q.1, rfl, F0.isW hq, true, rfl, iteF ⟨_, rfl, _, rfl, a, _, dx, _, _, rfl, ha, T.c_Part, T.n_Part_turnings, pf_t _ _, d, _, rfl, DGet.k (k := Sum.inr q.1) hd, _, rfl, ?_⟩⟩
  rw [v]
  refine iteF ⟨_, rfl, a, _, dx, _, _, rfl, ha, T.c_Part, T.n_Part_turnings, pf_t _ _, _, rfl, d, _, rfl, ?_, k⟩
  rw [← v]
  exact DGet.k (k := Sum.inr q.1) hd
def sp_Part_period (K : PySem.W.Frag) : Sp := fun vs H Q _ => ∃ (a : Addr) (N : Int) (D : Words), vs = [.ref a] ∧ PartAt K H a N D ∧ PartF N D ∧
  ∀ H' s, Ex H H' → IsSpan N (D.map (·.2.rows)) s → Q (.int s) H'
theorem TurnAt.keep {H H' : Hp} {t : Addr} {N p : Int} {rows : List JT.Row} (h : TurnAt K H t N rows p) (e : Ex H H') : TurnAt K H' t N rows p := by
  obtain ⟨dx, r, xs, h1, h2, h3⟩ := h
  exact ⟨dx, r, xs, e _ _ h1, e _ _ h2, h3.keep (Tups.of e)⟩
abbrev N_Part_period : List Str := ["self", "many", "turning"]
theorem sc_Part_period : FnScope N_Part_period ["self"] (defScope s_Part_period) := ⟨rfl, rfl, rfl, by decide +kernel, rfl, by decide +kernel, by decide +kernel⟩
theorem ok_Part_period (T : Txt K mg) : DefOk P w K mg base 3 (gA K "Part" "period") ["self"] (sp_Part_period K) := by
  obtain ⟨fd, F⟩ := T.d_Part_period
  obtain ⟨fd_Turning_period, G_Turning_period, kp_Turning_period, b_Turning_period⟩ := ok_Turning_period (P := P) (w := w) (base := base) T
  refine ⟨fd, F.ok sc_Part_period (fun vs H Q E h => ?_) (fun cdv A outer s H vs Q E hr h => ?_), F.kp, F.bindsN fun _ _ _ _ _ _ us hl => match us, hl with | [_], _ => rfl⟩
  · obtain ⟨a, N, D, rfl, ⟨dx, d, ha, hd, hT⟩, F0, k⟩ := h
    rfl
  have hu := hu_of hr
  have nd := sc_Part_period.nd
  obtain ⟨a, N, D, rfl, ⟨dx, d, ha, hd, hT⟩, F0, k⟩ := h
  refine ⟨_, PSs.nox (pss_cons (ps_set (i := 1) nd rfl (by first | exact Or.inl rfl | exact Or.inr rfl) pe_int)
  (pss_cons (ps_lock (ps_for PassesOwn.never rfl (pi_values (pe_fldK K (pv 0) rfl)) (pg_name (i := 2) nd rfl (by first | exact Or.inl rfl | exact Or.inr rfl)) (pss_one (ps_set (i := 1) nd rfl (by first | exact Or.inl rfl | exact Or.inr rfl) (pe_callBfun cr_lcm rfl T.g_lcm (pa_cons (pv 1) (pa_cons (pe_prop (pv 2) T.c_Turning T.p_Turning_period G_Turning_period (hr.mono (by decide)) b_Turning_period .nil pass0 rfl) pa_nil)))))))
  (pss_one (ps_ret (pv 1))))), ?_⟩
  refine ⟨d, _, hd, by exact True.intro, fun od => ?_⟩
  obtain ⟨G, eG⟩ : ∃ G, G = upd H d (.frz od (.dK (kvsOf D))) := ⟨_, rfl⟩
  rw [← eG]
  have hGd : G d = some (.frz od (.dK (kvsOf D))) := by rw [eG]; exact upd_same
  have keep : ∀ b o, H b = some o → o ≠ .dK (kvsOf D) → G b = some o := fun b o h n => by
    rw [eG, upd_ne (ne_of h hd n)]
    exact h
  have tG : Tups H G := fun b o h => keep b _ h fun z => nomatch z
  refine ⟨_, rfl, a, _, dx, _, _, rfl, keep _ _ ha (fun z => nomatch z), T.c_Part, T.n_Part_turnings, pf_t _ _, d, od, _, rfl, hGd, ?_⟩
  refine for_it walk_values (fun i σ H' => Ex G H' ∧ ∃ m x2, σ = [some (.ref a), some (.int m), x2] ∧ IsSpan N ((D.take i).map (·.2.rows)) m) ⟨Ex.refl G, 1, none, rfl, isSpan_nil N⟩ (fun i σ H' _ ⟨e, _⟩ => e _ _ hGd) ?_ ?_
  · rintro i x σ H1 H' hi ⟨e, m, x2, rfl, S⟩ ⟨rfl, kk, hk⟩
    have hi' : i < D.length := by simpa using hi
    obtain ⟨q, hq⟩ : ∃ q, D[i]? = some q := ⟨_, List.getElem?_eq_getElem hi'⟩
    rw [List.getElem?_map, hq] at hk
    have hx : x = .ref q.2.t := by
      have := Option.some.inj hk
      rw [Prod.mk.injEq] at this
      exact this.2.symm
    subst hx
    have mq := List.mem_of_getElem? hq
    obtain ⟨dx', r, xs, g1, g2, g3⟩ := hT q mq
    have tq := F0.tf q mq
    have lo := F0.lo
    have hi2 := F0.hi
    have hm := S.le (by omega)
    have hm0 := S.pos
    have hp := tq.per.le
    have g1' := e _ _ (keep _ _ g1 fun z => nomatch z)
    refine ⟨_, rfl, _, rfl, q.2.t, dx', _, rfl, g1', q.2.t, N, q.2.p, q.2.rows, rfl, ⟨dx', r, xs, g1', e _ _ (tG _ _ g2), (g3.keep tG).keep (Tups.of e)⟩, m, q.2.p, rfl, ⟨hm0, by omega⟩, ⟨tq.per.pos, by omega⟩, e, _, some (.ref q.2.t), rfl, ?_⟩
    have tk : D.take (i + 1) = D.take i ++ [q] := by rw [List.take_add_one, hq]; rfl
    rw [tk, List.map_append]
    exact S.cons tq.rows tq.per
  · rintro σ H1 ⟨e, m, x2, rfl, S⟩
    have lk : (kvsOf D).length = D.length := by simp
    rw [lk, List.take_length] at S
    refine ⟨e _ _ hGd, _, rfl, k _ _ (fun b o h => ?_) S⟩
    by_cases hb : b = d
    · subst hb
      rw [hd] at h
      rw [upd_same]
      exact h
    · rw [upd_ne hb]
      refine e _ _ ?_
      rw [eG, upd_ne hb]
      exact h
theorem PartAt.keep {H H' : Hp} {a : Addr} {N : Int} {D : Words} (h : PartAt K H a N D) (e : Ex H H') : PartAt K H' a N D := by
  obtain ⟨dx, d, h1, h2, h3⟩ := h
  exact ⟨dx, d, e _ _ h1, e _ _ h2, fun q hq => (h3 q hq).keep e⟩
def sp_Part_rests (K : PySem.W.Frag) : Sp := fun vs H Q _ => ∃ (a : Addr) (N s : Int) (D : Words) (q : Str × TurnD), vs = [.ref a, .str q.1] ∧ PartAt K H a N D ∧ PartF N D ∧ q ∈ D ∧ IsSpan N (D.map (·.2.rows)) s ∧
  ∀ H' p (l : List Int), Ex H H' → H' p = some (.lst ((l.filter fun r => decide (r < s)).map .int)) → l.Perm (q.2.rows.map (·.2)) → l.Pairwise (· ≤ ·) → Q (.ref p) H'
theorem IsSpan.eq {N : Int} {F : List (List JT.Row)} {s t : Int} (h : IsSpan N F s) (g : IsSpan N F t) : s = t := by
  have h1 := (g.iff s).mp ((h.iff s).mpr Int.emod_self)
  have h2 := (h.iff t).mp ((g.iff t).mpr Int.emod_self)
  have p1 := h.pos
  have p2 := g.pos
  have a1 := Int.le_of_dvd p1 (Int.dvd_of_emod_eq_zero h1)
  have a2 := Int.le_of_dvd p2 (Int.dvd_of_emod_eq_zero h2)
  omega
theorem fm_filter {α : Type} {l : List α} {p : α → Prop} [DecidablePred p] : (List.range l.length).filterMap (fun i => (l[i]?).bind fun r => if p r then some r else none) = l.filter fun r => decide (p r) := by
  rw [show (List.range l.length).filterMap (fun i : Nat => (l[i]?).bind fun r => if p r then some r else none) = ((List.range l.length).filterMap fun i : Nat => l[i]?).filterMap fun r => if p r then some r else none from (List.filterMap_filterMap ..).symm, fm_all rfl, ← List.filterMap_eq_filter]
  congr 1
  funext r
  by_cases h : p r <;> simp [h, Option.guard]
abbrev N_Part_rests : List Str := ["self", "word", "rest"]
theorem sc_Part_rests : FnScope N_Part_rests ["self", "word"] (defScope s_Part_rests) := ⟨rfl, rfl, rfl, by decide +kernel, rfl, by decide +kernel, by decide +kernel⟩
theorem ok_Part_rests (T : Txt K mg) : DefOk P w K mg base 5 (mA K "Part" "rests") ["self", "word"] (sp_Part_rests K) := by
  obtain ⟨fd, F⟩ := T.d_Part_rests
  obtain ⟨fd_Part_period, G_Part_period, kp_Part_period, b_Part_period⟩ := ok_Part_period (P := P) (w := w) (base := base) T
  obtain ⟨fd_Part_getitem, G_Part_getitem, kp_Part_getitem, b_Part_getitem⟩ := ok_Part_getitem (P := P) (w := w) (base := base) T
  obtain ⟨fd_Turning_rests, G_Turning_rests, kp_Turning_rests, b_Turning_rests⟩ := ok_Turning_rests (P := P) (w := w) (base := base) T
  refine ⟨fd, F.ok sc_Part_rests (fun vs H Q E h => ?_) (fun cdv A outer s H vs Q E hr h => ?_), F.kp, F.bindsN fun _ _ _ _ _ _ us hl => match us, hl with | [_, _], _ => rfl⟩
  · obtain ⟨a, N, s, D, q, rfl, hA, F0, hq, S, k⟩ := h
    rfl
  have hu := hu_of hr
  have nd := sc_Part_rests.nd
  obtain ⟨a, N, s, D, q, rfl, hA, F0, hq, S, k⟩ := h
  refine ⟨_, PSs.nox (pss_one (ps_ret (pe_lc (own := [("rest", 2)]) (g := (gName 2))  rfl nd (pi_list (pe_meth0 (pe_ownix (pv 0) (pv 1) T.c_Part T.m_Part_getitem T.f_getitem G_Part_getitem (hr.mono (by decide)) b_Part_getitem) T.c_Turning T.m_Turning_rests G_Turning_rests (hr.mono (by decide)) b_Turning_rests .nil pass0)) (blkOk_by (N := N_Part_rests) (sc := defScope s_Part_rests) (by decide +kernel)) (fun _ _ _ _ _ => (pg_name (i := 2) nd rfl (by first | exact Or.inl rfl | exact Or.inr rfl))) (fun _ _ _ _ _ => (pts_one (pt_cmpR op_lt (pv 2) (pe_prop (pv 0) T.c_Part T.p_Part_period G_Part_period (hr.mono (by decide)) b_Part_period .nil pass0 rfl) (nomark _)))) (fun _ _ _ _ _ => (pv 2))))), ?_⟩
  obtain ⟨dx, d, ha, hd, hT⟩ := id hA
  have tq := F0.tf q hq
  have Tq := hT q hq
  obtain ⟨dx', r, xs, g1, g2, g3⟩ := id Tq
  refine ⟨_, rfl, _, rfl, a, dx, _, rfl, ha, ⟨a, N, D, q, rfl, hA, F0, hq, q.2.t, dx', _, rfl, g1, by kernel_rfl, q.2.t, N, q.2.p, q.2.rows, rfl, Tq, tq.len, fun H1 p l e1 hp pm so => ?_⟩⟩
  refine ⟨p, rfl, ⟨_, SqL.of hp⟩, fun L hL => ?_⟩
  refine lc_ls (enc := PyData.int) relEx walk_list (fun i => (l[i]?).bind fun r => if r < s then some r else none) hL True.intro (Evl.sz_lt (by have := pm.length_eq; have := tq.len; simp at *; omega)) (fun H2 e2 _ => SqL.of (e2 _ _ hp)) ?_ ?_
  · rintro i x F F' hi e2 t2 ⟨rfl, hx⟩ Go Sk go sk
    rw [List.getElem?_map] at hx
    obtain ⟨z, hz, rfl⟩ := Option.map_eq_some_iff.mp hx
    have eF := e1.trans e2
    refine ⟨rfl, _, rfl, _, rfl, a, dx, _, rfl, eF _ _ ha, a, N, D, rfl, hA.keep eF, F0, fun F2 s2 e3 S2 => ?_⟩
    cases IsSpan.eq S S2
    refine ⟨_, _, rfl, rfl, _, rfl, ?_⟩
    by_cases c : z < s
    · rw [decide_eq_true c]
      exact iteT ⟨_, rfl, go z _ _ (by rw [hz]; exact if_pos c) e3 (Tups.of e3) rfl⟩
    · rw [decide_eq_false c]
      exact iteF (sk _ (by rw [hz]; exact if_neg c) e3 (Tups.of e3))
  · intro F ys e2 t2 hD2 hy
    refine k _ L l (e1.trans e2) ?_ pm so
    rw [hD2, Ls.ints_eq hy, List.length_map, fm_filter]
/-! ### Plan -/
abbrev Deed := Str × Int
def encDeed (d : Deed) : PyData := .tuple [.str d.1, .int d.2]
theorem deed_get {H : Hp} {v : V} {p : Deed} (h : Im H v (encDeed p)) : ∃ a, v = .ref a ∧ H a = some (.tup [.str p.1, .int p.2]) := by
  obtain ⟨a, xs, rfl, ha, h2⟩ := h
  obtain ⟨x, r, rfl, rfl, y, r2, rfl, rfl, rfl⟩ := h2
  exact ⟨a, rfl, ha⟩
theorem deed_mk {H : Hp} {a : Addr} {x : Str} {i : Int} (h : H a = some (.tup [.str x, .int i])) : Im H (.ref a) (encDeed (x, i)) := ⟨a, _, rfl, h, _, _, rfl, rfl, _, _, rfl, rfl, rfl⟩
def sp_is_deed : Sp := fun vs H Q _ => ∃ (a : Addr) (x : Str) (i : Int), vs = [.ref a] ∧ H a = some (.tup [.str x, .int i]) ∧ IsW x ∧ Q (.bl true) H
abbrev N_is_deed : List Str := ["thing"]
theorem sc_is_deed : FnScope N_is_deed ["thing"] (defScope s_is_deed) := ⟨rfl, rfl, rfl, by decide +kernel, rfl, by decide +kernel, by decide +kernel⟩
theorem ok_is_deed (T : Txt K mg) : DefOk P w K mg base 2 (He.ga K "is_deed") ["thing"] sp_is_deed := by
  obtain ⟨fd, F⟩ := T.d_is_deed
  obtain ⟨fd_is_integer, G_is_integer, kp_is_integer, b_is_integer⟩ := ok_is_integer (P := P) (w := w) (base := base) T
  obtain ⟨fd_is_word, G_is_word, kp_is_word, b_is_word⟩ := ok_is_word (P := P) (w := w) (base := base) T
  refine ⟨fd, F.ok sc_is_deed (fun vs H Q E h => ?_) (fun cdv A outer s H vs Q E hr h => ?_), F.kp, F.bindsN fun _ _ _ _ _ _ us hl => match us, hl with | [_], _ => rfl⟩
  · obtain ⟨a, x, i, rfl, ha, hx, k⟩ := h
    rfl
  have hu := hu_of hr
  have nd := sc_is_deed.nd
  obtain ⟨a, x, i, rfl, ha, hx, k⟩ := h
  refine ⟨_, PSs.nox (pss_one (ps_ret (pe_and (pe_callB call_isi (by rfl) T.b_isinstance rfl (pa_cons (pv 0) (pa_cons (pe_bltn (v := .ty "tuple") rfl T.b_tuple rfl rfl) pa_nil))) (pe_and (pe_cmpR op_eq (pe_callB call_len_seq (by rfl) T.b_len rfl (pa_cons (pv 0) pa_nil)) pe_int (nomark _)) (pe_and (pe_call G_is_word (hr.mono (by decide)) rfl T.g_is_word kp_is_word b_is_word .nil pass0 (pa_cons (pe_ix (ix_tupK K) (pv 0) pe_int (fun _ _ => rfl)) pa_nil)) (pe_one (pe_call G_is_integer (hr.mono (by decide)) rfl T.g_is_integer kp_is_integer b_is_integer .nil pass0 (pa_cons (pe_ix (ix_tupK K) (pv 0) pe_int (fun _ _ => rfl)) pa_nil)))))))), ?_⟩
  have hT : SqT K H a [.str x, .int i] := SqT.of ha
  refine ⟨_, rfl, .ref a, .ty "tuple", _, _, true, rfl, .ty _, .base (.tup ha), kit_ty (by decide +kernel), true, rfl, iteT ?_⟩
  refine ⟨_, rfl, a, _, rfl, .inr hT, rfl, _, rfl, iteT ?_⟩
  refine ⟨_, rfl, a, _, _, _, rfl, rfl, hT, atI_nat rfl, x, rfl, hx, true, rfl, iteT ?_⟩
  exact ⟨_, rfl, a, _, _, _, rfl, rfl, hT, atI_nat rfl, i, rfl, k⟩
abbrev plf (N : Int) (q : Addr) : List (Str × V) := [("around", .int N), ("deeds", .ref q)]
theorem plf_put (N : Int) (q : Addr) : putF "deeds" (.ref q) (putF "around" (.int N) []) = plf N q := by kernel_rfl
theorem plf_a (N : Int) (q : Addr) : (plf N q).lookup ("around" : Str) = some (.int N) := by kernel_rfl
theorem plf_d (N : Int) (q : Addr) : (plf N q).lookup ("deeds" : Str) = some (.ref q) := by kernel_rfl
def PlanAt (K : PySem.W.Frag) (H : Hp) (x : Addr) (N : Int) (ds : List Deed) : Prop := ∃ dx q ys, H x = some (.ins (cA K "Plan") dx (plf N q)) ∧ H q = some (.tup ys) ∧ Ls H encDeed ys ds
def sp_Plan_init (K : PySem.W.Frag) : Sp := fun vs H Q _ => ∃ (x dx r : Addr) (N : Int) (xs : List V) (ds : List Deed), vs = [.ref x, .int N, .ref r] ∧ H x = some (.ins (cA K "Plan") dx []) ∧ H r = some (.lst xs) ∧ Ls H encDeed xs ds ∧ (∀ d ∈ ds, IsW d.1) ∧ ds.length ≤ 400 ∧ 2 ≤ N ∧ N ≤ 360 ∧
  ∀ H', But x H H' → PlanAt K H' x N (ds.map fun d => (d.1, d.2 % N)) → Q .non H'
abbrev N_Plan_init : List Str := ["self", "around", "deeds", "at", "deed", "word", "turn"]
theorem sc_Plan_init : FnScope N_Plan_init ["self", "around", "deeds"] (defScope s_Plan_init) := ⟨rfl, rfl, rfl, by decide +kernel, rfl, by decide +kernel, by decide +kernel⟩
theorem ok_Plan_init (T : Txt K mg) : DefOk P w K mg base 3 (mA K "Plan" "__init__") ["self", "around", "deeds"] (sp_Plan_init K) := by
  obtain ⟨fd, F⟩ := T.d_Plan_init
  obtain ⟨fd_check_round, G_check_round, kp_check_round, b_check_round⟩ := ok_check_round (P := P) (w := w) (base := base) T
  obtain ⟨fd_is_row, G_is_row, kp_is_row, b_is_row⟩ := ok_is_row (P := P) (w := w) (base := base) T
  obtain ⟨fd_is_deed, G_is_deed, kp_is_deed, b_is_deed⟩ := ok_is_deed (P := P) (w := w) (base := base) T
  refine ⟨fd, F.ok sc_Plan_init (fun vs H Q E h => ?_) (fun cdv A outer s H vs Q E hr h => ?_), F.kp, F.bindsN fun _ _ _ _ _ _ us hl => match us, hl with | [_, _, _], _ => rfl⟩
  · obtain ⟨x, dx, r, N, xs, ds, rfl, hx, h0, hl, hw, hz, n2, n3, k⟩ := h
    rfl
  have hu := hu_of hr
  have nd := sc_Plan_init.nd
  obtain ⟨x, dx, r, N, xs, ds, rfl, hx, h0, hl, hw, hz, n2, n3, k⟩ := h
  refine ⟨_, PSs.nox (pss_cons (ps_expr (pe_call G_check_round (hr.mono (by decide)) rfl T.g_check_round kp_check_round b_check_round .nil pass0 (pa_cons (pv 1) pa_nil)))
  (pss_cons (ps_if (PW.pt (pw_or (pt_not (pt_val (pe_call G_is_row (hr.mono (by decide)) rfl T.g_is_row kp_is_row b_is_row .nil pass0 (pa_cons (pv 2) pa_nil)))) (pw_or1 (pt_cmpR op_gt (pe_callB call_len_seq (by rfl) T.b_len rfl (pa_cons (pv 2) pa_nil)) (pe_glob (v := .int 400) rfl T.i_MOST_DEEDS_plans.choose_spec ⟨_, rfl⟩) (nomark _))))) pss_never pss_nil)
  (pss_cons (ps_for PassesOwn.never rfl (pi_enum (by rfl) T.b_enumerate (pa_cons (pv 2) pa_nil)) (pg_tup rfl (pgs_cons (pg_name (i := 3) nd rfl (by first | exact Or.inl rfl | exact Or.inr rfl)) (pgs_cons (pg_name (i := 4) nd rfl (by first | exact Or.inl rfl | exact Or.inr rfl)) pgs_nil))) (pss_one (ps_if (pt_not (pt_val (pe_call G_is_deed (hr.mono (by decide)) rfl T.g_is_deed kp_is_deed b_is_deed .nil pass0 (pa_cons (pv 4) pa_nil)))) pss_never pss_nil)))
  (pss_cons (ps_fld (pv 0) (pv 1) rfl)
  (pss_one (ps_fld (pv 0) (pe_callTy call_tuple_of (by rfl) T.b_tuple rfl (pa_cons (pe_lc (own := [("word", 5), ("turn", 6)]) (g := (gTup K 2 (gCons (gName 5) (gCons (gName 6) gNil)))) (tt := tYes) rfl nd (pi_list (pv 2)) (blkOk_by (N := N_Plan_init) (sc := defScope s_Plan_init) (by decide +kernel)) (fun _ _ _ _ _ => (pg_tup rfl (pgs_cons (pg_name (i := 5) nd rfl (by first | exact Or.inl rfl | exact Or.inr rfl)) (pgs_cons (pg_name (i := 6) nd rfl (by first | exact Or.inl rfl | exact Or.inr rfl)) pgs_nil)))) (fun _ _ _ _ _ => pts_nil) (fun _ _ _ _ _ => (pe_tup (pa_cons (pv 5) (pa_cons (pe_op op_mod (pv 6) (pv 1)) pa_nil))))) pa_nil)) rfl)))))), ?_⟩
  have lx := hl.len
  have nrx : r ≠ x := ne_of h0 hx (fun z => nomatch z)
  refine ⟨_, rfl, N, rfl, ⟨n2, n3⟩, _, rfl, r, rfl, .inl ⟨_, h0⟩, fun H1 e1 => ⟨true, rfl, iteF ⟨_, rfl, r, xs, rfl, .inl (SqL.of (e1 _ _ h0)), _, _, rfl, rfl, _, rfl, ?_⟩⟩⟩
  rw [decide_eq_false (by omega)]
  refine iteF ⟨_, rfl, r, xs, rfl, SqL.of (e1 _ _ h0), ?_⟩
  refine for_it walk_enum (fun i σ H' => Ex H H' ∧ ∃ x3 x4, σ = [some (.ref x), some (.int N), some (.ref r), x3, x4, none, none]) ⟨e1, none, none, rfl⟩ (fun i σ H' _ ⟨e, _⟩ => SqL.of (e _ _ h0)) ?_ ?_
  · rintro i v σ H' H'' hi ⟨e, x3, x4, rfl⟩ ⟨T, v, y, rfl, hT, rfl, ex, ey⟩
    cases ex
    obtain ⟨p, hp, ip⟩ := (hl.keep (Tups.of e)).get ey
    obtain ⟨a, rfl, ha⟩ := deed_get ip
    have e2 : Ex H' (upd H' T (.tup [.int (i : Nat), .ref a])) := ex_new hT
    exact ⟨T, _, rfl, SqT.of upd_same, rfl, _, _, rfl, _, _, rfl, rfl, _, rfl, a, p.1, p.2, rfl, e2 _ _ ha, hw p (List.mem_of_getElem? hp), true, rfl, iteF ⟨e.trans e2, _, _, rfl⟩⟩
  · rintro σ H2 ⟨e2, x3, x4, rfl⟩
    refine ⟨_, rfl, _, rfl, x, _, dx, _, rfl, e2 _ _ hx, T.c_Plan, T.n_Plan_around, by decide, ?_⟩
    obtain ⟨H3, e3⟩ : ∃ H3, H3 = upd H2 x (.ins (cA K "Plan") dx (putF "around" (.int N) [])) := ⟨_, rfl⟩
    rw [← e3]
    have h3 : H3 x = some (.ins (cA K "Plan") dx (putF "around" (.int N) [])) := by rw [e3]; exact upd_same
    have b3 : But x H H3 := fun a o n h => by rw [e3, upd_ne n]; exact e2 _ _ h
    have t3 : Tups H H3 := by rw [e3]; exact (Tups.of e2).trans (Tups.mut (e2 _ _ hx) fun _ z => nomatch z)
    have r3 := b3 _ _ nrx h0
    have l3 := hl.keep t3
    refine ⟨_, rfl, r, rfl, ⟨_, SqL.of r3⟩, fun L hL => ?_⟩
    refine lc_ls (enc := encDeed) relEx walk_list (fun i => (ds[i]?).map fun d => (d.1, d.2 % N)) hL True.intro (Evl.sz_lt (by omega)) (fun H2 e2 _ => SqL.of (e2 _ _ r3)) ?_ ?_
    · rintro i v F F' hi e4 t4 ⟨rfl, hv⟩ Go Sk go sk
      obtain ⟨p, hp, ip⟩ := (l3.keep t4).get hv
      obtain ⟨a, rfl, ha⟩ := deed_get ip
      refine ⟨a, _, rfl, SqT.of ha, rfl, _, _, rfl, _, _, rfl, rfl, rfl, yes_go ⟨_, rfl, _, rfl, _, rfl, _, _, rfl, rfl, (by show 0 < N; omega), (by show 2 ≤ sizeLine; decide), fun T hT => ?_⟩⟩
      exact go (p.1, p.2 % N) _ _ (by rw [hp]; rfl) (ex_new hT) (Tups.new hT) (deed_mk upd_same)
    · intro F ys e4 t4 hL2 hy
      rw [fm_map _ lx] at hy
      refine ⟨L, ys, rfl, .inl ⟨SqL.of hL2, fun q hq => ?_⟩⟩
      have e5 : Ex H3 (upd F q (.tup ys)) := e4.trans (ex_new hq)
      have nqx : q ≠ x := fun z => by rw [z, e4 _ _ h3] at hq; cases hq
      have t6 : Tups (upd F q (.tup ys)) (upd (upd F q (.tup ys)) x (.ins (cA K "Plan") dx (plf N q))) := Tups.mut (e5 _ _ h3) fun _ z => nomatch z
      refine ⟨_, rfl, x, _, dx, _, rfl, e5 _ _ h3, T.c_Plan, T.n_Plan_deeds, (by show 1 < 1000; decide), ?_⟩
      rw [plf_put]
      refine k _ (fun a o n h => by rw [upd_ne n]; exact e5 _ _ (b3 a o n h)) ⟨dx, q, ys, upd_same, by rw [upd_ne nqx]; exact upd_same, (hy.keep (Tups.new hq)).keep t6⟩
end
end JD
end Part_JD5
section Part_JRules5
set_option Elab.async false
set_option linter.all false
set_option maxRecDepth 100000
set_option maxHeartbeats 4000000
/-! Dict comprehensions whose keys are tuples, given to a name. -/
namespace JR
open PySem PySem.Spec PyProof.Rows L2
section
variable {X : Cx}
theorem dcT_core {pins : List (Addr × Obj)} {s : Shared} {σ : L2.St} {H : Hp} {Q : VK} {kx vx tg iter : Expr} {ifs : List Expr} {scope : Scope} {own : List (Str × Nat)} {pos pos' : Pos} {wi : TI} {g : TG} {tt : TT} {tk tv : TE} {use : Option (Value → Sem Unit)} {Qf : Value → Shared → Prop} (I : Inv X pins σ H s) (hu : X.A.units < cLine) (hc : X.calm = true) (hN : X.N.Nodup) (hi : PI X tg iter wi) (ok : BlkOk X.N X.env.scope scope own)
    (hg : ∀ (s : Shared) (H : Hp) (C : Addr) (cl : List (Str × Addr)) (fp : List Addr), PG (X.blk s H scope (compEnvC scope cl C X.env) fp) tg g) (ht : ∀ (s : Shared) (H : Hp) (C : Addr) (cl : List (Str × Addr)) (fp : List Addr), PTs (X.blk s H scope (compEnvC scope cl C X.env) fp) ifs tt)
    (hk : ∀ (s : Shared) (H : Hp) (C : Addr) (cl : List (Str × Addr)) (fp : List Addr), PE (X.blk s H scope (compEnvC scope cl C X.env) fp) kx tk)
    (he : ∀ (s : Shared) (H : Hp) (C : Addr) (cl : List (Str × Addr)) (fp : List Addr), PE (X.blk s H scope (compEnvC scope cl C X.env) fp) vx tv) (hs : ∀ x, foldedSetIterable iter X.env x = pure x) (h : tDcT wi g tt tk tv (own.map (·.2)) σ H Q)
    (hRR : ∀ D C s' m H', Inv X pins σ H' s' → Q (.ref D) H' → s'.heap.Ns C m → FpOk X pins H' C → compPost (model X.prog X.w) X.A X.xe use Qf (.ref D) C (.ok .next) s') :
    wpAny (model X.prog X.w) X.A (comprehension (.DictComp kx vx [⟨tg, iter, ifs, 0⟩] scope pos) scope X.env pos' newDict false (eval iter X.env) use) Qf X.xe s := by
  have free : ∀ y ∈ scope.names, y.2 = .free → ∃ c, X.env.cells.lookup y.1 = some c := fun y hy e => (ok.free y hy e).elim (fun k => I.ok.has _ (.inl k)) fun k => I.ok.has _ (.inr k)
  refine wpAny_comprehension_free (use := use) rfl hs (closure_ok free) ok.kind (fun y hy e => by rw [ok.uniq y hy, e]) (thn (hi.run pins s σ H _ I h) fun xv s1 hx => thn hx fun itv s2 h2 => ?_)
  obtain ⟨it, fp, tn, J, H2, rfl, I2, T, st2, f2, q⟩ := h2
  refine wpAny_newObj_type (newEnv_comp ?_)
  -- the new dict at D
  obtain ⟨D, hD⟩ : ∃ D, D = s2.heap.objs.size := ⟨_, rfl⟩
  rw [← hD]
  have hDn : H2 D = none := I2.hok.fresh (by rw [hD]; exact Nat.le_refl _)
  obtain ⟨W, ⟨m0, w0⟩, turn⟩ := q D hDn
  obtain ⟨s3, e3⟩ : ∃ s3 : Shared, s3 = { s2 with heap := s2.heap.push { cls := .type "dict", data := .dict #[] } } := ⟨_, rfl⟩
  have h3 : s3.heap = s2.heap.push { cls := .type "dict", data := .dict #[] } := by rw [e3]
  obtain ⟨H3, eH3⟩ : ∃ H3, H3 = upd H2 D (.dT []) := ⟨_, rfl⟩
  rw [← eH3] at w0
  have I3 : Inv X pins σ H3 s3 := by
    rw [e3, eH3]
    exact I2.laid (t' := s2.toks) (fun b o e => Heap.get?_push_of_some _ e) (by rw [hD]; exact Nat.le_refl _) (by rw [hD]; exact dt_empty s2.heap I2.big)
  have small : ∀ b ∈ fp, b < s2.heap.objs.size := fun b hb => by
    obtain ⟨o, e, _⟩ := T.obj _ _ st2 b hb
    exact Heap.lt_size e
  have f3 : ∀ b ∈ fp, FpOk X pins H3 b ∧ b < s3.heap.objs.size := fun b hb => by
    have hlt := small b hb
    refine ⟨⟨?_, (f2 b hb).2⟩, by rw [h3, Heap.size_push]; exact Nat.lt_succ_of_lt hlt⟩
    rw [eH3, upd_ne (by rw [hD]; exact Nat.ne_of_lt hlt)]
    exact (f2 b hb).1
  have st3 : tn 0 s3.heap := T.keep _ _ _ st2 fun b _ o e => by rw [h3]; exact Heap.get?_push_of_some _ e
  have I4 := block_start I3 ok hN f3
  -- the block
  obtain ⟨ce, ece⟩ : ∃ ce, ce = compEnvC scope (cellsFrom (s3.heap.objs.size + 1) scope.names (cloFrom X.env.cells scope.names [])) s3.heap.objs.size X.env := ⟨_, rfl⟩
  have pg := hg s3 H3 s3.heap.objs.size (cellsFrom (s3.heap.objs.size + 1) scope.names (cloFrom X.env.cells scope.names [])) fp
  have pt := ht s3 H3 s3.heap.objs.size (cellsFrom (s3.heap.objs.size + 1) scope.names (cloFrom X.env.cells scope.names [])) fp
  have pk := hk s3 H3 s3.heap.objs.size (cellsFrom (s3.heap.objs.size + 1) scope.names (cloFrom X.env.cells scope.names [])) fp
  have pe := he s3 H3 s3.heap.objs.size (cellsFrom (s3.heap.objs.size + 1) scope.names (cloFrom X.env.cells scope.names [])) fp
  rw [← ece] at I4 pg pt pk pe
  have cL : ce.locals = s3.heap.objs.size := by rw [ece]; rfl
  show codeAny _ _ (.compStart (.DictComp kx vx [⟨tg, iter, ifs, 0⟩] scope pos) 0 (.ref it) (.ref D) (compEnvC scope (cellsFrom ((s2.heap.push { cls := .type "dict", data := .dict #[] }).objs.size + 1) scope.names (cloFrom X.env.cells scope.names [])) (s2.heap.push { cls := .type "dict", data := .dict #[] }).objs.size X.env)) _ _
  rw [← h3, ← ece]
  obtain ⟨s4, e4⟩ : ∃ s4 : Shared, s4 = { s3 with heap := pushCells (s3.heap.push { cls := .type "dict", data := .dict #[] }) scope.names } := ⟨_, rfl⟩
  have e4' : ({ s2 with heap := pushCells (s3.heap.push { cls := .type "dict", data := .dict #[] }) scope.names } : Shared) = s4 := by rw [e4, e3]
  rw [← e4] at I4
  rw [e4']
  have st4 : tn 0 s4.heap := T.keep _ _ _ st3 fun b _ o e => by rw [e4]; exact pushCells_keeps _ _ _ _ (Heap.get?_push_of_some _ e)
  have stat : ∀ {σ' : L2.St} {H' : Hp} {s' : Shared}, Inv (X.blk s3 H3 scope ce fp) [] σ' H' s' → (∀ b ∈ fp, H' b = none) → ∀ b ∈ fp, FpOk (X.blk s3 H3 scope ce fp) [] H' b := fun {σ' H' s'} I' hn b hb =>
    ⟨hn b hb, (I'.ok.exf b hb).1, I'.ok.exfs b hb, .inl hb, fun x c e => (I'.ok.exf b hb).2 x c e, fun p hp => absurd (show p ∈ ([] : List (Addr × Obj)) ++ [] from hp) (by simp)⟩
  have nfp : ∀ b ∈ fp, H3 b = none := fun b hb => (f3 b hb).1.1
  refine codeAny_compStart_dict (?loop : codeAny (model X.prog X.w) X.A (.compLoop (.DictComp kx vx [⟨tg, iter, ifs, 0⟩] scope pos) 0 (.ref it) (.ref D) ce) _ s4) (T.self X.A 0 _ _ _ st4 ?loop)
  refine compLoop_anyD (fun n s' => ∃ i H', Inv (X.blk s3 H3 scope ce fp) [] (wipe σ (own.map (·.2))) H' s' ∧ tn i s'.heap ∧ (∀ b ∈ fp, H' b = none) ∧ W i n H') ?_ m0 ⟨0, H3, I4, st4, nfp, w0⟩
  rintro n s5 ⟨i, H5, I5, st5, n5, w5⟩
  rcases turn i n H5 w5 with ⟨stop, qq⟩ | ⟨go, Nx, hNx, step⟩
  · refine thnF (T.done (X.blk s3 H3 scope ce fp) rfl rfl rfl hc i [] s5 _ H5 (fun _ _ => False) I5 (stat I5 n5) st5 stop) fun r s6 ⟨hr, I6⟩ => ?_
    subst hr
    have I7 : Inv X pins σ H5 s6 := I3.call' (ch := fp) I6.os I6.base I6.hok I6.bare fun b hb => ⟨(f3 b hb).1.2.2.2.1, (f3 b hb).1.2.1, (f3 b hb).1.2.2.2.2.1, (f3 b hb).1.2.2.2.2.2⟩
    have nC : H5 s3.heap.objs.size = none := by
      have z : H5 ce.locals = none := I6.free
      rwa [cL] at z
    obtain ⟨m, hn, _⟩ := I6.loc
    have hn : s6.heap.Ns ce.locals m := hn
    rw [cL] at hn
    exact hRR D s3.heap.objs.size s6 m H5 I7 qq hn (I3.fpOk (Nat.le_refl _) nC)
  · refine thnF (T.item (X.blk s3 H3 scope ce fp) rfl rfl rfl hc i [] s5 _ H5 (fun _ _ => False) I5 (stat I5 n5) st5 go) fun r s6 ⟨u, hr, h6⟩ => ?_
    subst hr
    refine thnF h6 fun _ s7 ⟨x, H7, I7, r7, y7, st7, n7⟩ => ?_
    have I7' := I7.pinned (stat I7 n7) (T.obj _ _ st7)
    refine thnF (pg.run _ s7 _ H7 x u _ I7' r7 (step x H7 y7)) fun _ s8 ⟨σ8, H8, I8, hw8, q8⟩ => ?_
    refine thnF (pt.run _ s8 σ8 H8 _ I8 q8) fun b s9 ⟨H9, I9, q9⟩ => ?_
    have fin : ∀ {s' : Shared} {H' : Hp}, Inv (X.blk s3 H3 scope ce fp) ([] ++ pinsAt fp s7.heap) σ8 H' s' → Nx H' → ∃ m, m < n ∧ ∃ i H', Inv (X.blk s3 H3 scope ce fp) [] (wipe σ (own.map (·.2))) H' s' ∧ tn i s'.heap ∧ (∀ b ∈ fp, H' b = none) ∧ W i m H' := fun {s' H'} I' nx => by
      obtain ⟨m', hm, w'⟩ := hNx H' nx
      have pin' : ∀ b ∈ fp, ∀ o, s7.heap.get? b = some o → s'.heap.get? b = some o ∧ H' b = none := fun b hb o e => by
        obtain ⟨z1, z2, _⟩ := I'.pin (b, o) (List.mem_append_right _ (List.mem_append_right _ (mem_pinsAt hb e)))
        exact ⟨z1, z2⟩
      have hl : (wipe σ (own.map (·.2))).length = σ8.length := by rw [← hw8, wipe_length]
      refine ⟨m', hm, i + 1, H', (I'.unpinned (pins := [])).weak hl (fun j v e => ?_), T.keep _ _ _ st7 fun b hb o e => (pin' b hb o e).1, fun b hb => ?_, w'⟩
      · rw [← hw8] at e
        exact (wipe_some e).1
      · obtain ⟨o, e, _⟩ := T.obj _ _ st7 b hb
        exact (pin' b hb o e).2
    cases b with
    | false =>
      simp only [Bool.false_eq_true, if_false] at q9 ⊢
      exact fin I9 q9
    | true =>
      simp only [if_true] at q9 ⊢
      refine thnF (pk.run _ s9 σ8 H9 _ I9 q9) fun z s10 ⟨yk, H10, I10, r10, q10⟩ => ?_
      refine thnF (pe.run _ s10 σ8 H10 _ I10 q10) fun z2 s11 ⟨yv, H11, I11, r11, kvs, k, p, ek, hp11, hD11, hz11, nx⟩ => ?_
      subst ek
      obtain rfl : z = Value.ref p := r10
      exact dt_dictSet (X := X.blk s3 H3 scope ce fp) hu I11 hD11 hp11 hz11 r11 fun s12 I12 => fin I12 nx
/-- as a value -/
theorem pe_dcT2 {kx vx tg iter : Expr} {ifs : List Expr} {scope : Scope} {own : List (Str × Nat)} {pos : Pos} {wi : TI} {g : TG} {tt : TT} {tk tv : TE} (hu : X.A.units < cLine) (hc : X.calm = true) (hN : X.N.Nodup) (hi : PI X tg iter wi) (ok : BlkOk X.N X.env.scope scope own)
    (hg : ∀ (s : Shared) (H : Hp) (C : Addr) (cl : List (Str × Addr)) (fp : List Addr), PG (X.blk s H scope (compEnvC scope cl C X.env) fp) tg g) (ht : ∀ (s : Shared) (H : Hp) (C : Addr) (cl : List (Str × Addr)) (fp : List Addr), PTs (X.blk s H scope (compEnvC scope cl C X.env) fp) ifs tt)
    (hk : ∀ (s : Shared) (H : Hp) (C : Addr) (cl : List (Str × Addr)) (fp : List Addr), PE (X.blk s H scope (compEnvC scope cl C X.env) fp) kx tk)
    (he : ∀ (s : Shared) (H : Hp) (C : Addr) (cl : List (Str × Addr)) (fp : List Addr), PE (X.blk s H scope (compEnvC scope cl C X.env) fp) vx tv) (hs : ∀ x, foldedSetIterable iter X.env x = pure x := by intro _; rfl) :
    PE X (.DictComp kx vx [⟨tg, iter, ifs, 0⟩] scope pos) (tDcT wi g tt tk tv (own.map (·.2))) := by
  refine ⟨fun pins s σ H Q I h => ?_⟩
  rw [arm_eval_DictComp]
  refine dcT_core I hu hc hN hi ok hg ht hk he hs h fun D C s' m H' I' q hn f => ⟨m, hn, fun h'' sb => ?_⟩
  obtain ⟨f0, f1, f2, f3, f4, f5⟩ := f
  exact ⟨.ref D, H', I'.turned (t' := s'.toks) (fun b o hb e => (sb.2 b hb).trans e) f0 f1 f3 f4 f5, rfl, q⟩
theorem swD_true {kx vx : Expr} {gs : List Comprehension} {scope : Scope} {pos py : Pos} {y : Str} {l : Nat} {env : Env} (hk : env.scope.kind = .function) (hy : env.scope.names.lookup y = some .local) (hl : (py.line == pos.line) = true)
    (ha : (scope.names.any fun (n, k) => n == y && (k == .local || k == .cell)) = false) : swapsWith (.DictComp kx vx gs scope pos) (some (.Name y py)) l env = pure true := by
  have ky : env.kindOf y = some .local := hy
  have hb : env.blockKind = .function := by unfold Env.blockKind; rw [hk]; rfl
  unfold swapsWith
  simp only [hb, ky, ha, Expr.pos, hl]
  rfl
/-- name = {..}, the name a local -/
theorem ps_setDcT {i : Nat} {y : Str} {py : Pos} {kx vx tg iter : Expr} {ifs : List Expr} {scope : Scope} {own : List (Str × Nat)} {pos spos : Pos} {wi : TI} {g : TG} {tt : TT} {tk tv : TE} (hu : X.A.units < cLine) (hc : X.calm = true) (hN : X.N.Nodup) (hy : X.N[i]? = some y) (hyl : X.env.scope.names.lookup y = some .local)
    (hsw : swapsWith (.DictComp kx vx [⟨tg, iter, ifs, 0⟩] scope pos) (some (.Name y py)) spos.line X.env = pure true) (hi : PI X tg iter wi) (ok : BlkOk X.N X.env.scope scope own)
    (hg : ∀ (s : Shared) (H : Hp) (C : Addr) (cl : List (Str × Addr)) (fp : List Addr), PG (X.blk s H scope (compEnvC scope cl C X.env) fp) tg g) (ht : ∀ (s : Shared) (H : Hp) (C : Addr) (cl : List (Str × Addr)) (fp : List Addr), PTs (X.blk s H scope (compEnvC scope cl C X.env) fp) ifs tt)
    (hk : ∀ (s : Shared) (H : Hp) (C : Addr) (cl : List (Str × Addr)) (fp : List Addr), PE (X.blk s H scope (compEnvC scope cl C X.env) fp) kx tk)
    (he : ∀ (s : Shared) (H : Hp) (C : Addr) (cl : List (Str × Addr)) (fp : List Addr), PE (X.blk s H scope (compEnvC scope cl C X.env) fp) vx tv) (hs : ∀ x, foldedSetIterable iter X.env x = pure x := by intro _; rfl) :
    PS X (.Assign [.Name y py] (.DictComp kx vx [⟨tg, iter, ifs, 0⟩] scope pos) spos) (tAsg (tDcT wi g tt tk tv (own.map (·.2))) (gName i)) := by
  refine ⟨fun pins s σ H D I h => ?_⟩
  rw [exec_Assign_Name_used _ _ _ _ hsw]
  refine wpAny_bind (wpAny_standAt (wpAny_bind ?_))
  show wpAny _ X.A (do let _ ← comprehension (.DictComp kx vx [⟨tg, iter, ifs, 0⟩] scope pos) scope X.env (firstIterPos [⟨tg, iter, ifs, 0⟩] pos) newDict false (eval iter X.env) (some (assign (.Name y py) X.env))) _ _ s
  have h : tDcT wi g tt tk tv (own.map (·.2)) σ H (fun x H1 => gName i x σ H1 D.nx) := h
  refine wpAny_bind (thn (dcT_core (Qf := fun _ s' => SP X pins D .next s') I hu hc hN hi ok hg ht hk he hs h fun L C s' m H' I' q hn f => ?_) fun _ s' hq => wpAny_pure (wpAny_pure hq))
  show wpAny _ _ (assign (.Name y py) X.env (.ref L)) _ _ _
  refine wpAny_assign_Name (store_ok2 (v := V.ref L) I' hN hy (.inl hyl) rfl (fun s2 I2 ⟨a, sb, ha⟩ => ?_) (.inr hyl))
  obtain ⟨f0, f1, f2, f3, f4, f5⟩ := f
  have haC : C ≠ a := by
    rcases ha with z | z
    · rw [z]; exact f1
    · exact fun e => f4 y a z e.symm
  refine ⟨m, hn.sameBut sb haC, fun h3 sb3 => ?_⟩
  exact ⟨_, H', I2.turned (t' := s2.toks) (fun b o hb e => (sb3.2 b hb).trans e) f0 f1 f3 f4 f5, q⟩
end
end JR
end Part_JRules5
section Part_JRules6
set_option Elab.async false
set_option linter.all false
set_option maxRecDepth 100000
set_option maxHeartbeats 4000000
/-! min of alike data, with and without default. -/
namespace JR
open PySem PySem.Spec PyProof.Rows L2
section
variable {X : Cx} {β : Type} {enc : β → PyData}
theorem alike_all (S : Shape enc) (hn : ∀ b, enc b ≠ .none) (bs : List β) : PySem.W.AlikeAll (bs.map enc) := by
  refine ⟨fun x hx y hy => ?_, fun x hx => ?_⟩
  · obtain ⟨b, _, rfl⟩ := List.mem_map.mp hx
    obtain ⟨c, _, rfl⟩ := List.mem_map.mp hy
    exact S.like b c
  · obtain ⟨b, _, rfl⟩ := List.mem_map.mp hx
    exact hn b
theorem depth_le {k : Nat} (h : ∀ b, (enc b).depth ≤ k) : ∀ l : List β, PyData.depthAll (l.map enc) ≤ k
  | [] => by simp [PyData.depthAll]
  | b :: l => by
    simp only [List.map_cons, PyData.depthAll]
    have := h b
    have := depth_le h l
    omega
/-- some item of the list -/
def rMinE (K : PySem.W.Frag) (enc : β → PyData) : List V → Hp → VK → Prop := fun vs H Q => ∃ (a : Addr) (xs : List V) (bs : List β), vs = [V.ref a] ∧ SqL K H a xs ∧ Ls H enc xs bs ∧ bs ≠ [] ∧ ∀ (i : Nat) (x : V) (b : β), xs[i]? = some x → bs[i]? = some b → Q x H
theorem cr_minE (S : Shape enc) (hn : ∀ b, enc b ≠ .none) (hc : X.calm = true) (hu : X.A.units + 64 < cLine) : CallR X (.builtin "min") (rMinE X.K enc) := by
  intro pins s σ H vs us Q I r h
  obtain ⟨a, xs, bs, rfl, hs, hx, ne, q⟩ := h
  obtain ⟨its, rv, hl, hz⟩ := I.list hs
  rw [Vals.ref1 r]
  obtain ⟨b, bs, rfl⟩ : ∃ b r, bs = b :: r := by
    cases bs with
    | nil => exact absurd rfl ne
    | cons b r => exact ⟨b, r, rfl⟩
  obtain ⟨as, ra⟩ := Dp.readsAll I _ _ _ hx.all.dp rv
  have dp := depth_le S.deep (b :: bs)
  refine PySem.W.min_list_data (x := enc b) (xs := bs.map enc) (I.ok.hd hc) hl.isList (by simpa using ra) (alike_all S hn (b :: bs)) (by show X.A.units + 1 + PyData.depthAll ((b :: bs).map enc) < cLine; omega) fun i v h' tk bsA hi _ hk => ?_
  have hi2 : its[i]? = some v := by simpa using hi
  obtain ⟨hlt, _⟩ := List.getElem?_eq_some_iff.mp hi2
  have hlx : i < xs.length := by rw [rv.length]; exact hlt
  obtain ⟨u, hu2, ru⟩ := Vals.get rv (List.getElem?_eq_getElem hlx)
  rw [hi2] at hu2
  cases hu2
  obtain ⟨b', hb', _⟩ := hx.get (List.getElem?_eq_getElem hlx)
  exact ⟨_, H, I.kept hk, ru, q i _ b' (List.getElem?_eq_getElem hlx) hb'⟩
theorem dataLt_int (a b : Int) : PySem.W.dataLt (.int a) (.int b) = decide (a < b) := PySem.W.dataLt_int a b
theorem minD_mem : ∀ (ns : List Int) (n : Int), ∃ m, PySem.W.minD (.int n) (ns.map PyData.int) = .int m ∧ m ∈ n :: ns ∧ ∀ y ∈ n :: ns, m ≤ y
  | [], n => ⟨n, rfl, List.mem_cons_self, fun y hy => by rw [List.mem_singleton.mp hy]; exact Int.le_refl _⟩
  | a :: ns, n => by
    have h : PySem.W.minD (.int n) ((a :: ns).map PyData.int) = PySem.W.minD (if PySem.W.dataLt (.int a) (.int n) = true then .int a else .int n) (ns.map PyData.int) := rfl
    rw [dataLt_int] at h
    by_cases c : a < n
    · rw [if_pos (decide_eq_true c)] at h
      obtain ⟨m, h1, h2, h3⟩ := minD_mem ns a
      refine ⟨m, h.trans h1, List.mem_cons_of_mem _ h2, fun y hy => ?_⟩
      rcases List.mem_cons.mp hy with rfl | hy
      · have := h3 a List.mem_cons_self
        omega
      · exact h3 y hy
    · rw [if_neg (by simpa using c)] at h
      obtain ⟨m, h1, h2, h3⟩ := minD_mem ns n
      refine ⟨m, h.trans h1, ?_, fun y hy => ?_⟩
      · rcases List.mem_cons.mp h2 with e | e
        · rw [e]; exact List.mem_cons_self
        · exact List.mem_cons_of_mem _ (List.mem_cons_of_mem _ e)
      · rcases List.mem_cons.mp hy with rfl | hy
        · exact h3 y List.mem_cons_self
        · rcases List.mem_cons.mp hy with rfl | hy
          · have := h3 n List.mem_cons_self
            omega
          · exact h3 y (List.mem_cons_of_mem _ hy)
/-- min(ints, default=None) -/
def rMinD (K : PySem.W.Frag) : List V → List V → Hp → VK → Prop := fun vs zs H Q => ∃ (a : Addr) (ns : List Int), vs = [V.ref a] ∧ zs = [.non] ∧ SqL K H a (ns.map V.int) ∧ (ns = [] → Q .non H) ∧ ∀ m, m ∈ ns → (∀ y ∈ ns, m ≤ y) → Q (.int m) H
theorem crk_minD (hc : X.calm = true) (hu : X.A.units + 64 < cLine) : CallRK X (.builtin "min") ["default"] (rMinD X.K) := by
  intro pins s σ H vs zs us ws Q I r rz h
  obtain ⟨a, ns, rfl, rfl, hs, h0, q⟩ := h
  obtain ⟨its, rv, hl, hz⟩ := I.list hs
  rw [Vals.ref1 r]
  obtain ⟨u, rfl, ru⟩ := vals1 rz
  cases (show u = Value.none from ru)
  have hx : Ls H PyData.int (ns.map V.int) ns := Ls.ints ns
  obtain ⟨as, ra⟩ := Dp.readsAll I _ _ _ hx.all.dp rv
  have dp := depth_le shape_int.deep ns
  refine PySem.W.min_list_default (xs := ns.map PyData.int) (I.ok.hd hc) hl.isList (by simpa using ra) (alike_all shape_int (fun _ z => nomatch z) ns) (by omega) (fun e h' tk hk => ?_) fun y ys i v h' tk bsA e hi hr hk => ?_
  · have : ns = [] := List.map_eq_nil_iff.mp e
    exact ⟨.non, H, I.kept hk, rfl, h0 this⟩
  · cases ns with
    | nil => cases e
    | cons n ns =>
      rw [List.map_cons] at e
      cases e
      obtain ⟨m, e1, e2, e3⟩ := minD_mem ns n
      rw [e1] at hr
      have hv : ∃ t, v = .int m t := by cases hr; exact ⟨_, rfl⟩
      obtain ⟨t, rfl⟩ := hv
      exact ⟨.int m, H, I.kept hk, ⟨t, rfl⟩, q m e2 e3⟩
theorem crk_minDK (K : PySem.W.Frag) (hc : X.calm = true) (hu : X.A.units + 64 < cLine) (hK : X.K = K := by rfl) : CallRK X (.builtin "min") ["default"] (rMinD K) := by subst hK; exact crk_minD hc hu
end
end JR
end Part_JRules6
section Part_JRules7
set_option Elab.async false
set_option linter.all false
set_option maxRecDepth 100000
set_option maxHeartbeats 4000000
/-! An own exception made with no argument. -/
namespace JR
open PySem PySem.Spec PyProof.Rows L2
section
variable {X : Cx} {C : Addr} {bmB : List Value} {B newId initId : String} {x : Str} {p pos : Pos}
theorem pmk_own0 (F : ExcBaseFacts B newId initId bmB) (q : PySem.W.excIn X.K C bmB newId = true) (gC : X.mg x = some (.ref C)) (kC : PySem.W.keepIn X.K (.ref C) = true) (r : Raises X (.ref C)) (hg : Gl X x)
    (hdb : (x == ("__debug__" : Str)) = false := by decide) : PMk X (.Call (.Name x p) [] [] pos) (fun _ H Q => Q (.ref C) none H) := by
  intro pins s σ H Q I h
  refine wpAny_Call_Name_kw (ld_glob I hg gC ?_ hdb)
  refine PySem.W.callWith_K0 I.kIn kC ?_
  show wpAny _ _ (call (.ref C) []) _ _ _
  obtain ⟨bm, N, nm, qn, bs, hdct, sn, sub, ab, col, dd, k0, k1, k2, k3, k5, mN, hC, hN, hni, T⟩ := exc_obj I.kIn q
  refine wpAny_call_exc_subT F T hC hN hni (fun h' e hm => ?_) (Nat.zero_le _)
  exact mk_of I hm r h (I.hok.gone hm.new)
end
end JR
end Part_JRules7
section Part_JRules8
set_option Elab.async false
set_option linter.all false
set_option maxRecDepth 100000
set_option maxHeartbeats 4000000
/-! try with several clauses that name what they catch; no error of the body is left over. -/
namespace JR
open PySem PySem.Spec PyProof.Rows L2
/-- the clauses' wishes, one behind the other; slot i is their name's -/
def wNamed (K : PySem.W.Frag) (i : Nat) (D : Ends) : List (Value × (Addr → Value → Option Addr → TS)) → WX
  | [] => fun _ _ _ _ => False
  | (c, t) :: r => fun cls d σ H => ∃ b, PySem.W.exmOne K cls c = some b ∧
    (b = true → ∀ a, H a = none → t a cls d ⟨fun σ' H' => D.nx (σ'.set i none) H', D.rt, fun σ' H' => D.bk (σ'.set i none) H', fun σ' H' => D.ct (σ'.set i none) H'⟩ (σ.set i (some (.ref a))) H) ∧ (b = false → wNamed K i D r cls d σ H)
inductive Named (X : Cx) (n : Str) : List ExceptHandler → List (Value × (Addr → Value → Option Addr → TS)) → Prop
  | nil : Named X n [] []
  | cons {x : Str} {c : Value} {t : Addr → Value → Option Addr → TS} {st : Stmt} {sts : List Stmt} {p q : Pos} {hs : List ExceptHandler} {l : List (Value × (Addr → Value → Option Addr → TS))} (hx : Names X x c)
      (hb : ∀ (a : Addr) (oe : Obj) (cls : Value) (d : Option Addr) (pn : List (Addr × Obj)), Zc cls d oe → (∃ vs, oe.data = .fields vs) → PSs (X.suite a ((a, oe) :: pn)) (st :: sts) (t a cls d)) (r : Named X n hs l) :
      Named X n (.ExceptHandler (some (.Name x p)) (some n) (st :: sts) q :: hs) ((c, t) :: l)
section
variable {X : Cx} {body : List Stmt} {h0 : ExceptHandler} {hs : List ExceptHandler} {l : List (Value × (Addr → Value → Option Addr → TS))} {pos : Pos} {tb : WX → TS} {n : Str} {i : Nat}
theorem ps_try_named (hst : X.stack = X.env :: X.outer) (hfr : X.env.frame = some X.env.locals) (hN : X.N.Nodup) (hi : X.N[i]? = some n) (hln : X.env.kindOf n = some .local)
    (hb : ∀ (W : WX) (pn : List (Addr × Obj)) (xe : Value → Shared → Prop), Takes (X.tr pn xe) W → PassesOwn (model X.prog X.w) X.A X.env xe → PSs (X.tr pn xe) body (tb W))
    (hc : Named X n (h0 :: hs) l) : PS X (.Try body (h0 :: hs) [] [] pos) (fun D σ H => tb (wNamed X.K i D l) D σ H) := by
  refine ⟨fun pins s σ H D I h => ?_⟩
  have ok := I.ok
  have frm : X.A.frames = some (X.env :: X.outer) := by rw [ok.frames, hst]
  have isL : Loc X.env.scope n := .inl hln
  refine wpAny_Try_except ?_
  refine wpAny_mono ((hb (wNamed X.K i D l) (X.pn ++ pins) (fun e t1 => wpAny (model X.prog X.w) X.A (noteFrame e X.env) (fun _ t2 => wpAny (model X.prog X.w) X.A (setFlight e none) (fun _ t3 =>
    wpAny (model X.prog X.w) X.A (handleBy e X.env (h0 :: hs)) (SP X pins D) X.xe t3) X.xe t2) X.xe t1) (fun u t caught => ?_) PassesOwn.looking).run [] s σ H D (I.toTry _) h) (fun f t whole => ?_) (fun e t he => he)
  · obtain ⟨a, B, sI, pins', τ, G, cls, d, rfl, I1, nb, up, sky, na, os, ag, wish⟩ := caught
    have I2 : Inv X pins τ G sI := I1.ofTry ok
    have sky2 : Sky B (X.env :: X.outer) a (Zc cls d) X.env.locals t.heap := by rw [← hst]; exact sky
    show wpAny (model X.prog X.w) X.A (noteFrame (.ref a) X.env) _ _ _
    refine Sky.land Zc.steady frm hfr sky2 fun g fl gup => ?_
    have I3 : Inv X pins τ G { t with heap := g } := I2.landed nb fl.1 (up.trans gup) os ag
    obtain ⟨oe, fv, eoe, zoe, foe⟩ := fl.there
    have off : a ∉ frs (X.env :: X.outer) := fun hm => by
      obtain ⟨_, o2, e2, k2⟩ := fl.2.2.1.mem hm
      rw [eoe] at e2
      cases e2
      exact k2 _ foe
    have a1 : a ≠ X.env.locals := fun z => off (List.mem_filterMap.mpr ⟨X.env, List.mem_cons_self, by rw [hfr, z]⟩)
    have a2 : a ∉ X.fs := fun hm => by
      obtain ⟨e, he, q⟩ := List.mem_filterMap.mp hm
      exact off (List.mem_filterMap.mpr ⟨e, List.mem_cons_of_mem _ he, q⟩)
    have S := I3.suite eoe foe na a1 a2
    have go : ∀ {hs' : List ExceptHandler} {l' : List (Value × (Addr → Value → Option Addr → TS))}, Named X n hs' l' → wNamed X.K i D l' cls d τ G →
        wpAny (model X.prog X.w) X.A (handleBy (.ref a) X.env hs') (SP X pins D) X.xe { t with heap := g } := by
      intro hs' l' hk
      induction hk with
      | nil => exact fun z => z.elim
      | @cons x c ts st sts p q hs2 l2 hx hsu r ih =>
        rintro ⟨b, eb, yes, no⟩
        refine wpAny_handleBy_cons (codeAny_handlers_test ?_) (by intro q; cases q)
        have look : PySem.W.Looks (model X.prog X.w) g (typeOf (.ref a)) cls := fun A Q E s k q => wpAny_typeOf_ref (k _ _ eoe) (by rw [zoe.1]; exact q)
        have isit := PySem.W.exm_one (M := model X.prog X.w) (I3.kIn) look eb
        have named : ∀ {Q : Value → Shared → Prop} {E : Value → Shared → Prop}, Q c { t with heap := g } → wpAny (model X.prog X.w) (X.A.mark (some (.ref a))) (eval (.Name x p) X.env) Q E { t with heap := g } := fun {Q E} k => by
          obtain ⟨hg, hdb, hm | ⟨hm, hv, hnn⟩⟩ := hx
          · exact ld_glob (X := X.suite a ((a, oe) :: (X.pn ++ pins))) S hg hm k hdb
          · exact ld_blt (X := X.suite a ((a, oe) :: (X.pn ++ pins))) S hg hm hv k hnn hdb
        refine named (isit.here ?_)
        cases b with
        | false =>
          show wpAny _ X.A (handleBy (.ref a) X.env hs2) _ _ _
          exact ih (no rfl)
        | true =>
          refine codeAny_handlers_suite_as ?_
          refine HandSPX.lands_againZ fl fun g4 fl4 up4 => ?_
          have I4 : Inv X pins τ G { t with heap := g4 } := I2.landed nb fl4.1 ((up.trans gup).trans up4) os ag
          obtain ⟨o4, f4, e4, z4, d4⟩ := fl4.there
          have S4 := I4.suite e4 d4 na a1 a2
          refine store_ok (X := X.suite a ((a, o4) :: (X.pn ++ pins))) (v := .ref a) S4 hN hi isL rfl (fun s5 S5 => ?_) (.inr hln)
          refine wpAny_mono ((hsu a o4 cls d (X.pn ++ pins) z4 ⟨_, d4⟩).run [] s5 _ G _ S5 (yes rfl a na)) (fun f s6 out => ?_) (fun _ _ z => False.elim z)
          have behind : ∀ {τ6 : L2.St} {G6 : Hp} {Q : Shared → Prop}, Inv (X.suite a ((a, o4) :: (X.pn ++ pins))) [] τ6 G6 s6 → (∀ s7, Inv X pins (τ6.set i none) G6 s7 → Q s7) →
              wpAny (model X.prog X.w) X.A (do bindName X.env n .none; unbindBehindTheSuite X.env n q) (fun _ s7 => Q s7) X.xe s6 := fun S6 hq => gone_ok (S6.unsuite ok) hN hi hln hq
          cases f with
          | next =>
            obtain ⟨_, _, S6, q6⟩ := out
            exact behind S6 fun s7 J => ⟨_, _, J, q6⟩
          | brk =>
            obtain ⟨_, _, S6, q6⟩ := out
            exact behind S6 fun s7 J => ⟨_, _, J, q6⟩
          | cont =>
            obtain ⟨_, _, S6, q6⟩ := out
            exact behind S6 fun s7 J => ⟨_, _, J, q6⟩
          | ret u =>
            obtain ⟨_, _, _, S6, r6, q6⟩ := out
            exact behind S6 fun s7 J => ⟨_, _, _, J, r6, q6⟩
    exact go hc wish
  · cases f with
    | next =>
      obtain ⟨τ, G, J, q⟩ := whole
      exact wpAny_execs_nil ⟨τ, G, J.ofTry ok, q⟩
    | brk =>
      obtain ⟨τ, G, J, q⟩ := whole
      exact ⟨τ, G, J.ofTry ok, q⟩
    | cont =>
      obtain ⟨τ, G, J, q⟩ := whole
      exact ⟨τ, G, J.ofTry ok, q⟩
    | ret u =>
      obtain ⟨v, τ, G, J, r, q⟩ := whole
      exact ⟨v, τ, G, J.ofTry ok, r, q⟩
end
end JR
end Part_JRules8
section Part_JSetI
set_option Elab.async false
set_option linter.all false
set_option maxRecDepth 100000
set_option maxHeartbeats 4000000
/-! set(ints) of a list, sorted of a set of ints, of any size. -/
namespace JR
open PySem PySem.Spec PyProof.Rows L2
section
variable {P : Program} {w : World} {A : Around} {E : Value → Shared → Prop} {s : Shared}
/-- a new set, as the model lays it -/
abbrev fresh0 (w : World) : Obj := { cls := .type "set", dict := none, data := .set #[] 0 (.fresh 0 0 (!w.params.followText "set-order")) }
set_option maxHeartbeats 8000000 in
/-- set(l), l a list of the ints ns -/
theorem set_of_ints {l : Addr} {items : Array Value} (ns : List Int) {Q : Value → Shared → Prop} (hh : A.handled = none) (hl : s.heap.IsList l items) (hit : IntsAre items.toList ns) (hb : ns.length + 1 < scanBound)
    (h : ∀ (g : Heap) (tk c : Nat), SetR w g s.heap.objs.size (fun j => decide (j ∈ ns)) c → (∀ b o, s.heap.get? b = some o → g.get? b = some o) → Q (.ref s.heap.objs.size) { s with heap := g, toks := tk }) :
    wpAny (model P w) A (call (.type "set") [.ref l]) Q E s := by
  have isz : items.size = ns.length := by
    have q := IntsAre.length hit
    rwa [Array.length_toList] at q
  have f1 := F.called_set.notType
  have f2 := F.called_set.canCreate
  have f3 := F.typeCall_set_1 (.ref l)
  have f4 := F.called_set.made
  have f5 := F.called_set.sub
  obtain ⟨c, tl, f6⟩ := F.called_set.mro
  refine wpAny_call (codeAny_of_tree ?_)
  show wpAny _ _ (callAny (.type "set") _) _ _ _
  refine wpAny_pure ⟨Code.quiet_builtin _ (by decide +kernel), codeAny_builtin F.entry_type_call ?_⟩
  rw [Around.under_plain (weight_type_call_type "set" [.ref l] []) rfl]
  repeat (any_goals (first | assumption | wp_step))
  refine codeAny_mono (code_set_led1 (.ref l) (E := E) (Q₁ := fun v t => v = .ref s.heap.objs.size ∧ t = { s with heap := s.heap.push (fresh0 w) }) ⟨rfl, rfl⟩) fun r t hr => ?_
  cases r with
  | error e => exact hr
  | ok fl =>
    cases fl with
    | next => exact hr.elim
    | brk => exact hr.elim
    | cont => exact hr.elim
    | ret v =>
      obtain ⟨rfl, rfl⟩ := hr
      have hS : (s.heap.push (fresh0 w)).get? s.heap.objs.size = some (fresh0 w) := Heap.get?_push_size _ rfl
      have hT : Shared.TypeIs { s with heap := s.heap.push (fresh0 w) } (.ref s.heap.objs.size) "set" := ⟨_, hS, rfl⟩
      have f7 := F.called_set.init.lookup
      have f8 := F.called_set.init.bind (.ref s.heap.objs.size)
      repeat (any_goals (first | assumption | wp_step))
      refine codeAny_mono (codeAny_call_builtin (R := wants (fun r t2 => r = .none ∧ ∃ g tk c, t2 = { s with heap := g, toks := tk } ∧ SetR w g s.heap.objs.size (fun j => decide (j ∈ ns)) c ∧
          (∀ b o, s.heap.get? b = some o → g.get? b = some o)) E) F.called_set.init.plain F.entry_set_init (check_set_init_1 hT ?_)) fun r2 t2 hr2 => ?_
      · obtain ⟨⟨ocls, od, oda, osl⟩, hol, hc, nl, hd⟩ := hl
        simp only at hc hd
        subst hc hd
        have hol2 : (s.heap.push (fresh0 w)).get? l = some { cls := .type "list", dict := od, data := .seq items nl, slots := osl } := Heap.get?_push_of_some _ hol
        have f9 := F.sub_list_set
        have f10 := F.sub_list_frozenset
        have f11 : (Value.type "list" == Value.type "dict") = false := by decide
        have hl1 : (s.heap.push (fresh0 w)).IsList l items := ⟨_, hol2, rfl, nl, rfl⟩
        unfold Builtin.«set.__init__» noKeywords Builtin.Frozenset.updateFrom
        generalize hPI : pyIter = PI
        wp_walk
        subst hPI
        refine wpAny_pyIter_list hl1 ?_
        refine wpAny_bind (wpAny_runValue ?_)
        have lt := Heap.lt_size hol
        have h3 : A.in1.in1.in1.handled = none := by simp [hh]
        have sz : (s.heap.push (fresh0 w)).objs.size = s.heap.objs.size + 1 := Heap.size_push ..
        have nI : l ≠ (s.heap.push (fresh0 w)).objs.size := by rw [sz]; exact Nat.ne_of_lt (Nat.lt_succ_of_lt lt)
        have nS : s.heap.objs.size ∉ [(s.heap.push (fresh0 w)).objs.size, l] := by
          rw [sz]
          simp only [List.mem_cons, List.not_mem_nil, or_false, not_or]
          exact ⟨Nat.ne_of_lt (Nat.lt_succ_self _), Nat.ne_of_gt lt⟩
        have vals : ∀ (i : Nat) (v : Value), items[i]? = some v → ∃ k t, ns[i]? = some k ∧ v = .int k t := fun i v hv => by
          have hi : i < ns.length := by rw [← isz]; exact (Array.getElem?_eq_some_iff.mp hv).1
          obtain ⟨t, e⟩ := PyProof.Rows.IntsAre.int_at hit i v (by rw [Array.getElem?_toList]; exact hv)
          refine ⟨ns[i], t, List.getElem?_eq_getElem hi, ?_⟩
          rw [e, List.getD_eq_getElem?_getD, List.getElem?_eq_getElem hi]
          rfl
        refine set_update_ints ((Walks.list h3 _ l nI items).toS) s.heap.objs.size nS ns isz hb vals (items.size - 0) 0 _ (by omega) (Nat.zero_le _) ⟨⟨_, Heap.get?_push_size _ rfl, rfl, rfl⟩, (hl1.push _)⟩ ⟨0, Nat.le_refl 0, setR_new_at (Heap.get?_push_of_some _ hS)⟩ fun t3 c3 hm _ hS3 => ?_
        obtain ⟨g, g2, d2, tk2, os2⟩ := t3
        have eg : g2 = s.gens := hm.gens
        have ed : d2 = s.drawn := hm.drawn
        have eo : os2 = s.os := hm.os
        subst eg ed eo
        show wpAny _ _ _ _ _ _
        refine wpAny_pure ?_
        show wpAny _ _ (ret Value.none) _ _ _
        refine wpAny_pure ⟨rfl, g, tk2, c3, rfl, hS3, fun b o e => ?_⟩
        have b0 := Heap.lt_size e
        exact hm.heap b o (by rw [sz]; simp only [List.mem_cons, List.not_mem_nil, or_false, not_or]; exact ⟨Nat.ne_of_lt b0, Nat.ne_of_lt (Nat.lt_succ_of_lt b0)⟩) (Heap.get?_push_of_some _ (Heap.get?_push_of_some _ e))
      · cases r2 with
        | error e => exact hr2
        | ok fl2 =>
          cases fl2 with
          | next => exact hr2.elim
          | brk => exact hr2.elim
          | cont => exact hr2.elim
          | ret v =>
            obtain ⟨rfl, g, tk, c, rfl, hS3, hk⟩ := hr2
            repeat (any_goals (first | assumption | wp_step))
            exact h _ _ _ hS3 hk
/-- sorted(a), a a set of ints -/
theorem sorted_ints {a : Addr} {S : Int → Bool} {n : Nat} {Q : Value → Shared → Prop} (R : SetR w s.heap a S n) (hh : A.handled = none)
    (h : ∀ t p (out : List Value) (c : Nat) (ns : List Int), (∀ b o, s.heap.get? b = some o → t.heap.get? b = some o) → t.gens = s.gens → t.os = s.os → s.heap.objs.size ≤ p →
      t.heap.get? p = some (seqObj "list" out.toArray c) → IntsAre out ns → ns.Nodup → (∀ k, k ∈ ns ↔ S k = true) → ns.length = n → ns.length ≤ sizeLine → Q (.ref p) t) :
    wpAny (model P w) A (call (.builtin "sorted") [.ref a]) Q E s := by
  obtain ⟨o, es, ep, t, ho, hex, hd, good, nd, hm, hb, hf, hn, hr, hl⟩ := R
  refine Calls.call_function_entry kind_sorted plain_sorted entry_sorted (args_sorted1 _) ?_
  unfold Builtin.«sorted»
  refine wpAny_bind (m := checkCount "sorted" 1 1 _) (wpAny_pure ?_)
  refine wpAny_bind (collect_set (A := A.in1) hh ⟨o, ho, hex.1, hd⟩ hf hb hr hl fun t1 vs k1 hz g1 o1 pm => ?_)
  have isI : IntsAre vs (vs.map Builtin.Re.reRawOf) := ints_of vs fun v hv => by
    obtain ⟨e, he, q⟩ := List.mem_map.mp (pm.mem_iff.mp hv)
    obtain ⟨k, tk, e1, _⟩ := good e he
    exact ⟨k, tk, by rw [← q]; exact e1⟩
  have pk : (vs.map Builtin.Re.reRawOf).Perm (es.toList.map keyOf) := by
    have q := pm.map Builtin.Re.reRawOf
    rwa [List.map_map] at q
  have vl : vs.length = n := by rw [pm.length_eq, List.length_map, Array.length_toList]; exact hn
  have vz : vs.length ≤ sizeLine := by rw [vl, ← hn]; exact fits_of_scanBound hb
  refine wpAny_bind (wpAny_newList ?_ vz)
  have hoL : (t1.heap.push (seqObj "list" vs.toArray 0)).get? t1.heap.objs.size = some (seqObj "list" vs.toArray 0) := Heap.get?_push_size _ rfl
  refine wpAny_bind (wpAny_holding (wpAny_call_entry slot_list_sort ⟨_, hoL, rfl⟩ entry_list_sort (SrtO.list_sort_ord SrtO.swo_int hoL vz (fun h2 => SrtO.ints_sortable isI h2) fun out hs hst => ⟨_, rfl, ?_⟩) (args_list_sort _)))
  obtain ⟨i1, i2, i3⟩ := SrtO.ints_out isI hs hst
  obtain ⟨c, hc⟩ := sortedHeap_at (vs := vs) (out := out.toArray) hoL
  have pn := i2.trans pk
  refine wpAny_pure ⟨_, rfl, h _ t1.heap.objs.size out c (out.map SrtO.iv) (fun b u e => ?_) g1 o1 hz hc i1 (pn.nodup_iff.mpr nd) (fun k => by rw [pn.mem_iff, ← hm k]) ?_ ?_⟩
  · have q := k1 b u e
    have hlt := Heap.lt_size q
    show (sortedHeap (t1.heap.push (seqObj "list" vs.toArray 0)) t1.heap.objs.size vs out.toArray).get? b = some u
    rw [sortedHeap_old (Nat.ne_of_lt hlt) (by rw [size_push']; exact Nat.lt_succ_of_lt hlt)]
    exact Heap.get?_push_of_some _ q
  · rw [pn.length_eq, List.length_map, Array.length_toList]; exact hn
  · rw [pn.length_eq, List.length_map, Array.length_toList, hn, ← vl]; exact vz
end
section
variable {X : Cx}
/-- set(l) -/
def rSetInts (K : PySem.W.Frag) (w : World) : List V → Hp → VK → Prop := fun vs H Q => ∃ (l : Addr) (ns : List Int), vs = [V.ref l] ∧ SqL K H l (ns.map V.int) ∧ ns.length + 1 < scanBound ∧ ∀ (p : Addr) (c : Nat), H p = none → Q (.ref p) (upd H p (SetO w p (fun j => decide (j ∈ ns)) c))
theorem cr_setInts (hc : X.calm = true) : CallR X (.type "set") (rSetInts X.K X.w) := by
  intro pins s σ H vs us Q I r h
  obtain ⟨l, ns, rfl, hs, hb, q⟩ := h
  obtain ⟨its, rv, hl, hz⟩ := I.list hs
  rw [Vals.ref1 r]
  refine set_of_ints ns (I.ok.hd hc) hl.isList (by simpa using rv.ints) hb fun g tk c R hk => ?_
  exact ⟨.ref _, upd H s.heap.objs.size (SetO X.w s.heap.objs.size (fun j => decide (j ∈ ns)) c), I.laid (t' := tk) hk (Nat.le_refl _) (setO_new R), rfl, q _ c (I.hok.fresh (Nat.le_refl _))⟩
/-- sorted(a) -/
def rSortedInts (w : World) : List V → Hp → VK → Prop := fun vs H Q => ∃ (a : Addr) (S : Int → Bool) (n : Nat), vs = [V.ref a] ∧ H a = some (SetO w a S n) ∧
  ∀ (ns : List Int) (p : Addr), ns.Nodup → (∀ k : Int, k ∈ ns ↔ S k = true) → H p = none → Q (.ref p) (upd H p (.lst (ns.map V.int)))
theorem cr_sortedInts (hc : X.calm = true) : CallR X (.builtin "sorted") (rSortedInts X.w) := by
  intro pins s σ H vs us Q I r h
  obtain ⟨a, S, n, rfl, ha, q⟩ := h
  have R := setO_get I ha
  rw [Vals.ref1 r]
  refine sorted_ints R (I.ok.hd hc) fun t p out c ns k g o hp hg hi hs hm hl hz => ?_
  have hn : H p = none := I.hok.fresh hp
  have J : Inv X pins σ (upd H p (.lst (ns.map V.int))) { s with heap := t.heap, gens := t.gens, drawn := t.drawn, toks := t.toks } :=
    I.call (ch := []) (Un.laid k hp hn) (I.hok.laid k hp ⟨by rw [List.length_map]; exact hz, out, c, vals_of_ints hi, hg⟩) (by rw [g]; exact I.bare) (fun _ z => nomatch z)
  have e : t = { s with heap := t.heap, gens := t.gens, drawn := t.drawn, toks := t.toks } := by
    cases t
    cases s
    cases o
    rfl
  rw [e]
  exact ⟨.ref p, _, J, rfl, q ns p hs hm hn⟩
end
end JR
end Part_JSetI
section Part_JSetT
set_option Elab.async false
set_option linter.all false
set_option maxRecDepth 100000
set_option maxHeartbeats 4000000
/-! A set comprehension over new tuples of ints and texts, its length (the tables by the layer's TabOk). -/
namespace JR
open PySem PySem.Spec PyProof.Rows L2
section
variable {P : Program} {w : World} {κ : Type} [DecidableEq κ] (knd : KeyKind P w κ)
/-- what the model asks of the items by value -/
structure Mild : Prop where
  cls : ∀ n k v, knd.is k v = true → ofAClassStatement n v = pure false
  hsh : ∀ n k v, knd.is k v = true → ∃ b, hashByValue n v = pure b
theorem mild_mix : Mild (mixKind P w) where
  cls := fun n k v h => by
    cases k with
    | inl i =>
      obtain ⟨t, rfl⟩ := Value.isInt_shape (k := i) (v := v) h
      cases n <;> rfl
    | inr x =>
      cases v with
      | str y t => cases n <;> rfl
      | _ => cases h
  hsh := fun n k v h => by
    cases k with
    | inl i =>
      obtain ⟨t, rfl⟩ := Value.isInt_shape (k := i) (v := v) h
      exact ⟨true, by cases n <;> rfl⟩
    | inr x =>
      cases v with
      | str y t => exact ⟨false, by cases n <;> rfl⟩
      | _ => cases h
abbrev kh (k : List κ) : Int := tupleKeyHash knd k
theorem items_are_k {ks : List κ} {vs : List Value} (h : ItemsAre knd ks vs) : ∀ v ∈ vs, ∃ k, knd.is k v = true := by
  induction h with
  | nil => intro v hv; cases hv
  | @cons k u ks vs h1 _ ih =>
    intro v hv
    rcases List.mem_cons.mp hv with rfl | hv
    · exact ⟨k, h1⟩
    · exact ih v hv
variable {knd}
section
variable {A : Around} {E : Value → Shared → Prop} {s : Shared}
theorem cls_tup (M : Mild knd) {k : List κ} {b : Addr} {Q : Bool → Shared → Prop} (hk : IsTupleKey knd s.heap k b) (h : Q false s) : wpAny (model P w) A (ofAClassStatement 8 (.ref b)) Q E s := by
  have hT := hk.typeIs
  obtain ⟨o, items, n, ho, _, hd, hi⟩ := hk
  unfold ofAClassStatement
  refine wpAny_bind (wpAny_typeOf hT ?_)
  dsimp only
  simp only [show (("tuple" : String) == "tuple") = true from by decide, if_true, Bool.not_true, Bool.false_eq_true, if_false]
  show wpAny _ _ (seqItems? (.ref b) >>= _) _ _ s
  refine wpAny_bind (wpAny_seqItems ho hd ?_)
  dsimp only
  refine wpAny_bind ?_
  show wpAny _ _ (forIn items _ _) _ _ s
  rw [← Array.forIn_toList]
  refine wpAny_forIn_list _ (fun l r t => (r.1 = none ∧ t = s) ∧ ∀ v ∈ l, ∃ k, knd.is k v = true) _ ?_ ?_ _ _ ⟨⟨rfl, rfl⟩, items_are_k knd hi⟩
  · rintro v l r t ⟨⟨hr, rfl⟩, al⟩
    obtain ⟨k1, h1⟩ := al v List.mem_cons_self
    rw [M.cls _ _ _ h1]
    refine wpAny_bind (wpAny_pure ?_)
    simp only [Bool.false_eq_true, if_false]
    exact wpAny_pure ⟨⟨rfl, rfl⟩, fun u hu => al u (List.mem_cons_of_mem _ hu)⟩
  · rintro ⟨r1, r2⟩ t ⟨⟨hr, rfl⟩, _⟩
    simp only at hr
    subst hr
    exact wpAny_pure h
theorem hsh_tup (M : Mild knd) {k : List κ} {b : Addr} {Q : Bool → Shared → Prop} (hk : IsTupleKey knd s.heap k b) (h : ∀ c, Q c s) : wpAny (model P w) A (hashByValue 8 (.ref b)) Q E s := by
  have hT := hk.typeIs
  obtain ⟨o, items, n, ho, _, hd, hi⟩ := hk
  unfold hashByValue
  refine wpAny_bind (wpAny_specialOf hT F.slot_tuple_hash.lookup ?_)
  show wpAny _ _ (seqItems? (.ref b) >>= _) _ _ s
  refine wpAny_bind (wpAny_seqItems ho hd ?_)
  refine wpAny_bind ?_
  show wpAny _ _ (forIn items _ _) _ _ s
  rw [← Array.forIn_toList]
  refine wpAny_forIn_list _ (fun l r t => (r.1 = none ∧ t = s) ∧ ∀ v ∈ l, ∃ k, knd.is k v = true) _ ?_ ?_ _ _ ⟨⟨rfl, rfl⟩, items_are_k knd hi⟩
  · rintro v l r t ⟨⟨hr, rfl⟩, al⟩
    obtain ⟨k1, h1⟩ := al v List.mem_cons_self
    obtain ⟨c, e⟩ := M.hsh 7 _ _ h1
    rw [e]
    refine wpAny_bind (wpAny_pure ?_)
    cases c with
    | true =>
      simp only [Bool.not_true, Bool.false_eq_true, if_false]
      exact wpAny_pure ⟨⟨rfl, rfl⟩, fun u hu => al u (List.mem_cons_of_mem _ hu)⟩
    | false =>
      simp only [Bool.not_false, if_true]
      exact wpAny_pure (wpAny_pure (h false))
  · rintro ⟨r1, r2⟩ t ⟨⟨hr, rfl⟩, _⟩
    simp only at hr
    subst hr
    exact wpAny_pure (h true)
theorem unseen (M : Mild knd) {k : List κ} {b : Addr} {Q : Bool → Shared → Prop} (hk : IsTupleKey knd s.heap k b) {ys : List Value} (hy : ∀ y ∈ ys, ∃ k' c, y = Value.ref c ∧ IsTupleKey knd s.heap k' c) (h : Q false s) : wpAny (model P w) A (searchCouldBeSeen (.ref b) ys) Q E s := by
  unfold searchCouldBeSeen
  refine wpAny_bind ?_
  refine wpAny_forIn_list _ (fun l r t => (r.1 = none ∧ t = s) ∧ ∀ y ∈ l, ∃ k' c, y = Value.ref c ∧ IsTupleKey knd s.heap k' c) _ ?_ ?_ _ _ ⟨⟨rfl, rfl⟩, hy⟩
  · rintro v l r t ⟨⟨hr, rfl⟩, al⟩
    obtain ⟨k1, c, rfl, hc⟩ := al v List.mem_cons_self
    have rest := fun u hu => al u (List.mem_cons_of_mem _ hu)
    dsimp only
    by_cases hv : (b == c || (carriedByValue (.ref b) && carriedByValue (.ref c))) = true
    · refine wp_if_pos hv ?_
      exact wpAny_pure ⟨⟨rfl, rfl⟩, rest⟩
    · refine wp_if_neg hv ?_
      refine wpAny_bind (wpAny_eqIsQuiet_tuple hk ?_)
      simp only [Bool.not_true, Bool.false_eq_true, if_false]
      refine wpAny_bind (wpAny_eqIsQuiet_tuple hc ?_)
      simp only [Bool.not_true, Bool.false_eq_true, if_false]
      refine wpAny_bind (cls_tup M hk ?_)
      simp only [Bool.false_eq_true, if_false]
      refine wpAny_bind (cls_tup M hc ?_)
      simp only [Bool.false_eq_true, if_false]
      exact wpAny_pure ⟨⟨rfl, rfl⟩, rest⟩
  · rintro ⟨r1, r2⟩ t ⟨⟨hr, rfl⟩, _⟩
    simp only at hr
    subst hr
    exact wpAny_pure h
end
/-- the set at a holds the tuples of L (address, items), few of them -/
structure TSet (knd : KeyKind P w κ) (h : Heap) (a : Addr) (L : List (Addr × List κ)) (es : Array (Int × Value)) (ep : Nat) (t : SetTable) : Prop where
  ob : ∃ o, h.get? a = some o ∧ o.ExactSet ∧ o.data = .set es ep t
  rows : es.toList = L.map fun p => (kh knd p.2, Value.ref p.1)
  tab : TabOk t (L.map fun p => kh knd p.2)
  led : w.params.followText "set-order" = true ∨ t.led = true
  room : L.length * 5 < t.mask * 3
  few : L.length ≤ 16
section
variable {A : Around} {E : Value → Shared → Prop} {s : Shared} {a : Addr} {L : List (Addr × List κ)} {es : Array (Int × Value)} {ep : Nat} {t : SetTable}
theorem size_of_rows (h : es.toList = L.map fun p => (kh knd p.2, Value.ref p.1)) : es.size = L.length := by
  rw [← Array.length_toList, h, List.length_map]
theorem TSet.entry (R : TSet knd s.heap a L es ep t) {i : Nat} {p : Addr × List κ} (h : L[i]? = some p) : es[i]? = some (kh knd p.2, Value.ref p.1) := by
  rw [← Array.getElem?_toList, R.rows, List.getElem?_map, h]
  rfl
theorem TSet.fits (R : TSet knd s.heap a L es ep t) : t.fits es.size = true := by
  have h1 := R.tab.sz
  rw [List.length_map] at h1
  have h2 := size_of_rows R.rows
  have h3 := R.room
  unfold SetTable.fits SetTable.fill
  rw [R.tab.dm, Bool.and_eq_true, beq_iff_eq, decide_eq_true_eq]
  show t.place.size = es.size ∧ t.place.size + 0 ≤ t.mask
  omega
theorem TSet.gw (R : TSet knd s.heap a L es ep t) : ¬ t.gaveWay = true := by
  unfold SetTable.gaveWay
  rw [mask_odd R.tab.mok]
  decide
/-- the search for a tuple that is not in, from the c-th step of its way on -/
theorem search_new (M : Mild knd) (R : TSet knd s.heap a L es ep t) (tup : ∀ p ∈ L, IsTupleKey knd s.heap p.2 p.1) {x : Addr} {k : List κ} (hx : IsTupleKey knd s.heap k x) (hn : k ∉ L.map (·.2)) (hu : A.units < cLine) {K : Nat} (hKf : K < 10 * SetTable.turns t.mask)
    (hK : way t.mask (kh knd k) K ∉ t.place.toList) (hKb : ∀ c, c < K → way t.mask (kh knd k) c ∈ t.place.toList) {Q : SetFound → Shared → Prop} (hQ : Q (.free (way t.mask (kh knd k) K) false) s) :
    ∀ (f c : Nat) (stand : Option SetTable.Probe), stand.getD (t.probeStart (kh knd k)) = nth t.mask (runAt t.mask (SetTable.bits (kh knd k) % (t.mask + 1)) (SetTable.bits (kh knd k))) c → c ≤ K → K - c < f → wpAny (model P w) A (setSearchFrom a (.ref x) (kh knd k) true f stand) Q E s
  | 0, c, stand, _, _, hf => absurd hf (Nat.not_lt_zero _)
  | f + 1, c, stand, hst, hc, hf => by
    obtain ⟨o, ho, hex, hd⟩ := R.ob
    generalize hp0 : runAt t.mask (SetTable.bits (kh knd k) % (t.mask + 1)) (SetTable.bits (kh knd k)) = p0 at hst
    have eway : ∀ q, (nth t.mask p0 q).j = way t.mask (kh knd k) q := fun q => by rw [← hp0]
    rw [setSearchFrom_succ]
    refine wpAny_bind (wpAny_setState_of ho hd R.fits ?_)
    dsimp only
    refine wp_if_neg R.gw ?_
    have nodummy : ∀ (n : Nat) (p : SetTable.Probe), p.dummy = none → (nth t.mask p n).dummy = none := by
      intro n
      induction n with
      | zero => exact fun p h => h
      | succ n ih =>
        intro p h
        refine ih (adv t.mask p) ?_
        unfold adv
        split <;> exact h
    have shift : ∀ q, nth t.mask (nth t.mask p0 c) q = nth t.mask p0 (c + q) := fun q => (nth_add t.mask c _ q).symm
    have wq : ∀ q, (nth t.mask (nth t.mask p0 c) q).j = way t.mask (kh knd k) (c + q) := fun q => by rw [shift, eway]
    have spec := go_spec t R.tab.ris R.tab.dm (fun i => (es[i]?.map (·.1)).getD 0) (kh knd k) (10 * SetTable.turns t.mask) (K - c) (nth t.mask p0 c) (nodummy c p0 (by rw [← hp0]; rfl)) (by omega)
      (fun q hq => by rw [wq]; exact hKb (c + q) (by omega)) (by rw [wq, show c + (K - c) = K by omega]; exact hK)
    rcases spec with ⟨q, i, hq, hi, _, _, hpr⟩ | ⟨_, hpr⟩
    · have hprobe : t.probe (fun i => (es[i]?.map (·.1)).getD 0) (kh knd k) (stand.getD (t.probeStart (kh knd k))) = some (.candidate (way t.mask (kh knd k) (c + q)) i (nth t.mask p0 (c + (q + 1)))) := by
        rw [hst, ← wq, ← shift]
        exact hpr
      rw [hprobe]
      dsimp only
      rw [wq] at hi
      have hil : i < L.length := by
        have h1 : i < t.place.toList.length := (List.getElem?_eq_some_iff.mp hi).1
        have h2 := R.tab.sz
        rw [List.length_map] at h2
        rw [Array.length_toList] at h1
        omega
      obtain ⟨p, hp⟩ : ∃ p, L[i]? = some p := ⟨_, List.getElem?_eq_getElem hil⟩
      have pm := List.mem_of_getElem? hp
      have ne : ¬ p.2 = k := fun e => hn (by rw [← e]; exact List.mem_map_of_mem pm)
      have rest : wpAny (model P w) A (searchRest a (.ref x) (kh knd k) true f es t (way t.mask (kh knd k) (c + q)) i (nth t.mask p0 (c + (q + 1)))) Q E s := by
        unfold searchRest
        rw [R.entry hp]
        dsimp only
        refine wpAny_bind (wpAny_holding (wpAny_eqBool_tuple hu (tup p pm) hx ?_))
        refine wpAny_bind (wpAny_setState_of ho hd R.fits ?_)
        dsimp only
        refine wp_if_neg (by simp [ne]) ?_
        rw [sameMem]
        dsimp only
        have live : t.slot (way t.mask (kh knd k) (c + q)) = .live i := slot_live R.tab.ris hi
        simp only [if_true, live, R.entry hp]
        refine wpAny_bind (wpAny_isSame_ref_self (wpAny_bind (wpAny_pure ?_)))
        simp only [if_true]
        refine wp_if_neg (by simp [ne]) ?_
        exact search_new M R tup hx hn hu hKf hK hKb hQ f (c + (q + 1)) _ (by rw [← hp0]; rfl) (by omega) (by omega)
      by_cases hl : t.led = true
      · refine wp_if_neg (by simp [hl]) ?_
        exact rest
      · refine wp_if_pos (by simp [hl]) ?_
        refine wpAny_bind (unseen M hx (fun y hy => ?_) ?_)
        · obtain ⟨e, he, rfl⟩ := List.mem_map.mp hy
          have he1 : e ∈ es ∧ e.1 = kh knd k := by simpa using he
          have he2 : e ∈ es.toList := by simpa using he1.1
          rw [R.rows] at he2
          obtain ⟨p2, hp2, rfl⟩ := List.mem_map.mp he2
          exact ⟨p2.2, p2.1, rfl, tup p2 hp2⟩
        · refine wp_if_neg (by decide) ?_
          exact rest
    · have hprobe : t.probe (fun i => (es[i]?.map (·.1)).getD 0) (kh knd k) (stand.getD (t.probeStart (kh knd k))) = some (.empty (way t.mask (kh knd k) K) none) := by
        rw [hst, show way t.mask (kh knd k) K = (nth t.mask (nth t.mask p0 c) (K - c)).j by rw [wq, show c + (K - c) = K by omega]]
        exact hpr
      rw [hprobe]
      exact wpAny_pure hQ
end
end
end JR
end Part_JSetT
section Part_JSetT2
set_option Elab.async false
set_option linter.all false
set_option maxRecDepth 100000
set_option maxHeartbeats 4000000
/-! Adding a new tuple; the set as a tracked thing. -/
namespace JR
open PySem PySem.Spec PyProof.Rows L2
section
variable {P : Program} {w : World} {κ : Type} [DecidableEq κ] {knd : KeyKind P w κ} {A : Around} {E : Value → Shared → Prop} {s : Shared} {a : Addr} {L : List (Addr × List κ)} {es : Array (Int × Value)} {ep : Nat} {t : SetTable}
theorem fm_idx {α β : Type} (f : α → β) {l : List α} {bs : Array β} (h : bs.toList = l.map f) (is : List Nat) : is.filterMap (fun i => bs[i]?) = (is.filterMap fun i => l[i]?).map f := by
  rw [List.map_filterMap]
  congr 1
  funext i
  rw [← Array.getElem?_toList, h, List.getElem?_map]
theorem fm_hash {α : Type} (f : α → Int) {l : List α} {hs : Array Int} (h : hs.toList = l.map f) {is : List Nat} (hi : ∀ i ∈ is, i < l.length) : (is.filterMap fun i => l[i]?).map f = is.map fun i => hs.getD i 0 := by
  induction is with
  | nil => rfl
  | cons i is ih =>
    have h1 := hi i List.mem_cons_self
    rw [List.filterMap_cons_some (List.getElem?_eq_getElem h1), List.map_cons, List.map_cons, ih fun j hj => hi j (List.mem_cons_of_mem _ hj)]
    congr 1
    have e : hs[i]? = some (f l[i]) := by rw [← Array.getElem?_toList, h, List.getElem?_map, List.getElem?_eq_getElem h1]; rfl
    simp [Array.getD_eq_getD_getElem?, e]
theorem idx_range {α : Type} (l : List α) : (List.range l.length).filterMap (fun i => l[i]?) = l := by
  induction l with
  | nil => rfl
  | cons a l ih =>
    rw [List.length_cons, List.range_succ_eq_map, List.filterMap_cons]
    simp only [List.getElem?_cons_zero, List.filterMap_map]
    congr 1
/-- the table laid anew, for five tuples -/
theorem relay_new {o : Obj} (ho : s.heap.get? a = some o) (hex : o.ExactSet) (hd : o.data = .set es ep t) (hrows : es.toList = L.map fun p => (kh knd p.2, Value.ref p.1)) (hsz : t.place.size = es.size) (hdm : t.dummies = #[]) (hfl : es.size ≤ t.mask)
    (ld : w.params.followText "set-order" = true ∨ t.led = true) (h5 : L.length = 5) {Q : Unit → Shared → Prop}
    (hQ : ∀ g L' es' ep' t', Heap.SameBut a s.heap g → TSet knd g a L' es' ep' t' → L'.Perm L → Q () { s with heap := g }) : wpAny (model P w) A (setRelay a (SetTable.grown 5)) Q E s := by
  have hsl : es.size = 5 := by rw [size_of_rows hrows, h5]
  have hfits : t.fits es.size = true := by
    unfold SetTable.fits SetTable.fill
    rw [hdm, Bool.and_eq_true, beq_iff_eq, decide_eq_true_eq]
    show t.place.size = es.size ∧ t.place.size + 0 ≤ t.mask
    omega
  have ehs : (es.map (·.1)).toList = L.map fun p => kh knd p.2 := by
    rw [Array.toList_map, hrows, List.map_map]
    rfl
  obtain ⟨t', order, e, pm, T, em, el, epl, edm⟩ := relaid_ok t (hs := es.map (·.1)) (wanted := SetTable.grown 5) (M := 31) (by rw [size_20]) (.inr (.inl rfl)) (by rw [Array.size_map, hsl]; decide)
  rw [Array.size_map, hsl, ← h5] at pm
  have oi : ∀ i ∈ order.toList, i < L.length := fun i hi => List.mem_range.mp (pm.mem_iff.mp hi)
  obtain ⟨L2, eL2⟩ : ∃ L2, L2 = order.toList.filterMap fun i => L[i]? := ⟨_, rfl⟩
  have p2 : L2.Perm L := by
    rw [eL2]
    refine (pm.filterMap _).trans ?_
    rw [idx_range]
  have r1 : (order.filterMap (es[·]?)).toList = L2.map fun p => (kh knd p.2, Value.ref p.1) := by
    rw [Array.toList_filterMap, fm_idx _ hrows, eL2]
  rw [← fm_hash (fun p : Addr × List κ => kh knd p.2) ehs oi, ← eL2] at T
  have hs2 : (order.filterMap (es[·]?)).size = 5 := by rw [size_of_rows r1, p2.length_eq, h5]
  rw [setRelay_eq]
  refine wpAny_bind (wpAny_setState_of ho hd hfits ?_)
  dsimp only
  refine wp_if_neg (by rw [size_20, sizeLine_eq]; omega) ?_
  rw [e]
  dsimp only
  refine wpAny_bind ?_
  refine wp_if_neg (by rw [hs2, hsl]; simp) ?_
  refine wpAny_pure ?_
  dsimp only
  refine wpAny_storeSet_of ho hd ?_ (by rw [hs2, sizeLine_eq]; omega)
  refine hQ _ L2 (order.filterMap (es[·]?)) (ep + 1) t' (Heap.SameBut.update ..) ?_ p2
  exact ⟨⟨_, store_at ho hd, ⟨hex.1, hex.2.1, hex.2.2⟩, rfl⟩, r1, T, by rw [el]; exact ld, by rw [p2.length_eq, h5, em]; decide, by rw [p2.length_eq, h5]; decide⟩
/-- the table with or without its mark is the same -/
theorem tab_plain {t : SetTable} {hs : List Int} (T : TabOk t hs) : TabOk { t with plain := false } hs := ⟨T.ris, T.dm, T.sz, T.mok, T.bd, T.reach⟩
theorem add_new (M : Mild knd) (R : TSet knd s.heap a L es ep t) (tup : ∀ p ∈ L, IsTupleKey knd s.heap p.2 p.1) {x : Addr} {k : List κ} (hx : IsTupleKey knd s.heap k x) (hn : k ∉ L.map (·.2)) (hu : A.units < cLine) (few : L.length < 16) {Q : Bool → Shared → Prop}
    (hQ : ∀ g L' es' ep' t', Heap.SameBut a s.heap g → TSet knd g a L' es' ep' t' → L'.Perm ((x, k) :: L) → Q true { s with heap := g }) : wpAny (model P w) A (setAddHashed a (.ref x) (kh knd k)) Q E s := by
  obtain ⟨o, ho, hex, hd⟩ := R.ob
  have hsl := size_of_rows R.rows
  have hroom := R.room
  obtain ⟨K, hKf, hK, hKb⟩ := R.tab.first (by rw [List.length_map]; omega) (kh knd k)
  have big : K < 100000 := by
    have : 10 * SetTable.turns t.mask ≤ 1420 := by
      unfold SetTable.turns
      rcases R.tab.mok with e | e | e <;> omega
    omega
  unfold setAddHashed
  refine wpAny_holding ?_
  rw [show (100000 : Nat) = 99999 + 1 from rfl, setAddHashedIn_succ]
  refine wpAny_bind (wpAny_setState_of ho hd R.fits ?_)
  dsimp only
  refine wp_if_neg (by simp [byScan, Value.scannable]) ?_
  refine wpAny_bind ?_
  unfold setSearch
  refine search_new M R tup hx hn hu hKf hK hKb ?_ 100000 0 none rfl (Nat.zero_le _) (by omega)
  dsimp only
  refine wpAny_bind (wpAny_setState_of ho hd R.fits ?_)
  dsimp only
  obtain ⟨q1, q2, q3, q4, q5, q6, q7, q8, q9⟩ := R.tab.put hK hKb
  generalize hpt : t.put (way t.mask (kh knd k) K) = pt at q1 q3 q4 q5 q6 q7 q8 q9 ⊢
  obtain ⟨t1, p⟩ := pt
  dsimp only at q1 q3 q4 q5 q6 q7 q8 q9 ⊢
  subst q1
  generalize hpp : SetTable.below t.place (way t.mask (kh knd k) K) = p at q2 q3 ⊢
  obtain ⟨L1, eL1⟩ : ∃ L1, L1 = L.take p ++ (x, k) :: L.drop p := ⟨_, rfl⟩
  have pm : L1.Perm ((x, k) :: L) := by rw [eL1]; exact put_perm L p (x, k)
  have hlen : L1.length = L.length + 1 := pm.length_eq
  have hin : (SetTable.insertAt es p (kh knd k, Value.ref x)).toList = L1.map fun p => (kh knd p.2, Value.ref p.1) := by
    rw [SetTable.toList_insertAt, R.rows, eL1, List.map_append, List.map_cons, List.map_take, List.map_drop]
  have q3 : TabOk t1 (L1.map fun p => kh knd p.2) := by
    rw [eL1, List.map_append, List.map_cons, List.map_take, List.map_drop]
    exact q3
  have ld1 : w.params.followText "set-order" = true ∨ t1.led = true := by rw [q5]; exact R.led
  have hes := size_of_rows hin
  generalize SetTable.insertAt es p (kh knd k, Value.ref x) = es1 at hin hes ⊢
  -- behind the store
  have fin : ∀ t2 : SetTable, (t2 = t1 ∨ t2 = { t1 with plain := false }) → wpAny (model P w) A (do
      storeSet a es1 t2
      if (!false && t2.tooFull) = true then setRelay a (SetTable.grown (es.size + 1))
      pure true) Q E s := fun t2 ht2 => by
    have T2 : TabOk t2 (L1.map fun p => kh knd p.2) := by
      rcases ht2 with rfl | rfl
      · exact q3
      · exact tab_plain q3
    have m2 : t2.mask = t.mask := by rcases ht2 with rfl | rfl <;> exact q4
    have l2 : w.params.followText "set-order" = true ∨ t2.led = true := by rcases ht2 with rfl | rfl <;> exact ld1
    have f2 : t2.fill = L.length + 1 := by
      rw [List.length_map] at q9
      rcases ht2 with rfl | rfl <;> exact q9
    refine wpAny_bind (wpAny_storeSet_of ho hd ?_ (by rw [hes, hlen, sizeLine_eq]; omega))
    have sb : Heap.SameBut a s.heap (s.heap.update a (Obj.putSet es1 t2)) := Heap.SameBut.update ..
    have ho1 := store_at (es' := es1) (t' := t2) ho hd
    generalize s.heap.update a (Obj.putSet es1 t2) = h1 at sb ho1 ⊢
    have sz2 : t2.place.size = es1.size := by
      have h := T2.sz
      rw [List.length_map] at h
      rw [h, hes]
    by_cases hf : t2.tooFull = true
    · have full : (L.length + 1) * 5 ≥ t2.mask * 3 := by
        have h := hf
        unfold SetTable.tooFull at h
        rw [decide_eq_true_eq, f2] at h
        exact h
      have c5 : L.length = 4 := by
        rcases R.tab.mok with e | e | e <;> rw [m2, e] at full <;> rw [e] at hroom <;> omega
      have m7 : t.mask = 7 := by
        rcases R.tab.mok with e | e | e
        · exact e
        · rw [m2, e, c5] at full; omega
        · rw [m2, e, c5] at full; omega
      rw [hsl, c5]
      first
        | (refine wpAny_bind ?_; refine wp_if_pos (by simp [hf]) ?_)
        | (refine wp_if_pos (by simp [hf]) ?_; refine wpAny_bind ?_)
      refine relay_new (s := { s with heap := h1 }) ho1 ⟨hex.1, hex.2.1, hex.2.2⟩ rfl hin sz2 T2.dm (by rw [hes, hlen, m2, m7, c5]; decide) l2 (by rw [hlen, c5]) fun g L' es' ep' t' sb2 R2 pm2 => ?_
      exact wpAny_pure (hQ g L' es' ep' t' (sb.trans sb2) R2 (pm2.trans pm))
    · first
        | refine wp_if_neg (by simp [hf]) ?_
        | (refine wpAny_bind ?_; refine wp_if_neg (by simp [hf]) ?_; refine wpAny_pure ?_)
      refine wpAny_pure (hQ h1 L1 es1 (ep + 1) t2 sb ⟨⟨_, ho1, ⟨hex.1, hex.2.1, hex.2.2⟩, rfl⟩, hin, T2, l2, ?_, by rw [hlen]; omega⟩ pm)
      have h := hf
      unfold SetTable.tooFull at h
      rw [decide_eq_true_eq, f2] at h
      rw [hlen]
      omega
  by_cases hp1 : t1.plain = true
  · first
      | (refine wpAny_bind ?_; refine wp_if_pos hp1 ?_; refine hsh_tup M hx fun c => ?_)
      | refine wp_if_pos hp1 (wpAny_bind (hsh_tup M hx fun c => ?_))
    cases c with
    | true => exact fin t1 (.inl rfl)
    | false => exact fin _ (.inr rfl)
  · first
      | (refine wpAny_bind ?_; refine wp_if_neg hp1 ?_; refine wpAny_pure ?_)
      | refine wp_if_neg hp1 (wpAny_bind (wpAny_pure ?_))
    exact fin t1 (.inl rfl)
end
end JR
end Part_JSetT2
section Part_JSetT3
set_option Elab.async false
set_option linter.all false
set_option maxRecDepth 100000
set_option maxHeartbeats 4000000
namespace JR
open PySem PySem.Spec PyProof.Rows L2
/-- the set of tuples at a, as a tracked thing -/
structure TSet0 (P : Program) (w : World) (h : Heap) (a : Addr) (L : List (Addr × List Key)) : Prop where
  ex : ∃ es ep t, TSet (mixKind P w) h a L es ep t
def STO (P : Program) (w : World) (a : Addr) (L : List (Addr × List Key)) : HO := .ext fun h => TSet0 P w h a L
section
variable {P : Program} {w : World} {H : Hp} {h : Heap} {a : Addr} {L : List (Addr × List Key)}
theorem sto_new (R : TSet0 P w h a L) : ObjOk P w H h a (STO P w a L) := by
  have ⟨es, ep, t, R1⟩ := R.ex
  have ⟨o, ho, _⟩ := R1.ob
  refine ⟨R, ⟨o, ho⟩, fun h1 h2 p k => ?_⟩
  have ⟨es', ep', t', R2⟩ := TSet0.ex p
  have ⟨o', ho', r'⟩ := R2.ob
  exact ⟨es', ep', t', ⟨o', k o' ho', r'⟩, R2.rows, R2.tab, R2.led, R2.room, R2.few⟩
theorem sto_fresh (ho : h.get? a = some { cls := .type "set", dict := none, data := .set #[] 0 (.fresh 0 0 (!w.params.followText "set-order")) }) : TSet0 P w h a [] := by
  refine ⟨#[], 0, _, ⟨_, ho, ⟨rfl, rfl, rfl⟩, rfl⟩, rfl, ⟨List.Pairwise.nil, rfl, rfl, .inl rfl, (fun x hx => (by cases hx)), (fun i h j hi => (by simp at hi))⟩, ?_, by show 0 * 5 < 7 * 3; decide, Nat.zero_le _⟩
  show _ ∨ (!w.params.followText "set-order") = true
  cases w.params.followText "set-order"
  · exact .inr rfl
  · exact .inl rfl
end
section
variable {X : Cx} {pins : List (Addr × Obj)} {σ : L2.St} {H : Hp} {s : Shared}
/-- set.add of a new tuple -/
theorem sto_add {E : Value → Shared → Prop} {D b : Addr} {L : List (Addr × List Key)} {k : List Key} {Q : Value → Shared → Prop} (hu : X.A.units + 64 < cLine) (I : Inv X pins σ H s) (hD : H D = some (STO X.prog X.w D L)) (hL : ∀ p ∈ L, H p.1 = some (.tup (p.2.map kV))) (hb : H b = some (.tup (k.map kV)))
    (hn : k ∉ L.map (·.2)) (few : L.length < 16) (h : ∀ s' L', L'.Perm ((b, k) :: L) → Inv X pins σ (upd H D (STO X.prog X.w D L')) s' → Q .none s') : wpAny (model X.prog X.w) X.A (call (.builtin "set.add") [.ref D, .ref b]) Q E s := by
  obtain ⟨es, ep, t, R⟩ := (show TSet0 X.prog X.w s.heap D L from (I.hok D _ hD).1).ex
  have hx : IsTupleKey (mixKind X.prog X.w) s.heap k b := key_of I.hok hb
  have tup : ∀ p ∈ L, IsTupleKey (mixKind X.prog X.w) s.heap p.2 p.1 := fun p hp => key_of I.hok (hL p hp)
  obtain ⟨o, ho, hex, hd⟩ := R.ob
  have hT : s.TypeIs (.ref D) "set" := ⟨o, ho, hex.1⟩
  refine wpAny_call_entry F.slot_set_add hT F.entry_set_add ?_ (F.args_set_add_2 _ _)
  unfold Builtin.«set.add» Builtin.Frozenset.oneOther
  simp only [List.isEmpty_nil, bind_assoc]
  unfold Builtin.Frozenset.addrOf setAdd
  refine wpAny_bind (wpAny_pure ?_)
  try dsimp only
  refine wpAny_bind (wpAny_pure ?_)
  try dsimp only
  refine wpAny_bind ?_
  refine wpAny_holding ?_
  refine wpAny_bind (wpAny_pyHash_tuple (by show X.A.units + _ < cLine; omega) hx ?_)
  refine add_new (s := { s with toks := s.toks + (k.length + 1) }) mild_mix R tup hx hn (by show X.A.units + _ < cLine; omega) few fun g L' es' ep' t' sb R' pm => ?_
  show wpAny _ _ (ret Value.none) _ _ _
  refine wpAny_pure ⟨_, rfl, h _ L' pm ?_⟩
  have he : ∃ u, g.get? D = some u := by
    have ⟨o', ho', _⟩ := R'.ob
    exact ⟨o', ho'⟩
  exact I.write (e := D) (t' := s.toks + (k.length + 1)) (by rw [hD]; trivial) (.inl rfl) (fun b u hb hu => (sb.2 b hb).trans hu) he (sto_new ⟨_, _, _, R'⟩)
/-- len of such a set -/
def rLenT (P : Program) (w : World) : List V → Hp → VK → Prop := fun vs H Q => ∃ (a : Addr) (L : List (Addr × List Key)), vs = [.ref a] ∧ H a = some (STO P w a L) ∧ Q (.int (L.length : Int)) H
theorem cr_lenT : CallR X (.builtin "len") (rLenT X.prog X.w) := by
  intro pins s σ H vs us Q I r h
  obtain ⟨a, L, rfl, ha, q⟩ := h
  rw [Vals.ref1 r]
  obtain ⟨es, ep, t, R⟩ := (show TSet0 X.prog X.w s.heap a L from (I.hok a _ ha).1).ex
  obtain ⟨o, ho, hex, hd⟩ := R.ob
  have hs := size_of_rows R.rows
  have hf := R.few
  exact call_len_set ho hex hd R.fits (by rw [hs]; omega) ⟨.int (L.length : Int), H, I.tok _, ⟨_, by rw [hs]⟩, q⟩
/-- {elt for target in iter if ..}, elt a tuple that is new to the set -/
def tScT (P : Program) (w : World) (wi : TI) (g : TG) (tt : TT) (te : TE) (vs : List Nat) : TE := fun σ H Q => wi σ H fun J H1 => ∀ D, H1 D = none → ∃ W : Nat → Nat → Hp → Prop, (∃ m, W 0 m (upd H1 D (STO P w D []))) ∧ ∀ i m H, W i m H →
  (J.stop i H ∧ Q (.ref D) H) ∨ (J.go i H ∧ ∃ Nx : Hp → Prop, (∀ H', Nx H' → ∃ m', m' < m ∧ W (i + 1) m' H') ∧ ∀ x H', J.yld i H x H' → g x (wipe σ vs) H' fun σ2 H2 => wipe σ2 vs = wipe σ vs ∧ tt σ2 H2 fun b H3 =>
    if b = true then te σ2 H3 fun y H4 => ∃ (k : List Key) (p : Addr) (L : List (Addr × List Key)), y = .ref p ∧ H4 p = some (.tup (k.map kV)) ∧ H4 D = some (STO P w D L) ∧ (∀ q ∈ L, H4 q.1 = some (.tup (q.2.map kV))) ∧ k ∉ L.map (·.2) ∧ L.length < 16 ∧ ∀ L', L'.Perm ((p, k) :: L) → Nx (upd H4 D (STO P w D L')) else Nx H3)
theorem pe_scT {ex tg iter : Expr} {ifs : List Expr} {scope : Scope} {own : List (Str × Nat)} {pos : Pos} {wi : TI} {g : TG} {tt : TT} {te : TE} (hu : X.A.units + 64 < cLine) (hc : X.calm = true) (hN : X.N.Nodup) (hi : PI X tg iter wi) (ok : BlkOk X.N X.env.scope scope own)
    (hg : ∀ (s : Shared) (H : Hp) (C : Addr) (cl : List (Str × Addr)) (fp : List Addr), PG (X.blk s H scope (compEnvC scope cl C X.env) fp) tg g) (ht : ∀ (s : Shared) (H : Hp) (C : Addr) (cl : List (Str × Addr)) (fp : List Addr), PTs (X.blk s H scope (compEnvC scope cl C X.env) fp) ifs tt)
    (he : ∀ (s : Shared) (H : Hp) (C : Addr) (cl : List (Str × Addr)) (fp : List Addr), PE (X.blk s H scope (compEnvC scope cl C X.env) fp) ex te) (hs : ∀ x, foldedSetIterable iter X.env x = pure x := by intro _; rfl) :
    PE X (.SetComp ex [⟨tg, iter, ifs, 0⟩] scope pos) (tScT X.prog X.w wi g tt te (own.map (·.2))) := by
  refine ⟨fun pins s σ H Q I h => ?_⟩
  rw [PpSet.eval_SetComp]
  have free : ∀ y ∈ scope.names, y.2 = .free → ∃ c, X.env.cells.lookup y.1 = some c := fun y hy e => (ok.free y hy e).elim (fun k => I.ok.has _ (.inl k)) fun k => I.ok.has _ (.inr k)
  refine wpAny_comprehension_free (use := none) rfl hs (closure_ok free) ok.kind (fun y hy e => by rw [ok.uniq y hy, e]) (thn (hi.run pins s σ H _ I h) fun xv s1 hx => thn hx fun itv s2 h2 => ?_)
  obtain ⟨it, fp, tn, J, H2, rfl, I2, T, st2, f2, q⟩ := h2
  refine PpSet.newSet_ok (newEnv_comp ?_)
  obtain ⟨D, hD⟩ : ∃ D, D = s2.heap.objs.size := ⟨_, rfl⟩
  rw [← hD]
  have hDn : H2 D = none := I2.hok.fresh (by rw [hD]; exact Nat.le_refl _)
  obtain ⟨W, ⟨m0, w0⟩, turn⟩ := q D hDn
  obtain ⟨s3, e3⟩ : ∃ s3 : Shared, s3 = { s2 with heap := s2.heap.push (fresh0 X.w) } := ⟨_, rfl⟩
  have h3 : s3.heap = s2.heap.push (fresh0 X.w) := by rw [e3]
  obtain ⟨H3, eH3⟩ : ∃ H3, H3 = upd H2 D (STO X.prog X.w D []) := ⟨_, rfl⟩
  rw [← eH3] at w0
  have I3 : Inv X pins σ H3 s3 := by
    rw [e3, eH3]
    exact I2.laid (t' := s2.toks) (fun b o e => Heap.get?_push_of_some _ e) (by rw [hD]; exact Nat.le_refl _) (sto_new (sto_fresh (by rw [hD]; exact Heap.get?_push_size _ rfl)))
  have small : ∀ b ∈ fp, b < s2.heap.objs.size := fun b hb => by
    obtain ⟨o, e, _⟩ := T.obj _ _ st2 b hb
    exact Heap.lt_size e
  have f3 : ∀ b ∈ fp, FpOk X pins H3 b ∧ b < s3.heap.objs.size := fun b hb => by
    have hlt := small b hb
    refine ⟨⟨?_, (f2 b hb).2⟩, by rw [h3, Heap.size_push]; exact Nat.lt_succ_of_lt hlt⟩
    rw [eH3, upd_ne (by rw [hD]; exact Nat.ne_of_lt hlt)]
    exact (f2 b hb).1
  have st3 : tn 0 s3.heap := T.keep _ _ _ st2 fun b _ o e => by rw [h3]; exact Heap.get?_push_of_some _ e
  have I4 := block_start I3 ok hN f3
  obtain ⟨ce, ece⟩ : ∃ ce, ce = compEnvC scope (cellsFrom (s3.heap.objs.size + 1) scope.names (cloFrom X.env.cells scope.names [])) s3.heap.objs.size X.env := ⟨_, rfl⟩
  have pg := hg s3 H3 s3.heap.objs.size (cellsFrom (s3.heap.objs.size + 1) scope.names (cloFrom X.env.cells scope.names [])) fp
  have pt := ht s3 H3 s3.heap.objs.size (cellsFrom (s3.heap.objs.size + 1) scope.names (cloFrom X.env.cells scope.names [])) fp
  have pe := he s3 H3 s3.heap.objs.size (cellsFrom (s3.heap.objs.size + 1) scope.names (cloFrom X.env.cells scope.names [])) fp
  rw [← ece] at I4 pg pt pe
  have cL : ce.locals = s3.heap.objs.size := by rw [ece]; rfl
  show codeAny _ _ (.compStart (.SetComp ex [⟨tg, iter, ifs, 0⟩] scope pos) 0 (.ref it) (.ref D) (compEnvC scope (cellsFrom ((s2.heap.push (fresh0 X.w)).objs.size + 1) scope.names (cloFrom X.env.cells scope.names [])) (s2.heap.push (fresh0 X.w)).objs.size X.env)) _ _
  rw [← h3, ← ece]
  obtain ⟨s4, e4⟩ : ∃ s4 : Shared, s4 = { s3 with heap := pushCells (s3.heap.push { cls := .type "dict", data := .dict #[] }) scope.names } := ⟨_, rfl⟩
  have e4' : ({ s2 with heap := pushCells (s3.heap.push { cls := .type "dict", data := .dict #[] }) scope.names } : Shared) = s4 := by rw [e4, e3]
  rw [← e4] at I4
  rw [e4']
  have st4 : tn 0 s4.heap := T.keep _ _ _ st3 fun b _ o e => by rw [e4]; exact pushCells_keeps _ _ _ _ (Heap.get?_push_of_some _ e)
  have stat : ∀ {σ' : L2.St} {H' : Hp} {s' : Shared}, Inv (X.blk s3 H3 scope ce fp) [] σ' H' s' → (∀ b ∈ fp, H' b = none) → ∀ b ∈ fp, FpOk (X.blk s3 H3 scope ce fp) [] H' b := fun {σ' H' s'} I' hn b hb =>
    ⟨hn b hb, (I'.ok.exf b hb).1, I'.ok.exfs b hb, .inl hb, fun x c e => (I'.ok.exf b hb).2 x c e, fun p hp => absurd (show p ∈ ([] : List (Addr × Obj)) ++ [] from hp) (by simp)⟩
  have nfp : ∀ b ∈ fp, H3 b = none := fun b hb => (f3 b hb).1.1
  refine PpSet.codeAny_compStart_set (?loop : codeAny (model X.prog X.w) X.A (.compLoop (.SetComp ex [⟨tg, iter, ifs, 0⟩] scope pos) 0 (.ref it) (.ref D) ce) _ s4) (T.self X.A 0 _ _ _ st4 ?loop)
  refine PpSet.compLoopS_any (fun n s' => ∃ i H', Inv (X.blk s3 H3 scope ce fp) [] (wipe σ (own.map (·.2))) H' s' ∧ tn i s'.heap ∧ (∀ b ∈ fp, H' b = none) ∧ W i n H') ?_ m0 ⟨0, H3, I4, st4, nfp, w0⟩
  rintro n s5 ⟨i, H5, I5, st5, n5, w5⟩
  rcases turn i n H5 w5 with ⟨stop, qq⟩ | ⟨go, Nx, hNx, step⟩
  · refine thnF (T.done (X.blk s3 H3 scope ce fp) rfl rfl rfl hc i [] s5 _ H5 (fun _ _ => False) I5 (stat I5 n5) st5 stop) fun r s6 ⟨hr, I6⟩ => ?_
    subst hr
    have I7 : Inv X pins σ H5 s6 := I3.call' (ch := fp) I6.os I6.base I6.hok I6.bare fun b hb => ⟨(f3 b hb).1.2.2.2.1, (f3 b hb).1.2.1, (f3 b hb).1.2.2.2.2.1, (f3 b hb).1.2.2.2.2.2⟩
    have nC : H5 s3.heap.objs.size = none := by
      have z : H5 ce.locals = none := I6.free
      rwa [cL] at z
    obtain ⟨m, hn, _⟩ := I6.loc
    have hn : s6.heap.Ns ce.locals m := hn
    rw [cL] at hn
    obtain ⟨f0, f1, _, g3, g4, g5⟩ := I3.fpOk (Nat.le_refl _) nC
    exact ⟨m, hn, fun h'' sb => ⟨.ref D, H5, I7.turned (t' := s6.toks) (fun b o hb e => (sb.2 b hb).trans e) f0 f1 g3 g4 g5, rfl, qq⟩⟩
  · refine thnF (T.item (X.blk s3 H3 scope ce fp) rfl rfl rfl hc i [] s5 _ H5 (fun _ _ => False) I5 (stat I5 n5) st5 go) fun r s6 ⟨u, hr, h6⟩ => ?_
    subst hr
    refine thnF h6 fun _ s7 ⟨x, H7, I7, r7, y7, st7, n7⟩ => ?_
    have I7' := I7.pinned (stat I7 n7) (T.obj _ _ st7)
    refine thnF (pg.run _ s7 _ H7 x u _ I7' r7 (step x H7 y7)) fun _ s8 ⟨σ8, H8, I8, hw8, q8⟩ => ?_
    refine thnF (pt.run _ s8 σ8 H8 _ I8 q8) fun b s9 ⟨H9, I9, q9⟩ => ?_
    have fin : ∀ {s' : Shared} {H' : Hp}, Inv (X.blk s3 H3 scope ce fp) ([] ++ pinsAt fp s7.heap) σ8 H' s' → Nx H' → ∃ m, m < n ∧ ∃ i H', Inv (X.blk s3 H3 scope ce fp) [] (wipe σ (own.map (·.2))) H' s' ∧ tn i s'.heap ∧ (∀ b ∈ fp, H' b = none) ∧ W i m H' := fun {s' H'} I' nx => by
      obtain ⟨m', hm, w'⟩ := hNx H' nx
      have pin' : ∀ b ∈ fp, ∀ o, s7.heap.get? b = some o → s'.heap.get? b = some o ∧ H' b = none := fun b hb o e => by
        obtain ⟨z1, z2, _⟩ := I'.pin (b, o) (List.mem_append_right _ (List.mem_append_right _ (mem_pinsAt hb e)))
        exact ⟨z1, z2⟩
      have hl : (wipe σ (own.map (·.2))).length = σ8.length := by rw [← hw8, wipe_length]
      refine ⟨m', hm, i + 1, H', (I'.unpinned (pins := [])).weak hl (fun j v e => ?_), T.keep _ _ _ st7 fun b hb o e => (pin' b hb o e).1, fun b hb => ?_, w'⟩
      · rw [← hw8] at e
        exact (wipe_some e).1
      · obtain ⟨o, e, _⟩ := T.obj _ _ st7 b hb
        exact (pin' b hb o e).2
    cases b with
    | false =>
      simp only [Bool.false_eq_true, if_false] at q9 ⊢
      exact fin I9 q9
    | true =>
      simp only [if_true] at q9 ⊢
      refine thnF (pe.run _ s9 σ8 H9 _ I9 q9) fun z s10 ⟨yv, H10, I10, r10, k, p, L, ey, hp10, hD10, hL10, hn10, few10, nx⟩ => ?_
      subst ey
      obtain rfl : z = Value.ref p := r10
      exact sto_add (X := X.blk s3 H3 scope ce fp) hu I10 hD10 hL10 hp10 hn10 few10 fun s11 L' pm I11 => fin I11 (nx L' pm)
end
end JR
end Part_JSetT3
section Part_JD6
set_option Elab.async false
set_option linter.all false
set_option maxRecDepth 100000
set_option maxHeartbeats 4000000
namespace JD
open PySem PySem.Spec PyProof.Rows L2 JR JX JT
open Evl (Ex)
section
variable {P : Program} {w : World} {K : PySem.W.Frag} {mg : Str → Option Value} {base : Heap}
/-! ### machines -/
theorem bools_eq {H : Hp} : ∀ {xs : List V} {bs : List Bool}, Ls H (fun b : Bool => PyData.bool b) xs bs → xs = bs.map V.bl
  | _, _, .nil => rfl
  | _, _, .cons h r => by rw [List.map_cons, ← bools_eq r, show _ = V.bl _ from h]
abbrev names5 : List Str := ["start", "b", "wobble", "z", "apex"]
theorem name_len {x : Str} (h : x ∈ names5) : 1 ≤ x.length ∧ x.length ≤ 12 := by
  have : (names5.all fun x => decide (1 ≤ x.length ∧ x.length ≤ 12)) = true := by decide +kernel
  exact of_decide_eq_true (List.all_eq_true.mp this x h)
theorem name_let {x : Str} (h : x ∈ names5) {c : Nat} (hc : c ∈ x.cps.toList) : c ∈ ("abcdefghijklmnopqrstuvwxyz" : Str).cps.toList := by
  have : (names5.all fun x => x.cps.toList.all fun c => decide (c ∈ ("abcdefghijklmnopqrstuvwxyz" : Str).cps.toList)) = true := by decide +kernel
  exact of_decide_eq_true (List.all_eq_true.mp (List.all_eq_true.mp this x h) c hc)
def sp_is_name : Sp := fun vs H Q _ => ∃ x : Str, vs = [.str x] ∧ x ∈ names5 ∧ ∀ H', Ex H H' → Q (.bl true) H'
abbrev N_is_name : List Str := ["thing", "letter"]
theorem sc_is_name : FnScope N_is_name ["thing"] (defScope s_is_name) := ⟨rfl, rfl, rfl, by decide +kernel, rfl, by decide +kernel, by decide +kernel⟩
theorem ok_is_name (T : Txt K mg) : DefOk P w K mg base 1 (He.ga K "is_name") ["thing"] sp_is_name := by
  obtain ⟨fd, F⟩ := T.d_is_name
  refine ⟨fd, F.ok sc_is_name (fun vs H Q E h => ?_) (fun cdv A outer s H vs Q E hr h => ?_), F.kp, F.bindsN fun _ _ _ _ _ _ us hl => match us, hl with | [_], _ => rfl⟩
  · obtain ⟨x, rfl, hx, k⟩ := h
    rfl
  have hu := hu_of hr
  have nd := sc_is_name.nd
  obtain ⟨x, rfl, hx, k⟩ := h
  refine ⟨_, (PSs.nox (pss_one (ps_ret (pe_and (pe_callB call_isi (by rfl) T.b_isinstance rfl (pa_cons (pv 0) (pa_cons (pe_bltn (v := .ty "str") rfl T.b_str rfl rfl) pa_nil))) (pe_and (pe_chain op_le op_le pe_int (pe_callB call_len_str (by rfl) T.b_len rfl (pa_cons (pv 0) pa_nil)) pe_int) (pe_one (pe_callB (cr_all rfl) (by rfl) T.b_all rfl (pa_cons (pe_lc (own := [("letter", 1)]) (g := (gName 1)) (tt := tYes) rfl nd (pi_str (pv 0)) (blkOk_by (N := N_is_name) (sc := defScope s_is_name) (by decide +kernel)) (fun _ _ _ _ _ => (pg_name (i := 1) nd rfl (by first | exact Or.inl rfl | exact Or.inr rfl))) (fun _ _ _ _ _ => pts_nil) (fun _ _ _ _ _ => (pe_cmpR op_in_sign (pv 1) (pe_glob (v := .str "abcdefghijklmnopqrstuvwxyz") rfl T.i_LETTERS.choose_spec ⟨_, rfl⟩) rfl))) pa_nil)))))))), ?_⟩
  have hl := name_len hx
  refine ⟨_, rfl, .str x, .ty "str", _, _, true, rfl, .ty _, .base (.str x), kit_ty (by decide +kernel), true, rfl, iteT ?_⟩
  refine ⟨_, rfl, x, rfl, Evl.sz_of (by omega), _, _, rfl, rfl, _, rfl, ?_⟩
  rw [decide_eq_true (by omega)]
  refine ⟨_, _, rfl, rfl, true, congrArg V.bl (decide_eq_true (by omega)), iteT ?_⟩
  refine ⟨_, rfl, x, rfl, fun D hD => ?_⟩
  refine lc_ls (enc := fun b : Bool => PyData.bool b) relEx walk_str (fun i => (x.cps[i]?).map fun c => decide (c ∈ ("abcdefghijklmnopqrstuvwxyz" : Str).cps.toList)) hD True.intro (Evl.sz_lt (by have : x.cps.size = x.length := rfl; omega)) (fun H2 e2 _ => True.intro) ?_ ?_
  · rintro i v F F' hi e2 t2 ⟨rfl, c, hc, rfl⟩ Go Sk go sk
    exact ⟨rfl, yes_go ⟨_, rfl, c, _, rfl, rfl, go _ _ _ (by rw [hc]; rfl) (Ex.refl _) (Tups.refl _) rfl⟩⟩
  · intro F ys e2 t2 hD2 hy
    have hb : ys = ((List.range x.cps.size).filterMap fun i => (x.cps[i]?).map fun c => decide (c ∈ ("abcdefghijklmnopqrstuvwxyz" : Str).cps.toList)).map V.bl := by
      exact bools_eq hy
    refine ⟨D, _, rfl, SqL.of (by rw [hD2, hb]), ?_⟩
    have al : ((List.range x.cps.size).filterMap fun i => (x.cps[i]?).map fun c => decide (c ∈ ("abcdefghijklmnopqrstuvwxyz" : Str).cps.toList)).all id = true := by
      rw [List.all_eq_true]
      intro b hb
      obtain ⟨i, _, hi⟩ := List.mem_filterMap.mp hb
      obtain ⟨c, hc, rfl⟩ := Option.map_eq_some_iff.mp hi
      exact decide_eq_true (name_let hx (by rw [← Array.getElem?_toList] at hc; exact List.mem_of_getElem? hc))
    rw [al]
    exact k _ e2
abbrev Rul := Str × Int × Str
def encRul (r : Rul) : PyData := .tuple [.str r.1, .int r.2.1, .str r.2.2]
theorem rul_get {H : Hp} {v : V} {p : Rul} (h : Im H v (encRul p)) : ∃ a, v = .ref a ∧ H a = some (.tup [.str p.1, .int p.2.1, .str p.2.2]) := by
  obtain ⟨a, xs, rfl, ha, h2⟩ := h
  obtain ⟨x, r, rfl, rfl, y, r2, rfl, rfl, z, r3, rfl, rfl, rfl⟩ := h2
  exact ⟨a, rfl, ha⟩
theorem rul_mk {H : Hp} {a : Addr} {x y : Str} {i : Int} (h : H a = some (.tup [.str x, .int i, .str y])) : Im H (.ref a) (encRul (x, i, y)) := ⟨a, _, rfl, h, _, _, rfl, rfl, _, _, rfl, rfl, _, _, rfl, rfl, rfl⟩
/-- a dict of lists of rules, by states -/
abbrev Tab := List (Str × List Rul)
def TabAt (H : Hp) (d : Addr) (In : Tab) : Prop := ∃ kvs : List (Key × V), H d = some (.dK kvs) ∧ Paired (fun (kv : Key × V) (q : Str × List Rul) => kv.1 = Sum.inr q.1 ∧ ∃ r xs, kv.2 = .ref r ∧ H r = some (.lst xs) ∧ Ls H encRul xs q.2) kvs In
theorem tab_valV {H : Hp} {kvs : List (Key × V)} {In : Tab} (h : Paired (fun (kv : Key × V) (q : Str × List Rul) => kv.1 = Sum.inr q.1 ∧ ∃ r xs, kv.2 = .ref r ∧ H r = some (.lst xs) ∧ Ls H encRul xs q.2) kvs In) (nd : (In.map (·.1)).Nodup) {q : Str × List Rul} (hq : q ∈ In) :
    ∃ r xs, valV kvs (Sum.inr q.1) = some (.ref r) ∧ H r = some (.lst xs) ∧ Ls H encRul xs q.2 := by
  induction h with
  | nil => cases hq
  | @cons kv b kvs In h1 _ ih =>
    rw [List.map_cons, List.nodup_cons] at nd
    obtain ⟨e, r, xs, e2, h2, h3⟩ := h1
    rcases List.mem_cons.mp hq with rfl | hq
    · exact ⟨r, xs, by rw [valV_pos e, e2], h2, h3⟩
    · obtain ⟨r', xs', g1, g2⟩ := ih nd.2 hq
      refine ⟨r', xs', ?_, g2⟩
      rw [valV_neg (p := kv) (fun z => nd.1 ?_)]
      · exact g1
      · rw [e] at z
        rw [Sum.inr.inj z]
        exact List.mem_map_of_mem hq
structure InF (N : Int) (In : Tab) : Prop where
  lo : 2 ≤ N
  hi : N ≤ 360
  nd : (In.map (·.1)).Nodup
  nm : ∀ q ∈ In, q.1 ∈ names5
  st : ("start" : Str) ∈ In.map (·.1)
  len : In.length ≤ 5
  rl : ∀ q ∈ In, q.2.length ≤ 8 ∧ (∀ r ∈ q.2, IsW r.1 ∧ r.2.2 ∈ In.map (·.1)) ∧ (q.2.map fun r => (r.1, r.2.1 % N)).Nodup
def sp_is_rule : Sp := fun vs H Q _ => ∃ (a d : Addr) (r : Rul) (kvs : List (Key × V)), vs = [.ref a, .ref d] ∧ H a = some (.tup [.str r.1, .int r.2.1, .str r.2.2]) ∧ H d = some (.dK kvs) ∧ IsW r.1 ∧ (valV kvs (Sum.inr r.2.2)).isSome = true ∧ Q (.bl true) H
abbrev N_is_rule : List Str := ["thing", "states"]
theorem sc_is_rule : FnScope N_is_rule ["thing", "states"] (defScope s_is_rule) := ⟨rfl, rfl, rfl, by decide +kernel, rfl, by decide +kernel, by decide +kernel⟩
theorem ok_is_rule (T : Txt K mg) : DefOk P w K mg base 2 (He.ga K "is_rule") ["thing", "states"] sp_is_rule := by
  obtain ⟨fd, F⟩ := T.d_is_rule
  obtain ⟨fd_is_integer, G_is_integer, kp_is_integer, b_is_integer⟩ := ok_is_integer (P := P) (w := w) (base := base) T
  obtain ⟨fd_is_word, G_is_word, kp_is_word, b_is_word⟩ := ok_is_word (P := P) (w := w) (base := base) T
  refine ⟨fd, F.ok sc_is_rule (fun vs H Q E h => ?_) (fun cdv A outer s H vs Q E hr h => ?_), F.kp, F.bindsN fun _ _ _ _ _ _ us hl => match us, hl with | [_, _], _ => rfl⟩
  · obtain ⟨a, d, r, kvs, rfl, ha, hd, hw, hg, k⟩ := h
    rfl
  have hu := hu_of hr
  have nd := sc_is_rule.nd
  obtain ⟨a, d, r, kvs, rfl, ha, hd, hw, hg, k⟩ := h
  refine ⟨_, (PSs.nox (pss_cons (ps_if (PW.pt (pw_or (pt_not (pt_val (pe_callB call_isi (by rfl) T.b_isinstance rfl (pa_cons (pv 0) (pa_cons (pe_bltn (v := .ty "tuple") rfl T.b_tuple rfl rfl) pa_nil))))) (pw_or1 (pt_cmpR op_ne (pe_callB call_len_seq (by rfl) T.b_len rfl (pa_cons (pv 0) pa_nil)) pe_int (nomark _))))) (pss_one (ps_ret pe_bl)) pss_nil)
  (pss_one (ps_ret (pe_and (pe_call G_is_word (hr.mono (by decide)) rfl T.g_is_word kp_is_word b_is_word .nil pass0 (pa_cons (pe_ix (ix_tupK K) (pv 0) pe_int (fun _ _ => rfl)) pa_nil)) (pe_and (pe_call G_is_integer (hr.mono (by decide)) rfl T.g_is_integer kp_is_integer b_is_integer .nil pass0 (pa_cons (pe_ix (ix_tupK K) (pv 0) pe_int (fun _ _ => rfl)) pa_nil)) (pe_and (pe_callB call_isi (by rfl) T.b_isinstance rfl (pa_cons (pe_ix (ix_tupK K) (pv 0) pe_int (fun _ _ => rfl)) (pa_cons (pe_bltn (v := .ty "str") rfl T.b_str rfl rfl) pa_nil))) (pe_one (pe_cmp (pc_din hu (pe_ix (ix_tupK K) (pv 0) pe_int (fun _ _ => rfl)) (pv 1))))))))))), ?_⟩
  have hT : SqT K H a [.str r.1, .int r.2.1, .str r.2.2] := SqT.of ha
  refine ⟨_, rfl, .ref a, .ty "tuple", _, _, true, rfl, .ty _, .base (.tup ha), kit_ty (by decide +kernel), true, rfl, iteF ?_⟩
  refine ⟨_, rfl, a, _, rfl, .inr hT, rfl, _, rfl, iteF ?_⟩
  refine ⟨_, rfl, a, _, _, _, rfl, rfl, hT, atI_nat rfl, r.1, rfl, hw, true, rfl, iteT ?_⟩
  refine ⟨_, rfl, a, _, _, _, rfl, rfl, hT, atI_nat rfl, r.2.1, rfl, true, rfl, iteT ?_⟩
  refine ⟨_, rfl, a, _, _, _, rfl, rfl, hT, atI_nat (j := 2) rfl, .str r.2.2, .ty "str", _, _, true, rfl, .ty _, .base (.str _), kit_ty (by decide +kernel), true, rfl, iteT ?_⟩
  refine ⟨_, rfl, a, _, _, _, rfl, rfl, hT, atI_nat (j := 2) rfl, _, rfl, d, _, rfl, DGet.k (k := Sum.inr r.2.2) hd, ?_⟩
  rw [hg]
  exact k
/-- the rule as the machine keeps it -/
abbrev red (N : Int) (r : Rul) : Rul := (r.1, r.2.1 % N, r.2.2)
def sp_checked_rules : Sp := fun vs H Q _ => ∃ (d : Addr) (N : Int) (In : Tab) (q : Str × List Rul), vs = [.int N, .ref d, .str q.1] ∧ TabAt H d In ∧ InF N In ∧ q ∈ In ∧
  ∀ H' p ys (rs : List Rul), Ex H H' → H' p = some (.lst ys) → Ls H' encRul ys rs → rs.Perm (q.2.map (red N)) → Q (.ref p) H'
theorem valV_some {kvs : List (Key × V)} {k : Key} (h : k ∈ kvs.map (·.1)) : (valV kvs k).isSome = true := by
  unfold valV
  rw [Option.isSome_map, List.find?_isSome]
  obtain ⟨p, hp, e⟩ := List.mem_map.mp h
  exact ⟨p, hp, decide_eq_true e⟩
theorem tab_keys0 {H : Hp} {kvs : List (Key × V)} {In : Tab} (h : Paired (fun (kv : Key × V) (q : Str × List Rul) => kv.1 = Sum.inr q.1 ∧ ∃ r xs, kv.2 = .ref r ∧ H r = some (.lst xs) ∧ Ls H encRul xs q.2) kvs In) : kvs.map (·.1) = (In.map (·.1)).map Sum.inr := by
  induction h with
  | nil => rfl
  | cons h _ ih => rw [List.map_cons, List.map_cons, List.map_cons, ih, h.1]
theorem shape_rul : Shape encRul := ⟨fun _ _ => rfl, .inl fun b => ⟨_, _, rfl⟩, fun b => by simp [encRul, PyData.depth, PyData.depthAll]⟩
section
variable {J : It} {n : Nat} {G : Hp → Prop} {Y : Nat → Hp → V → Hp → Prop}
/-- a set comprehension over a walk -/
theorem scT_it {P : Program} {w0 : World} (w : Walk J n G Y) {g : TG} {tt : TT} {te : TE} {vs : List Nat} {σ : L2.St} {H1 : Hp} {D : Addr} {Qd : Hp → Prop} (Pv : Nat → Hp → Prop) (h0 : Pv 0 (upd H1 D (STO P w0 D []))) (hG : ∀ i H, i ≤ n → Pv i H → G H)
    (hs : ∀ i x H H', i < n → Pv i H → Y i H x H' → g x (wipe σ vs) H' fun σ2 H2 => wipe σ2 vs = wipe σ vs ∧ tt σ2 H2 fun b H3 =>
      if b = true then te σ2 H3 fun y H4 => ∃ (k : List Key) (p : Addr) (L : List (Addr × List Key)), y = .ref p ∧ H4 p = some (.tup (k.map kV)) ∧ H4 D = some (STO P w0 D L) ∧ (∀ q ∈ L, H4 q.1 = some (.tup (q.2.map kV))) ∧ k ∉ L.map (·.2) ∧ L.length < 16 ∧ ∀ L', L'.Perm ((p, k) :: L) → Pv (i + 1) (upd H4 D (STO P w0 D L')) else Pv (i + 1) H3) (hd : ∀ H, Pv n H → Qd H) :
    ∃ W : Nat → Nat → Hp → Prop, (∃ m, W 0 m (upd H1 D (STO P w0 D []))) ∧ ∀ i m H, W i m H →
      (J.stop i H ∧ Qd H) ∨ (J.go i H ∧ ∃ Nx : Hp → Prop, (∀ H', Nx H' → ∃ m', m' < m ∧ W (i + 1) m' H') ∧ ∀ x H', J.yld i H x H' → g x (wipe σ vs) H' fun σ2 H2 => wipe σ2 vs = wipe σ vs ∧ tt σ2 H2 fun b H3 =>
        if b = true then te σ2 H3 fun y H4 => ∃ (k : List Key) (p : Addr) (L : List (Addr × List Key)), y = .ref p ∧ H4 p = some (.tup (k.map kV)) ∧ H4 D = some (STO P w0 D L) ∧ (∀ q ∈ L, H4 q.1 = some (.tup (q.2.map kV))) ∧ k ∉ L.map (·.2) ∧ L.length < 16 ∧ ∀ L', L'.Perm ((p, k) :: L) → Nx (upd H4 D (STO P w0 D L')) else Nx H3) := by
  refine ⟨fun i m H => m = n - i ∧ i ≤ n ∧ Pv i H, ⟨n, by simp, Nat.zero_le _, h0⟩, ?_⟩
  rintro i m H ⟨rfl, hi, p⟩
  have q := hG i H hi p
  by_cases hlt : i < n
  · exact .inr ⟨w.goes i H hlt q, Pv (i + 1), fun H' p' => ⟨n - (i + 1), by omega, rfl, hlt, p'⟩, fun x H' y => hs i x H H' hlt p (w.yields i H x H' hlt q y)⟩
  · have e : i = n := by omega
    subst e
    exact .inl ⟨w.stops H q, hd H p⟩
end
/-- the key of a rule in the set -/
abbrev rkey (r : Rul) : List Key := [Sum.inr r.1, Sum.inl r.2.1]
abbrev N_checked_rules : List Str := ["around", "rows", "state", "rules", "rule", "made", "word", "turn", "goal"]
theorem sc_checked_rules : FnScope N_checked_rules ["around", "rows", "state"] (defScope s_checked_rules) := ⟨rfl, rfl, rfl, by decide +kernel, rfl, by decide +kernel, by decide +kernel⟩
theorem ok_checked_rules (T : Txt K mg) : DefOk P w K mg base 5 (He.ga K "checked_rules") ["around", "rows", "state"] sp_checked_rules := by
  obtain ⟨fd, F⟩ := T.d_checked_rules
  obtain ⟨fd_is_row, G_is_row, kp_is_row, b_is_row⟩ := ok_is_row (P := P) (w := w) (base := base) T
  obtain ⟨fd_is_rule, G_is_rule, kp_is_rule, b_is_rule⟩ := ok_is_rule (P := P) (w := w) (base := base) T
  refine ⟨fd, F.ok sc_checked_rules (fun vs H Q E h => ?_) (fun cdv A outer s H vs Q E hr h => ?_), F.kp, F.bindsN fun _ _ _ _ _ _ us hl => match us, hl with | [_, _, _], _ => rfl⟩
  · obtain ⟨d, N, In, q, rfl, hT, F0, hq, k⟩ := h
    rfl
  have hu := hu_of hr
  have nd := sc_checked_rules.nd
  obtain ⟨d, N, In, q, rfl, hT, F0, hq, k⟩ := h
  refine ⟨_, (PSs.nox (pss_cons (ps_set (i := 3) nd rfl (by first | exact Or.inl rfl | exact Or.inr rfl) (pe_dget hu (pv 1) (pv 2) (fun _ _ => rfl)))
  (pss_cons (ps_if (PW.pt (pw_or (pt_not (pt_val (pe_call G_is_row (hr.mono (by decide)) rfl T.g_is_row kp_is_row b_is_row .nil pass0 (pa_cons (pv 3) pa_nil)))) (pw_or1 (pt_cmpR op_gt (pe_callB call_len_seq (by rfl) T.b_len rfl (pa_cons (pv 3) pa_nil)) (pe_glob (v := .int 40) rfl T.i_MOST_RULES.choose_spec ⟨_, rfl⟩) (nomark _))))) pss_never pss_nil)
  (pss_cons (ps_for PassesOwn.never rfl (pi_listK K (pv 3)) (pg_name (i := 4) nd rfl (by first | exact Or.inl rfl | exact Or.inr rfl)) (pss_one (ps_if (pt_not (pt_val (pe_call G_is_rule (hr.mono (by decide)) rfl T.g_is_rule kp_is_rule b_is_rule .nil pass0 (pa_cons (pv 4) (pa_cons (pv 1) pa_nil))))) pss_never pss_nil)))
  (pss_cons (ps_set (i := 5) nd rfl (by first | exact Or.inl rfl | exact Or.inr rfl) (pe_callB (cr_sortedE shape_rul hr.units) (by rfl) T.b_sorted rfl (pa_cons (pe_lc (own := [("word", 6), ("turn", 7), ("goal", 8)]) (g := (gTup K 3 (gCons (gName 6) (gCons (gName 7) (gCons (gName 8) gNil))))) (tt := tYes) rfl nd (pi_listK K (pv 3)) (blkOk_by (N := N_checked_rules) (sc := defScope s_checked_rules) (by decide +kernel)) (fun _ _ _ _ _ => (pg_tup rfl (pgs_cons (pg_name (i := 6) nd rfl (by first | exact Or.inl rfl | exact Or.inr rfl)) (pgs_cons (pg_name (i := 7) nd rfl (by first | exact Or.inl rfl | exact Or.inr rfl)) (pgs_cons (pg_name (i := 8) nd rfl (by first | exact Or.inl rfl | exact Or.inr rfl)) pgs_nil))))) (fun _ _ _ _ _ => pts_nil) (fun _ _ _ _ _ => (pe_tup (pa_cons (pv 6) (pa_cons (pe_op op_mod (pv 7) (pv 0)) (pa_cons (pv 8) pa_nil)))))) pa_nil)))
  (pss_cons (ps_if (pt_cmpR op_ne (pe_callB cr_lenT (by rfl) T.b_len rfl (pa_cons (pe_scT (own := [("word", 6), ("turn", 7), ("goal", 8)]) (g := (gTup K 3 (gCons (gName 6) (gCons (gName 7) (gCons (gName 8) gNil))))) (tt := tYes) hr.units rfl nd (pi_listK K (pv 5)) (blkOk_by (N := N_checked_rules) (sc := defScope s_checked_rules) (by decide +kernel)) (fun _ _ _ _ _ => (pg_tup rfl (pgs_cons (pg_name (i := 6) nd rfl (by first | exact Or.inl rfl | exact Or.inr rfl)) (pgs_cons (pg_name (i := 7) nd rfl (by first | exact Or.inl rfl | exact Or.inr rfl)) (pgs_cons (pg_name (i := 8) nd rfl (by first | exact Or.inl rfl | exact Or.inr rfl)) pgs_nil))))) (fun _ _ _ _ _ => pts_nil) (fun _ _ _ _ _ => (pe_tup (pa_cons (pv 6) (pa_cons (pv 7) pa_nil))))) pa_nil)) (pe_callB call_len_seq (by rfl) T.b_len rfl (pa_cons (pv 5) pa_nil)) (nomark _)) pss_never pss_nil)
  (pss_one (ps_ret (pv 5))))))))), ?_⟩
  obtain ⟨kvs, hd, hp⟩ := id hT
  obtain ⟨r, xs, hv, hr0, hl⟩ := tab_valV hp F0.nd hq
  have lx := hl.len
  obtain ⟨q8, qW, qnd⟩ := F0.rl q hq
  have N0 : 0 < N := by have := F0.lo; omega
  have dg : DGet H d (.str q.1) (some (.ref r)) := by rw [← hv]; exact DGet.k (k := Sum.inr q.1) hd
  refine ⟨_, rfl, _, rfl, d, _, rfl, dg, ?_⟩
  refine ⟨_, rfl, r, rfl, .inl ⟨_, hr0⟩, fun H1 e1 => ⟨true, rfl, iteF ⟨_, rfl, r, xs, rfl, .inl (SqL.of (e1 _ _ hr0)), _, _, rfl, rfl, _, rfl, ?_⟩⟩⟩
  rw [decide_eq_false (by omega)]
  refine iteF ⟨_, rfl, r, rfl, ⟨_, SqL.of (e1 _ _ hr0)⟩, ?_⟩
  refine for_it (walk_list (xs := xs)) (fun i σ F => Ex H F ∧ ∃ x4, σ = [some (.int N), some (.ref d), some (.str q.1), some (.ref r), x4, none, none, none, none]) ⟨e1, none, rfl⟩ (fun i σ F _ ⟨e, _⟩ => SqL.of (e _ _ hr0)) ?_ ?_
  · rintro i v σ F F' hi ⟨eF, x4, rfl⟩ ⟨rfl, hv2⟩
    obtain ⟨p, hp2, ip⟩ := (hl.keep (Tups.of eF)).get hv2
    obtain ⟨a, rfl, ha⟩ := rul_get ip
    have pm := List.mem_of_getElem? hp2
    refine ⟨_, rfl, _, rfl, a, d, p, kvs, rfl, ha, eF _ _ hd, (qW p pm).1, valV_some (k := Sum.inr p.2.2) (by
      have ks : kvs.map (·.1) = (In.map (·.1)).map Sum.inr := tab_keys0 hp
      rw [ks]
      exact List.mem_map_of_mem (qW p pm).2), true, rfl, iteF ⟨eF, _, rfl⟩⟩
  · rintro σ F ⟨eF, x4, rfl⟩
    refine ⟨_, rfl, r, rfl, ⟨_, SqL.of (eF _ _ hr0)⟩, fun D hD => ?_⟩
    refine lc_ls (enc := encRul) relEx walk_list (fun i => (q.2[i]?).map (red N)) hD True.intro (Evl.sz_lt (by omega)) (fun H2 e2 _ => SqL.of (e2 _ _ (eF _ _ hr0))) ?_ ?_
    · rintro i x G G' hi e2 t2 ⟨rfl, hx⟩ Go Sk go sk
      obtain ⟨p, hp2, ip⟩ := (hl.keep (Tups.of (eF.trans e2))).get hx
      obtain ⟨a, rfl, ha⟩ := rul_get ip
      refine ⟨a, _, rfl, SqT.of ha, rfl, _, _, rfl, _, _, rfl, _, _, rfl, rfl, rfl, yes_go ⟨_, rfl, _, rfl, _, rfl, _, _, rfl, rfl, N0, _, rfl, (by show 3 ≤ sizeLine; decide), fun t ht => ?_⟩⟩
      exact go (red N p) _ _ (by rw [hp2]; rfl) (ex_new ht) (Tups.new ht) (rul_mk upd_same)
    intro G ys e2 t2 hD2 hy
    rw [fm_map _ lx] at hy
    refine ⟨D, ys, _, rfl, SqL.of hD2, hy, fun zs rs p pm so hzs hp0 => ?_⟩
    have e3 : Ex H (upd G p (.lst zs)) := (eF.trans e2).trans (ex_new hp0)
    have hzs3 : Ls (upd G p (.lst zs)) encRul zs rs := hzs.keep (Tups.new hp0)
    obtain ⟨H3, eH3⟩ : ∃ H3, H3 = upd G p (.lst zs) := ⟨_, rfl⟩
    have h3p : H3 p = some (.lst zs) := by rw [eH3]; exact upd_same
    rw [← eH3] at e3 hzs3 ⊢
    have lz := hzs3.len
    have lrs : rs.length ≤ 8 := by rw [pm.length_eq, List.length_map]; exact q8
    have rnd : (rs.map rkey).Nodup := by
      have h1 : (q.2.map fun r => rkey (red N r)).Nodup := by
        refine List.pairwise_map.mpr ((List.pairwise_map.mp qnd).imp fun {a b} h e => h ?_)
        have e1 := List.cons.inj e
        have e2 := (List.cons.inj e1.2).1
        rw [Prod.mk.injEq]
        exact ⟨Sum.inr.inj e1.1, Sum.inl.inj e2⟩
      have h2 := pm.map rkey
      rw [List.map_map] at h2
      exact h2.nodup_iff.mpr h1
    refine ⟨_, rfl, p, rfl, ⟨_, SqL.of h3p⟩, fun D2 hD2' => ?_⟩
    have n2p : p ≠ D2 := ne_of_none h3p hD2'
    refine scT_it walk_list (fun i F => Ex H3 F ∧ ∃ L, F D2 = some (STO P w D2 L) ∧ (∀ z ∈ L, F z.1 = some (.tup (z.2.map kV))) ∧ (L.map (·.2)).Perm ((rs.take i).map rkey)) ⟨ex_new hD2', [], upd_same, (fun z hz => by cases hz), .refl _⟩ (fun i F _ ⟨e, _⟩ => SqL.of (e _ _ h3p)) ?_ ?_
    · rintro i x F1 F1' hi ⟨e4, L, hL, hLt, pmL⟩ ⟨rfl, hx⟩
      obtain ⟨r1, hr1, ir⟩ := (hzs3.keep (Tups.of e4)).get hx
      obtain ⟨a, rfl, ha⟩ := rul_get ir
      have tk : rs.take (i + 1) = rs.take i ++ [r1] := by rw [List.take_add_one, hr1]; rfl
      have Ll : L.length ≤ 8 := by
        have h1 := pmL.length_eq
        rw [List.length_map, List.length_map, List.length_take] at h1
        omega
      refine ⟨a, _, rfl, SqT.of ha, rfl, _, _, rfl, _, _, rfl, _, _, rfl, rfl, rfl, yes_go ⟨_, rfl, _, rfl, (by show 2 ≤ sizeLine; decide), fun t ht => ?_⟩⟩
      have e5 : Ex F1' (upd F1' t (.tup [.str r1.1, .int r1.2.1])) := ex_new ht
      refine ⟨rkey r1, t, L, rfl, upd_same, e5 _ _ hL, fun z hz => e5 _ _ (hLt z hz), fun hm => ?_, by omega, fun L' pm' => ?_⟩
      · obtain ⟨r2, hr2, e6⟩ := List.mem_map.mp (pmL.mem_iff.mp hm)
        obtain ⟨j, hj, ej⟩ := List.getElem_of_mem hr2
        rw [List.length_take] at hj
        rw [List.getElem_take] at ej
        have h1 := List.getElem?_eq_some_iff.mp hr1
        have h2 : (rs.map rkey)[j]'(by rw [List.length_map]; omega) = (rs.map rkey)[i]'(by rw [List.length_map]; exact h1.1) := by
          rw [List.getElem_map, List.getElem_map, ej, e6, h1.2]
        have := (List.getElem_inj rnd).mp h2
        omega
      · have tD : ∀ z o, F1' z = some (.tup o) → upd (upd F1' t (.tup [.str r1.1, .int r1.2.1])) D2 (STO P w D2 L') z = some (.tup o) := fun z o h => by
          rw [upd_ne (ne_of (e5 _ _ h) (e5 _ _ hL) fun z => nomatch z)]
          exact e5 _ _ h
        refine ⟨Evl.Ex.mut (e4.trans e5) hD2', L', upd_same, fun z hz => ?_, ?_⟩
        · rcases List.mem_cons.mp (pm'.mem_iff.mp hz) with rfl | hz
          · rw [upd_ne (ne_of (upd_same (H := F1') (a := t) (o := .tup [.str r1.1, .int r1.2.1])) (e5 _ _ hL) fun z => nomatch z)]
            exact upd_same
          · exact tD _ _ (hLt z hz)
        · rw [tk, List.map_append]
          refine (pm'.map (·.2)).trans ?_
          rw [List.map_cons]
          exact (pmL.cons _).trans (List.perm_append_singleton (rkey r1) _).symm
    · rintro F1 ⟨e4, L, hL, hLt, pmL⟩
      have lL : L.length = rs.length := by
        have h1 := pmL.length_eq
        rw [lz, List.take_length, List.length_map, List.length_map] at h1
        exact h1
      have h4p := e4 _ _ h3p
      refine ⟨D2, L, rfl, hL, _, rfl, p, _, rfl, .inl (SqL.of h4p), rfl, false, congrArg V.bl (by rw [lL, lz]; simp), iteF ⟨_, rfl, ?_⟩⟩
      exact k F1 p zs rs (e3.trans e4) h4p (hzs3.keep (Tups.of e4)) pm
abbrev lf (N : Int) (t : Addr) : List (Str × V) := [("around", .int N), ("_table", .ref t)]
theorem lf_put (N : Int) (t : Addr) : putF "_table" (.ref t) (putF "around" (.int N) []) = lf N t := by kernel_rfl
theorem lf_a (N : Int) (t : Addr) : (lf N t).lookup ("around" : Str) = some (.int N) := by kernel_rfl
theorem lf_t (N : Int) (t : Addr) : (lf N t).lookup ("_table" : Str) = some (.ref t) := by kernel_rfl
def LetAt (K : PySem.W.Frag) (H : Hp) (x : Addr) (N : Int) (Tb : Tab) : Prop := ∃ dx t, H x = some (.ins (cA K "Let") dx (lf N t)) ∧ TabAt H t Tb
/-- the machine's table, made of what was handed in -/
def Made (N : Int) (In Tb : Tab) : Prop := (Tb.map (·.1)).Perm (In.map (·.1)) ∧ ∀ q ∈ Tb, ∃ q0 ∈ In, q0.1 = q.1 ∧ q.2.Perm (q0.2.map (red N))
def sp_Let_init (K : PySem.W.Frag) : Sp := fun vs H Q _ => ∃ (x dx d : Addr) (N : Int) (In : Tab), vs = [.ref x, .int N, .ref d] ∧ H x = some (.ins (cA K "Let") dx []) ∧ TabAt H d In ∧ InF N In ∧
  ∀ H' Tb, But x H H' → LetAt K H' x N Tb → Made N In Tb → Q .non H'
theorem tab_keys {H : Hp} {kvs : List (Key × V)} {In : Tab} (h : Paired (fun (kv : Key × V) (q : Str × List Rul) => kv.1 = Sum.inr q.1 ∧ ∃ r xs, kv.2 = .ref r ∧ H r = some (.lst xs) ∧ Ls H encRul xs q.2) kvs In) : kvs.map (·.1) = (In.map (·.1)).map Sum.inr := by
  induction h with
  | nil => rfl
  | cons h _ ih => rw [List.map_cons, List.map_cons, List.map_cons, ih, h.1]
theorem tab_keep {H H' : Hp} {kvs : List (Key × V)} {In : Tab} (h : Paired (fun (kv : Key × V) (q : Str × List Rul) => kv.1 = Sum.inr q.1 ∧ ∃ r xs, kv.2 = .ref r ∧ H r = some (.lst xs) ∧ Ls H encRul xs q.2) kvs In) (t : Tups H H') (e : ∀ r xs, H r = some (.lst xs) → H' r = some (.lst xs)) : Paired (fun (kv : Key × V) (q : Str × List Rul) => kv.1 = Sum.inr q.1 ∧ ∃ r xs, kv.2 = .ref r ∧ H' r = some (.lst xs) ∧ Ls H' encRul xs q.2) kvs In := by
  induction h with
  | nil => exact .nil
  | cons h _ ih =>
    obtain ⟨a, r, xs, b, c, d⟩ := h
    exact .cons ⟨a, r, xs, b, e _ _ c, d.keep t⟩ ih
theorem tab_snoc {H : Hp} {kvs : List (Key × V)} {In : Tab} {kv : Key × V} {q : Str × List Rul} (h : Paired (fun (kv : Key × V) (q : Str × List Rul) => kv.1 = Sum.inr q.1 ∧ ∃ r xs, kv.2 = .ref r ∧ H r = some (.lst xs) ∧ Ls H encRul xs q.2) kvs In) (h1 : kv.1 = Sum.inr q.1 ∧ ∃ r xs, kv.2 = .ref r ∧ H r = some (.lst xs) ∧ Ls H encRul xs q.2) : Paired (fun (kv : Key × V) (q : Str × List Rul) => kv.1 = Sum.inr q.1 ∧ ∃ r xs, kv.2 = .ref r ∧ H r = some (.lst xs) ∧ Ls H encRul xs q.2) (kvs ++ [kv]) (In ++ [q]) := by
  induction h with
  | nil => exact .cons h1 .nil
  | cons h _ ih => exact .cons h ih
abbrev N_Let_init : List Str := ["self", "around", "rules", "state"]
theorem sc_Let_init : FnScope N_Let_init ["self", "around", "rules"] (defScope s_Let_init) := ⟨rfl, rfl, rfl, by decide +kernel, rfl, by decide +kernel, by decide +kernel⟩
theorem ok_Let_init (T : Txt K mg) : DefOk P w K mg base 6 (mA K "Let" "__init__") ["self", "around", "rules"] (sp_Let_init K) := by
  obtain ⟨fd, F⟩ := T.d_Let_init
  obtain ⟨fd_check_round, G_check_round, kp_check_round, b_check_round⟩ := ok_check_round (P := P) (w := w) (base := base) T
  obtain ⟨fd_is_name, G_is_name, kp_is_name, b_is_name⟩ := ok_is_name (P := P) (w := w) (base := base) T
  obtain ⟨fd_checked_rules, G_checked_rules, kp_checked_rules, b_checked_rules⟩ := ok_checked_rules (P := P) (w := w) (base := base) T
  refine ⟨fd, F.ok sc_Let_init (fun vs H Q E h => ?_) (fun cdv A outer s H vs Q E hr h => ?_), F.kp, F.bindsN fun _ _ _ _ _ _ us hl => match us, hl with | [_, _, _], _ => rfl⟩
  · obtain ⟨x, dx, d, N, In, rfl, hx, hT, F0, k⟩ := h
    rfl
  have hu := hu_of hr
  have nd := sc_Let_init.nd
  obtain ⟨x, dx, d, N, In, rfl, hx, hT, F0, k⟩ := h
  refine ⟨_, (PSs.nox (pss_cons (ps_expr (pe_call G_check_round (hr.mono (by decide)) rfl T.g_check_round kp_check_round b_check_round .nil pass0 (pa_cons (pv 1) pa_nil)))
  (pss_cons (ps_if (PW.pt (pw_or (pt_not (pt_val (pe_callB call_isi (by rfl) T.b_isinstance rfl (pa_cons (pv 2) (pa_cons (pe_bltn (v := .ty "dict") rfl T.b_dict rfl rfl) pa_nil))))) (pw_or1 (pt_not (pt_chain op_le op_le pe_int (pe_callB call_lenD (by rfl) T.b_len rfl (pa_cons (pv 2) pa_nil)) (pe_glob (v := .int 5) rfl T.i_MOST_STATES.choose_spec ⟨_, rfl⟩)))))) pss_never pss_nil)
  (pss_cons (ps_if (pt_not (pt_val (pe_lock (pe_callB (cr_all rfl) (by rfl) T.b_all rfl (pa_cons (pe_lc (own := [("state", 3)]) (g := (gName 3)) (tt := tYes) rfl nd (pi_keys (pv 2)) (blkOk_by (N := N_Let_init) (sc := defScope s_Let_init) (by decide +kernel)) (fun _ _ _ _ _ => (pg_name (i := 3) nd rfl (by first | exact Or.inl rfl | exact Or.inr rfl))) (fun _ _ _ _ _ => pts_nil) (fun _ _ _ _ _ => (pe_call G_is_name (hr.mono (by decide)) rfl T.g_is_name kp_is_name b_is_name .nil pass0 (pa_cons (pv 3) pa_nil)))) pa_nil))))) pss_never pss_nil)
  (pss_cons (ps_if (pt_cmp (pc_dnotin hu (pe_glob (v := .str "start") rfl T.i_START.choose_spec ⟨_, rfl⟩) (pv 2))) pss_never pss_nil)
  (pss_cons (ps_fld (pv 0) (pv 1) rfl)
  (pss_one (ps_fld (pv 0) (pe_dc (own := [("state", 3)]) (g := (gName 3)) (tt := tYes) rfl nd (pi_listK K (pe_callB (cr_sortedE shape_str hr.units) (by rfl) T.b_sorted rfl (pa_cons (pe_callTy (call_list_dK rfl) (by rfl) T.b_list rfl (pa_cons (pv 2) pa_nil)) pa_nil))) (blkOk_by (N := N_Let_init) (sc := defScope s_Let_init) (by decide +kernel)) (fun _ _ _ _ _ => (pg_name (i := 3) nd rfl (by first | exact Or.inl rfl | exact Or.inr rfl))) (fun _ _ _ _ _ => pts_nil) (fun _ _ _ _ _ => (pv 3)) (fun _ _ _ _ _ => (pe_call G_checked_rules (hr.mono (by decide)) rfl T.g_checked_rules kp_checked_rules b_checked_rules .nil pass0 (pa_cons (pv 1) (pa_cons (pv 2) (pa_cons (pv 3) pa_nil)))))) rfl)))))))), ?_⟩
  obtain ⟨kvs, hd, hp⟩ := id hT
  have lk : kvs.length = In.length := Paired.length hp
  have l1 : 0 < In.length := by
    have := F0.st
    cases In with
    | nil => cases this
    | cons _ _ => exact Nat.succ_pos _
  have l5 := F0.len
  refine ⟨_, rfl, N, rfl, ⟨F0.lo, F0.hi⟩, ?_⟩
  refine ⟨_, rfl, .ref d, .ty "dict", _, _, true, rfl, .ty _, .base (.dK hd), kit_ty (by decide +kernel), true, rfl, iteF ⟨_, rfl, d, kvs, rfl, hd, _, _, rfl, rfl, _, rfl, ?_⟩⟩
  rw [decide_eq_true (by omega)]
  refine ⟨_, _, rfl, rfl, true, congrArg V.bl (decide_eq_true (by omega)), iteF ?_⟩
  refine ⟨d, _, hd, True.intro, fun od => ?_⟩
  have hxd : x ≠ d := ne_of hx hd (fun z => nomatch z)
  refine ⟨_, rfl, d, od, rfl, .inl ⟨kvs, upd_same, fun D hD => ?_⟩⟩
  have ks := tab_keys hp
  refine lc_ls (enc := fun b : Bool => PyData.bool b) relEx walk_keys (fun i => if i < kvs.length then some true else none) hD True.intro (Evl.sz_lt (by omega)) (fun H2 e2 _ => e2 _ _ upd_same) ?_ ?_
  · rintro i v F F' hi e2 t2 ⟨rfl, kk, kv, hk, rfl⟩ Go Sk go sk
    have hk2 : (kvs.map (·.1))[i]? = some kk := by rw [List.getElem?_map, hk]; rfl
    rw [ks, List.getElem?_map] at hk2
    obtain ⟨nm, hn, rfl⟩ := Option.map_eq_some_iff.mp hk2
    obtain ⟨q, hq, rfl⟩ := List.mem_map.mp (List.mem_of_getElem? hn)
    exact ⟨rfl, yes_go ⟨_, rfl, q.1, rfl, F0.nm q hq, fun H3 e3 => go true _ _ (if_pos hi) e3 (Tups.of e3) rfl⟩⟩
  intro F ys e2 t2 hD2 hy
  have hb := bools_eq hy
  refine ⟨D, _, rfl, SqL.of (by rw [hD2, hb]), e2 _ _ upd_same, _, rfl, ?_⟩
  have al : ((List.range kvs.length).filterMap fun i => if i < kvs.length then some true else none).all id = true := by
    rw [List.all_eq_true]
    intro b hb
    obtain ⟨i, _, hi⟩ := List.mem_filterMap.mp hb
    by_cases c : i < kvs.length
    · rw [if_pos c] at hi
      exact (Option.some.inj hi).symm
    · rw [if_neg c] at hi
      cases hi
  rw [al]
  refine iteF ?_
  have e1 : Ex H (upd F d (.dK kvs)) := ex_unlock hd e2
  obtain ⟨H1, eH1⟩ : ∃ H1, H1 = upd F d (.dK kvs) := ⟨_, rfl⟩
  rw [← eH1] at e1 ⊢
  have d1 : H1 d = some (.dK kvs) := e1 _ _ hd
  refine ⟨_, rfl, d, _, rfl, DGet.k (k := Sum.inr "start") d1, _, rfl, ?_⟩
  rw [valV_some (k := Sum.inr "start") (by rw [ks]; exact List.mem_map_of_mem F0.st)]
  refine iteF ⟨_, rfl, _, rfl, x, _, dx, _, rfl, e1 _ _ hx, T.c_Let, T.n_Let_around, by decide, ?_⟩
  obtain ⟨H2, e2'⟩ : ∃ H2, H2 = upd H1 x (.ins (cA K "Let") dx (putF "around" (.int N) [])) := ⟨_, rfl⟩
  rw [← e2']
  have h2 : H2 x = some (.ins (cA K "Let") dx (putF "around" (.int N) [])) := by rw [e2']; exact upd_same
  have b2 : But x H H2 := fun a o n h => by rw [e2', upd_ne n]; exact e1 _ _ h
  have t2' : Tups H H2 := (Tups.of e1).trans (by rw [e2']; exact Tups.mut (e1 _ _ hx) fun _ z => nomatch z)
  have d2 : H2 d = some (.dK kvs) := b2 _ _ hxd.symm hd
  have hp2 := tab_keep hp t2' fun r xs h => b2 _ _ (ne_of h hx fun z => nomatch z) h
  refine ⟨_, rfl, d, kvs, rfl, d2, fun q hq => ?_⟩
  have ek : (kvs.map fun kv => kV kv.1) = (In.map (·.1)).map V.str := by
    have : (kvs.map fun kv => kV kv.1) = (kvs.map (·.1)).map kV := by rw [List.map_map]; rfl
    rw [this, ks, List.map_map]
    rfl
  rw [ek]
  refine ⟨q, _, In.map (·.1), rfl, SqL.of upd_same, Ls.strs _, fun zs ns p pm so hns hp0 => ?_⟩
  have e3 : Ex H2 (upd (upd H2 q (.lst ((In.map (·.1)).map V.str))) p (.lst zs)) := (ex_new hq).trans (ex_new hp0)
  obtain ⟨H3, eH3⟩ : ∃ H3, H3 = upd (upd H2 q (.lst ((In.map (·.1)).map V.str))) p (.lst zs) := ⟨_, rfl⟩
  rw [← eH3] at e3 ⊢
  have h3p : H3 p = some (.lst zs) := by rw [eH3]; exact upd_same
  have zz := Ls.strs_eq hns
  refine ⟨p, rfl, ⟨_, SqL.of h3p⟩, fun D2 hD2' => ?_⟩
  have lz : zs.length = ns.length := by rw [zz, List.length_map]
  have ln : ns.length = In.length := by rw [pm.length_eq, List.length_map]
  have ndn : ns.Nodup := pm.nodup_iff.mpr F0.nd
  refine dc_it walk_list (fun i H' => Ex H3 H' ∧ ∃ kvs' Tb, H' D2 = some (.dK kvs') ∧ Paired (fun (kv : Key × V) (q : Str × List Rul) => kv.1 = Sum.inr q.1 ∧ ∃ r xs, kv.2 = .ref r ∧ H' r = some (.lst xs) ∧ Ls H' encRul xs q.2) kvs' Tb ∧ Tb.map (·.1) = ns.take i ∧ ∀ q ∈ Tb, ∃ q0 ∈ In, q0.1 = q.1 ∧ q.2.Perm (q0.2.map (red N)))
    ⟨ex_new hD2', [], [], upd_same, .nil, rfl, fun q hq => by cases hq⟩ (fun i H' _ ⟨e, _⟩ => SqL.of (e _ _ h3p)) ?_ ?_
  · rintro i v F1 F1' hi ⟨e4, kvs', Tb, hD4, hP4, hm4, hq4⟩ ⟨rfl, hv⟩
    rw [zz, List.getElem?_map] at hv
    obtain ⟨nm, hn, rfl⟩ := Option.map_eq_some_iff.mp hv
    have mm := List.mem_of_getElem? hn
    obtain ⟨q0, hq0, rfl⟩ := List.mem_map.mp (pm.mem_iff.mp mm)
    have e24 := e3.trans e4
    refine ⟨rfl, yes_go ⟨_, rfl, _, rfl, _, rfl, _, rfl, d, N, In, q0, rfl, ⟨kvs, e24 _ _ d2, tab_keep hp2 (Tups.of e24) fun r xs h => e24 _ _ h⟩, F0, hq0, fun F2 pp yy rs e5 hpp hyy prm => ?_⟩⟩
    have nk : (Sum.inr q0.1 : Key) ∉ kvs'.map (·.1) := fun z => by
      rw [tab_keys hP4, hm4] at z
      obtain ⟨y, hy, e⟩ := List.mem_map.mp z
      rw [Sum.inr.inj e] at hy
      obtain ⟨j, hj, ej⟩ := List.getElem_of_mem hy
      rw [List.length_take] at hj
      rw [List.getElem_take] at ej
      have hi2 : i < ns.length := (List.getElem?_eq_some_iff.mp hn).1
      have := (List.getElem?_eq_some_iff.mp hn).2
      exact absurd (List.getElem_inj ndn |>.mp (ej.trans this.symm)) (by omega)
    have lk' : kvs'.length ≤ i := by
      have : (kvs'.map (·.1)).length = (ns.take i).length := by rw [tab_keys hP4, hm4, List.length_map]
      rw [List.length_map, List.length_take] at this
      omega
    refine ⟨kvs', Sum.inr q0.1, rfl, e5 _ _ hD4, Evl.sz_lt (by omega), Evl.Ex.mut (e4.trans e5) hD2', ?_⟩
    have nD : ∀ r xs, F2 r = some (.lst xs) → upd F2 D2 (.dK (putK kvs' (Sum.inr q0.1) (.ref pp))) r = some (.lst xs) := fun r xs h => by
      rw [upd_ne (ne_of h (e5 _ _ hD4) fun z => nomatch z)]
      exact h
    have tD : Tups F2 (upd F2 D2 (.dK (putK kvs' (Sum.inr q0.1) (.ref pp)))) := Tups.mut (e5 _ _ hD4) fun _ z => nomatch z
    refine ⟨putK kvs' (Sum.inr q0.1) (.ref pp), Tb ++ [(q0.1, rs)], upd_same, ?_, ?_, ?_⟩
    · rw [putK_new nk]
      exact tab_snoc (tab_keep (tab_keep hP4 (Tups.of e5) fun r xs h => e5 _ _ h) (by rw [← putK_new nk]; exact tD) (by rw [← putK_new nk]; exact nD)) ⟨rfl, pp, yy, rfl, by rw [← putK_new nk]; exact nD _ _ hpp, by rw [← putK_new nk]; exact hyy.keep tD⟩
    · rw [List.map_append, hm4, List.take_add_one, hn]
      rfl
    · intro q hq
      rcases List.mem_append.mp hq with hq | hq
      · exact hq4 q hq
      · rw [List.mem_singleton.mp hq]
        exact ⟨q0, hq0, rfl, prm⟩
  · rintro F1 ⟨e4, kvs', Tb, hD4, hP4, hm4, hq4⟩
    have e24 := e3.trans e4
    have h4x := e24 _ _ h2
    refine ⟨_, rfl, x, _, dx, _, rfl, h4x, T.c_Let, T.n_Let_table, (by show 1 < 1000; decide), ?_⟩
    rw [lf_put]
    have nDx : D2 ≠ x := ne_of hD4 h4x (fun z => nomatch z)
    refine k _ Tb (fun a o n h => by rw [upd_ne n]; exact e24 _ _ (b2 a o n h)) ⟨dx, D2, upd_same, kvs', by rw [upd_ne nDx]; exact hD4, tab_keep hP4 (Tups.mut h4x fun _ z => nomatch z) fun r xs h => by rw [upd_ne (ne_of h h4x fun z => nomatch z)]; exact h⟩ ⟨?_, hq4⟩
    rw [hm4, lz, List.take_length]
    exact pm
end
end JD
end Part_JD6
section Part_JD7
set_option Elab.async false
set_option linter.all false
set_option maxRecDepth 100000
set_option maxHeartbeats 4000000
namespace JD
open PySem PySem.Spec PyProof.Rows L2 JR JX JT
open Evl (Ex)
section
variable {P : Program} {w : World} {K : PySem.W.Frag} {mg : Str → Option Value} {base : Heap}
theorem TabAt.keep {H H' : Hp} {d : Addr} {In : Tab} (h : TabAt H d In) (e : Ex H H') : TabAt H' d In := by
  obtain ⟨kvs, h1, h2⟩ := h
  exact ⟨kvs, e _ _ h1, tab_keep h2 (Tups.of e) fun r xs h => e _ _ h⟩
theorem LetAt.keep {H H' : Hp} {x : Addr} {N : Int} {Tb : Tab} (h : LetAt K H x N Tb) (e : Ex H H') : LetAt K H' x N Tb := by
  obtain ⟨dx, t, h1, h2⟩ := h
  exact ⟨dx, t, e _ _ h1, h2.keep e⟩
theorem tab_strs {H : Hp} {kvs : List (Key × V)} {In : Tab} (h : Paired (fun (kv : Key × V) (q : Str × List Rul) => kv.1 = Sum.inr q.1 ∧ ∃ r xs, kv.2 = .ref r ∧ H r = some (.lst xs) ∧ Ls H encRul xs q.2) kvs In) : (kvs.map fun kv => kV kv.1) = In.map fun q => V.str q.1 := by
  induction h with
  | nil => rfl
  | cons h _ ih => rw [List.map_cons, List.map_cons, ih, h.1]; rfl
def sp_Let_states (K : PySem.W.Frag) : Sp := fun vs H Q _ => ∃ (x : Addr) (N : Int) (Tb : Tab), vs = [.ref x] ∧ LetAt K H x N Tb ∧ ∀ H' p, Ex H H' → H' p = some (.lst (Tb.map fun q => .str q.1)) → Q (.ref p) H'
abbrev N_Let_states : List Str := ["self"]
theorem sc_Let_states : FnScope N_Let_states ["self"] (defScope s_Let_states) := ⟨rfl, rfl, rfl, by decide +kernel, rfl, by decide +kernel, by decide +kernel⟩
theorem ok_Let_states (T : Txt K mg) : DefOk P w K mg base 1 (gA K "Let" "states") ["self"] (sp_Let_states K) := by
  obtain ⟨fd, F⟩ := T.d_Let_states
  refine ⟨fd, F.ok sc_Let_states (fun vs H Q E h => ?_) (fun cdv A outer s H vs Q E hr h => ?_), F.kp, F.bindsN fun _ _ _ _ _ _ us hl => match us, hl with | [_], _ => rfl⟩
  · obtain ⟨x, N, Tb, rfl, ⟨dx, t, hx, kvs, ht, hp⟩, k⟩ := h
    rfl
  have hu := hu_of hr
  have nd := sc_Let_states.nd
  obtain ⟨x, N, Tb, rfl, ⟨dx, t, hx, kvs, ht, hp⟩, k⟩ := h
  refine ⟨_, PSs.nox (pss_one (ps_ret (pe_callTy (call_list_dK rfl) (by rfl) T.b_list rfl (pa_cons (pe_fldK K (pv 0) rfl) pa_nil)))), ?_⟩
  refine ⟨_, rfl, x, _, dx, _, _, rfl, hx, T.c_Let, T.n_Let_table, lf_t _ _, t, kvs, rfl, ht, fun q hq => ?_⟩
  rw [tab_strs hp]
  exact k _ q (ex_new hq) upd_same
def sp_Let_rules (K : PySem.W.Frag) : Sp := fun vs H Q _ => ∃ (x : Addr) (N : Int) (Tb : Tab) (q : Str × List Rul), vs = [.ref x, .str q.1] ∧ LetAt K H x N Tb ∧ (Tb.map (·.1)).Nodup ∧ q ∈ Tb ∧
  ∀ H' p xs, Ex H H' → H' p = some (.lst xs) → Ls H' encRul xs q.2 → Q (.ref p) H'
abbrev N_Let_rules : List Str := ["self", "state"]
theorem sc_Let_rules : FnScope N_Let_rules ["self", "state"] (defScope s_Let_rules) := ⟨rfl, rfl, rfl, by decide +kernel, rfl, by decide +kernel, by decide +kernel⟩
theorem ok_Let_rules (T : Txt K mg) : DefOk P w K mg base 1 (mA K "Let" "rules") ["self", "state"] (sp_Let_rules K) := by
  obtain ⟨fd, F⟩ := T.d_Let_rules
  refine ⟨fd, F.ok sc_Let_rules (fun vs H Q E h => ?_) (fun cdv A outer s H vs Q E hr h => ?_), F.kp, F.bindsN fun _ _ _ _ _ _ us hl => match us, hl with | [_, _], _ => rfl⟩
  · obtain ⟨x, N, Tb, q, rfl, ⟨dx, t, hx, kvs, ht, hp⟩, nd0, hq, k⟩ := h
    rfl
  have hu := hu_of hr
  have nd := sc_Let_rules.nd
  obtain ⟨x, N, Tb, q, rfl, ⟨dx, t, hx, kvs, ht, hp⟩, nd0, hq, k⟩ := h
  refine ⟨_, PSs.nox (pss_cons (ps_if (PW.pt (pw_or (pt_not (pt_val (pe_callB call_isi (by rfl) T.b_isinstance rfl (pa_cons (pv 1) (pa_cons (pe_bltn (v := .ty "str") rfl T.b_str rfl rfl) pa_nil))))) (pw_or1 (pt_cmp (pc_dnotin hu (pv 1) (pe_fldK K (pv 0) rfl)))))) pss_never pss_nil)
  (pss_one (ps_ret (pe_callTy call_list_of (by rfl) T.b_list rfl (pa_cons (pe_dget hu (pe_fldK K (pv 0) rfl) (pv 1) (fun _ _ => rfl)) pa_nil))))), ?_⟩
  obtain ⟨r, xs, hv, hr0, hl⟩ := tab_valV hp nd0 hq
  refine ⟨_, rfl, .str q.1, .ty "str", _, _, true, rfl, .ty _, .base (.str _), kit_ty (by decide +kernel), true, rfl, iteF ⟨_, rfl, _, rfl, x, _, dx, _, _, rfl, hx, T.c_Let, T.n_Let_table, lf_t _ _, t, _, rfl, DGet.k (k := Sum.inr q.1) ht, _, rfl, ?_⟩⟩
  rw [hv]
  refine iteF ⟨_, rfl, x, _, dx, _, _, rfl, hx, T.c_Let, T.n_Let_table, lf_t _ _, _, rfl, t, .ref r, rfl, ?_, r, xs, rfl, .inl (SqL.of hr0), fun p hp0 => k _ p xs (ex_new hp0) upd_same (hl.keep (Tups.new hp0))⟩
  rw [← hv]
  exact DGet.k (k := Sum.inr q.1) ht
theorem paired_get {α β : Type} {R : α → β → Prop} : ∀ {xs : List α} {ys : List β} {i : Nat} {a : α}, Paired R xs ys → xs[i]? = some a → ∃ b, ys[i]? = some b ∧ R a b
  | _, _, _, _, .nil, e => by simp at e
  | _, _, 0, _, .cons h _, e => by
    simp at e
    subst e
    exact ⟨_, rfl, h⟩
  | _, _, i + 1, _, .cons _ r, e => by
    obtain ⟨b, h1, h2⟩ := paired_get (i := i) r (by simpa using e)
    exact ⟨b, by simpa using h1, h2⟩
/-- does the machine name the word -/
def hasW (Tb : Tab) (z : Str) : Bool := (Tb.flatMap fun q => q.2.map fun r => decide (V.str z = V.str r.1)).any id
def sp_Let_words (K : PySem.W.Frag) : Sp := fun vs H Q _ => ∃ (x : Addr) (N : Int) (Tb : Tab), vs = [.ref x] ∧ LetAt K H x N Tb ∧ Tb.length ≤ 5 ∧ (∀ q ∈ Tb, q.2.length ≤ 8) ∧
  ∀ H' p (ws : List Str), Ex H H' → H' p = some (.lst (ws.map V.str)) → (∀ z ∈ ws, hasW Tb z = true) → Q (.ref p) H'
abbrev N_Let_words : List Str := ["self", "word", "row", "rule"]
theorem sc_Let_words : FnScope N_Let_words ["self"] (defScope s_Let_words) := ⟨rfl, rfl, rfl, by decide +kernel, rfl, by decide +kernel, by decide +kernel⟩
theorem ok_Let_words (T : Txt K mg) : DefOk P w K mg base 1 (gA K "Let" "words") ["self"] (sp_Let_words K) := by
  obtain ⟨fd, F⟩ := T.d_Let_words
  refine ⟨fd, F.ok sc_Let_words (fun vs H Q E h => ?_) (fun cdv A outer s H vs Q E hr h => ?_), F.kp, F.bindsN fun _ _ _ _ _ _ us hl => match us, hl with | [_], _ => rfl⟩
  · obtain ⟨x, N, Tb, rfl, ⟨dx, t, hx, kvs, ht, hp⟩, l5, l8, k⟩ := h
    rfl
  have hu := hu_of hr
  have nd := sc_Let_words.nd
  obtain ⟨x, N, Tb, rfl, ⟨dx, t, hx, kvs, ht, hp⟩, l5, l8, k⟩ := h
  refine ⟨_, PSs.nox (pss_one (ps_ret (pe_lc (own := [("word", 1)]) (g := (gName 1))  rfl nd (pi_tup (pe_glob (v := .ref (cA K "WORDS")) rfl T.g_WORDS rfl)) (blkOk_by (N := N_Let_words) (sc := defScope s_Let_words) (by decide +kernel)) (fun _ _ _ _ _ => (pg_name (i := 1) nd rfl (by first | exact Or.inl rfl | exact Or.inr rfl))) (fun _ _ _ _ _ => (pts_one (pt_val (pe_lock (pe_callB (cr_anyK K rfl) (by rfl) T.b_any rfl (pa_cons (pe_lc2 (own := [("row", 2), ("rule", 3)]) (vs1 := [3]) (g := gName 2) (tt := tYes) (g1 := gName 3) (tt1 := tYes) rfl nd (pi_values (pe_fldK K (pv 0) rfl)) (blkOk_by (N := N_Let_words) (sc := relabS (retScope (defBody s_Let_words)) (defScope s_Let_words)) (by decide +kernel)) (by decide) (fun _ _ _ _ _ => pg_name (i := 2) nd rfl (by first | exact Or.inl rfl | exact Or.inr rfl)) (fun _ _ _ _ _ => pts_nil) (fun _ _ _ _ _ => pi_listK K (pv 2)) (fun _ _ _ _ _ => pg_name (i := 3) nd rfl (by first | exact Or.inl rfl | exact Or.inr rfl)) (fun _ _ _ _ _ => pts_nil) (fun _ _ _ _ _ => pe_cmpR op_eq (pv 1) (pe_ix (ix_tupK K) (pv 3) pe_int (fun _ _ => rfl)) (nomark _))) pa_nil)))))) (fun _ _ _ _ _ => (pv 1))))), ?_⟩
  refine ⟨_, rfl, ⟨_, T.t_WORDS H⟩, fun L hL => ?_⟩
  refine lc_ls (enc := PyData.str) relEx walk_tup (fun i => ((["push", "squeeze"] : List Str)[i]?).bind fun z => if hasW Tb z = true then some z else none) hL True.intro (Evl.sz_lt (by show 2 < 100000; decide)) (fun H2 e2 _ => T.t_WORDS H2) ?_ ?_
  · rintro i v F F' hi e2 t2 ⟨rfl, hv⟩ Go Sk go sk
    obtain ⟨z, rfl, hz⟩ : ∃ z : Str, v = .str z ∧ (["push", "squeeze"] : List Str)[i]? = some z := by
      match i, hi with
      | 0, _ => cases hv; exact ⟨_, rfl, rfl⟩
      | 1, _ => cases hv; exact ⟨_, rfl, rfl⟩
    have fx := e2 _ _ hx
    have ft := e2 _ _ ht
    have fp := tab_keep hp (Tups.of e2) fun r xs h => e2 _ _ h
    have lk : kvs.length = Tb.length := Paired.length hp
    refine ⟨rfl, t, _, ft, True.intro, fun od => ?_⟩
    obtain ⟨G, eG⟩ : ∃ G, G = upd F' t (.frz od (.dK kvs)) := ⟨_, rfl⟩
    rw [← eG]
    have gt : G t = some (.frz od (.dK kvs)) := by rw [eG]; exact upd_same
    have gx : G x = some (.ins (cA K "Let") dx (lf N t)) := by rw [eG]; exact ex_lock ft fx (fun z => nomatch z)
    have tG : Tups F' G := fun a xs h => by rw [eG]; exact ex_lock ft h (fun z => nomatch z)
    have gp := tab_keep fp tG fun r xs h => by rw [eG]; exact ex_lock ft h (fun z => nomatch z)
    refine ⟨_, rfl, x, _, dx, _, _, rfl, gx, T.c_Let, T.n_Let_table, lf_t _ _, t, od, kvs, rfl, gt, fun D hD => ?_⟩
    let fl : Str × List Rul → List Bool := fun q => q.2.map fun r => decide (V.str z = V.str r.1)
    have flen : ∀ i, ((Tb.take i).flatMap fl).length ≤ 40 := fun i => by
      have h1 : ∀ l : Tab, (∀ q ∈ l, q.2.length ≤ 8) → (l.flatMap fl).length ≤ 8 * l.length := fun l => by
        induction l with
        | nil => intro _; simp
        | cons q l ih =>
          intro h
          rw [List.flatMap_cons, List.length_append, List.length_cons]
          have a1 := h q List.mem_cons_self
          have a2 := ih fun y hy => h y (List.mem_cons_of_mem _ hy)
          have a3 : (fl q).length = q.2.length := List.length_map ..
          omega
      have h2 := h1 (Tb.take i) fun q hq => l8 q (List.mem_of_mem_take hq)
      rw [List.length_take] at h2
      omega
    refine lc2_it walk_values (fun i H' => Ex G H' ∧ H' D = some (.lst (((Tb.take i).flatMap fl).map V.bl))) ⟨ex_new hD, upd_same⟩ (fun i H' _ ⟨e, _⟩ => e _ _ gt) ?_ ?_
    · rintro i v F1 F1' hi ⟨e3, hD3⟩ ⟨rfl, kk, hk⟩
      obtain ⟨q, hq, e, r, xs, er, hr0, hl⟩ := paired_get gp hk
      have er : v = .ref r := er
      subst er
      have lx := hl.len
      refine ⟨rfl, yes_go ⟨_, rfl, r, rfl, ⟨_, SqL.of (e3 _ _ hr0)⟩, ?_⟩⟩
      have l82 := l8 q (List.mem_of_getElem? hq)
      have tk : (Tb.take (i + 1)).flatMap fl = (Tb.take i).flatMap fl ++ fl q := by
        rw [List.take_add_one, hq, List.flatMap_append]
        congr 1
        exact List.append_nil _
      refine lc1_it walk_list (fun j H' => Ex G H' ∧ H' D = some (.lst (((Tb.take i).flatMap fl ++ (fl q).take j).map V.bl))) ⟨e3, by rw [List.take_zero, List.append_nil]; exact hD3⟩ (fun j H' _ ⟨e, _⟩ => SqL.of (e _ _ hr0)) ?_ ?_
      · rintro j v F2 F2' hj ⟨e4, hD4⟩ ⟨rfl, hv2⟩
        obtain ⟨p, hpp, ip⟩ := (hl.keep (Tups.of e4)).get hv2
        obtain ⟨a, rfl, ha⟩ := rul_get ip
        refine ⟨rfl, yes_go ⟨_, rfl, _, rfl, a, _, _, _, rfl, rfl, SqT.of ha, atI_nat rfl, rfl, _, hD4, ?_, Evl.Ex.mut e4 hD, ?_⟩⟩
        · have := flen i
          refine Evl.sz_lt ?_
          rw [List.length_map, List.length_append, List.length_take]
          have : (fl q).length = q.2.length := List.length_map ..
          omega
        · have fj : (fl q)[j]? = some (decide (V.str z = V.str p.1)) := by
            show (q.2.map _)[j]? = _
            rw [List.getElem?_map, hpp]
            rfl
          rw [List.take_add_one, fj, upd_same]
          simp
      · rintro F2 ⟨e4, hD4⟩
        refine ⟨e4, ?_⟩
        have tf : (fl q).take xs.length = fl q := List.take_of_length_le (by rw [lx]; show (q.2.map _).length ≤ _; rw [List.length_map]; exact Nat.le_refl _)
        rw [tk, hD4, tf]
    · rintro F1 ⟨e3, hD3⟩
      rw [lk, List.take_length] at hD3
      refine ⟨D, _, rfl, SqL.of hD3, e3 _ _ gt, _, rfl, ?_⟩
      rw [eG] at e3
      have eF := ex_unlock ft e3
      cases q : hasW Tb z with
      | true =>
        rw [show (Tb.flatMap fl).any id = true from q]
        exact iteT ⟨_, rfl, go z _ _ (by rw [hz]; exact if_pos q) eF (Tups.of eF) rfl⟩
      | false =>
        rw [show (Tb.flatMap fl).any id = false from q]
        exact iteF (sk _ (by rw [hz]; exact if_neg (by rw [q]; exact Bool.false_ne_true)) eF (Tups.of eF))
  · intro F ys e2 t2 hD2 hy
    refine k _ L _ e2 (by rw [hD2, Ls.strs_eq hy]) fun z hz => ?_
    obtain ⟨i, _, hi⟩ := List.mem_filterMap.mp hz
    obtain ⟨y, hy2, hi⟩ := Option.bind_eq_some_iff.mp hi
    by_cases c : hasW Tb y = true
    · rw [if_pos c] at hi
      rw [← Option.some.inj hi]
      exact c
    · rw [if_neg c] at hi
      cases hi
/-- a machine, or none -/
def LetV (K : PySem.W.Frag) (H : Hp) (N : Int) (v : V) : Option Tab → Prop
  | none => v = .non
  | some Tb => ∃ x, v = .ref x ∧ LetAt K H x N Tb
structure LetF (N : Int) (D : Words) (Tb : Tab) : Prop where
  nd : (Tb.map (·.1)).Nodup
  st : ("start" : Str) ∈ Tb.map (·.1)
  len : Tb.length ≤ 5
  rl : ∀ q ∈ Tb, q.2.length ≤ 8 ∧ ∀ r ∈ q.2, r.1 ∈ D.map (·.1) ∧ (0 ≤ r.2.1 ∧ r.2.1 < N) ∧ r.2.2 ∈ Tb.map (·.1)
theorem LetV.keep {H H' : Hp} {N : Int} {v : V} : ∀ {o : Option Tab}, LetV K H N v o → Ex H H' → LetV K H' N v o
  | none, h, _ => h
  | some _, ⟨x, e, h⟩, e2 => ⟨x, e, h.keep e2⟩
theorem hasW_mem {N : Int} {D : Words} {Tb : Tab} (h : LetF N D Tb) {z : Str} (e : hasW Tb z = true) : z ∈ D.map (·.1) := by
  obtain ⟨b, hb, e1⟩ := List.any_eq_true.mp e
  obtain ⟨q, hq, hb⟩ := List.mem_flatMap.mp hb
  obtain ⟨r, hr, rfl⟩ := List.mem_map.mp hb
  have e2 : V.str z = V.str r.1 := of_decide_eq_true e1
  rw [V.str.inj e2]
  exact ((h.rl q hq).2 r hr).1
theorem inV_strs {z : Str} {l : List Str} (h : z ∈ l) : inV (.str z) (l.map V.str) = true := by
  unfold inV
  rw [List.any_eq_true]
  exact ⟨.str z, List.mem_map_of_mem h, by show decide (z = z) = true; exact decide_eq_true rfl⟩
theorem flat_strs (l : List Str) : (l.map V.str).all flatV = true := by
  rw [List.all_eq_true]
  intro v hv
  obtain ⟨z, _, rfl⟩ := List.mem_map.mp hv
  rfl
def sp_check_let (K : PySem.W.Frag) : Sp := fun vs H Q _ => ∃ (a : Addr) (v : V) (N : Int) (D : Words) (o : Option Tab), vs = [.ref a, v] ∧ PartAt K H a N D ∧ PartF N D ∧ LetV K H N v o ∧ (∀ Tb, o = some Tb → LetF N D Tb) ∧ ∀ H', Ex H H' → Q .non H'
abbrev N_check_let : List Str := ["part", "let", "words", "word"]
theorem sc_check_let : FnScope N_check_let ["part", "let"] (defScope s_check_let) := ⟨rfl, rfl, rfl, by decide +kernel, rfl, by decide +kernel, by decide +kernel⟩
theorem ok_check_let (T : Txt K mg) : DefOk P w K mg base 3 (He.ga K "check_let") ["part", "let"] (sp_check_let K) := by
  obtain ⟨fd, F⟩ := T.d_check_let
  obtain ⟨fd_Part_words, G_Part_words, kp_Part_words, b_Part_words⟩ := ok_Part_words (P := P) (w := w) (base := base) T
  obtain ⟨fd_Let_words, G_Let_words, kp_Let_words, b_Let_words⟩ := ok_Let_words (P := P) (w := w) (base := base) T
  refine ⟨fd, F.ok sc_check_let (fun vs H Q E h => ?_) (fun cdv A outer s H vs Q E hr h => ?_), F.kp, F.bindsN fun _ _ _ _ _ _ us hl => match us, hl with | [_, _], _ => rfl⟩
  · obtain ⟨a, v, N, D, o, rfl, hA, F0, hv, hL, k⟩ := h
    rfl
  have hu := hu_of hr
  have nd := sc_check_let.nd
  obtain ⟨a, v, N, D, o, rfl, hA, F0, hv, hL, k⟩ := h
  refine ⟨_, PSs.nox (pss_cons (ps_if (pt_cmpR op_isN (pv 1) pe_non (nomark _)) (pss_one ps_retN) pss_nil)
  (pss_cons (ps_if (pt_cmpR op_ne (pe_fldK K (pv 1) rfl) (pe_fldK K (pv 0) rfl) (nomark _)) pss_never pss_nil)
  (pss_cons (ps_set (i := 2) nd rfl (by first | exact Or.inl rfl | exact Or.inr rfl) (pe_prop (pv 0) T.c_Part T.p_Part_words G_Part_words (hr.mono (by decide)) b_Part_words .nil pass0 rfl))
  (pss_one (ps_for PassesOwn.never rfl (pi_list (pe_prop (pv 1) T.c_Let T.p_Let_words G_Let_words (hr.mono (by decide)) b_Let_words .nil pass0 rfl)) (pg_name (i := 3) nd rfl (by first | exact Or.inl rfl | exact Or.inr rfl)) (pss_one (ps_if (pt_cmpR (op_notIn_seqK K) (pv 3) (pv 2) rfl) pss_never pss_nil))))))), ?_⟩
  cases o with
  | none =>
    cases (show v = .non from hv)
    exact ⟨_, rfl, rfl, _, rfl, iteT (k _ (Ex.refl _))⟩
  | some Tb =>
    obtain ⟨x, rfl, hx⟩ := hv
    have LF := hL Tb rfl
    obtain ⟨dx, t, hx1, hx2⟩ := id hx
    obtain ⟨dp, d, ha, hd, hT⟩ := id hA
    refine ⟨_, rfl, rfl, _, rfl, iteF ?_⟩
    refine ⟨_, rfl, x, _, dx, _, _, rfl, hx1, T.c_Let, T.n_Let_around, lf_a _ _, _, rfl, a, _, dp, _, _, rfl, ha, T.c_Part, T.n_Part_around, pf_a _ _, rfl, _, rfl, iteNS rfl ?_⟩
    refine ⟨_, rfl, a, dp, _, rfl, ha, a, N, D, rfl, hA, F0, fun H1 p e1 hp1 => ?_⟩
    refine ⟨_, rfl, x, dx, _, rfl, e1 _ _ hx1, x, N, Tb, rfl, hx.keep e1, LF.len, fun q hq => (LF.rl q hq).1, fun H2 p2 ws e2 hp2 hw => ?_⟩
    refine ⟨p2, rfl, ⟨_, SqL.of hp2⟩, ?_⟩
    have hp12 := e2 _ _ hp1
    have eD : (D.map fun q => V.str q.1) = (D.map (·.1)).map V.str := by rw [List.map_map]; rfl
    rw [eD] at hp12
    refine for_it walk_list (fun i σ H' => H' = H2 ∧ ∃ z, σ = [some (.ref a), some (.ref x), some (.ref p), z]) ⟨rfl, none, rfl⟩ (fun i σ H' _ ⟨e, _⟩ => by rw [e]; exact SqL.of hp2) ?_ ?_
    · rintro i v σ H3 H4 hi ⟨rfl, z, rfl⟩ ⟨rfl, hv⟩
      rw [List.getElem?_map] at hv
      obtain ⟨z2, hz, rfl⟩ := Option.map_eq_some_iff.mp hv
      have m := hasW_mem LF (hw z2 (List.mem_of_getElem? hz))
      refine ⟨_, rfl, _, rfl, p, _, rfl, .inl (SqL.of hp12), rfl, flat_strs _, _, rfl, ?_⟩
      rw [if_pos rfl, inV_strs m]
      exact iteF ⟨rfl, _, rfl⟩
    · rintro σ H3 ⟨rfl, z, rfl⟩
      exact k _ (e1.trans e2)
end
end JD
end Part_JD7
section Part_JD8
set_option Elab.async false
set_option linter.all false
set_option maxRecDepth 100000
set_option maxHeartbeats 4000000
namespace JD
open PySem PySem.Spec PyProof.Rows L2 JR JX JT
open Evl (Ex)
/-- no more than the things there are -/
theorem nodup_le {α : Type} [DecidableEq α] : ∀ {l m : List α}, l.Nodup → (∀ x ∈ l, x ∈ m) → l.length ≤ m.length
  | [], _, _, _ => Nat.zero_le _
  | a :: l, m, h, s => by
    have h1 := List.nodup_cons.mp h
    have ha := s a List.mem_cons_self
    have := nodup_le (l := l) (m := m.erase a) h1.2 fun x hx => by
      have ne : x ≠ a := fun e => h1.1 (e ▸ hx)
      exact (List.mem_erase_of_ne ne).mpr (s x (List.mem_cons_of_mem _ hx))
    rw [List.length_erase_of_mem ha] at this
    have := List.length_pos_of_mem ha
    rw [List.length_cons]
    omega
section
variable {P : Program} {w : World} {K : PySem.W.Frag} {mg : Str → Option Value} {base : Heap}
/-! ### the board -/
abbrev rowsOfW (D : Words) (x : Str) : List JT.Row := ((D.find? fun q => decide (q.1 = x)).map (·.2.rows)).getD []
abbrev liftW (N : Int) (D : Words) (x : Str) : Int → Int := lifted N (rowsOfW D x)
theorem rowsOfW_mem {D : Words} (nd : (D.map (·.1)).Nodup) {q : Str × TurnD} (h : q ∈ D) : rowsOfW D q.1 = q.2.rows := by
  unfold rowsOfW
  rw [find_mem nd h]
  rfl
/-- what the board knows of the part -/
structure BF (N : Int) (D : Words) (s : Int) (sp : Str → List Int) : Prop where
  part : PartF N D
  span : IsSpan N (D.map (·.2.rows)) s
  bd : Bd s (liftW N D) sp (D.map (·.1))
abbrev bfl (pa : Addr) (s : Int) (d1 d2 f : Addr) : List (Str × V) := [("source", .ref pa), ("span", .int s), ("spots", .ref d1), ("slots", .ref d2), ("found", .ref f)]
/-- what is found already -/
def FOk (s : Int) (G : Str → Int → Int) (sp : Str → List Int) (ws : List Str) (o : HO) : Prop := ∃ kvs : List (List Key × V), o = .dT kvs ∧ (kvs.map (·.1)).Nodup ∧ ∀ p ∈ kvs, ∃ v ∈ ws, ∃ z : Int, 0 ≤ z ∧ z < s ∧ p.1 = [Sum.inr v, Sum.inl z] ∧ p.2 = .int (ix s (sp v) (G v z))
structure BoardS (K : PySem.W.Frag) (H : Hp) (b f : Addr) (N : Int) (D : Words) (s : Int) (sp : Str → List Int) : Prop where
  at_ : ∃ dx pa d1 d2, H b = some (.ins (cA K "Board") dx (bfl pa s d1 d2 f)) ∧ PartAt K H pa N D ∧
    (∃ kvs, H d1 = some (.dK kvs) ∧ kvs.map (·.1) = (D.map (·.1)).map Sum.inr ∧ ∀ x ∈ D.map (·.1), ∃ r, valV kvs (Sum.inr x) = some (.ref r) ∧ H r = some (.lst ((sp x).map .int))) ∧
    ∃ kvs, H d2 = some (.dK kvs) ∧ ∀ x ∈ D.map (·.1), ∃ r m, valV kvs (Sum.inr x) = some (.ref r) ∧ H r = some (.dK m) ∧ ∀ y ∈ sp x, valV m (Sum.inl y) = some (.int ((sp x).idxOf y : Int))
abbrev FkW (N : Int) (D : Words) (s : Int) (sp : Str → List Int) : HO → Prop := FOk s (liftW N D) sp (D.map (·.1))
def BoardAt (K : PySem.W.Frag) (H : Hp) (b f : Addr) (N : Int) (D : Words) (s : Int) (sp : Str → List Int) : Prop := BoardS K H b f N D s sp ∧ ∃ o, H f = some o ∧ FkW N D s sp o
theorem BoardAt.keep {H H' : Hp} {b f : Addr} {N : Int} {D : Words} {s : Int} {sp : Str → List Int} (h : BoardAt K H b f N D s sp) (e : Wx f (FkW N D s sp) H H') : BoardAt K H' b f N D s sp := by
  obtain ⟨⟨⟨dx, pa, d1, d2, hb, ⟨dp, dd, hA1, hA2, hA3⟩, ⟨k1, h1, h2, h3⟩, k2, h4, h5⟩⟩, o, hf, ok⟩ := h
  obtain ⟨kf, rfl, _⟩ := id ok
  have kp : ∀ a u, H a = some u → (∀ z, u ≠ .dT z) → H' a = some u := fun a u q n => e.1 a u (fun z => by rw [z, hf] at q; exact n _ (Option.some.inj q).symm) q
  have tu : Tups H H' := fun a xs q => kp a _ q fun _ z => nomatch z
  refine ⟨⟨⟨dx, pa, d1, d2, kp _ _ hb (fun _ z => nomatch z), ⟨dp, dd, kp _ _ hA1 (fun _ z => nomatch z), kp _ _ hA2 (fun _ z => nomatch z), fun q hq => ?_⟩, ⟨k1, kp _ _ h1 (fun _ z => nomatch z), h2, fun x hx => ?_⟩, k2, kp _ _ h4 (fun _ z => nomatch z), fun x hx => ?_⟩⟩, e.2 ⟨_, hf, ok⟩⟩
  · obtain ⟨dx', r, xs, g1, g2, g3⟩ := hA3 q hq
    exact ⟨dx', r, xs, kp _ _ g1 (fun _ z => nomatch z), tu _ _ g2, g3.keep tu⟩
  · obtain ⟨r, g1, g2⟩ := h3 x hx
    exact ⟨r, g1, kp _ _ g2 (fun _ z => nomatch z)⟩
  · obtain ⟨r, m, g1, g2, g3⟩ := h5 x hx
    exact ⟨r, m, g1, kp _ _ g2 (fun _ z => nomatch z), g3⟩
theorem fok_len {N : Int} {D : Words} {s : Int} {sp : Str → List Int} (B : BF N D s sp) {kvs : List (List Key × V)} (h : FkW N D s sp (.dT kvs)) : kvs.length ≤ 720 := by
  obtain ⟨k2, e, nd, al⟩ := h
  cases e
  have lo := B.part.lo
  have hi := B.part.hi
  have sN := B.span.le (by omega)
  have s0 := B.span.pos
  have lw : (D.map (·.1)).length ≤ 2 := by rcases B.part.ws with e | e | e <;> rw [e] <;> decide
  have h1 := nodup_le (m := (D.map (·.1)).flatMap fun v => (List.range s.toNat).map fun i : Nat => ([Sum.inr v, Sum.inl (Int.ofNat i)] : List Key)) nd fun x hx => by
    obtain ⟨p, hp, rfl⟩ := List.mem_map.mp hx
    obtain ⟨v, hv, z, z0, z1, e, _⟩ := al p hp
    refine List.mem_flatMap.mpr ⟨v, hv, List.mem_map.mpr ⟨z.toNat, List.mem_range.mpr (by omega), ?_⟩⟩
    rw [e, show Int.ofNat z.toNat = z from Int.toNat_of_nonneg z0]
  have h2 : ∀ l : List Str, (l.flatMap fun v => (List.range s.toNat).map fun i : Nat => ([Sum.inr v, Sum.inl (Int.ofNat i)] : List Key)).length = l.length * s.toNat := fun l => by
    induction l with
    | nil => simp
    | cons a l ih => rw [List.flatMap_cons, List.length_append, ih, List.length_map, List.length_range, List.length_cons, Nat.succ_mul, Nat.add_comm]
  rw [h2, List.length_map] at h1
  have h3 : (D.map (·.1)).length * s.toNat ≤ 2 * 360 := Nat.mul_le_mul lw (by omega)
  omega
theorem ix_add {s : Int} {l : List Int} (h0 : 0 < s) (y k : Int) : ix s l (y + k * s) = ix s l y + k * (l.length : Int) := by
  unfold ix
  rw [Int.add_mul_emod_self_right, Int.add_mul_ediv_right _ _ (by omega), Int.add_mul]
  omega
def sp_Board_carried (K : PySem.W.Frag) : Sp := fun vs H Q _ => ∃ (b f : Addr) (N : Int) (D : Words) (s : Int) (sp : Str → List Int) (x v : Str) (n sh : Int), vs = [.ref b, .str x, .int n, .str v, .int sh] ∧ BoardAt K H b f N D s sp ∧ BF N D s sp ∧ x ∈ D.map (·.1) ∧ v ∈ D.map (·.1) ∧
  ∀ H', Wx f (FkW N D s sp) H H' → Q (.int (ix s (sp v) (liftW N D v (R s (sp x) n + sh)))) H'
abbrev N_Board_carried : List Str := ["self", "word", "number", "v", "shift", "lap", "at", "more", "place", "key", "far", "spot"]
theorem sc_Board_carried : FnScope N_Board_carried ["self", "word", "number", "v", "shift"] (defScope s_Board_carried) := ⟨rfl, rfl, rfl, by decide +kernel, rfl, by decide +kernel, by decide +kernel⟩
theorem ok_Board_carried (T : Txt K mg) : DefOk P w K mg base 4 (mA K "Board" "carried") ["self", "word", "number", "v", "shift"] (sp_Board_carried K) := by
  obtain ⟨fd, F⟩ := T.d_Board_carried
  obtain ⟨fd_Turning_lifted, G_Turning_lifted, kp_Turning_lifted, b_Turning_lifted⟩ := ok_Turning_lifted (P := P) (w := w) (base := base) T
  obtain ⟨fd_Part_getitem, G_Part_getitem, kp_Part_getitem, b_Part_getitem⟩ := ok_Part_getitem (P := P) (w := w) (base := base) T
  refine ⟨fd, F.ok sc_Board_carried (fun vs H Q E h => ?_) (fun cdv A outer s H vs Q E hr h => ?_), F.kp, F.bindsN fun _ _ _ _ _ _ us hl => match us, hl with | [_, _, _, _, _], _ => rfl⟩
  · obtain ⟨b, f, N, D, s, sp, x, v, n, sh, rfl, hB, B, hx, hv, k⟩ := h
    rfl
  have hu := hu_of hr
  have nd := sc_Board_carried.nd
  obtain ⟨b, f, N, D, s, sp, x, v, n, sh, rfl, hB, B, hx, hv, k⟩ := h
  refine ⟨_, PSs.nox (pss_cons (ps_asg (pe_callB call_divmod (by rfl) T.b_divmod rfl (pa_cons (pv 2) (pa_cons (pe_callB call_len_seq (by rfl) T.b_len rfl (pa_cons (pe_dget hu (pe_fldK K (pv 0) rfl) (pv 1) (fun _ _ => rfl)) pa_nil)) pa_nil))) (pg_tup rfl (pgs_cons (pg_name (i := 5) nd rfl (by first | exact Or.inl rfl | exact Or.inr rfl)) (pgs_cons (pg_name (i := 6) nd rfl (by first | exact Or.inl rfl | exact Or.inr rfl)) pgs_nil))))
  (pss_cons (ps_asg (pe_callB call_divmod (by rfl) T.b_divmod rfl (pa_cons (pe_op op_add (pe_ix (ix_listK K) (pe_dget hu (pe_fldK K (pv 0) rfl) (pv 1) (fun _ _ => rfl)) (pv 6) (fun _ _ => rfl)) (pv 4)) (pa_cons (pe_fldK K (pv 0) rfl) pa_nil))) (pg_tup rfl (pgs_cons (pg_name (i := 7) nd rfl (by first | exact Or.inl rfl | exact Or.inr rfl)) (pgs_cons (pg_name (i := 8) nd rfl (by first | exact Or.inl rfl | exact Or.inr rfl)) pgs_nil))))
  (pss_cons (ps_set (i := 9) nd rfl (by first | exact Or.inl rfl | exact Or.inr rfl) (pe_tup (pa_cons (pv 3) (pa_cons (pv 8) pa_nil))))
  (Evl.pss_cut (ps_if (pt_cmp (pc_dnotin hu (pv 9) (pe_fldK K (pv 0) rfl))) (pss_cons (ps_asg (pe_callB call_divmod (by rfl) T.b_divmod rfl (pa_cons (pe_meth (pe_ownix (pe_fldK K (pv 0) rfl) (pv 3) T.c_Part T.m_Part_getitem T.f_getitem G_Part_getitem (hr.mono (by decide)) b_Part_getitem) T.c_Turning T.m_Turning_lifted G_Turning_lifted (hr.mono (by decide)) b_Turning_lifted .nil pass0 (pa_cons (pv 8) pa_nil)) (pa_cons (pe_fldK K (pv 0) rfl) pa_nil))) (pg_tup rfl (pgs_cons (pg_name (i := 10) nd rfl (by first | exact Or.inl rfl | exact Or.inr rfl)) (pgs_cons (pg_name (i := 11) nd rfl (by first | exact Or.inl rfl | exact Or.inr rfl)) pgs_nil))))
  (pss_one (ps_dput hu (pe_fldK K (pv 0) rfl) (pv 9) (pe_op op_add (pe_op op_mul (pv 10) (pe_callB call_len_seq (by rfl) T.b_len rfl (pa_cons (pe_dget hu (pe_fldK K (pv 0) rfl) (pv 3) (fun _ _ => rfl)) pa_nil))) (pe_dget hu (pe_dget hu (pe_fldK K (pv 0) rfl) (pv 3) (fun _ _ => rfl)) (pv 11) (fun _ _ => rfl))) rfl))) pss_nil)
  (pss_one (ps_ret (pe_op op_add (pe_dget hu (pe_fldK K (pv 0) rfl) (pv 9) (fun _ _ => rfl)) (pe_op op_mul (pe_op op_add (pv 5) (pv 7)) (pe_callB call_len_seq (by rfl) T.b_len rfl (pa_cons (pe_dget hu (pe_fldK K (pv 0) rfl) (pv 3) (fun _ _ => rfl)) pa_nil)))))))))), ?_⟩
  obtain ⟨⟨⟨dx, pa, d1, d2, hb, hA, ⟨k1, h1, h2, h3⟩, k2, h4, h5⟩⟩, o, hf, ok⟩ := id hB
  have okl := fun kvs => fok_len B (kvs := kvs)
  obtain ⟨kf, rfl, nf, alf⟩ := id ok
  have lo := B.part.lo
  have hi := B.part.hi
  have s0 := B.span.pos
  have sN := B.span.le (by omega)
  have Sx := B.bd.spots x hx
  have Sv := B.bd.spots v hv
  have lx0 := Sx.len
  have lv0 := Sv.len
  have splen : ∀ y ∈ D.map (·.1), ((sp y).length : Int) ≤ s := fun y hy => by
    have S := B.bd.spots y hy
    have := nodup_le (l := sp y) (m := (List.range s.toNat).map fun i : Nat => Int.ofNat i) (S.asc.imp fun {a b} h => by omega) fun r hr => by
      obtain ⟨a1, a2, _⟩ := (S.mem r).mp hr
      exact List.mem_map.mpr ⟨r.toNat, List.mem_range.mpr (by omega), Int.toNat_of_nonneg a1⟩
    rw [List.length_map, List.length_range] at this
    omega
  have lx1 := splen x hx
  have lv1 := splen v hv
  obtain ⟨rx, vx, hrx⟩ := h3 x hx
  obtain ⟨rv, vv, hrv⟩ := h3 v hv
  obtain ⟨rs, m, vs, hrs, hm⟩ := h5 v hv
  have pl := Sx.place n
  have g1 : DGet H d1 (.str x) (some (.ref rx)) := by rw [← vx]; exact DGet.k (k := Sum.inr x) h1
  refine ⟨_, rfl, _, rfl, b, _, dx, _, _, rfl, hb, T.c_Board, T.n_Board_spots, by kernel_rfl, _, rfl, d1, _, rfl, g1, rx, _, rfl, .inl (SqL.of hrx), ?_⟩
  rw [List.length_map]
  refine ⟨n, (sp x).length, rfl, ⟨lx0, by omega⟩, fun p1 hp1 => ⟨p1, _, rfl, SqT.of upd_same, rfl, _, _, rfl, _, _, rfl, rfl, ?_⟩⟩
  obtain ⟨H2, eH2⟩ : ∃ H2, H2 = upd H p1 (.tup [.int (n / ((sp x).length : Int)), .int (n % ((sp x).length : Int))]) := ⟨_, rfl⟩
  have e2 : Ex H H2 := by rw [eH2]; exact ex_new hp1
  rw [← eH2]
  obtain ⟨a0, ea0⟩ : ∃ a0, a0 = (sp x).getD (n % ((sp x).length : Int)).toNat 0 := ⟨_, rfl⟩
  have at0 : atI ((sp x).map V.int) (n % ((sp x).length : Int)) = some (.int a0) := by
    rw [show n % ((sp x).length : Int) = (((n % ((sp x).length : Int)).toNat : Nat) : Int) by omega]
    refine atI_nat ?_
    rw [List.getElem?_map, List.getElem?_eq_getElem pl.1, ea0, List.getD_eq_getElem?_getD, List.getElem?_eq_getElem pl.1]
    rfl
  have g2 : DGet H2 d1 (.str x) (some (.ref rx)) := by rw [← vx]; exact DGet.k (k := Sum.inr x) (e2 _ _ h1)
  refine ⟨_, rfl, b, _, dx, _, _, rfl, e2 _ _ hb, T.c_Board, T.n_Board_spots, by kernel_rfl, _, rfl, d1, _, rfl, g2, _, rfl, rx, _, _, _, rfl, rfl, SqL.of (e2 _ _ hrx), at0, _, rfl, _, _, rfl, rfl, _, rfl, b, _, dx, _, _, rfl, e2 _ _ hb, T.c_Board, T.n_Board_span, by kernel_rfl, _, s, rfl, ⟨s0, by omega⟩, fun p2 hp2 => ⟨p2, _, rfl, SqT.of upd_same, rfl, _, _, rfl, _, _, rfl, rfl, ?_⟩⟩
  obtain ⟨z, ez⟩ : ∃ z, z = (a0 + sh) % s := ⟨_, rfl⟩
  obtain ⟨more, em⟩ : ∃ m, m = (a0 + sh) / s := ⟨_, rfl⟩
  rw [← ez, ← em]
  have z0 : 0 ≤ z := by rw [ez]; exact Int.emod_nonneg _ (by omega)
  have z1 : z < s := by rw [ez]; exact Int.emod_lt_of_pos _ s0
  have e3 : Ex H (upd H2 p2 (.tup [.int more, .int z])) := e2.trans (ex_new hp2)
  obtain ⟨H3, eH3⟩ : ∃ H3, H3 = upd H2 p2 (.tup [.int more, .int z]) := ⟨_, rfl⟩
  rw [← eH3] at e3 ⊢
  refine ⟨_, rfl, _, rfl, (by show 2 ≤ sizeLine; decide), fun kq hkq => ?_⟩
  have e4 : Ex H (upd H3 kq (.tup [.str v, .int z])) := e3.trans (ex_new hkq)
  obtain ⟨H4, eH4⟩ : ∃ H4, H4 = upd H3 kq (.tup [.str v, .int z]) := ⟨_, rfl⟩
  rw [← eH4] at e4 ⊢
  have h4k : H4 kq = some (.tup ([Sum.inr v, Sum.inl z].map kV)) := by rw [eH4]; exact upd_same
  have val : ix s (sp v) (liftW N D v z) + (n / ((sp x).length : Int) + more) * ((sp v).length : Int) = ix s (sp v) (liftW N D v (R s (sp x) n + sh)) := by
    have er : R s (sp x) n + sh = z + (n / ((sp x).length : Int) + more) * s := by
      have := Int.emod_add_mul_ediv (a0 + sh) s
      rw [← ez, ← em, Int.mul_comm] at this
      unfold JT.R
      rw [← ea0, Int.add_mul]
      omega
    rw [er, B.bd.shift v hv, ix_add s0]
  refine ⟨fun σ' H' => ∃ x10 x11 kvs, σ' = [some (.ref b), some (.str x), some (.int n), some (.str v), some (.int sh), some (.int (n / ((sp x).length : Int))), some (.int (n % ((sp x).length : Int))), some (.int more), some (.int z), some (.ref kq), x10, x11] ∧
    Wx f (FkW N D s sp) H4 H' ∧ H' f = some (.dT kvs) ∧ FkW N D s sp (.dT kvs) ∧ valV kvs [Sum.inr v, Sum.inl z] = some (.int (ix s (sp v) (liftW N D v z))), ?_, ?_⟩
  · refine ⟨_, rfl, _, rfl, b, _, dx, _, _, rfl, e4 _ _ hb, T.c_Board, T.n_Board_found, by kernel_rfl, f, _, rfl, DGet.t (e4 _ _ hf) h4k, _, rfl, ?_⟩
    cases q : valV kf [Sum.inr v, Sum.inl z] with
    | some w =>
      refine iteF ⟨none, none, kf, rfl, Wx.refl _, e4 _ _ hf, ok, ?_⟩
      rw [q]
      unfold valV at q
      obtain ⟨p, hp, e⟩ := Option.map_eq_some_iff.mp q
      obtain ⟨v', _, z', _, _, e1, e2⟩ := alf p (List.mem_of_find?_eq_some hp)
      have e3 : p.1 = [Sum.inr v, Sum.inl z] := by
        have := List.find?_some hp
        exact of_decide_eq_true this
      rw [e1] at e3
      injection e3 with e3 e5
      injection e5 with e5 _
      rw [← e, e2, Sum.inr.inj e3, Sum.inl.inj e5]
    | none =>
      obtain ⟨q0, hq0, rfl⟩ := List.mem_map.mp hv
      have TQ := (hA.keep e4)
      obtain ⟨dp, dd, hA1, hA2, hA3⟩ := id TQ
      have Tq := hA3 q0 hq0
      obtain ⟨dt, rt, xt, t1, t2, t3⟩ := id Tq
      have rr := rowsOfW_mem B.part.nd hq0
      have Yf : liftW N D q0.1 (liftW N D q0.1 z) = liftW N D q0.1 z := B.bd.idem _ hv _
      obtain ⟨y, ey⟩ : ∃ y, y = liftW N D q0.1 z := ⟨_, rfl⟩
      refine iteT ⟨_, rfl, b, _, dx, _, _, rfl, e4 _ _ hb, T.c_Board, T.n_Board_source, by kernel_rfl, _, rfl, pa, dp, _, rfl, hA1, ⟨pa, N, D, q0, rfl, TQ, B.part, hq0, q0.2.t, dt, _, rfl, t1, by kernel_rfl, _, rfl, q0.2.t, N, q0.2.p, z, q0.2.rows, rfl, Tq, (B.part.tf _ hq0).rows, hi, fun H5 e5 => ?_⟩⟩
      have ly : lifted N q0.2.rows z = y := by rw [ey]; show _ = lifted N (rowsOfW D q0.1) z; rw [rr]
      rw [ly]
      have e45 := e4.trans e5
      refine ⟨_, rfl, b, _, dx, _, _, rfl, e45 _ _ hb, T.c_Board, T.n_Board_span, by kernel_rfl, y, s, rfl, ⟨s0, by omega⟩, fun p3 hp3 => ⟨p3, _, rfl, SqT.of upd_same, rfl, _, _, rfl, _, _, rfl, rfl, ?_⟩⟩
      have e6 : Ex H (upd H5 p3 (.tup [.int (y / s), .int (y % s)])) := e45.trans (ex_new hp3)
      have e46 : Ex H4 (upd H5 p3 (.tup [.int (y / s), .int (y % s)])) := e5.trans (ex_new hp3)
      obtain ⟨H6, eH6⟩ : ∃ H6, H6 = upd H5 p3 (.tup [.int (y / s), .int (y % s)]) := ⟨_, rfl⟩
      rw [← eH6] at e6 e46 ⊢
      have gv : DGet H6 d1 (.str q0.1) (some (.ref rv)) := by rw [← vv]; exact DGet.k (k := Sum.inr q0.1) (e6 _ _ h1)
      have gs : DGet H6 d2 (.str q0.1) (some (.ref rs)) := by rw [← vs]; exact DGet.k (k := Sum.inr q0.1) (e6 _ _ h4)
      have ym : y % s ∈ sp q0.1 := by
        refine (Sv.mem _).mpr ⟨Int.emod_nonneg _ (by omega), Int.emod_lt_of_pos _ s0, ?_⟩
        have := B.bd.shift q0.1 hv (y % s) (y / s)
        have e0 := Int.emod_add_mul_ediv y s
        rw [Int.mul_comm] at e0
        rw [e0, ey, Yf, ← ey] at this
        omega
      have gm : DGet H6 rs (.int (y % s)) (some (.int ((sp q0.1).idxOf (y % s) : Int))) := by rw [← hm _ ym]; exact DGet.k (k := Sum.inl (y % s)) (e6 _ _ hrs)
      refine ⟨_, rfl, _, rfl, b, _, dx, _, _, rfl, e6 _ _ hb, T.c_Board, T.n_Board_spots, by kernel_rfl, _, rfl, d1, _, rfl, gv, rv, _, rfl, .inl (SqL.of (e6 _ _ hrv)), ?_⟩
      rw [List.length_map]
      refine ⟨_, _, rfl, rfl, .inr ⟨by omega, by omega⟩, _, rfl, b, _, dx, _, _, rfl, e6 _ _ hb, T.c_Board, T.n_Board_slots, by kernel_rfl, _, rfl, d2, _, rfl, gs, _, rfl, rs, _, rfl, gm, _, _, rfl, rfl, ?_⟩
      have nk : ([Sum.inr q0.1, Sum.inl z] : List Key) ∉ kf.map (·.1) := fun hm => by
        obtain ⟨p, hp, e⟩ := List.mem_map.mp hm
        unfold valV at q
        rw [Option.map_eq_none_iff, List.find?_eq_none] at q
        exact q p hp (decide_eq_true e)
      have exy : y / s * ((sp q0.1).length : Int) + ((sp q0.1).idxOf (y % s) : Int) = ix s (sp q0.1) (liftW N D q0.1 z) := by rw [← ey]; rfl
      have ok2 : FkW N D s sp (.dT (putK kf [Sum.inr q0.1, Sum.inl z] (.int (ix s (sp q0.1) (liftW N D q0.1 z))))) := by
        refine ⟨_, rfl, ?_, ?_⟩
        · rw [putK_new nk, List.map_append, List.nodup_append]
          refine ⟨nf, List.pairwise_singleton _ _, fun a ha b hb e => nk ?_⟩
          rw [e] at ha
          rw [List.mem_singleton.mp hb] at ha
          exact ha
        · rw [putK_new nk]
          intro p hp
          rcases List.mem_append.mp hp with hp | hp
          · exact alf p hp
          · rw [List.mem_singleton.mp hp]
            exact ⟨q0.1, hv, z, z0, z1, rfl, rfl⟩
      refine ⟨_, rfl, b, _, dx, _, _, rfl, e6 _ _ hb, T.c_Board, T.n_Board_found, by kernel_rfl, _, rfl, f, _, rfl, DPut.t (e6 _ _ hf) (e46 _ _ h4k) (Evl.sz_lt (by have := okl kf ok; omega)), ?_⟩
      have ok3 : FkW N D s sp (.dT (putK kf [Sum.inr q0.1, Sum.inl z] (.int (y / s * ((sp q0.1).length : Int) + ((sp q0.1).idxOf (y % s) : Int))))) := by rw [exy]; exact ok2
      refine ⟨_, _, _, rfl, (Wx.ex e46).trans (Wx.put ok3), upd_same, ok3, ?_⟩
      · show valV (putK kf [Sum.inr q0.1, Sum.inl z] (.int (y / s * ((sp q0.1).length : Int) + ((sp q0.1).idxOf (y % s) : Int)))) _ = _
        rw [exy, putK_new nk]
        unfold valV
        rw [List.find?_append, List.find?_eq_none.mpr fun p hp => by
          rw [decide_eq_true_eq]
          exact fun e => nk (by rw [← e]; exact List.mem_map_of_mem hp)]
        simp
  · rintro σ' H' ⟨x10, x11, kvs, rfl, e5, hf5, ok5, v5⟩
    have B4 : BoardAt K H4 b f N D s sp := hB.keep (Wx.ex e4)
    have B5 := B4.keep e5
    have e05 : Wx f (FkW N D s sp) H H' := (Wx.ex e4).trans e5
    obtain ⟨kq5, hk5⟩ : ∃ u, H' kq = some u := ⟨_, e5.1 _ _ (fun z => by rw [z, e4 _ _ hf] at h4k; cases h4k) h4k⟩
    have hk6 := e5.1 _ _ (fun z => by rw [z, e4 _ _ hf] at h4k; cases h4k) h4k
    have nbf : ∀ a u, H a = some u → (∀ z, u ≠ .dT z) → H' a = some u := fun a u q n => e05.1 a u (fun z => by rw [z, hf] at q; exact n _ (Option.some.inj q).symm) q
    have hb5 := nbf _ _ hb (fun _ z => nomatch z)
    have gf : DGet H' f (.ref kq) (some (.int (ix s (sp v) (liftW N D v z)))) := by rw [← v5]; exact DGet.t hf5 hk6
    have gv : DGet H' d1 (.str v) (some (.ref rv)) := by rw [← vv]; exact DGet.k (k := Sum.inr v) (nbf _ _ h1 (fun _ z => nomatch z))
    refine ⟨_, rfl, b, _, dx, _, _, rfl, hb5, T.c_Board, T.n_Board_found, by kernel_rfl, _, rfl, f, _, rfl, gf, _, rfl, _, rfl, _, _, rfl, rfl, _, rfl, b, _, dx, _, _, rfl, hb5, T.c_Board, T.n_Board_spots, by kernel_rfl, _, rfl, d1, _, rfl, gv, rv, _, rfl, .inl (SqL.of (nbf _ _ hrv (fun _ z => nomatch z))), ?_⟩
    rw [List.length_map]
    refine ⟨_, _, rfl, rfl, .inr ⟨by omega, by omega⟩, _, _, rfl, rfl, ?_⟩
    show Q (.int (ix s (sp v) (liftW N D v z) + (n / ((sp x).length : Int) + more) * ((sp v).length : Int))) H'
    rw [val]
    exact k H' e05
end
end JD
end Part_JD8
section Part_JD9
set_option Elab.async false
set_option linter.all false
set_option maxRecDepth 100000
set_option maxHeartbeats 4000000
namespace JD
open PySem PySem.Spec PyProof.Rows L2 JR JX JT
open Evl (Ex)
section
variable {P : Program} {w : World} {K : PySem.W.Frag} {mg : Str → Option Value} {base : Heap}
/-! ### stands -/
abbrev Node := Nd Str Str
abbrev encNd (n : Node) : PyData := .tuple [.str n.st, .str n.w, .int n.i, .int n.j]
abbrev keyNd (n : Node) : List Key := [Sum.inr n.st, Sum.inr n.w, Sum.inl n.i, Sum.inl n.j]
theorem nd_get {H : Hp} {v : V} {n : Node} (h : Im H v (encNd n)) : ∃ a, v = .ref a ∧ H a = some (.tup [.str n.st, .str n.w, .int n.i, .int n.j]) := by
  obtain ⟨a, xs, rfl, ha, h2⟩ := h
  obtain ⟨x, r, rfl, rfl, y, r2, rfl, rfl, z, r3, rfl, rfl, u, r4, rfl, rfl, rfl⟩ := h2
  exact ⟨a, rfl, ha⟩
theorem nd_mk {H : Hp} {a : Addr} {x y : Str} {i j : Int} (h : H a = some (.tup [.str x, .str y, .int i, .int j])) : Im H (.ref a) (encNd ⟨x, y, i, j⟩) := ⟨a, _, rfl, h, _, _, rfl, rfl, _, _, rfl, rfl, _, _, rfl, rfl, _, _, rfl, rfl, rfl⟩
abbrev encO : Option Node → PyData
  | none => .none
  | some n => encNd n
/-- a step's deed, what stands behind it -/
abbrev Mv := Deed × Option Node
abbrev encMv (m : Mv) : PyData := .tuple [.tuple [.str m.1.1, .int m.1.2], encO m.2]
def behind (N : Int) (D : Words) (s : Int) (sp : Str → List Int) (n : Node) (r : Rul) : Option Node := (stepIJ s (liftW N D r.1) (sp n.w) (sp r.1) r.2.1 n.i n.j).map fun p => ⟨r.2.2, r.1, p.1, p.2⟩
theorem BoardAt.dT {H : Hp} {b f : Addr} {N : Int} {D : Words} {s : Int} {sp : Str → List Int} (h : BoardAt K H b f N D s sp) : ∃ kvs, H f = some (.dT kvs) := by
  obtain ⟨_, o, hf, k, rfl, _⟩ := h
  exact ⟨k, hf⟩
theorem BoardAt.tups {H H' : Hp} {b f : Addr} {N : Int} {D : Words} {s : Int} {sp : Str → List Int} (h : BoardAt K H b f N D s sp) {Ok : HO → Prop} (e : Wx f Ok H H') : Tups H H' := by
  obtain ⟨k, hf⟩ := h.dT
  exact e.tups hf fun _ z => nomatch z
theorem BoardAt.tab {H H' : Hp} {b f : Addr} {N : Int} {D : Words} {s : Int} {sp : Str → List Int} (h : BoardAt K H b f N D s sp) {Ok : HO → Prop} (e : Wx f Ok H H') {d : Addr} {St : Tab} (t : TabAt H d St) : TabAt H' d St := by
  obtain ⟨k, hf⟩ := h.dT
  obtain ⟨kvs, h1, h2⟩ := t
  have kp : ∀ a u, H a = some u → (∀ z, u ≠ .dT z) → H' a = some u := fun a u q n => e.1 a u (fun z => by rw [z, hf] at q; exact n _ (Option.some.inj q).symm) q
  exact ⟨kvs, kp _ _ h1 fun _ z => (nomatch z), tab_keep h2 (h.tups e) fun r xs q => kp _ _ q fun _ z => (nomatch z)⟩
def sp_is_closed : Sp := fun vs H Q _ => ∃ (v : V) (n : Node), vs = [v] ∧ Im H v (encNd n) ∧ Q (.bl (decide (n.i = n.j))) H
abbrev N_is_closed : List Str := ["stand"]
theorem sc_is_closed : FnScope N_is_closed ["stand"] (defScope s_is_closed) := ⟨rfl, rfl, rfl, by decide +kernel, rfl, by decide +kernel, by decide +kernel⟩
theorem ok_is_closed (T : Txt K mg) : DefOk P w K mg base 1 (He.ga K "is_closed") ["stand"] sp_is_closed := by
  obtain ⟨fd, F⟩ := T.d_is_closed
  refine ⟨fd, F.ok sc_is_closed (fun vs H Q E h => ?_) (fun cdv A outer s H vs Q E hr h => ?_), F.kp, F.bindsN fun _ _ _ _ _ _ us hl => match us, hl with | [_], _ => rfl⟩
  · obtain ⟨v, n, rfl, hv, k⟩ := h
    rfl
  have hu := hu_of hr
  have nd := sc_is_closed.nd
  obtain ⟨v, n, rfl, hv, k⟩ := h
  refine ⟨_, PSs.nox (pss_one (ps_ret (pe_cmpR op_eq (pe_ix (ix_tupK K) (pv 0) pe_int (fun _ _ => rfl)) (pe_ix (ix_tupK K) (pv 0) pe_int (fun _ _ => rfl)) (nomark _)))), ?_⟩
  obtain ⟨a, rfl, ha⟩ := nd_get hv
  refine ⟨_, rfl, a, _, _, _, rfl, rfl, SqT.of ha, atI_nat (j := 2) rfl, _, rfl, a, _, _, _, rfl, rfl, SqT.of ha, atI_nat (j := 3) rfl, rfl, ?_⟩
  have : decide (V.int n.i = V.int n.j) = decide (n.i = n.j) := by
    by_cases e : n.i = n.j
    · rw [decide_eq_true e, decide_eq_true (congrArg V.int e)]
    · rw [decide_eq_false e, decide_eq_false fun q => e (V.int.inj q)]
  show Q (.bl (decide (V.int n.i = V.int n.j))) H
  rw [this]
  exact k
def sp_stand_behind (K : PySem.W.Frag) : Sp := fun vs H Q _ => ∃ (b f : Addr) (N : Int) (D : Words) (s : Int) (sp : Str → List Int) (v u : V) (n : Node) (r : Rul), vs = [.ref b, v, u] ∧ BoardAt K H b f N D s sp ∧ BF N D s sp ∧ Im H v (encNd n) ∧ Im H u (encRul r) ∧ n.w ∈ D.map (·.1) ∧ r.1 ∈ D.map (·.1) ∧
  ∀ H' z, Wx f (FkW N D s sp) H H' → Im H' z (encO (behind N D s sp n r)) → Q z H'
abbrev N_stand_behind : List Str := ["board", "stand", "step", "v", "turn", "state", "many", "left", "right", "lap"]
theorem sc_stand_behind : FnScope N_stand_behind ["board", "stand", "step"] (defScope s_stand_behind) := ⟨rfl, rfl, rfl, by decide +kernel, rfl, by decide +kernel, by decide +kernel⟩
theorem ok_stand_behind (T : Txt K mg) : DefOk P w K mg base 5 (He.ga K "stand_behind") ["board", "stand", "step"] (sp_stand_behind K) := by
  obtain ⟨fd, F⟩ := T.d_stand_behind
  obtain ⟨fd_Board_carried, G_Board_carried, kp_Board_carried, b_Board_carried⟩ := ok_Board_carried (P := P) (w := w) (base := base) T
  refine ⟨fd, F.ok sc_stand_behind (fun vs H Q E h => ?_) (fun cdv A outer s H vs Q E hr h => ?_), F.kp, F.bindsN fun _ _ _ _ _ _ us hl => match us, hl with | [_, _, _], _ => rfl⟩
  · obtain ⟨b, f, N, D, s, sp, v, u, n, r, rfl, hB, B, hv, hu0, hn, hr1, k⟩ := h
    rfl
  have hu := hu_of hr
  have nd := sc_stand_behind.nd
  obtain ⟨b, f, N, D, s, sp, v, u, n, r, rfl, hB, B, hv, hu0, hn, hr1, k⟩ := h
  refine ⟨_, PSs.nox (pss_cons (ps_asg (pv 2) (pg_tup rfl (pgs_cons (pg_name (i := 3) nd rfl (by first | exact Or.inl rfl | exact Or.inr rfl)) (pgs_cons (pg_name (i := 4) nd rfl (by first | exact Or.inl rfl | exact Or.inr rfl)) (pgs_cons (pg_name (i := 5) nd rfl (by first | exact Or.inl rfl | exact Or.inr rfl)) pgs_nil)))))
  (pss_cons (ps_set (i := 6) nd rfl (by first | exact Or.inl rfl | exact Or.inr rfl) (pe_callB call_len_seq (by rfl) T.b_len rfl (pa_cons (pe_dget hu (pe_fldK K (pv 0) rfl) (pv 3) (fun _ _ => rfl)) pa_nil)))
  (pss_cons (ps_set (i := 7) nd rfl (by first | exact Or.inl rfl | exact Or.inr rfl) (pe_meth (pv 0) T.c_Board T.m_Board_carried G_Board_carried (hr.mono (by decide)) b_Board_carried .nil pass0 (pa_cons (pe_ix (ix_tupK K) (pv 1) pe_int (fun _ _ => rfl)) (pa_cons (pe_ix (ix_tupK K) (pv 1) pe_int (fun _ _ => rfl)) (pa_cons (pv 3) (pa_cons (pe_un un_neg (pv 4)) pa_nil))))))
  (pss_cons (ps_set (i := 8) nd rfl (by first | exact Or.inl rfl | exact Or.inr rfl) (pe_meth (pv 0) T.c_Board T.m_Board_carried G_Board_carried (hr.mono (by decide)) b_Board_carried .nil pass0 (pa_cons (pe_ix (ix_tupK K) (pv 1) pe_int (fun _ _ => rfl)) (pa_cons (pe_ix (ix_tupK K) (pv 1) pe_int (fun _ _ => rfl)) (pa_cons (pv 3) (pa_cons (pe_un un_neg (pv 4)) pa_nil))))))
  (pss_cons (ps_if (pt_cmpR op_eq (pv 8) (pe_op op_add (pv 7) (pv 6)) (nomark _)) (pss_one (ps_ret pe_non)) pss_nil)
  (pss_cons (ps_set (i := 9) nd rfl (by first | exact Or.inl rfl | exact Or.inr rfl) (pe_op op_fdiv (pv 7) (pv 6)))
  (pss_one (ps_ret (pe_tup (pa_cons (pv 5) (pa_cons (pv 3) (pa_cons (pe_op op_sub (pv 7) (pe_op op_mul (pv 9) (pv 6))) (pa_cons (pe_op op_sub (pv 8) (pe_op op_mul (pv 9) (pv 6))) pa_nil))))))))))))), ?_⟩
  obtain ⟨a, rfl, ha⟩ := nd_get hv
  obtain ⟨c, rfl, hc⟩ := rul_get hu0
  obtain ⟨⟨⟨dx, pa, d1, d2, hb, hA, ⟨k1, h1, h2, h3⟩, _⟩⟩, _⟩ := id hB
  obtain ⟨rv, vv, hrv⟩ := h3 r.1 hr1
  have lv0 := (B.bd.spots r.1 hr1).len
  have lo := B.part.lo
  have hi := B.part.hi
  have s0 := B.span.pos
  have sN := B.span.le (by omega)
  have lv1 : ((sp r.1).length : Int) ≤ s := by
    have S := B.bd.spots r.1 hr1
    have := nodup_le (l := sp r.1) (m := (List.range s.toNat).map fun i : Nat => Int.ofNat i) (S.asc.imp fun {a b} h => by omega) fun y hy => by
      obtain ⟨a1, a2, _⟩ := (S.mem y).mp hy
      exact List.mem_map.mpr ⟨y.toNat, List.mem_range.mpr (by omega), Int.toNat_of_nonneg a1⟩
    rw [List.length_map, List.length_range] at this
    omega
  have gv : DGet H d1 (.str r.1) (some (.ref rv)) := by rw [← vv]; exact DGet.k (k := Sum.inr r.1) h1
  refine ⟨_, rfl, c, _, rfl, SqT.of hc, rfl, _, _, rfl, _, _, rfl, _, _, rfl, rfl, ?_⟩
  refine ⟨_, rfl, b, _, dx, _, _, rfl, hb, T.c_Board, T.n_Board_spots, by kernel_rfl, _, rfl, d1, _, rfl, gv, rv, _, rfl, .inl (SqL.of hrv), ?_⟩
  rw [List.length_map]
  refine ⟨_, rfl, b, dx, _, rfl, hb, by kernel_rfl, _, rfl, a, _, _, _, rfl, rfl, SqT.of ha, atI_nat (j := 1) rfl, _, rfl, a, _, _, _, rfl, rfl, SqT.of ha, atI_nat (j := 2) rfl, _, rfl, _, rfl, _, rfl, b, f, N, D, s, sp, n.w, r.1, n.i, -r.2.1, rfl, hB, B, hn, hr1, fun H1 e1 => ?_⟩
  have hB1 := hB.keep e1
  have t1 := hB.tups e1
  obtain ⟨⟨⟨dx', pa', d1', d2', hb1, _⟩⟩, _⟩ := id hB1
  have ha1 := t1 _ _ ha
  refine ⟨_, rfl, b, dx', _, rfl, hb1, by kernel_rfl, _, rfl, a, _, _, _, rfl, rfl, SqT.of ha1, atI_nat (j := 1) rfl, _, rfl, a, _, _, _, rfl, rfl, SqT.of ha1, atI_nat (j := 3) rfl, _, rfl, _, rfl, _, rfl, b, f, N, D, s, sp, n.w, r.1, n.j, -r.2.1, rfl, hB1, B, hn, hr1, fun H2 e2 => ?_⟩
  have e12 := e1.trans e2
  obtain ⟨p, ep⟩ : ∃ p, p = ix s (sp r.1) (liftW N D r.1 (R s (sp n.w) n.i - r.2.1)) := ⟨_, rfl⟩
  obtain ⟨q, eq⟩ : ∃ q, q = ix s (sp r.1) (liftW N D r.1 (R s (sp n.w) n.j - r.2.1)) := ⟨_, rfl⟩
  have ep' : ix s (sp r.1) (liftW N D r.1 (R s (sp n.w) n.i + -r.2.1)) = p := by rw [ep]; rfl
  have eq' : ix s (sp r.1) (liftW N D r.1 (R s (sp n.w) n.j + -r.2.1)) = q := by rw [eq]; rfl
  rw [ep', eq']
  have bh : behind N D s sp n r = if q = p + ((sp r.1).length : Int) then none else some ⟨r.2.2, r.1, p - p / ((sp r.1).length : Int) * ((sp r.1).length : Int), q - p / ((sp r.1).length : Int) * ((sp r.1).length : Int)⟩ := by
    unfold behind stepIJ
    dsimp only
    rw [← ep, ← eq]
    split <;> rfl
  refine ⟨_, rfl, _, rfl, _, rfl, _, _, rfl, rfl, rfl, _, rfl, ?_⟩
  by_cases c : q = p + ((sp r.1).length : Int)
  · rw [decide_eq_true (congrArg V.int c)]
    refine iteT ?_
    refine k H2 _ e12 ?_
    rw [bh, if_pos c]
    exact rfl
  · rw [decide_eq_false fun z => c (V.int.inj z)]
    refine iteF ⟨_, rfl, _, rfl, _, _, rfl, rfl, ⟨lv0, by omega⟩, ?_⟩
    refine ⟨_, rfl, _, rfl, _, rfl, _, rfl, _, rfl, _, _, rfl, rfl, .inr ⟨by omega, by omega⟩, _, _, rfl, rfl, _, rfl, _, rfl, _, rfl, _, _, rfl, rfl, .inr ⟨by omega, by omega⟩, _, _, rfl, rfl, (by show 4 ≤ sizeLine; decide), fun t ht => ?_⟩
    refine k _ _ (e12.trans (Wx.ex (ex_new ht))) ?_
    rw [bh, if_neg c]
    exact nd_mk upd_same
end
end JD
end Part_JD9
section Part_JD10
set_option Elab.async false
set_option linter.all false
set_option maxRecDepth 100000
set_option maxHeartbeats 4000000
namespace JD
open PySem PySem.Spec PyProof.Rows L2 JR JX JT
open Evl (Ex)
section
variable {P : Program} {w : World} {K : PySem.W.Frag} {mg : Str → Option Value} {base : Heap}
theorem fm_congr {α β : Type} {f g : α → Option β} : ∀ {l : List α}, (∀ x ∈ l, f x = g x) → l.filterMap f = l.filterMap g
  | [], _ => rfl
  | a :: l, h => by
    rw [List.filterMap_cons, List.filterMap_cons, h a List.mem_cons_self, fm_congr fun x hx => h x (List.mem_cons_of_mem _ hx)]
def sp_stand_moves (K : PySem.W.Frag) : Sp := fun vs H Q _ => ∃ (b f d : Addr) (N : Int) (D : Words) (s : Int) (sp : Str → List Int) (v : V) (n : Node) (St : Tab) (q : Str × List Rul), vs = [.ref b, .ref d, v] ∧ BoardAt K H b f N D s sp ∧ BF N D s sp ∧ TabAt H d St ∧ (St.map (·.1)).Nodup ∧ q ∈ St ∧ q.1 = n.st ∧ q.2.length ≤ 720 ∧ (∀ r ∈ q.2, r.1 ∈ D.map (·.1)) ∧ Im H v (encNd n) ∧ n.w ∈ D.map (·.1) ∧
  ∀ H' p xs, Wx f (FkW N D s sp) H H' → H p = none → H' p = some (.lst xs) → Ls H' encMv xs (q.2.map fun r => ((r.1, r.2.1), behind N D s sp n r)) → Q (.ref p) H'
abbrev N_stand_moves : List Str := ["board", "steps", "stand", "step"]
theorem sc_stand_moves : FnScope N_stand_moves ["board", "steps", "stand"] (defScope s_stand_moves) := ⟨rfl, rfl, rfl, by decide +kernel, rfl, by decide +kernel, by decide +kernel⟩
theorem ok_stand_moves (T : Txt K mg) : DefOk P w K mg base 6 (He.ga K "stand_moves") ["board", "steps", "stand"] (sp_stand_moves K) := by
  obtain ⟨fd, F⟩ := T.d_stand_moves
  obtain ⟨fd_stand_behind, G_stand_behind, kp_stand_behind, b_stand_behind⟩ := ok_stand_behind (P := P) (w := w) (base := base) T
  refine ⟨fd, F.ok sc_stand_moves (fun vs H Q E h => ?_) (fun cdv A outer s H vs Q E hr h => ?_), F.kp, F.bindsN fun _ _ _ _ _ _ us hl => match us, hl with | [_, _, _], _ => rfl⟩
  · obtain ⟨b, f, d, N, D, s, sp, v, n, St, q, rfl, hB, B, hT, hnd, hq, hqn, hql, hqw, hv, hn, k⟩ := h
    rfl
  have hu := hu_of hr
  have nd := sc_stand_moves.nd
  obtain ⟨b, f, d, N, D, s, sp, v, n, St, q, rfl, hB, B, hT, hnd, hq, hqn, hql, hqw, hv, hn, k⟩ := h
  refine ⟨_, (PSs.nox (pss_one (ps_ret (pe_lc (own := [("step", 3)]) (g := (gName 3)) (tt := tYes) rfl nd (pi_listK K (pe_dget hu (pv 1) (pe_ix (ix_tupK K) (pv 2) pe_int (fun _ _ => rfl)) (fun _ _ => rfl))) (blkOk_by (N := N_stand_moves) (sc := defScope s_stand_moves) (by decide +kernel)) (fun _ _ _ _ _ => (pg_name (i := 3) nd rfl (by first | exact Or.inl rfl | exact Or.inr rfl))) (fun _ _ _ _ _ => pts_nil) (fun _ _ _ _ _ => (pe_tup (pa_cons (pe_tup (pa_cons (pe_ix (ix_tupK K) (pv 3) pe_int (fun _ _ => rfl)) (pa_cons (pe_ix (ix_tupK K) (pv 3) pe_int (fun _ _ => rfl)) pa_nil))) (pa_cons (pe_call G_stand_behind (hr.mono (by decide)) rfl T.g_stand_behind kp_stand_behind b_stand_behind .nil pass0 (pa_cons (pv 0) (pa_cons (pv 2) (pa_cons (pv 3) pa_nil)))) pa_nil)))))))), ?_⟩
  obtain ⟨a, rfl, ha⟩ := nd_get hv
  obtain ⟨kvs, hd, hp⟩ := id hT
  obtain ⟨r, xs, vq, hr0, hl⟩ := tab_valV hp hnd hq
  obtain ⟨kf, hf⟩ := hB.dT
  have lx := hl.len
  have gq : DGet H d (.str n.st) (some (.ref r)) := by rw [← vq, hqn]; exact DGet.k (k := Sum.inr n.st) hd
  refine ⟨_, rfl, _, rfl, a, _, _, _, rfl, rfl, SqT.of ha, atI_nat (j := 0) rfl, d, _, rfl, gq, r, rfl, ⟨_, SqL.of hr0⟩, fun L hL => ?_⟩
  have kp : ∀ {H' : Hp}, Wx f (FkW N D s sp) H H' → H' r = some (.lst xs) := fun e => e.1 _ _ (fun z => by rw [z, hf] at hr0; cases hr0) hr0
  refine lc_ls (enc := encMv) relWx walk_list (fun i => (q.2[i]?).map fun r => ((r.1, r.2.1), behind N D s sp n r)) hL (fun z => by rw [z, hf] at hL; cases hL) (Evl.sz_lt (by omega)) (fun H2 e2 _ => SqL.of (kp e2)) ?_ ?_
  · rintro i x F F' hi e2 t2 ⟨rfl, hx⟩ Go Sk go sk
    obtain ⟨p, hp, ip⟩ := (hl.keep t2).get hx
    obtain ⟨c, rfl, hc⟩ := rul_get ip
    have hB2 := hB.keep e2
    refine ⟨rfl, yes_go ⟨_, rfl, c, _, _, _, rfl, rfl, SqT.of hc, atI_nat (j := 0) rfl, _, rfl, c, _, _, _, rfl, rfl, SqT.of hc, atI_nat (j := 1) rfl, (by show 2 ≤ sizeLine; decide), fun t1 ht1 => ?_⟩⟩
    have e3 : Ex F' (upd F' t1 (.tup [.str p.1, .int p.2.1])) := ex_new ht1
    refine ⟨_, rfl, _, rfl, _, rfl, b, f, N, D, s, sp, _, _, n, p, rfl, hB2.keep (Wx.ex e3), B, (hv.keep t2).keep (Tups.of e3), ip.keep (Tups.of e3), hn, hqw p (List.mem_of_getElem? hp), fun F4 z e4 hz => ?_⟩
    refine ⟨(by show 2 ≤ sizeLine; decide), fun t2 ht2 => ?_⟩
    have t4 := (hB2.keep (Wx.ex e3)).tups e4
    have e5 : Ex F4 (upd F4 t2 (.tup [.ref t1, z])) := ex_new ht2
    refine go ((p.1, p.2.1), behind N D s sp n p) _ _ (by rw [hp]; rfl) ((Wx.ex e3).trans (e4.trans (Wx.ex e5))) ((Tups.of e3).trans (t4.trans (Tups.of e5))) ?_
    exact ⟨t2, _, rfl, upd_same, _, _, rfl, ⟨t1, _, rfl, Tups.of e5 _ _ (t4 _ _ upd_same), _, _, rfl, rfl, _, _, rfl, rfl, rfl⟩, _, _, rfl, hz.keep (Tups.of e5), rfl⟩
  · intro F ys e2 t2 hD2 hy
    rw [fm_map _ lx] at hy
    exact k _ L ys e2 hL hD2 hy
def sp_stands_of (K : PySem.W.Frag) : Sp := fun vs H Q _ => ∃ (b f : Addr) (N : Int) (D : Words) (s : Int) (sp : Str → List Int) (x z : Str), vs = [.ref b, .str x, .str z] ∧ BoardAt K H b f N D s sp ∧ BF N D s sp ∧ x ∈ D.map (·.1) ∧ (sp x).length ≤ 360 ∧
  ∀ H' p xs, Ex H H' → H' p = some (.lst xs) → Ls H' encNd xs ((List.range (sp x).length).map fun i : Nat => (⟨z, x, (i : Int), (i : Int) + ((sp x).length : Int) - 1⟩ : Node)) → Q (.ref p) H'
abbrev N_stands_of : List Str := ["board", "word", "state", "many", "i"]
theorem sc_stands_of : FnScope N_stands_of ["board", "word", "state"] (defScope s_stands_of) := ⟨rfl, rfl, rfl, by decide +kernel, rfl, by decide +kernel, by decide +kernel⟩
theorem ok_stands_of (T : Txt K mg) : DefOk P w K mg base 1 (He.ga K "stands_of") ["board", "word", "state"] (sp_stands_of K) := by
  obtain ⟨fd, F⟩ := T.d_stands_of
  refine ⟨fd, F.ok sc_stands_of (fun vs H Q E h => ?_) (fun cdv A outer s H vs Q E hr h => ?_), F.kp, F.bindsN fun _ _ _ _ _ _ us hl => match us, hl with | [_, _, _], _ => rfl⟩
  · obtain ⟨b, f, N, D, s, sp, x, z, rfl, hB, B, hx, hlen, k⟩ := h
    rfl
  have hu := hu_of hr
  have nd := sc_stands_of.nd
  obtain ⟨b, f, N, D, s, sp, x, z, rfl, hB, B, hx, hlen, k⟩ := h
  refine ⟨_, (PSs.nox (pss_cons (ps_set (i := 3) nd rfl (by first | exact Or.inl rfl | exact Or.inr rfl) (pe_callB call_len_seq (by rfl) T.b_len rfl (pa_cons (pe_dget hu (pe_fldK K (pv 0) rfl) (pv 1) (fun _ _ => rfl)) pa_nil)))
  (pss_one (ps_ret (pe_lc (own := [("i", 4)]) (g := (gName 4)) (tt := tYes) rfl nd (pi_range1 rfl T.b_range (pa_cons (pv 3) pa_nil)) (blkOk_by (N := N_stands_of) (sc := defScope s_stands_of) (by decide +kernel)) (fun _ _ _ _ _ => (pg_name (i := 4) nd rfl (by first | exact Or.inl rfl | exact Or.inr rfl))) (fun _ _ _ _ _ => pts_nil) (fun _ _ _ _ _ => (pe_tup (pa_cons (pv 2) (pa_cons (pv 1) (pa_cons (pv 4) (pa_cons (pe_op op_sub (pe_op op_add (pv 4) (pv 3)) pe_int) pa_nil))))))))))), ?_⟩
  obtain ⟨⟨⟨dx, pa, d1, d2, hb, hA, ⟨k1, h1, h2, h3⟩, _⟩⟩, _⟩ := id hB
  obtain ⟨rx, vx, hrx⟩ := h3 x hx
  have gx : DGet H d1 (.str x) (some (.ref rx)) := by rw [← vx]; exact DGet.k (k := Sum.inr x) h1
  refine ⟨_, rfl, b, _, dx, _, _, rfl, hb, T.c_Board, T.n_Board_spots, by kernel_rfl, _, rfl, d1, _, rfl, gx, rx, _, rfl, .inl (SqL.of hrx), ?_⟩
  rw [List.length_map]
  refine ⟨_, rfl, ((sp x).length : Int), rfl, by omega, by omega, fun L hL => ?_⟩
  refine lc_ls (enc := encNd) relEx walk_range (fun i : Nat => if i < (sp x).length then some (⟨z, x, 0 + (i : Int), 0 + (i : Int) + ((sp x).length : Int) - 1⟩ : Node) else none) hL True.intro (Evl.sz_lt (by omega)) (fun H2 e2 _ => True.intro) ?_ ?_
  · rintro i y F F' hi e2 t2 ⟨rfl, rfl⟩ Go Sk go sk
    refine ⟨rfl, yes_go ⟨_, rfl, _, rfl, _, rfl, _, rfl, _, rfl, _, _, rfl, rfl, _, _, rfl, rfl, (by show 4 ≤ sizeLine; decide), fun t ht => ?_⟩⟩
    exact go _ _ _ (if_pos (by omega)) (ex_new ht) (Tups.new ht) (nd_mk upd_same)
  · intro F ys e2 t2 hD2 hy
    refine k _ L ys e2 hD2 ?_
    have : (List.range ((sp x).length : Int).toNat).filterMap (fun i : Nat => if i < (sp x).length then some (⟨z, x, 0 + (i : Int), 0 + (i : Int) + ((sp x).length : Int) - 1⟩ : Node) else none) = (List.range (sp x).length).map fun i : Nat => (⟨z, x, (i : Int), (i : Int) + ((sp x).length : Int) - 1⟩ : Node) := by
      rw [Int.toNat_natCast, ← List.filterMap_eq_map]
      refine fm_congr fun i hi => ?_
      rw [if_pos (List.mem_range.mp hi), Int.zero_add]
      rfl
    rw [← this]
    exact hy
/-- the first deeds -/
def FsOk (D : Words) (fs : List Rul) : Option Tab → Prop
  | none => fs.length ≤ 2 ∧ (∀ r : Rul, r ∈ fs ↔ r.1 ∈ D.map (·.1) ∧ r.2.1 = 0 ∧ r.2.2 = "") ∧ (fs.map (·.1)).Nodup
  | some Tb => ∃ q ∈ Tb, q.1 = "start" ∧ fs = q.2
def sp_first_steps (K : PySem.W.Frag) : Sp := fun vs H Q _ => ∃ (b f : Addr) (N : Int) (D : Words) (s : Int) (sp : Str → List Int) (v : V) (o : Option Tab), vs = [.ref b, v] ∧ BoardAt K H b f N D s sp ∧ BF N D s sp ∧ LetV K H N v o ∧ (∀ Tb, o = some Tb → LetF N D Tb) ∧
  ∀ H' p xs fs, Ex H H' → H' p = some (.lst xs) → Ls H' encRul xs fs → FsOk D fs o → Q (.ref p) H'
abbrev N_first_steps : List Str := ["board", "let", "word"]
theorem sc_first_steps : FnScope N_first_steps ["board", "let"] (defScope s_first_steps) := ⟨rfl, rfl, rfl, by decide +kernel, rfl, by decide +kernel, by decide +kernel⟩
theorem ok_first_steps (T : Txt K mg) : DefOk P w K mg base 2 (He.ga K "first_steps") ["board", "let"] (sp_first_steps K) := by
  obtain ⟨fd, F⟩ := T.d_first_steps
  obtain ⟨fd_Let_rules, G_Let_rules, kp_Let_rules, b_Let_rules⟩ := ok_Let_rules (P := P) (w := w) (base := base) T
  refine ⟨fd, F.ok sc_first_steps (fun vs H Q E h => ?_) (fun cdv A outer s H vs Q E hr h => ?_), F.kp, F.bindsN fun _ _ _ _ _ _ us hl => match us, hl with | [_, _], _ => rfl⟩
  · obtain ⟨b, f, N, D, s, sp, v, o, rfl, hB, B, hv, hL, k⟩ := h
    rfl
  have hu := hu_of hr
  have nd := sc_first_steps.nd
  obtain ⟨b, f, N, D, s, sp, v, o, rfl, hB, B, hv, hL, k⟩ := h
  refine ⟨_, (PSs.nox (pss_cons (ps_if (pt_cmpR op_isN (pv 1) pe_non (nomark _)) (pss_one (ps_ret (pe_lc (own := [("word", 2)]) (g := (gName 2)) (tt := tYes) rfl nd (pi_listK K (pe_callB (call_sortedD rfl) (by rfl) T.b_sorted rfl (pa_cons (pe_fldK K (pv 0) rfl) pa_nil))) (blkOk_by (N := N_first_steps) (sc := defScope s_first_steps) (by decide +kernel)) (fun _ _ _ _ _ => (pg_name (i := 2) nd rfl (by first | exact Or.inl rfl | exact Or.inr rfl))) (fun _ _ _ _ _ => pts_nil) (fun _ _ _ _ _ => (pe_tup (pa_cons (pv 2) (pa_cons pe_int (pa_cons pe_str pa_nil)))))))) pss_nil)
  (pss_one (ps_ret (pe_meth (pv 1) T.c_Let T.m_Let_rules G_Let_rules (hr.mono (by decide)) b_Let_rules .nil pass0 (pa_cons pe_str pa_nil)))))), ?_⟩
  cases o with
  | none =>
    cases (show v = .non from hv)
    obtain ⟨⟨⟨dx, pa, d1, d2, hb, hA, ⟨k1, h1, h2, h3⟩, _⟩⟩, _⟩ := id hB
    have lw : (D.map (·.1)).length ≤ 2 := by rcases B.part.ws with e | e | e <;> rw [e] <;> decide
    refine ⟨_, rfl, rfl, _, rfl, iteT ⟨_, rfl, b, _, dx, _, _, rfl, hb, T.c_Board, T.n_Board_spots, by kernel_rfl, d1, k1, D.map (·.1), rfl, .inl h1, h2, by omega, fun ys p pm so hp0 => ?_⟩⟩
    have lys := pm.length_eq
    have e1 : Ex H (upd H p (.lst (ys.map V.str))) := ex_new hp0
    refine ⟨p, rfl, ⟨_, SqL.of upd_same⟩, fun L hL' => ?_⟩
    refine lc_ls (enc := encRul) relEx walk_list (fun i => (ys[i]?).map fun x => ((x, 0, "") : Rul)) hL' True.intro (Evl.sz_lt (by rw [List.length_map]; omega)) (fun H2 e2 _ => SqL.of (e2 _ _ upd_same)) ?_ ?_
    · rintro i y F F' hi e2 t2 ⟨rfl, hy⟩ Go Sk go sk
      rw [List.getElem?_map] at hy
      obtain ⟨x, hx, rfl⟩ := Option.map_eq_some_iff.mp hy
      refine ⟨rfl, yes_go ⟨_, rfl, (by show 3 ≤ sizeLine; decide), fun t ht => ?_⟩⟩
      exact go _ _ _ (by rw [hx]; rfl) (ex_new ht) (Tups.new ht) (rul_mk upd_same)
    · intro F zs e2 t2 hD2 hy
      rw [fm_map _ (by rw [List.length_map])] at hy
      refine k _ L zs _ (e1.trans e2) hD2 hy ⟨by rw [List.length_map]; omega, fun r => ?_, by
        rw [List.map_map, show ys.map ((fun r : Rul => r.1) ∘ fun x => ((x, 0, "") : Rul)) = ys from List.map_id' ys]
        exact pm.nodup_iff.mpr B.part.nd⟩
      rw [List.mem_map]
      constructor
      · rintro ⟨x, hx, rfl⟩
        exact ⟨pm.mem_iff.mp hx, rfl, rfl⟩
      · rintro ⟨h1, h2, h3⟩
        refine ⟨r.1, pm.mem_iff.mpr h1, ?_⟩
        obtain ⟨r1, r2, r3⟩ := r
        simp only at h2 h3
        rw [h2, h3]
  | some Tb =>
    obtain ⟨x, rfl, hx⟩ := hv
    have LF := hL Tb rfl
    obtain ⟨dx, t, hx1, hx2⟩ := id hx
    obtain ⟨q, hq, eq⟩ := List.mem_map.mp LF.st
    refine ⟨_, rfl, rfl, _, rfl, iteF ⟨_, rfl, x, dx, _, rfl, hx1, by kernel_rfl, x, N, Tb, q, by rw [eq]; rfl, hx, LF.nd, hq, fun H1 p xs e1 hp hl => ?_⟩⟩
    exact k _ p xs _ e1 hp hl ⟨q, hq, eq, rfl⟩
/-- the steps by states -/
theorem fl_nodup {s : Nat} : ∀ {ys : List Str}, ys.Nodup → ((ys.flatMap fun x => (List.range s).map fun t : Nat => ((x, 0 + (t : Int), "") : Rul)).map fun r => ((r.1, r.2.1) : Deed)).Nodup
  | [], _ => by simp
  | a :: ys, nd => by
    have n := List.nodup_cons.mp nd
    rw [List.flatMap_cons, List.map_append, List.nodup_append, List.map_map]
    refine ⟨List.pairwise_map.mpr (List.nodup_range.imp fun {x y} h e => h ?_), fl_nodup n.2, fun x hx y hy e => ?_⟩
    · obtain ⟨t, _, rfl⟩ := List.mem_map.mp hx
      obtain ⟨r, hr, rfl⟩ := List.mem_map.mp hy
      obtain ⟨z, hz, hr⟩ := List.mem_flatMap.mp hr
      obtain ⟨u, _, rfl⟩ := List.mem_map.mp hr
      have := congrArg Prod.fst e
      have this : a = z := this
      exact n.1 (by rw [this]; exact hz)
    · have e2 : ((a, 0 + (x : Int)) : Deed) = (a, 0 + (y : Int)) := e
      have := congrArg Prod.snd e2
      have this : (0 : Int) + (x : Int) = 0 + (y : Int) := this
      omega
def StOk (D : Words) (s : Int) (St : Tab) : Option Tab → Prop
  | none => ∃ rs : List Rul, St = [(("" : Str), rs)] ∧ rs.length ≤ 720 ∧ (∀ r : Rul, r ∈ rs ↔ r.1 ∈ D.map (·.1) ∧ (0 ≤ r.2.1 ∧ r.2.1 < s) ∧ r.2.2 = "") ∧ (rs.map fun r => ((r.1, r.2.1) : Deed)).Nodup
  | some Tb => St = Tb
def sp_steps_by_state (K : PySem.W.Frag) : Sp := fun vs H Q _ => ∃ (b f : Addr) (N : Int) (D : Words) (s : Int) (sp : Str → List Int) (v : V) (o : Option Tab), vs = [.ref b, v] ∧ BoardAt K H b f N D s sp ∧ BF N D s sp ∧ LetV K H N v o ∧ (∀ Tb, o = some Tb → LetF N D Tb) ∧
  ∀ H' d St, Ex H H' → TabAt H' d St → StOk D s St o → Q (.ref d) H'
abbrev N_steps_by_state : List Str := ["board", "let", "word", "turn", "state"]
theorem sc_steps_by_state : FnScope N_steps_by_state ["board", "let"] (defScope s_steps_by_state) := ⟨rfl, rfl, rfl, by decide +kernel, rfl, by decide +kernel, by decide +kernel⟩
theorem ok_steps_by_state (T : Txt K mg) : DefOk P w K mg base 3 (He.ga K "steps_by_state") ["board", "let"] (sp_steps_by_state K) := by
  obtain ⟨fd, F⟩ := T.d_steps_by_state
  obtain ⟨fd_Let_states, G_Let_states, kp_Let_states, b_Let_states⟩ := ok_Let_states (P := P) (w := w) (base := base) T
  obtain ⟨fd_Let_rules, G_Let_rules, kp_Let_rules, b_Let_rules⟩ := ok_Let_rules (P := P) (w := w) (base := base) T
  refine ⟨fd, F.ok sc_steps_by_state (fun vs H Q E h => ?_) (fun cdv A outer s H vs Q E hr h => ?_), F.kp, F.bindsN fun _ _ _ _ _ _ us hl => match us, hl with | [_, _], _ => rfl⟩
  · obtain ⟨b, f, N, D, s, sp, v, o, rfl, hB, B, hv, hL, k⟩ := h
    rfl
  have hu := hu_of hr
  have nd := sc_steps_by_state.nd
  obtain ⟨b, f, N, D, s, sp, v, o, rfl, hB, B, hv, hL, k⟩ := h
  refine ⟨_, (PSs.nox (pss_cons (ps_if (pt_cmpR op_isN (pv 1) pe_non (nomark _)) (pss_one (ps_ret (pe_disp (pps_cons pe_str (pe_lc2 (own := [("word", 2), ("turn", 3)]) (vs1 := [3]) (g := (gName 2)) (tt := tYes) (g1 := (gName 3)) (tt1 := tYes) rfl nd (pi_listK K (pe_callB (call_sortedD rfl) (by rfl) T.b_sorted rfl (pa_cons (pe_fldK K (pv 0) rfl) pa_nil))) (blkOk_by (N := N_steps_by_state) (sc := defScope s_steps_by_state) (by decide +kernel)) (by decide) (fun _ _ _ _ _ => (pg_name (i := 2) nd rfl (by first | exact Or.inl rfl | exact Or.inr rfl))) (fun _ _ _ _ _ => pts_nil) (fun _ _ _ _ _ => (pi_range1 rfl T.b_range (pa_cons (pe_fldK K (pv 0) rfl) pa_nil))) (fun _ _ _ _ _ => (pg_name (i := 3) nd rfl (by first | exact Or.inl rfl | exact Or.inr rfl))) (fun _ _ _ _ _ => pts_nil) (fun _ _ _ _ _ => (pe_tup (pa_cons (pv 2) (pa_cons (pv 3) (pa_cons pe_str pa_nil)))))) pps_nil) rfl rfl (by intro z; cases z) (by decide)))) pss_nil)
  (pss_one (ps_ret (pe_dc (own := [("state", 4)]) (g := (gName 4)) (tt := tYes) rfl nd (pi_listK K (pe_prop (pv 1) T.c_Let T.p_Let_states G_Let_states (hr.mono (by decide)) b_Let_states .nil pass0 rfl)) (blkOk_by (N := N_steps_by_state) (sc := defScope s_steps_by_state) (by decide +kernel)) (fun _ _ _ _ _ => (pg_name (i := 4) nd rfl (by first | exact Or.inl rfl | exact Or.inr rfl))) (fun _ _ _ _ _ => pts_nil) (fun _ _ _ _ _ => (pv 4)) (fun _ _ _ _ _ => (pe_meth (pv 1) T.c_Let T.m_Let_rules G_Let_rules (hr.mono (by decide)) b_Let_rules .nil pass0 (pa_cons (pv 4) pa_nil)))))))), ?_⟩
  cases o with
  | none =>
    cases (show v = .non from hv)
    obtain ⟨⟨⟨dx, pa, d1, d2, hb, hA, ⟨k1, h1, h2, h3⟩, _⟩⟩, _⟩ := id hB
    have lw : (D.map (·.1)).length ≤ 2 := by rcases B.part.ws with e | e | e <;> rw [e] <;> decide
    have lo := B.part.lo
    have hi := B.part.hi
    have s0 := B.span.pos
    have sN := B.span.le (by omega)
    refine ⟨_, rfl, rfl, _, rfl, iteT ?_⟩
    intro d hd
    refine ⟨_, rfl, b, _, dx, _, _, rfl, (by rw [upd_ne (ne_of_none hb hd)]; exact hb), T.c_Board, T.n_Board_spots, by kernel_rfl, d1, k1, D.map (·.1), rfl, .inl (by rw [upd_ne (ne_of_none h1 hd)]; exact h1), h2, by omega, fun ys p pm so hp0 => ?_⟩
    have lys := pm.length_eq
    have e0 : Ex H (upd H d (.dK [])) := ex_new hd
    obtain ⟨H1, eH1⟩ : ∃ H1, H1 = upd (upd H d (.dK [])) p (.lst (ys.map V.str)) := ⟨_, rfl⟩
    have e1 : Ex (upd H d (.dK [])) H1 := by rw [eH1]; exact ex_new hp0
    have h1p : H1 p = some (.lst (ys.map V.str)) := by rw [eH1]; exact upd_same
    have h1d : H1 d = some (.dK []) := e1 _ _ upd_same
    rw [← eH1]
    let fl : Str → List Rul := fun x => (List.range s.toNat).map fun t : Nat => ((x, 0 + (t : Int), "") : Rul)
    have fl1 : ∀ x, (fl x).length = s.toNat := fun x => by show ((List.range s.toNat).map _).length = _; rw [List.length_map, List.length_range]
    have flen : ∀ l : List Str, (l.flatMap fl).length = l.length * s.toNat := fun l => by
      induction l with
      | nil => simp
      | cons a l ih => rw [List.flatMap_cons, List.length_append, ih, fl1, List.length_cons, Nat.succ_mul, Nat.add_comm]
    have flen2 : ∀ i, ((ys.take i).flatMap fl).length ≤ 720 := fun i => by
      rw [flen]
      have : (ys.take i).length ≤ 2 := by rw [List.length_take]; omega
      have := Nat.mul_le_mul this (show s.toNat ≤ 360 by omega)
      omega
    refine ⟨p, rfl, ⟨_, SqL.of h1p⟩, fun L hL' => ?_⟩
    refine lc2_it walk_list (fun i H' => Ex H1 H' ∧ ∃ xs, H' L = some (.lst xs) ∧ Ls H' encRul xs ((ys.take i).flatMap fl)) ⟨ex_new hL', [], upd_same, .nil⟩ (fun i H' _ ⟨e, _⟩ => SqL.of (e _ _ h1p)) ?_ ?_
    · rintro i v F1 F1' hi ⟨e3, xs, hD3, hl3⟩ ⟨rfl, hv⟩
      rw [List.getElem?_map] at hv
      obtain ⟨x, hx, rfl⟩ := Option.map_eq_some_iff.mp hv
      have tk : (ys.take (i + 1)).flatMap fl = (ys.take i).flatMap fl ++ fl x := by
        rw [List.take_add_one, hx, List.flatMap_append]
        congr 1
        exact List.append_nil _
      have eb := (e0.trans e1).trans e3
      refine ⟨rfl, yes_go ⟨_, rfl, b, _, dx, _, _, rfl, eb _ _ hb, T.c_Board, T.n_Board_span, by kernel_rfl, s, rfl, by omega, by omega, ?_⟩⟩
      refine lc1_it walk_range (fun j H' => Ex H1 H' ∧ ∃ xs, H' L = some (.lst xs) ∧ Ls H' encRul xs ((ys.take i).flatMap fl ++ (List.range j).map fun t : Nat => ((x, 0 + (t : Int), "") : Rul))) ⟨e3, xs, hD3, by rw [List.range_zero, List.map_nil, List.append_nil]; exact hl3⟩ (fun j H' _ _ => True.intro) ?_ ?_
      · rintro j v F2 F2' hj ⟨e4, xs4, hD4, hl4⟩ ⟨rfl, rfl⟩
        refine ⟨rfl, yes_go ⟨_, rfl, _, rfl, (by show 3 ≤ sizeLine; decide), fun t ht => ?_⟩⟩
        have e5 : Ex F2' (upd F2' t (.tup [.str x, .int (0 + (j : Int)), .str ""])) := ex_new ht
        have tD : Tups (upd F2' t (.tup [.str x, .int (0 + (j : Int)), .str ""])) (upd (upd F2' t (.tup [.str x, .int (0 + (j : Int)), .str ""])) L (.lst (xs4 ++ [.ref t]))) := Tups.mut (e5 _ _ hD4) fun _ z => nomatch z
        refine ⟨xs4, e5 _ _ hD4, ?_, Evl.Ex.mut (e4.trans e5) hL', _, upd_same, ?_⟩
        · have := hl4.len
          rw [List.length_append, List.length_map, List.length_range] at this
          have := flen2 i
          exact Evl.sz_lt (by omega)
        · rw [List.range_succ, List.map_append, ← List.append_assoc]
          exact ((hl4.keep (Tups.of e5)).keep tD).snoc ((rul_mk (x := x) (i := 0 + (j : Int)) (y := "") upd_same).keep tD)
      · rintro F2 ⟨e4, xs4, hD4, hl4⟩
        exact ⟨e4, xs4, hD4, by rw [tk]; exact hl4⟩
    · rintro F1 ⟨e3, xs, hD3, hl3⟩
      have ly : ys.length = (ys.map V.str).length := by rw [List.length_map]
      rw [← ly, List.take_length] at hl3
      have hFd := e3 _ _ h1d
      refine ⟨hFd, [(Sum.inr "", .ref L)], rfl, (by show 1 ≤ 15; decide), ?_⟩
      have tD : Tups F1 (upd F1 d (.dK (mergeK [] [(Sum.inr "", V.ref L)]))) := Tups.mut hFd fun _ z => nomatch z
      have nLd : L ≠ d := ne_of hD3 hFd (fun z => nomatch z)
      refine k _ d [("", ys.flatMap fl)] (Evl.Ex.mut ((e0.trans e1).trans e3) hd) ⟨_, upd_same, .cons ⟨rfl, L, xs, rfl, by rw [upd_ne nLd]; exact hD3, hl3.keep tD⟩ .nil⟩ ⟨_, rfl, ?_, fun r => ?_, fl_nodup (pm.nodup_iff.mpr B.part.nd)⟩
      · have := flen2 ys.length
        rw [List.take_length] at this
        exact this
      · rw [List.mem_flatMap]
        constructor
        · rintro ⟨x, hx, hr⟩
          obtain ⟨t, ht, rfl⟩ := List.mem_map.mp hr
          have := List.mem_range.mp ht
          exact ⟨pm.mem_iff.mp hx, ⟨by simp only; omega, by simp only; omega⟩, rfl⟩
        · rintro ⟨a1, ⟨a2, a3⟩, a4⟩
          refine ⟨r.1, pm.mem_iff.mpr a1, List.mem_map.mpr ⟨r.2.1.toNat, List.mem_range.mpr (by omega), ?_⟩⟩
          obtain ⟨r1, r2, r3⟩ := r
          simp only at a2 a3 a4 ⊢
          rw [a4, Int.toNat_of_nonneg a2, Int.zero_add]
  | some Tb =>
    obtain ⟨x, rfl, hx⟩ := hv
    have LF := hL Tb rfl
    obtain ⟨dx, t, hx1, kvs, hx2, hx3⟩ := id hx
    refine ⟨_, rfl, rfl, _, rfl, iteF ⟨_, rfl, x, dx, _, rfl, hx1, x, N, Tb, rfl, hx, fun H1 p e1 hp1 => ?_⟩⟩
    refine ⟨p, rfl, ⟨_, SqL.of hp1⟩, fun L hL' => ?_⟩
    refine dc_it walk_list (fun i H' => Ex H1 H' ∧ ∃ kvs', H' L = some (.dK kvs') ∧ Paired (fun (kv : Key × V) (q : Str × List Rul) => kv.1 = Sum.inr q.1 ∧ ∃ r xs, kv.2 = .ref r ∧ H' r = some (.lst xs) ∧ Ls H' encRul xs q.2) kvs' (Tb.take i)) ⟨ex_new hL', [], upd_same, .nil⟩ (fun i H' _ ⟨e, _⟩ => SqL.of (e _ _ hp1)) ?_ ?_
    · rintro i v F1 F1' hi ⟨e4, kvs', hD4, hP4⟩ ⟨rfl, hv⟩
      rw [List.getElem?_map] at hv
      obtain ⟨q, hq, rfl⟩ := Option.map_eq_some_iff.mp hv
      have mm := List.mem_of_getElem? hq
      have e24 := e1.trans e4
      have hi2 : i < Tb.length := (List.getElem?_eq_some_iff.mp hq).1
      have lk' : kvs'.length = i := by
        have : kvs'.length = (Tb.take i).length := Paired.length hP4
        rw [List.length_take] at this
        omega
      have l5 := LF.len
      refine ⟨rfl, yes_go ⟨_, rfl, _, rfl, x, dx, _, rfl, e24 _ _ hx1, by kernel_rfl, _, rfl, x, N, Tb, q, rfl, hx.keep e24, LF.nd, mm, fun F2 pp xs e5 hpp hl => ?_⟩⟩
      have nk : (Sum.inr q.1 : Key) ∉ kvs'.map (·.1) := fun z => by
        rw [tab_keys hP4] at z
        obtain ⟨y, hy, e⟩ := List.mem_map.mp z
        rw [Sum.inr.inj e] at hy
        obtain ⟨z2, hz2, ez⟩ := List.mem_map.mp hy
        obtain ⟨j, hj, ej⟩ := List.getElem_of_mem hz2
        rw [List.length_take] at hj
        rw [List.getElem_take] at ej
        have ni := List.pairwise_iff_getElem.mp LF.nd j i (by rw [List.length_map]; omega) (by rw [List.length_map]; omega) (by omega)
        rw [List.getElem_map, List.getElem_map, ej, (List.getElem?_eq_some_iff.mp hq).2] at ni
        exact ni ez
      refine ⟨kvs', Sum.inr q.1, rfl, e5 _ _ hD4, Evl.sz_lt (by omega), Evl.Ex.mut (e4.trans e5) hL', ?_⟩
      have nD : ∀ r xs, F2 r = some (.lst xs) → upd F2 L (.dK (putK kvs' (Sum.inr q.1) (.ref pp))) r = some (.lst xs) := fun r xs h => by
        rw [upd_ne (ne_of h (e5 _ _ hD4) fun z => nomatch z)]
        exact h
      have tD : Tups F2 (upd F2 L (.dK (putK kvs' (Sum.inr q.1) (.ref pp)))) := Tups.mut (e5 _ _ hD4) fun _ z => nomatch z
      refine ⟨putK kvs' (Sum.inr q.1) (.ref pp), upd_same, ?_⟩
      rw [List.take_add_one, hq, putK_new nk]
      rw [putK_new nk] at nD tD
      exact tab_snoc (tab_keep (tab_keep hP4 (Tups.of e5) fun r xs h => e5 _ _ h) tD nD) ⟨rfl, pp, xs, rfl, nD _ _ hpp, hl.keep tD⟩
    · rintro F1 ⟨e4, kvs', hD4, hP4⟩
      rw [List.length_map, List.take_length] at hP4
      exact k _ L Tb (e1.trans e4) ⟨kvs', hD4, hP4⟩ rfl
end
end JD
end Part_JD10
section Part_JD11
set_option Elab.async false
set_option linter.all false
set_option maxRecDepth 100000
set_option maxHeartbeats 4000000
namespace JD
open PySem PySem.Spec PyProof.Rows L2 JR JX JT
open Evl (Ex)
theorem asc_ext : ∀ {l m : List Int}, l.Pairwise (· < ·) → m.Pairwise (· < ·) → (∀ x, x ∈ l ↔ x ∈ m) → l = m
  | [], [], _, _, _ => rfl
  | [], b :: m, _, _, h => absurd ((h b).mpr List.mem_cons_self) (by simp)
  | a :: l, [], _, _, h => absurd ((h a).mp List.mem_cons_self) (by simp)
  | a :: l, b :: m, h1, h2, h => by
    have p1 := List.pairwise_cons.mp h1
    have p2 := List.pairwise_cons.mp h2
    have e : a = b := by
      rcases List.mem_cons.mp ((h a).mp List.mem_cons_self) with e | e
      · exact e
      · rcases List.mem_cons.mp ((h b).mpr List.mem_cons_self) with e2 | e2
        · exact e2.symm
        · have := p2.1 a e
          have := p1.1 b e2
          omega
    subst e
    congr 1
    refine asc_ext p1.2 p2.2 fun x => ⟨fun hx => ?_, fun hx => ?_⟩
    · rcases List.mem_cons.mp ((h x).mp (List.mem_cons_of_mem _ hx)) with e | e
      · have := p1.1 x hx
        omega
      · exact e
    · rcases List.mem_cons.mp ((h x).mpr (List.mem_cons_of_mem _ hx)) with e | e
      · have := p2.1 x hx
        omega
      · exact e
section
variable {P : Program} {w : World} {K : PySem.W.Frag} {mg : Str → Option Value} {base : Heap}
/-- the places of a list's items -/
theorem places {l : List Int} (nd : l.Nodup) {y : Int} (hy : y ∈ l) : valV ((List.range l.length).map fun t : Nat => ((Sum.inl (l.getD t 0) : Key), V.int (t : Int))) (Sum.inl y) = some (.int (l.idxOf y : Int)) := by
  have hi := List.idxOf_lt_length_iff.mpr hy
  have hg : l.getD (l.idxOf y) 0 = y := by
    rw [List.getD_eq_getElem?_getD, List.getElem?_eq_getElem hi]
    exact List.getElem_idxOf hi
  unfold valV
  have : ((List.range l.length).map fun t : Nat => ((Sum.inl (l.getD t 0) : Key), V.int (t : Int))).find? (fun kv => decide (kv.1 = Sum.inl y)) = some (Sum.inl (l.getD (l.idxOf y) 0), V.int ((l.idxOf y : Nat) : Int)) := by
    rw [List.find?_map]
    have h2 : (List.range l.length).find? ((fun kv : Key × V => decide (kv.1 = Sum.inl y)) ∘ fun t : Nat => ((Sum.inl (l.getD t 0) : Key), V.int (t : Int))) = some (l.idxOf y) := by
      rw [List.find?_range_eq_some]
      refine ⟨by show decide ((Sum.inl (l.getD (l.idxOf y) 0) : Key) = Sum.inl y) = true; rw [hg]; exact decide_eq_true rfl, List.mem_range.mpr hi, fun j hj => ?_⟩
      have hj2 : j < l.length := by omega
      have ne : l.getD j 0 ≠ y := fun e => by
        rw [← hg] at e
        rw [List.getD_eq_getElem?_getD, List.getElem?_eq_getElem hj2, List.getD_eq_getElem?_getD, List.getElem?_eq_getElem hi] at e
        have := (List.getElem_inj nd).mp (show l[j] = l[l.idxOf y] from e)
        omega
      simpa using ne
    rw [h2]
    rfl
  rw [this]
  rfl
abbrev bf1 (pa : Addr) : List (Str × V) := [("source", .ref pa)]
abbrev bf2 (pa : Addr) (s : Int) : List (Str × V) := [("source", .ref pa), ("span", .int s)]
abbrev bf3 (pa : Addr) (s : Int) (d1 : Addr) : List (Str × V) := [("source", .ref pa), ("span", .int s), ("spots", .ref d1)]
abbrev bf4 (pa : Addr) (s : Int) (d1 d2 : Addr) : List (Str × V) := [("source", .ref pa), ("span", .int s), ("spots", .ref d1), ("slots", .ref d2)]
theorem bf1_put (pa : Addr) : putF "source" (.ref pa) [] = bf1 pa := by kernel_rfl
theorem bf2_put (pa : Addr) (s : Int) : putF "span" (.int s) (bf1 pa) = bf2 pa s := by kernel_rfl
theorem bf3_put (pa : Addr) (s : Int) (d1 : Addr) : putF "spots" (.ref d1) (bf2 pa s) = bf3 pa s d1 := by kernel_rfl
theorem bf4_put (pa : Addr) (s : Int) (d1 d2 : Addr) : putF "slots" (.ref d2) (bf3 pa s d1) = bf4 pa s d1 d2 := by kernel_rfl
theorem bf5_put (pa : Addr) (s : Int) (d1 d2 f : Addr) : putF "found" (.ref f) (bf4 pa s d1 d2) = bfl pa s d1 d2 f := by kernel_rfl
theorem But.refl (x : Addr) (H : Hp) : But x H H := fun _ _ _ h => h
theorem But.put {x : Addr} {H H' : Hp} {o : HO} (b : But x H H') : But x H (upd H' x o) := fun a u n h => by rw [upd_ne n]; exact b a u n h
theorem But.alt {x p : Addr} {H H' : Hp} {o : HO} (b : But x H H') (h : H p = none) : But x H (upd H' p o) := fun a u n q => by rw [upd_ne (ne_of_none q h)]; exact b a u n q
theorem But.ex {x : Addr} {H H1 H2 : Hp} (b : But x H H1) (e : Ex H1 H2) : But x H H2 := fun a u n q => e _ _ (b a u n q)
/-- what was new stays new -/
theorem But.free {x p : Addr} {H H' : Hp} (b : But x H H') (h : H' p = none) (n : p ≠ x) : H p = none := by
  cases q : H p with
  | none => rfl
  | some o => rw [b p o n q] at h; cases h
theorem PartAt.but {H H' : Hp} {x dx C pa : Addr} {N : Int} {D : Words} (hx : H x = some (.ins C dx [])) (h : PartAt K H pa N D) (b : But x H H') : PartAt K H' pa N D := by
  obtain ⟨dp, dd, h1, h2, h3⟩ := h
  have ni : ∀ {a C' dx' : Addr} {f : Str × V} {fs : List (Str × V)}, H a = some (.ins C' dx' (f :: fs)) → a ≠ x := fun q z => by
    rw [z, hx] at q
    injection q with q
    injection q with _ _ q
    cases q
  refine ⟨dp, dd, b _ _ (ni h1) h1, b _ _ (ne_of h2 hx fun z => nomatch z) h2, fun q hq => ?_⟩
  obtain ⟨dt, r, xs, g1, g2, g3⟩ := h3 q hq
  exact ⟨dt, r, xs, b _ _ (ni g1) g1, b _ _ (ne_of g2 hx fun z => nomatch z) g2, g3.keep fun a xs q => b _ _ (ne_of q hx fun z => nomatch z) q⟩
def sp_Board_init (K : PySem.W.Frag) : Sp := fun vs H Q _ => ∃ (x dx pa : Addr) (N : Int) (D : Words) (s : Int) (sp : Str → List Int), vs = [.ref x, .ref pa] ∧ H x = some (.ins (cA K "Board") dx []) ∧ PartAt K H pa N D ∧ BF N D s sp ∧
  ∀ H' f, But x H H' → H f = none → BoardAt K H' x f N D s sp → Q .non H'
/-- the spots, the slots of the first i words -/
def SpotsAt (H : Hp) (d1 d2 : Addr) (sp : Str → List Int) (ws : List Str) : Prop :=
  (∃ kvs, H d1 = some (.dK kvs) ∧ kvs.map (·.1) = ws.map Sum.inr ∧ ∀ x ∈ ws, ∃ r, valV kvs (Sum.inr x) = some (.ref r) ∧ H r = some (.lst ((sp x).map .int))) ∧
    ∃ kvs, H d2 = some (.dK kvs) ∧ kvs.map (·.1) = ws.map Sum.inr ∧ ∀ x ∈ ws, ∃ r m, valV kvs (Sum.inr x) = some (.ref r) ∧ (r ≠ d1 ∧ r ≠ d2) ∧ H r = some (.dK m) ∧ ∀ y ∈ sp x, valV m (Sum.inl y) = some (.int ((sp x).idxOf y : Int))
abbrev N_Board_init : List Str := ["self", "part", "word", "at", "spot"]
theorem sc_Board_init : FnScope N_Board_init ["self", "part"] (defScope s_Board_init) := ⟨rfl, rfl, rfl, by decide +kernel, rfl, by decide +kernel, by decide +kernel⟩
theorem ok_Board_init (T : Txt K mg) : DefOk P w K mg base 6 (mA K "Board" "__init__") ["self", "part"] (sp_Board_init K) := by
  obtain ⟨fd, F⟩ := T.d_Board_init
  obtain ⟨fd_Part_period, G_Part_period, kp_Part_period, b_Part_period⟩ := ok_Part_period (P := P) (w := w) (base := base) T
  obtain ⟨fd_Part_rests, G_Part_rests, kp_Part_rests, b_Part_rests⟩ := ok_Part_rests (P := P) (w := w) (base := base) T
  obtain ⟨fd_Part_words, G_Part_words, kp_Part_words, b_Part_words⟩ := ok_Part_words (P := P) (w := w) (base := base) T
  refine ⟨fd, F.ok sc_Board_init (fun vs H Q E h => ?_) (fun cdv A outer s H vs Q E hr h => ?_), F.kp, F.bindsN fun _ _ _ _ _ _ us hl => match us, hl with | [_, _], _ => rfl⟩
  · obtain ⟨x, dx, pa, N, D, s, sp, rfl, hx, hA, B, k⟩ := h
    rfl
  have hu := hu_of hr
  have nd := sc_Board_init.nd
  obtain ⟨x, dx, pa, N, D, s, sp, rfl, hx, hA, B, k⟩ := h
  refine ⟨_, (PSs.nox (pss_cons (ps_fld (pv 0) (pv 1) rfl)
  (pss_cons (ps_fld (pv 0) (pe_prop (pv 1) T.c_Part T.p_Part_period G_Part_period (hr.mono (by decide)) b_Part_period .nil pass0 rfl) rfl)
  (pss_cons (ps_fld (pv 0) pe_dnewK rfl)
  (pss_cons (ps_fld (pv 0) pe_dnewK rfl)
  (pss_cons (ps_for PassesOwn.never rfl (pi_listK K (pe_prop (pv 1) T.c_Part T.p_Part_words G_Part_words (hr.mono (by decide)) b_Part_words .nil pass0 rfl)) (pg_name (i := 2) nd rfl (by first | exact Or.inl rfl | exact Or.inr rfl)) (pss_cons (ps_dput hu (pe_fldK K (pv 0) rfl) (pv 2) (pe_meth (pv 1) T.c_Part T.m_Part_rests G_Part_rests (hr.mono (by decide)) b_Part_rests .nil pass0 (pa_cons (pv 2) pa_nil)) rfl)
  (pss_one (ps_dput hu (pe_fldK K (pv 0) rfl) (pv 2) (pe_dc (own := [("at", 3), ("spot", 4)]) (g := (gTup K 2 (gCons (gName 3) (gCons (gName 4) gNil)))) (tt := tYes) rfl nd (pi_enum (by rfl) T.b_enumerate (pa_cons (pe_dget hu (pe_fldK K (pv 0) rfl) (pv 2) (fun _ _ => rfl)) pa_nil)) (blkOk_by (N := N_Board_init) (sc := defScope s_Board_init) (by decide +kernel)) (fun _ _ _ _ _ => (pg_tup rfl (pgs_cons (pg_name (i := 3) nd rfl (by first | exact Or.inl rfl | exact Or.inr rfl)) (pgs_cons (pg_name (i := 4) nd rfl (by first | exact Or.inl rfl | exact Or.inr rfl)) pgs_nil)))) (fun _ _ _ _ _ => pts_nil) (fun _ _ _ _ _ => (pv 4)) (fun _ _ _ _ _ => (pv 3))) rfl))))
  (pss_one (ps_fld (pv 0) pe_dnewT rfl)))))))), ?_⟩
  have pw : ∀ {H' : Hp}, But x H H' → PartAt K H' pa N D := fun b => PartAt.but hx hA b
  have lw : (D.map (·.1)).length ≤ 2 := by rcases B.part.ws with e | e | e <;> rw [e] <;> decide
  have lo := B.part.lo
  have hi := B.part.hi
  refine ⟨_, rfl, _, rfl, x, _, dx, _, rfl, hx, T.c_Board, T.n_Board_source, by decide, ?_⟩
  rw [bf1_put]
  obtain ⟨H1, eH1⟩ : ∃ H1, H1 = upd H x (.ins (cA K "Board") dx (bf1 pa)) := ⟨_, rfl⟩
  have b1 : But x H H1 := by rw [eH1]; exact (But.refl x H).put
  have h1x : H1 x = some (.ins (cA K "Board") dx (bf1 pa)) := by rw [eH1]; exact upd_same
  rw [← eH1]
  obtain ⟨dp1, dd1, p1, _⟩ := id (pw b1)
  refine ⟨_, rfl, pa, dp1, _, rfl, p1, pa, N, D, rfl, pw b1, B.part, fun H2 s' e2 S => ?_⟩
  cases IsSpan.eq S B.span
  refine ⟨_, rfl, x, _, dx, _, rfl, e2 _ _ h1x, T.c_Board, T.n_Board_span, (by show 1 < 1000; decide), ?_⟩
  rw [bf2_put]
  obtain ⟨H3, eH3⟩ : ∃ H3, H3 = upd H2 x (.ins (cA K "Board") dx (bf2 pa s)) := ⟨_, rfl⟩
  have b3 : But x H H3 := by rw [eH3]; exact (b1.ex e2).put
  have h3x : H3 x = some (.ins (cA K "Board") dx (bf2 pa s)) := by rw [eH3]; exact upd_same
  rw [← eH3]
  intro d1 hd1
  have n1x : d1 ≠ x := fun z => by rw [z, h3x] at hd1; cases hd1
  have hd1' := b3.free hd1 n1x
  refine ⟨_, rfl, x, _, dx, _, rfl, (by rw [upd_ne n1x.symm]; exact h3x), T.c_Board, T.n_Board_spots, (by show 2 < 1000; decide), ?_⟩
  rw [bf3_put]
  obtain ⟨H4, eH4⟩ : ∃ H4, H4 = upd (upd H3 d1 (.dK [])) x (.ins (cA K "Board") dx (bf3 pa s d1)) := ⟨_, rfl⟩
  have b4 : But x H H4 := by rw [eH4]; exact (b3.alt hd1').put
  have h4x : H4 x = some (.ins (cA K "Board") dx (bf3 pa s d1)) := by rw [eH4]; exact upd_same
  have h4d : H4 d1 = some (.dK []) := by rw [eH4, upd_ne n1x, upd_same]
  rw [← eH4]
  intro d2 hd2
  have n2x : d2 ≠ x := fun z => by rw [z, h4x] at hd2; cases hd2
  have n12 : d1 ≠ d2 := fun z => by rw [← z, h4d] at hd2; cases hd2
  have hd2' := b4.free hd2 n2x
  refine ⟨_, rfl, x, _, dx, _, rfl, (by rw [upd_ne n2x.symm]; exact h4x), T.c_Board, T.n_Board_slots, (by show 3 < 1000; decide), ?_⟩
  rw [bf4_put]
  obtain ⟨H5, eH5⟩ : ∃ H5, H5 = upd (upd H4 d2 (.dK [])) x (.ins (cA K "Board") dx (bf4 pa s d1 d2)) := ⟨_, rfl⟩
  have b5 : But x H H5 := by rw [eH5]; exact (b4.alt hd2').put
  have h5x : H5 x = some (.ins (cA K "Board") dx (bf4 pa s d1 d2)) := by rw [eH5]; exact upd_same
  have h5d1 : H5 d1 = some (.dK []) := by rw [eH5, upd_ne n1x, upd_ne n12]; exact h4d
  have h5d2 : H5 d2 = some (.dK []) := by rw [eH5, upd_ne n2x, upd_same]
  rw [← eH5]
  obtain ⟨dp5, dd5, p5, _⟩ := id (pw b5)
  refine ⟨_, rfl, pa, dp5, _, rfl, p5, pa, N, D, rfl, pw b5, B.part, fun H6 pl e6 hpl => ?_⟩
  refine ⟨pl, rfl, ⟨_, SqL.of hpl⟩, ?_⟩
  have eD : (D.map fun q => V.str q.1) = (D.map (·.1)).map V.str := by rw [List.map_map]; rfl
  rw [eD] at hpl
  obtain ⟨ws, ews⟩ : ∃ ws, ws = D.map (·.1) := ⟨_, rfl⟩
  rw [← ews] at hpl lw
  have ndw : ws.Nodup := by rw [ews]; exact B.part.nd
  refine for_it (walk_list (xs := ws.map V.str)) (fun i σ H' => But x H H' ∧ H' x = some (.ins (cA K "Board") dx (bf4 pa s d1 d2)) ∧ H' pl = some (.lst (ws.map V.str)) ∧ SpotsAt H' d1 d2 sp (ws.take i) ∧ ∃ x2 x3 x4, σ = [some (.ref x), some (.ref pa), x2, x3, x4])
    ⟨b5.ex e6, e6 _ _ h5x, hpl, ⟨⟨[], e6 _ _ h5d1, rfl, fun y hy => by cases hy⟩, [], e6 _ _ h5d2, rfl, fun y hy => by cases hy⟩, none, none, none, rfl⟩ (fun i σ H' _ ⟨_, _, h, _⟩ => SqL.of h) ?_ ?_
  · rintro i v σ Ha Hb hi2 ⟨ba, hax, hal, ⟨⟨k1, g1, g2, g3⟩, k2, g4, g5, g6⟩, x2, x3, x4, rfl⟩ ⟨rfl, hv⟩
    rw [List.getElem?_map] at hv
    obtain ⟨z, hz, rfl⟩ := Option.map_eq_some_iff.mp hv
    have hzm := List.mem_of_getElem? hz
    rw [ews] at hzm
    obtain ⟨q, hq, rfl⟩ := List.mem_map.mp hzm
    obtain ⟨dpa, dda, pA, _⟩ := id (pw ba)
    refine ⟨_, rfl, pa, dpa, _, rfl, pA, by kernel_rfl, _, rfl, pa, N, s, D, q, rfl, pw ba, B.part, hq, B.span, fun H7 p l e7 hp pm so => ?_⟩
    have TF := B.part.tf q hq
    have s0 := B.span.pos
    have sN := B.span.le (by omega)
    have Sz := B.bd.spots q.1 hzm
    have lsp : (l.filter fun r => decide (r < s)) = sp q.1 := by
      have S2 := spots_of TF.rows s0 sN ((B.span.iff s).mpr Int.emod_self _ (List.mem_map_of_mem (f := fun q : Str × TurnD => q.2.rows) hq)) pm so
      refine asc_ext S2.asc Sz.asc fun y => ?_
      rw [S2.mem, Sz.mem]
      show _ ↔ 0 ≤ y ∧ y < s ∧ lifted N (rowsOfW D q.1) y = y
      rw [rowsOfW_mem B.part.nd hq]
    rw [lsp] at hp
    have lsz : (sp q.1).length ≤ 12 := by
      have h1 := List.length_filter_le (fun r => decide (r < s)) l
      rw [lsp, pm.length_eq, List.length_map] at h1
      have := TF.len
      omega
    have h7d := e7 _ _ g1
    have li : (ws.take i).length ≤ 2 := by rw [List.length_take]; omega
    have lk1 : k1.length ≤ 2 := by
      have := congrArg List.length g2
      rw [List.length_map, List.length_map] at this
      omega
    have lk2 : k2.length ≤ 2 := by
      have := congrArg List.length g5
      rw [List.length_map, List.length_map] at this
      omega
    have hz2 := hz
    have nk : q.1 ∉ ws.take i := fun hm => by
      obtain ⟨j, hj, ej⟩ := List.getElem_of_mem hm
      rw [List.length_take] at hj
      rw [List.getElem_take] at ej
      have hi3 : i < ws.length := (List.getElem?_eq_some_iff.mp hz).1
      have := (List.getElem?_eq_some_iff.mp hz).2
      exact absurd (List.getElem_inj ndw |>.mp (ej.trans this.symm)) (by omega)
    have nk1 : (Sum.inr q.1 : Key) ∉ k1.map (·.1) := fun hm => by
      rw [g2] at hm
      obtain ⟨y, hy, e⟩ := List.mem_map.mp hm
      rw [Sum.inr.inj e] at hy
      exact nk hy
    have nk2 : (Sum.inr q.1 : Key) ∉ k2.map (·.1) := fun hm => by
      rw [g5] at hm
      obtain ⟨y, hy, e⟩ := List.mem_map.mp hm
      rw [Sum.inr.inj e] at hy
      exact nk hy
    refine ⟨_, rfl, x, _, dx, _, _, rfl, e7 _ _ hax, T.c_Board, T.n_Board_spots, by kernel_rfl, _, rfl, d1, _, rfl, DPut.k (k := Sum.inr q.1) h7d (Evl.sz_lt (by omega)), ?_⟩
    obtain ⟨H8, eH8⟩ : ∃ H8, H8 = upd H7 d1 (.dK (putK k1 (Sum.inr q.1) (.ref p))) := ⟨_, rfl⟩
    rw [← eH8]
    have k8 : ∀ a u, H7 a = some u → u ≠ .dK k1 → H8 a = some u := fun a u h n => by rw [eH8, upd_ne (ne_of h h7d n)]; exact h
    have h8x : H8 x = some (.ins (cA K "Board") dx (bf4 pa s d1 d2)) := k8 _ _ (e7 _ _ hax) (fun z => nomatch z)
    have h8p : H8 p = some (.lst ((sp q.1).map .int)) := k8 _ _ hp (fun z => nomatch z)
    have h8d1 : H8 d1 = some (.dK (putK k1 (Sum.inr q.1) (.ref p))) := by rw [eH8]; exact upd_same
    have h8d2 : H8 d2 = some (.dK k2) := by rw [eH8, upd_ne n12.symm]; exact e7 _ _ g4
    have v8 : valV (putK k1 (Sum.inr q.1) (.ref p)) (Sum.inr q.1) = some (.ref p) := by
      rw [putK_new nk1]
      unfold valV
      rw [List.find?_append, List.find?_eq_none.mpr fun y hy => by
        rw [decide_eq_true_eq]
        exact fun e => nk1 (by rw [← e]; exact List.mem_map_of_mem hy)]
      simp
    have d8 : DGet H8 d1 (.str q.1) (some (.ref p)) := by rw [← v8]; exact DGet.k (k := Sum.inr q.1) h8d1
    refine ⟨_, rfl, x, _, dx, _, _, rfl, h8x, T.c_Board, T.n_Board_spots, by kernel_rfl, _, rfl, d1, _, rfl, d8, p, _, rfl, SqL.of h8p, fun L hL => ?_⟩
    refine dc_it (walk_enum (xs := (sp q.1).map V.int)) (fun j H' => Ex H8 H' ∧ H' L = some (.dK ((List.range j).map fun t : Nat => ((Sum.inl ((sp q.1).getD t 0) : Key), V.int (t : Int))))) ⟨ex_new hL, upd_same⟩ (fun j H' _ ⟨e, _⟩ => SqL.of (e _ _ h8p)) ?_ ?_
    · rintro j y F F' hj ⟨e9, h9L⟩ ⟨T9, xx, yy, rfl, hT9, rfl, ex9, ey9⟩
      cases ex9
      rw [List.length_map] at hj
      have ey9 : ((sp q.1).map V.int)[j]? = some yy := ey9
      rw [List.getElem?_map, List.getElem?_eq_getElem hj] at ey9
      have gj : (sp q.1).getD j 0 = (sp q.1)[j] := by rw [List.getD_eq_getElem?_getD, List.getElem?_eq_getElem hj]; rfl
      have ey9 : V.int (sp q.1)[j] = yy := Option.some.inj ey9
      subst ey9
      have e10 : Ex F (upd F T9 (.tup [.int (j : Nat), .int (sp q.1)[j]])) := ex_new hT9
      have nj : (Sum.inl (sp q.1)[j] : Key) ∉ ((List.range j).map fun t : Nat => ((Sum.inl ((sp q.1).getD t 0) : Key), V.int (t : Int))).map (·.1) := fun hm => by
        rw [List.map_map] at hm
        obtain ⟨t, ht, e⟩ := List.mem_map.mp hm
        have ht2 := List.mem_range.mp ht
        have e : (sp q.1).getD t 0 = (sp q.1)[j] := Sum.inl.inj e
        rw [List.getD_eq_getElem?_getD, List.getElem?_eq_getElem (by omega)] at e
        have := List.pairwise_iff_getElem.mp Sz.asc t j (by omega) hj ht2
        have e2 : (sp q.1)[t]'(by omega) = (sp q.1)[j] := e
        omega
      refine ⟨T9, _, rfl, SqT.of upd_same, rfl, _, _, rfl, _, _, rfl, rfl, rfl, yes_go ⟨_, rfl, _, rfl, _, Sum.inl (sp q.1)[j], rfl, e10 _ _ h9L, Evl.sz_lt (by rw [List.length_map, List.length_range]; omega), Evl.Ex.mut (e9.trans e10) hL, ?_⟩⟩
      rw [upd_same, putK_new nj, List.range_succ, List.map_append]
      show _ = some (HO.dK (_ ++ [(Sum.inl ((sp q.1).getD j 0), V.int (j : Int))]))
      rw [gj]
    · rintro F ⟨e9, h9L⟩
      rw [List.length_map] at h9L
      have nLd : L ≠ d2 := fun z => by rw [z, h8d2] at hL; cases hL
      have nLd1 : L ≠ d1 := fun z => by rw [z, h8d1] at hL; cases hL
      have nLx : L ≠ x := fun z => by rw [z, h8x] at hL; cases hL
      refine ⟨_, rfl, x, _, dx, _, _, rfl, e9 _ _ h8x, T.c_Board, T.n_Board_slots, by kernel_rfl, _, rfl, d2, _, rfl, DPut.k (k := Sum.inr q.1) (e9 _ _ h8d2) (Evl.sz_lt (by omega)), ?_⟩
      have b8 : But x H H8 := by rw [eH8]; exact (ba.ex e7).alt hd1'
      have tk : ws.take (i + 1) = ws.take i ++ [q.1] := by rw [List.take_add_one, hz]; rfl
      have kp : ∀ a u, H8 a = some u → u ≠ .dK k2 → upd F d2 (.dK (putK k2 (Sum.inr q.1) (.ref L))) a = some u := fun a u h n => by rw [upd_ne (ne_of h h8d2 n)]; exact e9 _ _ h
      have old : ∀ {kvs : List (Key × V)} {v : V} {y : Str}, y ∈ ws.take i → valV (kvs ++ [((Sum.inr q.1 : Key), v)]) (Sum.inr y) = valV kvs (Sum.inr y) := fun {kvs v y} hy => by
        unfold valV
        rw [List.find?_append]
        have : ¬ q.1 = y := fun e => nk (by rw [e]; exact hy)
        cases hf : kvs.find? fun kv => decide (kv.1 = Sum.inr y) with
        | some p => rfl
        | none => simp [this]
      have new : ∀ {kvs : List (Key × V)} {v : V}, (Sum.inr q.1 : Key) ∉ kvs.map (·.1) → valV (kvs ++ [((Sum.inr q.1 : Key), v)]) (Sum.inr q.1) = some v := fun {kvs v} hn => by
        unfold valV
        rw [List.find?_append, List.find?_eq_none.mpr fun y hy => by
          rw [decide_eq_true_eq]
          exact fun e => hn (by rw [← e]; exact List.mem_map_of_mem hy)]
        simp
      refine ⟨(b8.ex e9).alt hd2', kp _ _ h8x (fun z => nomatch z), kp _ _ (k8 _ _ (e7 _ _ hal) (fun z => nomatch z)) (fun z => nomatch z), ⟨⟨putK k1 (Sum.inr q.1) (.ref p), ?_, ?_, fun y hy => ?_⟩, putK k2 (Sum.inr q.1) (.ref L), upd_same, ?_, fun y hy => ?_⟩, _, _, _, rfl⟩
      · rw [upd_ne n12]
        exact e9 _ _ h8d1
      · rw [putK_new nk1, List.map_append, g2, tk, List.map_append]
        rfl
      · rw [tk] at hy
        rw [putK_new nk1]
        rcases List.mem_append.mp hy with hy | hy
        · obtain ⟨r, a1, a2⟩ := g3 y hy
          exact ⟨r, by rw [old hy]; exact a1, kp _ _ (k8 _ _ (e7 _ _ a2) (fun z => nomatch z)) (fun z => nomatch z)⟩
        · rw [List.mem_singleton.mp hy]
          exact ⟨p, new nk1, kp _ _ h8p (fun z => nomatch z)⟩
      · rw [putK_new nk2, List.map_append, g5, tk, List.map_append]
        rfl
      · rw [tk] at hy
        rw [putK_new nk2]
        rcases List.mem_append.mp hy with hy | hy
        · obtain ⟨r, m, a1, a0, a2, a3⟩ := g6 y hy
          refine ⟨r, m, by rw [old hy]; exact a1, a0, ?_, a3⟩
          rw [upd_ne a0.2]
          refine e9 _ _ ?_
          rw [eH8, upd_ne a0.1]
          exact e7 _ _ a2
        · rw [List.mem_singleton.mp hy]
          refine ⟨L, _, new nk2, ⟨nLd1, nLd⟩, by rw [upd_ne nLd]; exact h9L, fun y hy => places ?_ hy⟩
          exact Sz.asc.imp fun {a b} h => by omega
  · rintro σ Ha ⟨ba, hax, hal, SA, x2, x3, x4, rfl⟩
    intro f hf
    have nfx : f ≠ x := fun z => by rw [z, hax] at hf; cases hf
    have hf0 := ba.free hf nfx
    rw [List.length_map, List.take_length] at SA
    obtain ⟨⟨k1, g1, g2, g3⟩, k2, g4, g5, g6⟩ := SA
    have eN : Ex Ha (upd Ha f (.dT [])) := ex_new hf
    refine ⟨_, rfl, x, _, dx, _, rfl, eN _ _ hax, T.c_Board, T.n_Board_found, (by show 4 < 1000; decide), ?_⟩
    rw [bf5_put]
    have bN : But x H (upd (upd Ha f (.dT [])) x (.ins (cA K "Board") dx (bfl pa s d1 d2 f))) := (ba.alt hf0).put
    have kp : ∀ a u, Ha a = some u → a ≠ x → upd (upd Ha f (.dT [])) x (.ins (cA K "Board") dx (bfl pa s d1 d2 f)) a = some u := fun a u h n => by rw [upd_ne n]; exact eN _ _ h
    refine k _ f bN hf0 ⟨⟨dx, pa, d1, d2, upd_same, pw bN, ⟨k1, kp _ _ g1 n1x, by rw [← ews]; exact g2, fun y hy => ?_⟩, k2, kp _ _ g4 n2x, fun y hy => ?_⟩, _, by rw [upd_ne nfx]; exact upd_same, [], rfl, List.nodup_nil, fun p hp => by cases hp⟩
    · rw [← ews] at hy
      obtain ⟨r, a1, a2⟩ := g3 y hy
      exact ⟨r, a1, kp _ _ a2 (ne_of a2 hax fun z => nomatch z)⟩
    · rw [← ews] at hy
      obtain ⟨r, m, a1, _, a2, a3⟩ := g6 y hy
      exact ⟨r, m, a1, kp _ _ a2 (ne_of a2 hax fun z => nomatch z), a3⟩
end
end JD
end Part_JD11
section Part_JLam
set_option Elab.async false
set_option linter.all false
set_option maxRecDepth 100000
set_option maxHeartbeats 4000000
/-! A lambda of one parameter, handed to a def that calls it (after the layer's lambda of none). -/
namespace JR
open PySem PySem.Spec PyProof.Rows L2 LamX
/-- the lambda's names: its parameter pa, captured ones, globals -/
structure Lam1 (sc scope : Scope) (pa : Str) : Prop where
  kind : scope.kind = .function
  co : scope.isCoroutine = false
  gen : scope.isGenerator = false
  noc : ∀ y ∈ scope.names, y.2 ≠ .cell
  own : ∀ y ∈ scope.names, y.2 = .local → y.1 = pa
  par : scope.names.lookup pa = some .local
  free : ∀ y ∈ scope.names, y.2 = .free → sc.names.lookup y.1 = some .cell ∨ sc.names.lookup y.1 = some .free
def lam1B (sc scope : Scope) (pa : Str) : Bool :=
  decide (scope.kind = .function) && (!scope.isCoroutine && (!scope.isGenerator && (decide (scope.names.lookup pa = some .local) && scope.names.all fun y => !decide (y.2 = .cell) && ((!decide (y.2 = .local) || decide (y.1 = pa)) && (!decide (y.2 = .free) || (decide (sc.names.lookup y.1 = some .cell) || decide (sc.names.lookup y.1 = some .free)))))))
theorem lam1_by {sc scope : Scope} {pa : Str} (h : lam1B sc scope pa = true) : Lam1 sc scope pa := by
  unfold lam1B at h
  simp only [Bool.and_eq_true, Bool.or_eq_true, Bool.not_eq_true', decide_eq_true_eq, decide_eq_false_iff_not, List.all_eq_true] at h
  obtain ⟨h1, h2, h3, h5, h4⟩ := h
  refine ⟨h1, h2, h3, fun y hy => (h4 y hy).1, fun y hy e => ?_, h5, fun y hy e => ?_⟩
  · rcases (h4 y hy).2.1 with z | z
    · exact absurd e z
    · exact z
  · rcases (h4 y hy).2.2 with z | z | z
    · exact absurd e z
    · exact .inl z
    · exact .inr z
theorem Lam1.has {X : Cx} {scope : Scope} {pa : Str} (L : Lam1 X.env.scope scope pa) (ok : X.Ok) : ∀ y ∈ scope.names, y.2 = .free → ∃ c, X.env.cells.lookup y.1 = some c := fun y hy e => by
  rcases L.free y hy e with k | k
  · exact ok.has _ (.inl k)
  · exact ok.has _ (.inr k)
/-- the context of its body; nothing that is raised leaves it -/
def lam1Cx (X : Cx) (A : Around) (outer : List Env) (s : Shared) (H : Hp) (scope : Scope) (f c' : Addr) : Cx := { lamCx X A outer s H E0 scope f c' with xe := fun _ _ => False }
section
variable {X : Cx} {pins : List (Addr × Obj)} {σ : L2.St} {H HZ : Hp} {s s1 : Shared}
theorem lam1_start {A : Around} {outer : List Env} {scope : Scope} {f c' : Addr} {h₁ : Heap} {tk j : Nat} {pa : Str} {v : V} {u : Value} (I : Inv X pins σ H s) (L : Lam1 X.env.scope scope pa) (e0 : Env0 X.prog X.w X.K X.mg X.base A outer s1 HZ) (hd : A.handled = none)
    (un : Un (frs X.stack) [] H HZ s.heap s1.heap) (hns : h₁.Ns s1.heap.objs.size fun y => ([(pa, u)] : List (Str × Value)).reverse.lookup y) (kp : ∀ b o, s1.heap.get? b = some o → h₁.get? b = some o)
    (hNd : X.N.Nodup) (hj : X.N[j]? = some pa) (rv : RelV v u) :
    Inv (lam1Cx X A outer s1 HZ scope f c') [] (σ.set j (some v)) HZ { s1 with heap := h₁, toks := tk } := by
  have hfree := L.has I.ok
  have cm : ∀ {y c}, (cloFrom X.env.cells scope.names []).lookup y = some c → X.env.cells.lookup y = some c := fun {y c} e => by
    rcases cloFrom_mem (PySem.mem_of_lookup e) with hm | ⟨h1, h2⟩
    · cases hm
    · obtain ⟨c1, hc⟩ := hfree _ h1 rfl
      have hc : X.env.cells.lookup y = some c1 := hc
      have e2 : c = c1 := by
        rw [h2, hc] <;> rfl
      rw [e2]
      exact hc
  have look : ∀ {y}, scope.names.lookup y = some .free → ∃ c, (cloFrom X.env.cells scope.names []).lookup y = some c := fun {y} hl => by
    have hy : (y, NameKind.free) ∈ scope.names := PySem.mem_of_lookup hl
    exact mem_lookup (cloFrom_has (cells := X.env.cells) (acc := []) hy)
  have cellK : ∀ {c : Addr} {v : Option Value}, H c = none → s.heap.IsCell c v → h₁.IsCell c v := fun {c v} n ⟨o, ho, hd⟩ => by
    obtain ⟨sl, q⟩ := un.any ho n (by simp)
    exact ⟨_, kp _ _ q, hd⟩
  have noA : ∀ b : Addr, b ∉ (lam1Cx X A outer s1 HZ scope f c').ex := fun b z => absurd (show b ∈ ([] : List Addr) from z) (by simp)
  refine ⟨⟨e0.mod, L.kind, rfl, rfl, Nat.le_refl _, fun y z c e1 e2 => I.ok.inj y z c (cm e1) (cm e2), fun y hy => ?_, fun y c z _ => ?_, fun _ => hd, Around.frames_deeper e0.frames, .inr ⟨rfl, rfl⟩, fun b z => absurd z (noA b), e0.bs, e0.bsz, fun b _ _ => noA b,
      fun b z => absurd z (noA b), e0.funs, e0.frf⟩,
    rfl, e0.bare, Un.kept kp, ⟨_, hns, fun i y v' e1 e2 e3 => ?_⟩, fun y c e => ?_, e0.hok.fresh (Nat.le_refl _), fun y c e => ?_, fun q hq => absurd (show q ∈ ([] : List (Addr × Obj)) ++ [] from hq) (by simp), e0.hok.kept kp, by rw [List.length_set]; exact I.len⟩
  · have hy : scope.names.lookup y = some .cell ∨ scope.names.lookup y = some .free := hy
    rcases hy with hy | hy
    · exact absurd rfl (L.noc _ (PySem.mem_of_lookup hy))
    · exact look hy
  · have z : false = true := z
    cases z
  · have e3 : Vis scope y := e3
    have e1 : X.N[i]? = some y := e1
    rcases e3 with k | k | k
    · have ey : y = pa := L.own _ (PySem.mem_of_lookup k) rfl
      subst ey
      have ij : i = j := by
        obtain ⟨hi, gi⟩ := List.getElem?_eq_some_iff.mp e1
        obtain ⟨hj', gj⟩ := List.getElem?_eq_some_iff.mp hj
        exact (List.getElem_inj hNd).mp (gi.trans gj.symm)
      subst ij
      have hl : i < σ.length := by rw [I.len]; exact (List.getElem?_eq_some_iff.mp e1).1
      rw [List.getElem?_set_self hl] at e2
      cases e2
      refine ⟨u, rv, .inl ⟨k, ?_⟩⟩
      show ([(y, u)] : List (Str × Value)).lookup y = some u
      simp
    · exact absurd rfl (L.noc _ (PySem.mem_of_lookup k))
    · have ne : i ≠ j := fun z => by
        subst z
        rw [hj] at e1
        cases e1
        have p := L.par
        rw [show scope.names.lookup pa = some .free from k] at p
        cases p
      rw [List.getElem?_set_ne (fun z => ne z.symm)] at e2
      obtain ⟨m, hn, hl⟩ := I.loc
      have hvis : Vis X.env.scope y := (L.free _ (PySem.mem_of_lookup k) rfl).elim (fun k => .inr (.inl k)) (fun k => .inr (.inr k))
      obtain ⟨w', r, q⟩ := hl i y v' e1 e2 hvis
      obtain ⟨c2, h2⟩ := look k
      refine ⟨w', r, .inr ⟨.inr k, c2, h2, ?_⟩⟩
      have c1 := cm h2
      rcases q with ⟨k', _⟩ | ⟨_, c3, e', z⟩
      · have k' : X.env.scope.names.lookup y = some .local := k'
        rcases L.free _ (PySem.mem_of_lookup k) rfl with k2 | k2 <;> rw [show X.env.scope.names.lookup y = _ from k2] at k' <;> cases k'
      · rw [c1] at e'
        cases e'
        exact cellK (I.freeC y _ c1) z
  · obtain ⟨w', z⟩ := I.cell y c (cm e)
    exact ⟨w', cellK (I.freeC y c (cm e)) z⟩
  · obtain ⟨v', o, ho, hd⟩ := I.cell y c (cm e)
    exact un.free c o ho (I.freeC y c (cm e)) (by simp)
/-- a(e), in the def that got the lambda -/
theorem pe_act1 {Ng : List Str} {qg : Str} {sg : Scope} {g f c' : Addr} {cdg pm ctv : Value} {params : Arguments} {body : Expr} {scope : Scope} {k i j : Nat} {a pa : Str} {tb : TE} {te : TA} {p1 p2 : Pos} {e : Expr}
    (I : Inv X pins σ H s) (L : Lam1 X.env.scope scope pa) (hf : s.heap.get? f = some (PySem.W.kla_obj "<lambda>" (X.env.qual ++ "<lambda>") params body scope (cloFrom X.env.cells scope.names []) pm c' ctv)) (hfn : H f = none) (hfr : f ∉ frs X.stack)
    (hbind : ∀ u : Value, bindArgs (PySem.W.kla_fn "<lambda>" (X.env.qual ++ "<lambda>") params body scope (cloFrom X.env.cells scope.names []) pm (.ref c') ctv) ⟨[u], []⟩ = pure [(pa, u)])
    (hNd : X.N.Nodup) (hj : X.N[j]? = some pa) (hr : Room (k + 1) (X.A.deeper (envOfC qg sg s.heap.objs.size g cdg)))
    (hbody : ∀ (A : Around) (outer : List Env) (s : Shared) (H : Hp), Room k (A.deeper (lamEnv X scope s.heap.objs.size f c')) → PE (lam1Cx X A outer s H scope f c') body tb)
    (he : PA (cxOf CX0 X.prog X.w X.K X.mg X.base Ng qg sg g cdg X.A X.stack s H E0).nox [e] te) (hN : Ng[i]? = some a) (hv : Vis sg a) (hd : (a == ("__debug__" : Str)) = false := by decide) (hcd : (a == ("__classdict__" : Str)) = false := by decide)
    (hst : starEach [e] (cxOf CX0 X.prog X.w X.K X.mg X.base Ng qg sg g cdg X.A X.stack s H E0).nox.env = (false, eval e (cxOf CX0 X.prog X.w X.K X.mg X.base Ng qg sg g cdg X.A X.stack s H E0).nox.env) :: starEach [] (cxOf CX0 X.prog X.w X.K X.mg X.base Ng qg sg g cdg X.A X.stack s H E0).nox.env := by rfl) :
    PE (cxOf CX0 X.prog X.w X.K X.mg X.base Ng qg sg g cdg X.A X.stack s H E0).nox (.Call (.Name a p1) [e] [] p2)
      (fun σZ HZ Q => σZ[i]? = some (some (.ref f)) ∧ te σZ HZ fun vs H1 => ∃ v, vs = [v] ∧ H1 c' = some (CodeO c' (X.env.qual ++ "<lambda>")) ∧ tb (σ.set j (some v)) H1 Q) := by
  refine ⟨fun pinsZ sZ σZ HZ Q IZ h => ?_⟩
  obtain ⟨hs, ht⟩ := h
  refine wpAny_Call_Name_kw (thn ((pe_var (pos := p1) (i := i) hN hv hd hcd).run pinsZ sZ σZ HZ (fun v H1 => v = .ref f ∧ H1 = HZ) IZ ⟨.ref f, hs, rfl, rfl⟩) fun u s1 ⟨v, H1, I1, r1, q1⟩ => ?_)
  obtain ⟨ev, eH⟩ := q1
  subst ev
  rw [eH] at I1
  obtain rfl : u = Value.ref f := r1
  have of1 : ∀ {H2 : Hp} {s2 : Shared}, Inv (cxOf CX0 X.prog X.w X.K X.mg X.base Ng qg sg g cdg X.A X.stack s H E0).nox pinsZ σZ H2 s2 → s2.heap.get? f = some (PySem.W.kla_obj "<lambda>" (X.env.qual ++ "<lambda>") params body scope (cloFrom X.env.cells scope.names []) pm c' ctv) := fun I2 => I2.base.keep f _ hf hfn hfr (fun z => nomatch (show f ∈ ([] : List Addr) from z))
  refine PySem.W.callWith_F ⟨_, _, _, _, of1 I1⟩ (thn (he.run p2 pinsZ s1 σZ HZ _ I1 ht) fun us s2 ⟨vs, H2, I2, rr, va, ev, hc, hb⟩ => ⟨⟨_, _, _, _, of1 I2⟩, ?_⟩) hst rfl
  subst ev
  obtain ⟨ua, eu, r2⟩ := vals1 rr
  subst eu
  have un : Un (frs X.stack) [] H H2 s.heap s2.heap := I2.base
  obtain ⟨⟨oc, vs, t, hoc, hdc, hvc⟩, _, _⟩ := I2.hok c' _ hc
  have rc : codeAny (model X.prog X.w) (X.A.deeper (envOfC qg sg s.heap.objs.size g cdg)) (.call (.ref f) ⟨[ua], []⟩) (CR CX0 (envOfC qg sg s.heap.objs.size g cdg :: X.stack) X.prog X.w H2 s2 Q E0) s2 := by
    refine PySem.W.kla_callFunE hr.depth (of1 I2) rfl L.co L.gen rfl ⟨c', oc, vs, t, rfl, hoc, hdc, hvc⟩ ?_
    rw [hbind]
    refine wpAny_pure (wpAny_newFunctionEnv (fun y hy => L.noc y hy) (fun y hy => ?_) (fun h₁ hns hsb => ⟨I2.nolimit.fresh _ hsb, ?_⟩) L.kind)
    · rw [List.mem_singleton.mp hy]
      exact L.par
    show codeAny _ _ (.expr body (lamEnv X scope s2.heap.objs.size f c')) _ _
    have kp : ∀ b o, s2.heap.get? b = some o → h₁.get? b = some o := fun b o e => hsb.extBut b o (Nat.ne_of_lt (Heap.lt_size e)) (Heap.get?_push_of_some _ e)
    have J : Inv (lam1Cx X (X.A.deeper (envOfC qg sg s.heap.objs.size g cdg)) (envOfC qg sg s.heap.objs.size g cdg :: X.stack) s2 H2 scope f c') [] (σ.set j (some va)) H2 { s2 with heap := h₁, toks := s2.toks + ([(pa, ua)] : List (Str × Value)).length } :=
      lam1_start I L I2.env0 hr.hd un hns kp hNd hj r2
    refine PySem.W.kla_codeExpr (wpAny_mono ((hbody _ _ s2 H2 (hr.deeper _)).run [] _ _ H2 Q J hb) (fun v s' hq => ?_) fun e s' hq => (show False from hq).elim)
    obtain ⟨w', H', J', rv, q⟩ := hq
    exact ⟨w', H', J'.os, J'.bare, J'.base, J'.hok, rv, q⟩
  refine wpAny_call (codeAny_mono rc fun r s' hq => ?_)
  cases r with
  | error e => exact False.elim hq
  | ok fl =>
    cases fl with
    | ret u => exact I2.after hq
    | next => exact False.elim hq
    | brk => exact False.elim hq
    | cont => exact False.elim hq
end
end JR
end Part_JLam
section Part_JD12
set_option Elab.async false
set_option linter.all false
set_option maxRecDepth 100000
set_option maxHeartbeats 4000000
namespace JD
open PySem PySem.Spec PyProof.Rows L2 JR JX JT
open Evl (Ex)
/-! ### dicts told by two lists -/
section
variable {α κ : Type} [DecidableEq κ]
abbrev zk (enc : α → κ) (xs : List α) (vs : List V) : List (κ × V) := (xs.zip vs).map fun p => (enc p.1, p.2)
theorem zk_none {enc : α → κ} (inj : ∀ a b, enc a = enc b → a = b) {xs : List α} {vs : List V} {x : α} (h : x ∉ xs) : valV (zk enc xs vs) (enc x) = none := by
  unfold valV
  rw [Option.map_eq_none_iff, List.find?_eq_none]
  intro p hp
  obtain ⟨q, hq, rfl⟩ := List.mem_map.mp hp
  rw [decide_eq_true_eq]
  intro e
  have := List.of_mem_zip hq
  exact h (by rw [← inj _ _ e]; exact this.1)
theorem zk_some {enc : α → κ} (inj : ∀ a b, enc a = enc b → a = b) : ∀ {xs : List α} {vs : List V} {i : Nat} {x : α} {v : V}, xs.Nodup → xs[i]? = some x → vs[i]? = some v → valV (zk enc xs vs) (enc x) = some v
  | [], _, _, _, _, _, h, _ => by simp at h
  | _ :: _, [], _, _, _, _, _, h => by simp at h
  | a :: xs, b :: vs, 0, x, v, nd, h1, h2 => by
    simp at h1 h2
    subst h1 h2
    exact valV_pos rfl
  | a :: xs, b :: vs, i + 1, x, v, nd, h1, h2 => by
    have n := List.nodup_cons.mp nd
    have h1' : xs[i]? = some x := by simpa using h1
    rw [zk, List.zip_cons_cons, List.map_cons, valV_neg fun e => n.1 (by rw [inj a x e]; exact List.mem_of_getElem? h1')]
    exact zk_some inj n.2 h1' (by simpa using h2)
theorem zk_keys {enc : α → κ} : ∀ {xs : List α} {vs : List V}, vs.length = xs.length → (zk enc xs vs).map (·.1) = xs.map enc
  | [], _, _ => rfl
  | _ :: _, [], h => by simp at h
  | a :: xs, b :: vs, h => by
    rw [zk, List.zip_cons_cons, List.map_cons, List.map_cons, List.map_cons]
    congr 1
    exact zk_keys (by simpa using h)
theorem zk_snoc {enc : α → κ} {xs : List α} {vs : List V} (h : vs.length = xs.length) (x : α) (v : V) : zk enc xs vs ++ [(enc x, v)] = zk enc (xs ++ [x]) (vs ++ [v]) := by
  rw [zk, zk, List.zip_append h.symm, List.map_append]
  rfl
theorem zk_put {enc : α → κ} (inj : ∀ a b, enc a = enc b → a = b) {xs : List α} {vs : List V} (h : vs.length = xs.length) {x : α} {v : V} (hx : x ∉ xs) : putK (zk enc xs vs) (enc x) v = zk enc (xs ++ [x]) (vs ++ [v]) := by
  rw [putK_new, zk_snoc h]
  rw [zk_keys h]
  intro m
  obtain ⟨y, hy, e⟩ := List.mem_map.mp m
  exact hx (by rw [← inj _ _ e]; exact hy)
end
theorem keyNd_inj (a b : Node) (h : keyNd a = keyNd b) : a = b := by
  obtain ⟨a1, a2, a3, a4⟩ := a
  obtain ⟨b1, b2, b3, b4⟩ := b
  simp only [keyNd, List.cons.injEq, Sum.inr.injEq, Sum.inl.injEq] at h
  rw [h.1, h.2.1, h.2.2.1, h.2.2.2.1]
/-! ### explored -/
abbrev Ad := Deed × Node
abbrev encAd (m : Ad) : PyData := .tuple [.tuple [.str m.1.1, .int m.1.2], encNd m.2]
/-- the table d, the list wl of the nodes ns, the i-th node's list with cont i -/
structure ExAt (H : Hp) (d wl : Addr) (ns : List Node) (vals : List Addr) (cont : Nat → List Ad) : Prop where
  tab : H d = some (.dT (zk keyNd ns (vals.map V.ref)))
  wait : ∃ ws, H wl = some (.lst ws) ∧ Ls H encNd ws ns
  len : vals.length = ns.length
  nd : ns.Nodup
  vnd : vals.Nodup
  wne : wl ∉ vals
  lst : ∀ i r, vals[i]? = some r → ∃ xs, H r = some (.lst xs) ∧ Ls H encAd xs (cont i)
theorem ExAt.keep {H H' : Hp} {d wl : Addr} {ns : List Node} {vals : List Addr} {cont : Nat → List Ad} (h : ExAt H d wl ns vals cont) (k : ∀ a o, (a = d ∨ a = wl ∨ a ∈ vals) → H a = some o → H' a = some o) (t : Tups H H') : ExAt H' d wl ns vals cont := by
  obtain ⟨ws, h1, h2⟩ := h.wait
  refine ⟨k _ _ (.inl rfl) h.tab, ⟨ws, k _ _ (.inr (.inl rfl)) h1, h2.keep t⟩, h.len, h.nd, h.vnd, h.wne, fun i r hi => ?_⟩
  obtain ⟨xs, g1, g2⟩ := h.lst i r hi
  exact ⟨xs, k _ _ (.inr (.inr (List.mem_of_getElem? hi))) g1, g2.keep t⟩
/-- a new node with an empty list at l -/
theorem ExAt.add {H : Hp} {d wl l a : Addr} {ns : List Node} {vals : List Addr} {cont : Nat → List Ad} (h : ExAt H d wl ns vals cont) {n : Node} (hn : n ∉ ns) (hl : H l = some (.lst [])) (nl : l ∉ vals) (nw : l ≠ wl) (hc : cont ns.length = []) (ia : Im H (.ref a) (encNd n)) {ws : List V} (hw : H wl = some (.lst ws)) :
    ExAt (upd (upd H d (.dT (putK (zk keyNd ns (vals.map V.ref)) (keyNd n) (.ref l)))) wl (.lst (ws ++ [.ref a]))) d wl (ns ++ [n]) (vals ++ [l]) cont := by
  obtain ⟨ws', h1, h2⟩ := h.wait
  rw [hw] at h1
  cases h1
  have ndw : d ≠ wl := ne_of h.tab hw (fun z => nomatch z)
  have t1 : Tups H (upd (upd H d (.dT (putK (zk keyNd ns (vals.map V.ref)) (keyNd n) (.ref l)))) wl (.lst (ws ++ [.ref a]))) := (Tups.mut h.tab fun _ z => nomatch z).trans (Tups.mut (u := .lst ws) (by rw [upd_ne ndw.symm]; exact hw) fun _ z => nomatch z)
  have lv : (vals.map V.ref).length = ns.length := by rw [List.length_map]; exact h.len
  have keep : ∀ r xs, r ≠ wl → H r = some (.lst xs) → upd (upd H d (.dT (putK (zk keyNd ns (vals.map V.ref)) (keyNd n) (.ref l)))) wl (.lst (ws ++ [.ref a])) r = some (.lst xs) := fun r xs hr q => by
    rw [upd_ne hr, upd_ne (ne_of q h.tab fun z => nomatch z)]
    exact q
  refine ⟨?_, ⟨_, upd_same, (h2.keep t1).snoc (ia.keep t1)⟩, by rw [List.length_append, List.length_append, h.len]; rfl, ?_, ?_, ?_, fun i r hi => ?_⟩
  · rw [upd_ne ndw, upd_same, zk_put keyNd_inj lv hn, List.map_append]
    rfl
  · rw [List.nodup_append]
    exact ⟨h.nd, List.pairwise_singleton _ _, fun x hx y hy e => hn (by rw [List.mem_singleton.mp hy] at e; rw [← e]; exact hx)⟩
  · rw [List.nodup_append]
    exact ⟨h.vnd, List.pairwise_singleton _ _, fun x hx y hy e => nl (by rw [List.mem_singleton.mp hy] at e; rw [← e]; exact hx)⟩
  · intro m
    rcases List.mem_append.mp m with m | m
    · exact h.wne m
    · exact nw (List.mem_singleton.mp m).symm
  · rcases Nat.lt_or_ge i vals.length with c | c
    · rw [List.getElem?_append_left c] at hi
      obtain ⟨xs, g1, g2⟩ := h.lst i r hi
      exact ⟨xs, keep r xs (fun z => h.wne (by rw [← z]; exact List.mem_of_getElem? hi)) g1, g2.keep t1⟩
    · rw [List.getElem?_append_right c] at hi
      have e0 : i - vals.length = 0 := by
        rcases Nat.eq_zero_or_pos (i - vals.length) with z | z
        · exact z
        · rw [List.getElem?_eq_none (by simp; omega)] at hi
          cases hi
      rw [e0] at hi
      cases hi
      have ei : i = ns.length := by have := h.len; omega
      subst ei
      exact ⟨[], keep _ _ nw hl, by rw [hc]; exact .nil⟩
/-- one more edge at the i-th node -/
theorem ExAt.edge {H : Hp} {d wl r p : Addr} {ns : List Node} {vals : List Addr} {cont : Nat → List Ad} (h : ExAt H d wl ns vals cont) {i : Nat} (hi : vals[i]? = some r) {xs : List V} (hx : H r = some (.lst xs)) {m : Ad} (hm : Im H (.ref p) (encAd m)) :
    ExAt (upd H r (.lst (xs ++ [.ref p]))) d wl ns vals (fun j => if j = i then cont i ++ [m] else cont j) := by
  have t1 : Tups H (upd H r (.lst (xs ++ [.ref p]))) := Tups.mut hx fun _ z => nomatch z
  obtain ⟨ws, h1, h2⟩ := h.wait
  have nwr : wl ≠ r := fun z => h.wne (by rw [z]; exact List.mem_of_getElem? hi)
  refine ⟨by rw [upd_ne (ne_of h.tab hx fun z => nomatch z)]; exact h.tab, ⟨ws, by rw [upd_ne nwr]; exact h1, h2.keep t1⟩, h.len, h.nd, h.vnd, h.wne, fun j q hj => ?_⟩
  by_cases e : j = i
  · subst e
    rw [hi] at hj
    cases hj
    obtain ⟨ys, g1, g2⟩ := h.lst j r hi
    rw [hx] at g1
    cases g1
    rw [if_pos rfl]
    exact ⟨_, upd_same, (g2.keep t1).snoc (hm.keep t1)⟩
  · rw [if_neg e]
    obtain ⟨ys, g1, g2⟩ := h.lst j q hj
    have nq : q ≠ r := fun z => by
      subst z
      obtain ⟨hj1, gj⟩ := List.getElem?_eq_some_iff.mp hj
      obtain ⟨hi1, gi⟩ := List.getElem?_eq_some_iff.mp hi
      exact e ((List.getElem_inj h.vnd).mp (gj.trans gi.symm))
    exact ⟨ys, by rw [upd_ne nq]; exact g1, g2.keep t1⟩
/-- what a node leads to -/
def adjOf (mvs : Node → List Mv) (n : Node) : List Ad := if n.i = n.j then [] else (mvs n).filterMap fun m => m.2.map fun n' => (m.1, n')
def contAt (mvs : Node → List Mv) (ns : List Node) (at_ : Nat) (i : Nat) : List Ad := if i < at_ then ((ns[i]?).map (adjOf mvs)).getD [] else []
theorem contAt_app {mvs : Node → List Mv} {ns more : List Node} {at_ : Nat} (h : at_ ≤ ns.length) : contAt mvs (ns ++ more) at_ = contAt mvs ns at_ := by
  funext i
  unfold contAt
  by_cases c : i < at_
  · rw [if_pos c, if_pos c, List.getElem?_append_left (by omega)]
  · rw [if_neg c, if_neg c]
theorem mv_get {H : Hp} {v : V} {m : Mv} (h : Im H v (encMv m)) : ∃ a b z, v = .ref a ∧ H a = some (.tup [.ref b, z]) ∧ H b = some (.tup [.str m.1.1, .int m.1.2]) ∧ Im H z (encO m.2) := by
  obtain ⟨a, xs, rfl, ha, x, r, rfl, h1, y, r2, rfl, h2, rfl⟩ := h
  obtain ⟨b, ys, rfl, hb, y1, q1, rfl, rfl, y2, q2, rfl, rfl, rfl⟩ := h1
  exact ⟨a, b, y, rfl, ha, hb, h2⟩
section
variable {P : Program} {w : World} {K : PySem.W.Frag} {mg : Str → Option Value} {base : Heap}
abbrev N_explored : List Str := ["first", "moves", "is_end", "limit", "table", "waiting", "node", "at", "step", "following"]
theorem sc_explored : FnScope N_explored ["first", "moves", "is_end", "limit"] (defScope s_explored) := ⟨rfl, rfl, rfl, by decide +kernel, rfl, by decide +kernel, by decide +kernel⟩
theorem explored_gives (T : Txt K mg) {A : Around} {outer : List Env} {s : Shared} {H : Hp} {cdv : Value} {f0 a1 fl c' : Addr} {q : Str} {Ok : HO → Prop} {mv : V → Hp → VK → Prop} {mvs : Node → List Mv} {Good : Node → Prop} {U fs : List Node} {xs : List V} {Q : VK}
    (hr : Room 1 (A.deeper (envOfC "explored" (defScope s_explored) s.heap.objs.size (He.ga K "explored") cdv)))
    (act : ∀ pn p1 p2 : Pos, PE (cxOf CX0 P w K mg base N_explored "explored" (defScope s_explored) (He.ga K "explored") cdv A outer s H E0).nox (.Call (.Name "moves" p1) [.Name "node" pn] [] p2) (fun σZ HZ Q => σZ[1]? = some (some (.ref fl)) ∧ tCons (tVar 6) tNil σZ HZ fun vs H1 => ∃ v, vs = [v] ∧ H1 c' = some (LamX.CodeO c' q) ∧ mv v H1 Q))
    (hf0 : ∃ o, H f0 = some o ∧ Ok o) (hk : ∀ o, Ok o → ∃ kvs, o = .dT kvs) (hc : H c' = some (LamX.CodeO c' q)) (h1 : H a1 = some (.lst xs)) (hl : Ls H encNd xs fs) (hfs : ∀ n ∈ fs, Good n) (hU : ∀ n, Good n → n ∈ U) (hUl : U.length ≤ 20000)
    (hm : ∀ n, Good n → (mvs n).length ≤ 720 ∧ ∀ m ∈ mvs n, ∀ n', m.2 = some n' → Good n')
    (hmv : ∀ (v : V) (n : Node) (H' : Hp) (Q' : VK), Wx f0 Ok H H' → Im H' v (encNd n) → Good n → (∀ H'' p ys, Wx f0 Ok H' H'' → H' p = none → H'' p = some (.lst ys) → Ls H'' encMv ys (mvs n) → Q' (.ref p) H'') → mv v H' Q')
    (k : ∀ H' d wl ns vals, Wx f0 Ok H H' → ExAt H' d wl ns vals (contAt mvs ns ns.length) → (∀ n ∈ fs, n ∈ ns) → (∀ n ∈ ns, Good n) → (∀ n ∈ ns, ∀ m ∈ adjOf mvs n, m.2 ∈ ns) → H d = none → Q (.ref d) H') :
    ∃ t, PSs (cxOf CX0 P w K mg base N_explored "explored" (defScope s_explored) (He.ga K "explored") cdv A outer s H E0).nox (defBody s_explored) t ∧ t { nx := fun _ H' => Q .non H', rt := Q } (L2.start N_explored [.ref a1, .ref fl, .ref (He.ga K "is_closed"), .non]) H := by
  obtain ⟨fd_is_closed, G_is_closed, kp_is_closed, b_is_closed⟩ := ok_is_closed (P := P) (w := w) (base := base) T
  have hu := hu_of hr
  have nd := sc_explored.nd
  obtain ⟨of0, hf0, okf0⟩ := hf0
  obtain ⟨kf0, rfl⟩ := hk _ okf0
  have R0 : Rel (Wx f0 Ok) (· ≠ f0) := relWx
  have tups : ∀ {H' : Hp}, Wx f0 Ok H H' → Tups H H' := fun e => e.tups hf0 fun _ z => (nomatch z)
  have f0s : ∀ {H' : Hp}, Wx f0 Ok H H' → ∃ kvs, H' f0 = some (.dT kvs) := fun {H'} e => by
    obtain ⟨o, h, ok⟩ := e.2 ⟨_, hf0, okf0⟩
    obtain ⟨kvs, rfl⟩ := hk _ ok
    exact ⟨kvs, h⟩
  have fresh : ∀ {H' : Hp} {p : Addr}, Wx f0 Ok H H' → H' p = none → H p = none := fun {H' p} e h => by
    cases z : H p with
    | none => rfl
    | some o =>
      by_cases n : p = f0
      · subst n
        obtain ⟨kvs, h2⟩ := f0s e
        rw [h2] at h
        cases h
      · rw [e.1 p o n z] at h
        cases h
  have nf : ∀ {p : Addr}, H p = none → p ≠ f0 := fun h z => by rw [z, hf0] at h; cases h
  refine ⟨_, (pss_cons (ps_set (i := 4) nd rfl (by first | exact Or.inl rfl | exact Or.inr rfl) pe_dnewT)
  (pss_cons (ps_set (i := 5) nd rfl (by first | exact Or.inl rfl | exact Or.inr rfl) (pe_lst pa_nil))
  (pss_cons (ps_for PassesOwn.never rfl (pi_listK K (pv 0)) (pg_name (i := 6) nd rfl (by first | exact Or.inl rfl | exact Or.inr rfl)) (pss_one (ps_if (pt_cmp (pc_dnotin hu (pv 6) (pv 4))) (pss_cons (ps_dput hu (pv 4) (pv 6) (pe_lst pa_nil) rfl)
  (pss_one (ps_expr (pe_bm PySem.F.plainAttrs_list PySem.F.slot_list_append PySem.F.type_list_append mt_append (pv 5) (pa_cons (pv 6) pa_nil))))) pss_nil)))
  (pss_cons (ps_set (i := 7) nd rfl (by first | exact Or.inl rfl | exact Or.inr rfl) pe_int)
  (pss_cons (ps_while PassesOwn.never (pt_cmpR op_lt (pv 7) (pe_callB call_len_seq (by rfl) T.b_len rfl (pa_cons (pv 5) pa_nil)) (nomark _)) (pss_cons (ps_if (PW.pt (pw_and (pt_cmpR op_notN (pv 3) pe_non (nomark _)) (pw_and1 (pt_cmpR op_gt (pe_callB call_len_seq (by rfl) T.b_len rfl (pa_cons (pv 5) pa_nil)) (pv 3) (nomark _))))) pss_never pss_nil)
  (pss_cons (ps_set (i := 6) nd rfl (by first | exact Or.inl rfl | exact Or.inr rfl) (pe_ix (ix_listK K) (pv 5) (pv 7) (fun _ _ => rfl)))
  (pss_cons (ps_aug (i := 7) nd rfl (by first | exact Or.inl rfl | exact Or.inr rfl) pe_int ip_add)
  (pss_cons (ps_if (pt_val (pe_callL (i := 2) G_is_closed (hr.mono (by decide)) rfl (Or.inl rfl) kp_is_closed b_is_closed .nil pass0 (pa_cons (pv 6) pa_nil))) (pss_one ps_continue) pss_nil)
  (pss_one (ps_for PassesOwn.never rfl (pi_listK K (act _ _ _)) (pg_tup rfl (pgs_cons (pg_name (i := 8) nd rfl (by first | exact Or.inl rfl | exact Or.inr rfl)) (pgs_cons (pg_name (i := 9) nd rfl (by first | exact Or.inl rfl | exact Or.inr rfl)) pgs_nil))) (pss_cons (ps_if (pt_cmpR op_isN (pv 9) pe_non (nomark _)) (pss_one ps_continue) pss_nil)
  (pss_cons (ps_expr (pe_bm PySem.F.plainAttrs_list PySem.F.slot_list_append PySem.F.type_list_append mt_append (pe_dget hu (pv 4) (pv 6) (fun _ _ => rfl)) (pa_cons (pe_tup (pa_cons (pv 8) (pa_cons (pv 9) pa_nil))) pa_nil)))
  (pss_one (ps_if (pt_cmp (pc_dnotin hu (pv 9) (pv 4))) (pss_cons (ps_dput hu (pv 4) (pv 9) (pe_lst pa_nil) rfl)
  (pss_one (ps_expr (pe_bm PySem.F.plainAttrs_list PySem.F.slot_list_append PySem.F.type_list_append mt_append (pv 5) (pa_cons (pv 9) pa_nil))))) pss_nil)))))))))))
  (pss_one (ps_ret (pv 4)))))))), ?_⟩
  intro d hd
  have e1 : Wx f0 Ok H (upd H d (.dT [])) := Wx.ex (ex_new hd)
  refine ⟨Nat.zero_le _, fun wl hwl => ?_⟩
  have hwl0 := fresh e1 hwl
  have ndw : d ≠ wl := fun z => by rw [← z, upd_same] at hwl; cases hwl
  have e2 : Wx f0 Ok H (upd (upd H d (.dT [])) wl (.lst [])) := R0.alt e1 hwl0
  obtain ⟨H2, eH2⟩ : ∃ H2, H2 = upd (upd H d (.dT [])) wl (.lst []) := ⟨_, rfl⟩
  rw [← eH2] at e2 ⊢
  have X2 : ExAt H2 d wl [] [] (fun _ => []) := by
    rw [eH2]
    exact ⟨by rw [upd_ne ndw]; exact upd_same, ⟨[], upd_same, .nil⟩, rfl, List.nodup_nil, List.nodup_nil, by simp, fun i r hi => by simp at hi⟩
  have a1s : ∀ {H' : Hp}, Wx f0 Ok H H' → H' a1 = some (.lst xs) := fun e => e.1 _ _ (fun z => by rw [z, hf0] at h1; cases h1) h1
  have lx := hl.len
  refine ⟨_, rfl, a1, rfl, ⟨_, SqL.of (a1s e2)⟩, ?_⟩
  -- table[x] = []; waiting.append(x)
  refine for_it (walk_list (xs := xs)) (fun i σ H' => Wx f0 Ok H H' ∧ (∃ x6, σ = [some (.ref a1), some (.ref fl), some (.ref (He.ga K "is_closed")), some .non, some (.ref d), some (.ref wl), x6, none, none, none]) ∧ ∃ ns vals, ExAt H' d wl ns vals (fun _ => []) ∧ (∀ n ∈ fs.take i, n ∈ ns) ∧ (∀ n ∈ ns, Good n) ∧ ∀ r ∈ vals, H r = none)
    ⟨e2, ⟨none, rfl⟩, [], [], X2, fun n hn => by simp at hn, fun n hn => by simp at hn, fun r hr => by simp at hr⟩ (fun i σ H' _ ⟨e, _⟩ => SqL.of (a1s e)) ?_ ?_
  · rintro i v σ H3 H3' hi ⟨e3, ⟨x6, rfl⟩, ns, vals, X3, c3, g3, v3⟩ ⟨rfl, hv⟩
    obtain ⟨n, hn, imn⟩ := (hl.keep (tups e3)).get hv
    obtain ⟨a, rfl, ha⟩ := nd_get imn
    have gn := hfs n (List.mem_of_getElem? hn)
    have tk : fs.take (i + 1) = fs.take i ++ [n] := by rw [List.take_add_one, hn]; rfl
    have nsU : ns.length ≤ U.length := nodup_le X3.nd fun x hx => hU x (g3 x hx)
    refine ⟨_, rfl, _, rfl, d, _, rfl, DGet.t (k := keyNd n) X3.tab ha, _, rfl, ?_⟩
    by_cases m : n ∈ ns
    · obtain ⟨j, hj⟩ := List.getElem?_of_mem m
      have hj2 : j < vals.length := by rw [X3.len]; exact (List.getElem?_eq_some_iff.mp hj).1
      rw [zk_some keyNd_inj (v := .ref vals[j]) X3.nd hj (by rw [List.getElem?_map, List.getElem?_eq_getElem hj2]; rfl)]
      refine iteF ⟨e3, ⟨_, rfl⟩, ns, vals, X3, fun y hy => ?_, g3, v3⟩
      rw [tk] at hy
      rcases List.mem_append.mp hy with hy | hy
      · exact c3 y hy
      · rw [List.mem_singleton.mp hy]; exact m
    · rw [zk_none keyNd_inj m]
      refine iteT ⟨Nat.zero_le _, fun l hl' => ?_⟩
      have eN : Ex H3' (upd H3' l (.lst [])) := ex_new hl'
      have X4 := X3.keep (fun a o _ h => eN a o h) (Tups.of eN)
      obtain ⟨ws, hws, hlw⟩ := X4.wait
      have lw := hlw.len
      have nlw : l ≠ wl := fun z => by
        obtain ⟨_, hh, _⟩ := X3.wait
        rw [z, hh] at hl'
        cases hl'
      have nlv : l ∉ vals := fun hm2 => by
        obtain ⟨j, hj⟩ := List.getElem?_of_mem hm2
        obtain ⟨_, hh, _⟩ := X3.lst j l hj
        rw [hh] at hl'
        cases hl'
      have X5 := X4.add m upd_same nlv nlw rfl (imn.keep (Tups.of eN)) hws
      have hl0 := fresh e3 hl'
      refine ⟨_, rfl, _, rfl, d, _, rfl, DPut.t (k := keyNd n) X4.tab (eN _ _ ha) (Evl.sz_lt (by rw [List.length_map, List.length_zip]; omega)), ?_⟩
      refine ⟨_, rfl, .inl ⟨rfl, _, SqL.of (xs := ws) (by rw [upd_ne ndw.symm]; exact hws)⟩, _, rfl, wl, ws, _, rfl, rfl, by rw [upd_ne ndw.symm]; exact hws, Evl.sz_lt (by omega), ?_⟩
      refine ⟨R0.alt (R0.alt (R0.alt e3 hl0) hd) hwl0, ⟨_, rfl⟩, ns ++ [n], vals ++ [l], X5, fun y hy => ?_, fun y hy => ?_, fun y hy => ?_⟩
      · rw [tk] at hy
        rcases List.mem_append.mp hy with hy | hy
        · exact List.mem_append_left _ (c3 y hy)
        · exact List.mem_append_right _ hy
      · rcases List.mem_append.mp hy with hy | hy
        · exact g3 y hy
        · rw [List.mem_singleton.mp hy]; exact gn
      · rcases List.mem_append.mp hy with hy | hy
        · exact v3 y hy
        · rw [List.mem_singleton.mp hy]; exact hl0
  · rintro σ H3 ⟨e3, ⟨x6, rfl⟩, ns, vals, X3, c3, g3, v3⟩
    rw [lx, List.take_length] at c3
    refine ⟨fun mm σ H' => ∃ at_ ns vals x6 x8 x9, mm = U.length - at_ ∧ at_ ≤ ns.length ∧ σ = [some (.ref a1), some (.ref fl), some (.ref (He.ga K "is_closed")), some .non, some (.ref d), some (.ref wl), x6, some (.int (at_ : Nat)), x8, x9] ∧ Wx f0 Ok H H' ∧ ExAt H' d wl ns vals (contAt mvs ns at_) ∧ (∀ n ∈ fs, n ∈ ns) ∧ (∀ n ∈ ns, Good n) ∧ (∀ r ∈ vals, H r = none) ∧ ∀ i n, i < at_ → ns[i]? = some n → ∀ m ∈ adjOf mvs n, m.2 ∈ ns,
      ⟨U.length, 0, ns, vals, x6, none, none, by omega, Nat.zero_le _, rfl, e3, ?_, c3, g3, v3, fun i n hi => by omega⟩, ?_⟩
    · have : contAt mvs ns 0 = fun _ => [] := by
        funext i
        unfold contAt
        exact if_neg (by omega)
      rw [this]
      exact X3
    rintro mm σ H4 ⟨at_, ns, vals, x6, x8, x9, rfl, hat, rfl, e4, X4, c4, g4, v4, r4⟩
    obtain ⟨ws, hws, hlw⟩ := X4.wait
    have lw := hlw.len
    have nsU : ns.length ≤ U.length := nodup_le X4.nd fun x hx => hU x (g4 x hx)
    refine ⟨_, rfl, _, rfl, wl, _, rfl, .inl (SqL.of hws), _, _, rfl, rfl, _, rfl, ?_⟩
    by_cases c : at_ < ns.length
    · rw [decide_eq_true (by omega)]
      obtain ⟨n, hn⟩ : ∃ n, ns[at_]? = some n := ⟨_, List.getElem?_eq_getElem c⟩
      obtain ⟨v, hv, imn⟩ := hlw.get' hn
      obtain ⟨a, rfl, ha⟩ := nd_get imn
      have gn := g4 n (List.mem_of_getElem? hn)
      have hat2 : at_ < vals.length := by rw [X4.len]; exact c
      obtain ⟨r, hr0⟩ : ∃ r, vals[at_]? = some r := ⟨_, List.getElem?_eq_getElem hat2⟩
      refine iteT ⟨fun σ H' => ∃ ns vals x6 x8 x9, at_ + 1 ≤ ns.length ∧ σ = [some (.ref a1), some (.ref fl), some (.ref (He.ga K "is_closed")), some .non, some (.ref d), some (.ref wl), x6, some (.int (at_ + 1 : Nat)), x8, x9] ∧ Wx f0 Ok H H' ∧ ExAt H' d wl ns vals (contAt mvs ns (at_ + 1)) ∧ (∀ n ∈ fs, n ∈ ns) ∧ (∀ n ∈ ns, Good n) ∧ (∀ r ∈ vals, H r = none) ∧ ∀ i n, i < at_ + 1 → ns[i]? = some n → ∀ m ∈ adjOf mvs n, m.2 ∈ ns,
        fun σ' H' ⟨ns, vals, x6, x8, x9, g1, g2, g3, g4, g5, g6, g7, g8⟩ => ⟨U.length - (at_ + 1), by omega, at_ + 1, ns, vals, x6, x8, x9, rfl, g1, g2, g3, g4, g5, g6, g7, g8⟩, ?_⟩
      refine ⟨_, rfl, rfl, _, rfl, iteF (iteF ?_)⟩
      refine ⟨_, rfl, _, rfl, wl, _, _, _, rfl, rfl, SqL.of hws, atI_nat hv, ?_⟩
      refine ⟨_, rfl, _, _, rfl, rfl, ?_⟩
      refine ⟨rfl, _, rfl, _, n, rfl, imn, _, rfl, ?_⟩
      by_cases cl : n.i = n.j
      · rw [decide_eq_true cl]
        refine iteT ⟨ns, vals, _, _, _, c, rfl, e4, ?_, c4, g4, v4, fun i n' hi hn' m hm' => ?_⟩
        · have : contAt mvs ns (at_ + 1) = contAt mvs ns at_ := by
            funext i
            unfold contAt
            by_cases q : i < at_
            · rw [if_pos (by omega), if_pos q]
            · by_cases q2 : i = at_
              · subst q2
                rw [if_pos (by omega), if_neg q, hn]
                exact if_pos cl
              · rw [if_neg (by omega), if_neg q]
          rw [this]
          exact X4
        · by_cases q2 : i < at_
          · exact r4 i n' q2 hn' m hm'
          · have : i = at_ := by omega
            subst this
            rw [hn] at hn'
            cases hn'
            rw [adjOf, if_pos cl] at hm'
            cases hm'
      · rw [decide_eq_false cl]
        refine iteF ⟨rfl, _, rfl, _, rfl, ?_, hmv _ n H4 _ e4 imn gn fun H5 p ys e5 hp0 hp hly => ?_⟩
        · exact e4.1 _ _ (fun z => by rw [z, hf0] at hc; cases hc) hc
        refine ⟨p, rfl, ⟨_, SqL.of hp⟩, ?_⟩
        have e45 := e4.trans e5
        have okn := hm n gn
        have ly := hly.len
        have dn : ∀ {b : Addr}, H b = none → b ≠ f0 := nf
        have X5 := X4.keep (H' := H5) (fun b o hb ho => e5.1 b o (by
          rcases hb with z | z | z
          · rw [z]; exact nf hd
          · rw [z]; exact nf hwl0
          · exact nf (v4 b z)) ho) (fun b zs hz => e5.1 b _ (fun q => by
            obtain ⟨kvs, h2⟩ := f0s e4
            rw [q, h2] at hz
            cases hz) hz)
        have p0 := fresh e4 hp0
        have npd : p ≠ d := fun z => by rw [z, X4.tab] at hp0; cases hp0
        have npw : p ≠ wl := fun z => by rw [z, hws] at hp0; cases hp0
        have npv : p ∉ vals := fun hm2 => by
          obtain ⟨j, hj⟩ := List.getElem?_of_mem hm2
          obtain ⟨_, hh, _⟩ := X4.lst j p hj
          rw [hh] at hp0
          cases hp0
        let part : Nat → List Ad := fun j => ((mvs n).take j).filterMap fun m => m.2.map fun n' => (m.1, n')
        have adjn : adjOf mvs n = part (mvs n).length := by
          unfold adjOf
          rw [if_neg cl]
          show _ = ((mvs n).take (mvs n).length).filterMap _
          rw [List.take_length]
        let cont : List Node → Nat → Nat → List Ad := fun ns' j i => if i = at_ then part j else contAt mvs ns' at_ i
        refine for_it (walk_list (xs := ys)) (fun j σ H' => Wx f0 Ok H H' ∧ H' p = some (.lst ys) ∧ (∃ x8 x9, σ = [some (.ref a1), some (.ref fl), some (.ref (He.ga K "is_closed")), some .non, some (.ref d), some (.ref wl), some (.ref a), some (.int (at_ + 1 : Nat)), x8, x9]) ∧ H' a = some (.tup [.str n.st, .str n.w, .int n.i, .int n.j]) ∧ Ls H' encMv ys (mvs n) ∧
            ∃ more mvals, ExAt H' d wl (ns ++ more) (vals ++ mvals) (cont ns j) ∧ (∀ n ∈ more, Good n) ∧ (∀ r ∈ mvals, H r = none ∧ r ≠ p) ∧ ∀ m ∈ part j, m.2 ∈ ns ++ more)
          ⟨e45, hp, ⟨_, _, rfl⟩, ?_, hly, [], [], ?_, fun n hn => by simp at hn, fun r hr => by simp at hr, fun m hm' => by simp [part] at hm'⟩ (fun j σ H' _ ⟨_, h, _⟩ => SqL.of h) ?_ ?_
        · exact (e5.tups (f0s e4).choose_spec fun _ z => (nomatch z)) _ _ ha
        · rw [List.append_nil, List.append_nil]
          have : cont ns 0 = contAt mvs ns at_ := by
            funext i
            show (if i = at_ then part 0 else contAt mvs ns at_ i) = _
            by_cases q : i = at_
            · rw [if_pos q, q]
              unfold contAt
              rw [if_neg (Nat.lt_irrefl _)]
              first | done | rfl
            · rw [if_neg q]
          rw [this]
          exact X5
        · rintro j v σ H6 H6' hj ⟨e6, hp6, ⟨x8', x9', rfl⟩, ha6, hly6, more, mvals, X6, gm, mv6, rm⟩ ⟨rfl, hv6⟩
          obtain ⟨m, hmj, imm⟩ := hly6.get hv6
          obtain ⟨cA', b, z, rfl, hcA, hb, hz⟩ := mv_get imm
          have mm := List.mem_of_getElem? hmj
          have tk : part (j + 1) = part j ++ (m.2.map fun n' => (m.1, n')).toList := by
            show ((mvs n).take (j + 1)).filterMap _ = ((mvs n).take j).filterMap _ ++ _
            rw [List.take_add_one, hmj, List.filterMap_append]
            obtain ⟨m1, m2⟩ := m
            cases m2 <;> rfl
          refine ⟨cA', _, rfl, SqT.of hcA, rfl, _, _, rfl, _, _, rfl, rfl, ?_⟩
          obtain ⟨m1, m2⟩ := m
          cases m2 with
          | none =>
            cases (show z = .non from hz)
            have tk2 : part (j + 1) = part j := by rw [tk]; exact List.append_nil _
            refine ⟨_, rfl, rfl, _, rfl, iteT ⟨e6, hp6, ⟨_, _, rfl⟩, ha6, hly6, more, mvals, ?_, gm, mv6, by rw [tk2]; exact rm⟩⟩
            have : cont ns (j + 1) = cont ns j := by
              funext i
              show (if i = at_ then part (j + 1) else _) = (if i = at_ then part j else _)
              rw [tk2]
            rw [this]
            exact X6
          | some n' =>
            have gn' := okn.2 _ mm n' rfl
            obtain ⟨a', rfl, ha'⟩ := nd_get hz
            have hi6 : (ns ++ more)[at_]? = some n := by rw [List.getElem?_append_left c]; exact hn
            have hr6 : (vals ++ mvals)[at_]? = some r := by rw [List.getElem?_append_left hat2]; exact hr0
            obtain ⟨zs, hzs, hlz⟩ := X6.lst at_ r hr6
            have lz := hlz.len
            have lpart : (cont ns j at_).length ≤ 720 := by
              show (if at_ = at_ then part j else _).length ≤ _
              rw [if_pos rfl]
              have := List.length_filterMap_le (fun m : Mv => m.2.map fun n' => (m.1, n')) ((mvs n).take j)
              rw [List.length_take] at this
              have := okn.1
              show (((mvs n).take j).filterMap _).length ≤ 720
              omega
            have gd6 : DGet H6' d (.ref a) (some (.ref r)) := by
              rw [← zk_some keyNd_inj (v := .ref r) X6.nd hi6 (by rw [List.getElem?_map, hr6]; rfl)]
              exact DGet.t (k := keyNd n) X6.tab ha6
            refine ⟨_, rfl, rfl, _, rfl, iteF ?_⟩
            refine ⟨_, rfl, _, rfl, d, _, rfl, gd6, .inl ⟨rfl, _, SqL.of hzs⟩, _, rfl, _, rfl, (by show 2 ≤ sizeLine; decide), fun t ht => ?_⟩
            have eT : Ex H6' (upd H6' t (.tup [.ref b, .ref a'])) := ex_new ht
            have ht0 := fresh e6 ht
            have X7 := X6.keep (fun a o _ h => eT a o h) (Tups.of eT)
            have imt : Im (upd H6' t (.tup [.ref b, .ref a'])) (.ref t) (encAd (m1, n')) := ⟨t, _, rfl, upd_same, _, _, rfl, ⟨b, _, rfl, eT _ _ hb, _, _, rfl, rfl, _, _, rfl, rfl, rfl⟩, _, _, rfl, hz.keep (Tups.of eT), rfl⟩
            have X8 := X7.edge hr6 (eT _ _ hzs) imt
            have ec : (fun i => if i = at_ then cont ns j at_ ++ [(m1, n')] else cont ns j i) = cont ns (j + 1) := by
              funext i
              show (if i = at_ then (if at_ = at_ then part j else _) ++ _ else if i = at_ then part j else _) = if i = at_ then part (j + 1) else _
              by_cases q : i = at_
              · rw [if_pos q, if_pos q, if_pos rfl, tk]
                rfl
              · rw [if_neg q, if_neg q, if_neg q]
            rw [ec] at X8
            have hrH : H r = none := v4 r (List.mem_of_getElem? hr0)
            have e8 : Wx f0 Ok H (upd (upd H6' t (.tup [.ref b, .ref a'])) r (.lst (zs ++ [.ref t]))) := R0.alt (R0.alt e6 ht0) hrH
            have npr : p ≠ r := fun q => npv (by rw [q]; exact List.mem_of_getElem? hr0)
            refine ⟨r, zs, _, rfl, rfl, eT _ _ hzs, Evl.sz_lt (by omega), ?_⟩
            obtain ⟨H8, eH8⟩ : ∃ H8, H8 = upd (upd H6' t (.tup [.ref b, .ref a'])) r (.lst (zs ++ [.ref t])) := ⟨_, rfl⟩
            have t8 : Tups H6' H8 := by rw [eH8]; exact (Tups.of eT).trans (Tups.mut (eT _ _ hzs) fun _ z => nomatch z)
            have hp8 : H8 p = some (.lst ys) := by rw [eH8, upd_ne npr]; exact eT _ _ hp6
            rw [← eH8] at X8 e8 ⊢
            have ha8 := t8 _ _ ha6
            have ha8' := t8 _ _ ha'
            have rm8 : ∀ more', n' ∈ ns ++ more' → (∀ y ∈ more, y ∈ more') → ∀ m ∈ part (j + 1), m.2 ∈ ns ++ more' := fun more' h1 h2 y hy => by
              rw [tk] at hy
              rcases List.mem_append.mp hy with hy | hy
              · rcases List.mem_append.mp (rm y hy) with h | h
                · exact List.mem_append_left _ h
                · exact List.mem_append_right _ (h2 _ h)
              · rw [List.mem_singleton.mp hy]
                exact h1
            refine ⟨_, rfl, _, rfl, d, _, rfl, DGet.t (k := keyNd n') X8.tab ha8', _, rfl, ?_⟩
            by_cases mem : n' ∈ ns ++ more
            · obtain ⟨j2, hj2⟩ := List.getElem?_of_mem mem
              have hj3 : j2 < (vals ++ mvals).length := by rw [X8.len]; exact (List.getElem?_eq_some_iff.mp hj2).1
              rw [zk_some keyNd_inj (v := .ref (vals ++ mvals)[j2]) X8.nd hj2 (by rw [List.getElem?_map, List.getElem?_eq_getElem hj3]; rfl)]
              exact iteF ⟨e8, hp8, ⟨_, _, rfl⟩, ha8, hly6.keep t8, more, mvals, X8, gm, mv6, rm8 more mem fun _ h => h⟩
            · rw [zk_none keyNd_inj mem]
              refine iteT ⟨Nat.zero_le _, fun l hl' => ?_⟩
              have eN : Ex H8 (upd H8 l (.lst [])) := ex_new hl'
              have X9 := X8.keep (fun a o _ h => eN a o h) (Tups.of eN)
              obtain ⟨ws9, hws9, hlw9⟩ := X9.wait
              have lw9 := hlw9.len
              have nlw : l ≠ wl := fun z => by
                obtain ⟨_, hh, _⟩ := X8.wait
                rw [z, hh] at hl'
                cases hl'
              have nlv : l ∉ vals ++ mvals := fun hm2 => by
                obtain ⟨j, hj⟩ := List.getElem?_of_mem hm2
                obtain ⟨_, hh, _⟩ := X8.lst j l hj
                rw [hh] at hl'
                cases hl'
              have nlp : l ≠ p := fun z => by rw [z, hp8] at hl'; cases hl'
              have gal : ∀ y ∈ ns ++ more, Good y := fun y hy => by
                rcases List.mem_append.mp hy with h | h
                · exact g4 y h
                · exact gm y h
              have nsU9 : (ns ++ more).length ≤ U.length := nodup_le X9.nd fun x hx => hU x (gal x hx)
              have c9 : cont ns (j + 1) (ns ++ more).length = [] := by
                show (if (ns ++ more).length = at_ then _ else contAt mvs ns at_ (ns ++ more).length) = []
                rw [List.length_append, if_neg (by omega)]
                unfold contAt
                exact if_neg (by omega)
              have X10 := X9.add mem upd_same nlv nlw c9 (hz.keep (t8.trans (Tups.of eN))) hws9
              have hl0 := fresh e8 hl'
              refine ⟨_, rfl, _, rfl, d, _, rfl, DPut.t (k := keyNd n') X9.tab (eN _ _ ha8') (Evl.sz_lt (by rw [List.length_map, List.length_zip]; omega)), ?_⟩
              refine ⟨_, rfl, .inl ⟨rfl, _, SqL.of (xs := ws9) (by rw [upd_ne ndw.symm]; exact hws9)⟩, _, rfl, wl, ws9, _, rfl, rfl, by rw [upd_ne ndw.symm]; exact hws9, Evl.sz_lt (by omega), ?_⟩
              have ndl : d ≠ l := fun z => by rw [← z, X8.tab] at hl'; cases hl'
              have tF : Tups H8 (upd (upd (upd H8 l (.lst [])) d (.dT (putK (zk keyNd (ns ++ more) ((vals ++ mvals).map V.ref)) (keyNd n') (.ref l)))) wl (.lst (ws9 ++ [.ref a']))) := ((Tups.of eN).trans (Tups.mut X9.tab fun _ z => nomatch z)).trans (Tups.mut (u := .lst ws9) (by rw [upd_ne ndw.symm]; exact hws9) fun _ z => nomatch z)
              refine ⟨R0.alt (R0.alt (R0.alt e8 hl0) hd) hwl0, ?_, ⟨_, _, rfl⟩, tF _ _ ha8, hly6.keep (t8.trans tF), more ++ [n'], mvals ++ [l], ?_, fun y hy => ?_, fun y hy => ?_, ?_⟩
              · rw [upd_ne npw, upd_ne npd]
                exact eN _ _ hp8
              · rw [← List.append_assoc, ← List.append_assoc]
                exact X10
              · rcases List.mem_append.mp hy with h | h
                · exact gm y h
                · rw [List.mem_singleton.mp h]; exact gn'
              · rcases List.mem_append.mp hy with h | h
                · exact mv6 y h
                · rw [List.mem_singleton.mp h]; exact ⟨hl0, nlp⟩
              · exact rm8 _ (by rw [← List.append_assoc]; exact List.mem_append_right _ List.mem_cons_self) fun y h => List.mem_append_left _ h
        · rintro σ H6 ⟨e6, hp6, ⟨x8', x9', rfl⟩, ha6, hly6, more, mvals, X6, gm, mv6, rm⟩
          rw [ly, ← adjn] at rm
          refine ⟨ns ++ more, vals ++ mvals, _, _, _, by rw [List.length_append]; omega, rfl, e6, ?_, fun y hy => List.mem_append_left _ (c4 y hy), fun y hy => ?_, fun y hy => ?_, fun i n2 hi hn2 m hm2 => ?_⟩
          · have : contAt mvs (ns ++ more) (at_ + 1) = cont ns ys.length := by
              rw [contAt_app (by omega)]
              funext i
              show _ = if i = at_ then part ys.length else contAt mvs ns at_ i
              by_cases q : i = at_
              · rw [if_pos q, q, ly, ← adjn]
                unfold contAt
                rw [if_pos (by omega), hn]
                rfl
              · rw [if_neg q]
                unfold contAt
                by_cases q2 : i < at_
                · rw [if_pos q2, if_pos (by omega)]
                · rw [if_neg q2, if_neg (by omega)]
            rw [this]
            exact X6
          · rcases List.mem_append.mp hy with h | h
            · exact g4 y h
            · exact gm y h
          · rcases List.mem_append.mp hy with h | h
            · exact v4 y h
            · exact (mv6 y h).1
          · by_cases q2 : i < at_
            · rw [List.getElem?_append_left (by omega)] at hn2
              exact List.mem_append_left _ (r4 i n2 q2 hn2 m hm2)
            · have : i = at_ := by omega
              subst this
              rw [List.getElem?_append_left c, hn] at hn2
              cases hn2
              exact rm m hm2
    · rw [decide_eq_false (by omega)]
      have e0 : at_ = ns.length := by omega
      subst e0
      refine iteF ⟨_, rfl, k H4 d wl ns vals e4 X4 c4 g4 (fun n hn m hm' => ?_) hd⟩
      obtain ⟨i, hi⟩ := List.getElem?_of_mem hn
      exact r4 i n (List.getElem?_eq_some_iff.mp hi).1 hi m hm'
end
end JD
end Part_JD12
section Part_JD13
set_option Elab.async false
set_option linter.all false
set_option maxRecDepth 100000
set_option maxHeartbeats 4000000
namespace JD
open PySem PySem.Spec PyProof.Rows L2 JR JX JT
open Evl (Ex)
/-! ### a dict of lists by nodes -/
section
variable {β : Type} {enc : β → PyData}
structure TbAt (enc : β → PyData) (H : Hp) (d : Addr) (ns : List Node) (vals : List Addr) (cont : Nat → List β) : Prop where
  tab : H d = some (.dT (zk keyNd ns (vals.map V.ref)))
  len : vals.length = ns.length
  nd : ns.Nodup
  vnd : vals.Nodup
  lst : ∀ i r, vals[i]? = some r → ∃ xs, H r = some (.lst xs) ∧ Ls H enc xs (cont i)
theorem TbAt.keep {H H' : Hp} {d : Addr} {ns : List Node} {vals : List Addr} {cont : Nat → List β} (h : TbAt enc H d ns vals cont) (k : ∀ a o, (a = d ∨ a ∈ vals) → H a = some o → H' a = some o) (t : Tups H H') : TbAt enc H' d ns vals cont := by
  refine ⟨k _ _ (.inl rfl) h.tab, h.len, h.nd, h.vnd, fun i r hi => ?_⟩
  obtain ⟨xs, g1, g2⟩ := h.lst i r hi
  exact ⟨xs, k _ _ (.inr (List.mem_of_getElem? hi)) g1, g2.keep t⟩
theorem TbAt.edge {H : Hp} {d r : Addr} {v : V} {ns : List Node} {vals : List Addr} {cont : Nat → List β} (h : TbAt enc H d ns vals cont) {i : Nat} (hi : vals[i]? = some r) {xs : List V} (hx : H r = some (.lst xs)) {m : β} (hm : Im H v (enc m)) :
    TbAt enc (upd H r (.lst (xs ++ [v]))) d ns vals (fun j => if j = i then cont i ++ [m] else cont j) := by
  have t1 : Tups H (upd H r (.lst (xs ++ [v]))) := Tups.mut hx fun _ z => nomatch z
  refine ⟨by rw [upd_ne (ne_of h.tab hx fun z => nomatch z)]; exact h.tab, h.len, h.nd, h.vnd, fun j q hj => ?_⟩
  by_cases e : j = i
  · subst e
    rw [hi] at hj
    cases hj
    obtain ⟨ys, g1, g2⟩ := h.lst j r hi
    rw [hx] at g1
    cases g1
    rw [if_pos rfl]
    exact ⟨_, upd_same, (g2.keep t1).snoc (hm.keep t1)⟩
  · rw [if_neg e]
    obtain ⟨ys, g1, g2⟩ := h.lst j q hj
    have nq : q ≠ r := fun z => by
      subst z
      obtain ⟨hj1, gj⟩ := List.getElem?_eq_some_iff.mp hj
      obtain ⟨hi1, gi⟩ := List.getElem?_eq_some_iff.mp hi
      exact e ((List.getElem_inj h.vnd).mp (gj.trans gi.symm))
    exact ⟨ys, by rw [upd_ne nq]; exact g1, g2.keep t1⟩
theorem TbAt.get {H : Hp} {d a : Addr} {ns : List Node} {vals : List Addr} {cont : Nat → List β} (h : TbAt enc H d ns vals cont) {n : Node} {i : Nat} {r : Addr} (hn : ns[i]? = some n) (hr : vals[i]? = some r) (ha : H a = some (.tup ((keyNd n).map kV))) : DGet H d (.ref a) (some (.ref r)) := by
  rw [← zk_some keyNd_inj (v := .ref r) h.nd hn (by rw [List.getElem?_map, hr]; rfl)]
  exact DGet.t (k := keyNd n) h.tab ha
end
section
variable {β : Type} {enc : β → PyData}
theorem TbAt.add {H : Hp} {d l : Addr} {ns : List Node} {vals : List Addr} {cont : Nat → List β} (h : TbAt enc H d ns vals cont) {n : Node} (hn : n ∉ ns) (hl : H l = some (.lst [])) (nl : l ∉ vals) (hc : cont ns.length = []) :
    TbAt enc (upd H d (.dT (putK (zk keyNd ns (vals.map V.ref)) (keyNd n) (.ref l)))) d (ns ++ [n]) (vals ++ [l]) cont := by
  have t1 : Tups H (upd H d (.dT (putK (zk keyNd ns (vals.map V.ref)) (keyNd n) (.ref l)))) := Tups.mut h.tab fun _ z => nomatch z
  have lv : (vals.map V.ref).length = ns.length := by rw [List.length_map]; exact h.len
  have keep : ∀ r xs, H r = some (.lst xs) → upd H d (.dT (putK (zk keyNd ns (vals.map V.ref)) (keyNd n) (.ref l))) r = some (.lst xs) := fun r xs q => by
    rw [upd_ne (ne_of q h.tab fun z => nomatch z)]
    exact q
  refine ⟨?_, by rw [List.length_append, List.length_append, h.len]; rfl, ?_, ?_, fun i r hi => ?_⟩
  · rw [upd_same, zk_put keyNd_inj lv hn, List.map_append]
    rfl
  · rw [List.nodup_append]
    exact ⟨h.nd, List.pairwise_singleton _ _, fun x hx y hy e => hn (by rw [List.mem_singleton.mp hy] at e; rw [← e]; exact hx)⟩
  · rw [List.nodup_append]
    exact ⟨h.vnd, List.pairwise_singleton _ _, fun x hx y hy e => nl (by rw [List.mem_singleton.mp hy] at e; rw [← e]; exact hx)⟩
  · rcases Nat.lt_or_ge i vals.length with c | c
    · rw [List.getElem?_append_left c] at hi
      obtain ⟨xs, g1, g2⟩ := h.lst i r hi
      exact ⟨xs, keep r xs g1, g2.keep t1⟩
    · rw [List.getElem?_append_right c] at hi
      have e0 : i - vals.length = 0 := by
        rcases Nat.eq_zero_or_pos (i - vals.length) with z | z
        · exact z
        · rw [List.getElem?_eq_none (by simp; omega)] at hi
          cases hi
      rw [e0] at hi
      cases hi
      have ei : i = ns.length := by have := h.len; omega
      subst ei
      exact ⟨[], keep _ _ hl, by rw [hc]; exact .nil⟩
theorem ad_get {H : Hp} {v : V} {m : Ad} (h : Im H v (encAd m)) : ∃ a b c, v = .ref a ∧ H a = some (.tup [.ref b, .ref c]) ∧ H b = some (.tup [.str m.1.1, .int m.1.2]) ∧ H c = some (.tup ((keyNd m.2).map kV)) := by
  obtain ⟨a, xs, rfl, ha, x, r, rfl, h1, y, r2, rfl, h2, rfl⟩ := h
  obtain ⟨b, ys, rfl, hb, y1, q1, rfl, rfl, y2, q2, rfl, rfl, rfl⟩ := h1
  obtain ⟨c, rfl, hc⟩ := nd_get h2
  exact ⟨a, b, c, rfl, ha, hb, hc⟩
theorem nd_of {H : Hp} {a : Addr} {n : Node} (h : H a = some (.tup ((keyNd n).map kV))) : Im H (.ref a) (encNd n) := by
  obtain ⟨n1, n2, n3, n4⟩ := n
  exact nd_mk h
end
/-! ### the search from the ends -/
structure Bfs0 (ns : List Node) (adj : Node → List Ad) (L : List (Node × Nat)) (at_ : Nat) : Prop where
  nd : (L.map (·.1)).Nodup
  sub : ∀ p ∈ L, p.1 ∈ ns
  cl : ∀ n ∈ ns, n.i = n.j → (n, 0) ∈ L
  sorted : L.Pairwise (fun a b => a.2 ≤ b.2)
  down : ∀ p ∈ L, (p.2 = 0 ∧ p.1.i = p.1.j) ∨ ∃ m ∈ adj p.1, ∃ q ∈ L, q.1 = m.2 ∧ p.2 = q.2 + 1
  pre : ∀ i c, i < at_ → L[i]? = some c → ∀ n ∈ ns, (∃ m ∈ adj n, m.2 = c.1) → ∃ q ∈ L, q.1 = n ∧ q.2 ≤ c.2 + 1
def Near (L : List (Node × Nat)) (at_ : Nat) : Prop := ∀ c, L[at_]? = some c → ∀ p ∈ L, p.2 ≤ c.2 + 1
theorem Bfs0.add {ns : List Node} {adj : Node → List Ad} {L : List (Node × Nat)} {at_ : Nat} (h : Bfs0 ns adj L at_) {c : Node × Nat} (hc : c ∈ L) (hat : at_ ≤ L.length) (near : ∀ p ∈ L, p.2 ≤ c.2 + 1) {n : Node} (hn : n ∈ ns) (he : ∃ m ∈ adj n, m.2 = c.1) (hnew : n ∉ L.map (·.1)) : Bfs0 ns adj (L ++ [(n, c.2 + 1)]) at_ := by
  refine ⟨?_, fun p hp => ?_, fun y hy e => List.mem_append_left _ (h.cl y hy e), ?_, fun p hp => ?_, fun i b hi hb y hy ye => ?_⟩
  · rw [List.map_append, List.nodup_append]
    exact ⟨h.nd, List.pairwise_singleton _ _, fun x hx y hy e => hnew (by rw [List.mem_singleton.mp hy] at e; rw [← show x = n from e]; exact hx)⟩
  · rcases List.mem_append.mp hp with hp | hp
    · exact h.sub p hp
    · rw [List.mem_singleton.mp hp]; exact hn
  · rw [List.pairwise_append]
    exact ⟨h.sorted, List.pairwise_singleton _ _, fun a ha b hb => by rw [List.mem_singleton.mp hb]; exact near a ha⟩
  · rcases List.mem_append.mp hp with hp | hp
    · rcases h.down p hp with d | ⟨m, hm, q, hq, e⟩
      · exact .inl d
      · exact .inr ⟨m, hm, q, List.mem_append_left _ hq, e⟩
    · rw [List.mem_singleton.mp hp]
      obtain ⟨m, hm, e⟩ := he
      exact .inr ⟨m, hm, c, List.mem_append_left _ hc, e.symm, rfl⟩
  · rw [List.getElem?_append_left (by omega)] at hb
    obtain ⟨q, hq, e⟩ := h.pre i b hi hb y hy ye
    exact ⟨q, List.mem_append_left _ hq, e⟩
theorem Bfs0.next {ns : List Node} {adj : Node → List Ad} {L : List (Node × Nat)} {at_ : Nat} (h : Bfs0 ns adj L at_) {c : Node × Nat} (hc : L[at_]? = some c) (near : ∀ p ∈ L, p.2 ≤ c.2 + 1) (hp : ∀ n ∈ ns, (∃ m ∈ adj n, m.2 = c.1) → ∃ q ∈ L, q.1 = n ∧ q.2 ≤ c.2 + 1) : Bfs0 ns adj L (at_ + 1) ∧ Near L (at_ + 1) := by
  refine ⟨⟨h.nd, h.sub, h.cl, h.sorted, h.down, fun i b hi hb => ?_⟩, fun b hb p hpm => ?_⟩
  · by_cases q : i < at_
    · exact h.pre i b q hb
    · have : i = at_ := by omega
      subst this
      rw [hc] at hb
      cases hb
      exact hp
  · have h1 := (List.getElem?_eq_some_iff.mp hc)
    have h2 := (List.getElem?_eq_some_iff.mp hb)
    have := List.pairwise_iff_getElem.mp h.sorted at_ (at_ + 1) h1.1 h2.1 (Nat.lt_succ_self _)
    rw [h1.2, h2.2] at this
    have := near p hpm
    omega
/-- what the distances are -/
def farOf (L : List (Node × Nat)) (n : Node) : Option Nat := (L.find? fun p => decide (p.1 = n)).map (·.2)
structure FarOk (ns : List Node) (adj : Node → List Ad) (L : List (Node × Nat)) : Prop where
  nd : (L.map (·.1)).Nodup
  sub : ∀ p ∈ L, p.1 ∈ ns
  zero : ∀ n ∈ ns, n.i = n.j → farOf L n = some 0
  up : ∀ n ∈ ns, ∀ m ∈ adj n, ∀ d, farOf L m.2 = some d → ∃ d', farOf L n = some d' ∧ d' ≤ d + 1
  down : ∀ n d, farOf L n = some d → (d = 0 ∧ n.i = n.j) ∨ ∃ m ∈ adj n, ∃ d', farOf L m.2 = some d' ∧ d = d' + 1
theorem farOf_mem : ∀ {L : List (Node × Nat)}, (L.map (·.1)).Nodup → ∀ {p : Node × Nat}, p ∈ L → farOf L p.1 = some p.2
  | [], _, _, h => by cases h
  | a :: L, nd, p, h => by
    rw [List.map_cons, List.nodup_cons] at nd
    unfold farOf
    rcases List.mem_cons.mp h with rfl | h
    · rw [List.find?_cons_of_pos (by simp)]
      rfl
    · have : ¬ a.1 = p.1 := fun e => nd.1 (by rw [e]; exact List.mem_map_of_mem h)
      rw [List.find?_cons_of_neg (by simpa using this)]
      exact farOf_mem nd.2 h
theorem farOf_some {L : List (Node × Nat)} {n : Node} {d : Nat} (h : farOf L n = some d) : (n, d) ∈ L := by
  obtain ⟨p, hp, rfl⟩ := Option.map_eq_some_iff.mp h
  have e : p.1 = n := by
    have := List.find?_some hp
    exact of_decide_eq_true this
  rw [← e]
  exact List.mem_of_find?_eq_some hp
theorem Bfs0.far {ns : List Node} {adj : Node → List Ad} {L : List (Node × Nat)} (h : Bfs0 ns adj L L.length) : FarOk ns adj L := by
  refine ⟨h.nd, h.sub, fun n hn e => farOf_mem h.nd (h.cl n hn e), fun n hn m hm d hd => ?_, fun n d hd => ?_⟩
  · have mem := farOf_some hd
    obtain ⟨i, hi⟩ := List.getElem?_of_mem mem
    obtain ⟨q, hq, e1, e2⟩ := h.pre i _ (List.getElem?_eq_some_iff.mp hi).1 hi n hn ⟨m, hm, rfl⟩
    exact ⟨q.2, by rw [← e1]; exact farOf_mem h.nd hq, e2⟩
  · rcases h.down _ (farOf_some hd) with e | ⟨m, hm, q, hq, e1, e2⟩
    · exact .inl e
    · exact .inr ⟨m, hm, q.2, by rw [← e1]; exact farOf_mem h.nd hq, e2⟩
/-- the dict of the distances -/
abbrev farK (L : List (Node × Nat)) : List (List Key × V) := L.map fun p => (keyNd p.1, .int (p.2 : Int))
theorem farK_val : ∀ (L : List (Node × Nat)) (n : Node), valV (farK L) (keyNd n) = (farOf L n).map fun d => V.int (d : Int)
  | [], _ => rfl
  | a :: L, n => by
    unfold farOf
    by_cases e : a.1 = n
    · rw [List.find?_cons_of_pos (by simpa using e)]
      show valV ((keyNd a.1, V.int (a.2 : Int)) :: farK L) (keyNd n) = _
      rw [valV_pos (by rw [e])]
      rfl
    · rw [List.find?_cons_of_neg (by simpa using e)]
      show valV ((keyNd a.1, V.int (a.2 : Int)) :: farK L) (keyNd n) = _
      rw [valV_neg fun z => e (keyNd_inj _ _ z)]
      exact farK_val L n
theorem farOf_none {L : List (Node × Nat)} {n : Node} : farOf L n = none ↔ n ∉ L.map (·.1) := by
  unfold farOf
  rw [Option.map_eq_none_iff, List.find?_eq_none]
  constructor
  · intro h m
    obtain ⟨p, hp, e⟩ := List.mem_map.mp m
    exact h p hp (decide_eq_true e)
  · intro h p hp e
    exact h (List.mem_map.mpr ⟨p, hp, of_decide_eq_true e⟩)
theorem farK_put {L : List (Node × Nat)} {n : Node} {d : Nat} (h : n ∉ L.map (·.1)) : putK (farK L) (keyNd n) (.int (d : Int)) = farK (L ++ [(n, d)]) := by
  rw [putK_new, farK, farK, List.map_append]
  · rfl
  · intro m
    rw [List.map_map] at m
    obtain ⟨p, hp, e⟩ := List.mem_map.mp m
    exact h (List.mem_map.mpr ⟨p, hp, keyNd_inj _ _ e⟩)
/-! ### distances -/
/-- who leads to x, of the edges E -/
abbrev preOf (E : List (Node × Node)) (x : Node) : List Node := (E.filter fun e => decide (e.2 = x)).map (·.1)
theorem preOf_snoc (E : List (Node × Node)) (e : Node × Node) (x : Node) : preOf (E ++ [e]) x = preOf E x ++ if e.2 = x then [e.1] else [] := by
  unfold preOf
  rw [List.filter_append, List.map_append]
  by_cases h : e.2 = x <;> simp [h]
theorem preOf_len (E : List (Node × Node)) (x : Node) : (preOf E x).length ≤ E.length := by
  unfold preOf
  rw [List.length_map]
  exact List.length_filter_le _ _
abbrev preC (ns : List Node) (E : List (Node × Node)) (i : Nat) : List Node := ((ns[i]?).map (preOf E)).getD []
theorem preC_snoc {ns : List Node} (nd : ns.Nodup) {E : List (Node × Node)} {p x : Node} {k : Nat} (hk : ns[k]? = some x) : (fun j => if j = k then preC ns E k ++ [p] else preC ns E j) = preC ns (E ++ [(p, x)]) := by
  funext j
  by_cases e : j = k
  · subst e
    rw [if_pos rfl]
    unfold preC
    rw [hk]
    show preOf E x ++ [p] = preOf (E ++ [(p, x)]) x
    rw [preOf_snoc, if_pos rfl]
  · rw [if_neg e]
    unfold preC
    cases h : ns[j]? with
    | none => rfl
    | some y =>
      show preOf E y = preOf (E ++ [(p, x)]) y
      have : ¬ x = y := fun z => by
        subst z
        obtain ⟨a, ea⟩ := List.getElem?_eq_some_iff.mp h
        obtain ⟨b, eb⟩ := List.getElem?_eq_some_iff.mp hk
        exact e ((List.getElem_inj nd).mp (ea.trans eb.symm))
      rw [preOf_snoc, if_neg this, List.append_nil]
abbrev edgesOf (adj : Node → List Ad) (l : List Node) : List (Node × Node) := l.flatMap fun p => (adj p).map fun m => (p, m.2)
theorem edges_len {adj : Node → List Ad} {k : Nat} : ∀ {l : List Node}, (∀ n ∈ l, (adj n).length ≤ k) → (edgesOf adj l).length ≤ l.length * k
  | [], _ => by simp
  | a :: l, h => by
    rw [edgesOf, List.flatMap_cons, List.length_append, List.length_map, List.length_cons, Nat.succ_mul]
    have := h a List.mem_cons_self
    have := edges_len (l := l) fun n hn => h n (List.mem_cons_of_mem _ hn)
    unfold edgesOf at this
    omega
theorem mem_pre {adj : Node → List Ad} {ns : List Node} {x p : Node} : p ∈ preOf (edgesOf adj ns) x ↔ p ∈ ns ∧ ∃ m ∈ adj p, m.2 = x := by
  unfold preOf edgesOf
  rw [List.mem_map]
  constructor
  · rintro ⟨e, he, rfl⟩
    obtain ⟨h1, h2⟩ := List.mem_filter.mp he
    obtain ⟨q, hq, h3⟩ := List.mem_flatMap.mp h1
    obtain ⟨m, hm, rfl⟩ := List.mem_map.mp h3
    exact ⟨hq, m, hm, of_decide_eq_true h2⟩
  · rintro ⟨hp, m, hm, e⟩
    exact ⟨(p, m.2), List.mem_filter.mpr ⟨List.mem_flatMap.mpr ⟨p, hp, List.mem_map.mpr ⟨m, hm, rfl⟩⟩, decide_eq_true e⟩, rfl⟩
theorem sz_big {n : Nat} (h : n ≤ 15000000) : n < sizeLine := Nat.lt_of_le_of_lt h (by decide)
theorem zk_at {ns : List Node} {vs : List V} {i : Nat} {kv : List Key × V} (h : (zk keyNd ns vs)[i]? = some kv) : ∃ n, ns[i]? = some n ∧ kv.1 = keyNd n := by
  rw [zk, List.getElem?_map] at h
  obtain ⟨q, hq, rfl⟩ := Option.map_eq_some_iff.mp h
  have := List.getElem?_zip_eq_some.mp hq
  exact ⟨q.1, this.1, rfl⟩
section
variable {P : Program} {w : World} {K : PySem.W.Frag} {mg : Str → Option Value} {base : Heap}
def sp_distances (K : PySem.W.Frag) : Sp := fun vs H Q _ => ∃ (d : Addr) (ns : List Node) (vals : List Addr) (adj : Node → List Ad), vs = [.ref d, .ref (He.ga K "is_closed")] ∧ TbAt encAd H d ns vals (fun i => ((ns[i]?).map adj).getD []) ∧ (∀ n ∈ ns, (adj n).length ≤ 720 ∧ ∀ m ∈ adj n, m.2 ∈ ns) ∧ ns.length ≤ 20000 ∧
  ∀ H' fd L, Ex H H' → H' fd = some (.dT (farK L)) → FarOk ns adj L → Q (.ref fd) H'
abbrev N_distances : List Str := ["table", "is_end", "before", "node", "_", "following", "far", "waiting", "at", "earlier"]
theorem sc_distances : FnScope N_distances ["table", "is_end"] (defScope s_distances) := ⟨rfl, rfl, rfl, by decide +kernel, rfl, by decide +kernel, by decide +kernel⟩
theorem ok_distances (T : Txt K mg) : DefOk P w K mg base 2 (He.ga K "distances") ["table", "is_end"] (sp_distances K) := by
  obtain ⟨fd, F⟩ := T.d_distances
  obtain ⟨fd_is_closed, G_is_closed, kp_is_closed, b_is_closed⟩ := ok_is_closed (P := P) (w := w) (base := base) T
  refine ⟨fd, F.ok sc_distances (fun vs H Q E h => ?_) (fun cdv A outer s H vs Q E hr h => ?_), F.kp, F.bindsN fun _ _ _ _ _ _ us hl => match us, hl with | [_, _], _ => rfl⟩
  · obtain ⟨d, ns, vals, adj, rfl, X0, hadj, hns, k⟩ := h
    rfl
  have hu := hu_of hr
  have nd := sc_distances.nd
  obtain ⟨d, ns, vals, adj, rfl, X0, hadj, hns, k⟩ := h
  refine ⟨_, (PSs.nox (pss_cons (ps_lock (ps_setDcT (i := 2) (own := [("node", 3)]) (g := (gName 3)) (tt := tYes) (Nat.lt_of_succ_lt hu) rfl nd rfl rfl (swD_true rfl rfl rfl (by decide +kernel)) (pi_keys (pv 0)) (blkOk_by (N := N_distances) (sc := defScope s_distances) (by decide +kernel)) (fun _ _ _ _ _ => (pg_name (i := 3) nd rfl (by first | exact Or.inl rfl | exact Or.inr rfl))) (fun _ _ _ _ _ => pts_nil) (fun _ _ _ _ _ => (pv 3)) (fun _ _ _ _ _ => (pe_lst pa_nil))))
  (pss_cons (ps_lock (ps_for PassesOwn.never rfl (pi_keys (pv 0)) (pg_name (i := 3) nd rfl (by first | exact Or.inl rfl | exact Or.inr rfl)) (pss_one (ps_for PassesOwn.never rfl (pi_listK K (pe_dget hu (pv 0) (pv 3) (fun _ _ => rfl))) (pg_tup rfl (pgs_cons (pg_name (i := 4) nd rfl (by first | exact Or.inl rfl | exact Or.inr rfl)) (pgs_cons (pg_name (i := 5) nd rfl (by first | exact Or.inl rfl | exact Or.inr rfl)) pgs_nil))) (pss_one (ps_expr (pe_bm PySem.F.plainAttrs_list PySem.F.slot_list_append PySem.F.type_list_append mt_append (pe_dget hu (pv 2) (pv 5) (fun _ _ => rfl)) (pa_cons (pv 3) pa_nil))))))))
  (pss_cons (ps_lock (ps_setDcT (i := 6) (own := [("node", 3)]) (g := (gName 3))  (Nat.lt_of_succ_lt hu) rfl nd rfl rfl (swD_true rfl rfl rfl (by decide +kernel)) (pi_keys (pv 0)) (blkOk_by (N := N_distances) (sc := defScope s_distances) (by decide +kernel)) (fun _ _ _ _ _ => (pg_name (i := 3) nd rfl (by first | exact Or.inl rfl | exact Or.inr rfl))) (fun _ _ _ _ _ => (pts_one (pt_val (pe_callL (i := 1) (sp := sp_is_closed) (E := E0) (dvs := []) G_is_closed (hr.mono (by decide)) rfl (by first | exact Or.inl rfl | exact Or.inr (Or.inl rfl) | exact Or.inr (Or.inr rfl)) kp_is_closed b_is_closed .nil pass0 (pa_cons (pv 3) pa_nil))))) (fun _ _ _ _ _ => (pv 3)) (fun _ _ _ _ _ => pe_int)))
  (pss_cons (ps_set (i := 7) nd rfl (by first | exact Or.inl rfl | exact Or.inr rfl) (pe_callTy (call_list_dT rfl) (by rfl) T.b_list rfl (pa_cons (pv 6) pa_nil)))
  (pss_cons (ps_set (i := 8) nd rfl (by first | exact Or.inl rfl | exact Or.inr rfl) pe_int)
  (pss_cons (ps_while PassesOwn.never (pt_cmpR op_lt (pv 8) (pe_callB call_len_seq (by rfl) T.b_len rfl (pa_cons (pv 7) pa_nil)) (nomark _)) (pss_cons (ps_set (i := 3) nd rfl (by first | exact Or.inl rfl | exact Or.inr rfl) (pe_ix (ix_listK K) (pv 7) (pv 8) (fun _ _ => rfl)))
  (pss_cons (ps_aug (i := 8) nd rfl (by first | exact Or.inl rfl | exact Or.inr rfl) pe_int ip_add)
  (pss_one (ps_for PassesOwn.never rfl (pi_listK K (pe_dget hu (pv 2) (pv 3) (fun _ _ => rfl))) (pg_name (i := 9) nd rfl (by first | exact Or.inl rfl | exact Or.inr rfl)) (pss_one (ps_if (pt_cmp (pc_dnotin hu (pv 9) (pv 6))) (pss_cons (ps_dput hu (pv 6) (pv 9) (pe_op op_add (pe_dget hu (pv 6) (pv 3) (fun _ _ => rfl)) pe_int) rfl)
  (pss_one (ps_expr (pe_bm PySem.F.plainAttrs_list PySem.F.slot_list_append PySem.F.type_list_append mt_append (pv 7) (pa_cons (pv 9) pa_nil))))) pss_nil)))))))
  (pss_one (ps_ret (pv 6)))))))))), ?_⟩
  have lk : (zk keyNd ns (vals.map V.ref)).length = ns.length := by
    have := X0.len
    rw [List.length_map, List.length_zip, List.length_map]
    omega
  -- before = {node: []}
  refine ⟨d, _, X0.tab, True.intro, fun od => ⟨_, rfl, d, od, rfl, .inr ⟨_, upd_same, fun B hB => ?_⟩⟩⟩
  obtain ⟨G, eG⟩ : ∃ G, G = upd H d (.frz od (.dT (zk keyNd ns (vals.map V.ref)))) := ⟨_, rfl⟩
  rw [← eG] at hB ⊢
  have Gd : G d = some (.frz od (.dT (zk keyNd ns (vals.map V.ref)))) := by rw [eG]; exact upd_same
  refine dcT_it walk_keysT (fun i H' => Ex G H' ∧ ∃ bv, TbAt encNd H' B (ns.take i) bv (fun _ => []) ∧ ∀ r ∈ bv, G r = none) ⟨ex_new hB, [], ⟨upd_same, rfl, List.nodup_nil, List.nodup_nil, fun i r hi => by simp at hi⟩, fun r hr => by simp at hr⟩ (fun i H' _ ⟨e, _⟩ => e _ _ Gd) ?_ ?_
  · rintro i x F F' hi ⟨e, bv, XB, fb⟩ ⟨rfl, kk, kv, q, hk1, rfl, hq⟩
    obtain ⟨n, hn, ek⟩ := zk_at hk1
    have ek : kk = keyNd n := ek
    subst ek
    have tk : ns.take (i + 1) = ns.take i ++ [n] := by rw [List.take_add_one, hn]; rfl
    have lt : (ns.take i).length ≤ 20000 := by rw [List.length_take]; omega
    have nn : n ∉ ns.take i := fun hm => by
      obtain ⟨j, hj, ej⟩ := List.getElem_of_mem hm
      rw [List.length_take] at hj
      rw [List.getElem_take] at ej
      have hi2 := (List.getElem?_eq_some_iff.mp hn)
      exact absurd (List.getElem_inj X0.nd |>.mp (ej.trans hi2.2.symm)) (by omega)
    refine ⟨rfl, yes_go ⟨_, rfl, Nat.zero_le _, fun l hl => ?_⟩⟩
    have eN : Ex F' (upd F' l (.lst [])) := ex_new hl
    have XB2 := XB.keep (fun a o _ h => eN a o h) (Tups.of eN)
    have nl : l ∉ bv := fun hm => by
      obtain ⟨j, hj⟩ := List.getElem?_of_mem hm
      obtain ⟨_, hh, _⟩ := XB.lst j l hj
      rw [hh] at hl
      cases hl
    have XB3 := XB2.add nn upd_same nl rfl
    have lb := XB.len
    refine ⟨_, keyNd n, q, rfl, eN _ _ hq, XB2.tab, Evl.sz_lt (by rw [List.length_map, List.length_zip]; omega), Evl.Ex.mut (e.trans eN) hB, bv ++ [l], by rw [tk]; exact XB3, fun r hr => ?_⟩
    rcases List.mem_append.mp hr with hr | hr
    · exact fb r hr
    · rw [List.mem_singleton.mp hr]
      exact Evl.fresh_back e hl
  rintro F ⟨e, bv, XB, fb⟩
  rw [lk, List.take_length] at XB
  refine ⟨e _ _ Gd, ?_⟩
  have e1 : Ex H (upd F d (.dT (zk keyNd ns (vals.map V.ref)))) := ex_unlock X0.tab (by rw [← eG]; exact e)
  have nBd : B ≠ d := fun z => by rw [z, Gd] at hB; cases hB
  have fbd : ∀ r ∈ bv, r ≠ d := fun r hr z => by have := fb r hr; rw [z, Gd] at this; cases this
  have fbH : ∀ r ∈ bv, H r = none := fun r hr => by have := fb r hr; rw [eG, upd_ne (fbd r hr)] at this; exact this
  have hBH : H B = none := by rw [eG, upd_ne nBd] at hB; exact hB
  obtain ⟨H1, eH1⟩ : ∃ H1, H1 = upd F d (.dT (zk keyNd ns (vals.map V.ref))) := ⟨_, rfl⟩
  have tF : Tups F H1 := by rw [eH1]; exact Tups.mut (e _ _ Gd) fun _ z => nomatch z
  have XB1 : TbAt encNd H1 B ns bv (fun _ => []) := XB.keep (fun a o ha h => by
    rw [eH1, upd_ne (by
      rcases ha with z | z
      · rw [z]; exact nBd
      · exact fbd a z)]
    exact h) tF
  rw [← eH1] at e1 ⊢
  have XT1 : TbAt encAd H1 d ns vals (fun i => ((ns[i]?).map adj).getD []) := X0.keep (fun a o _ h => e1 a o h) (Tups.of e1)
  have dv : ∀ r ∈ vals, H r ≠ none := fun r hr z => by
    obtain ⟨j, hj⟩ := List.getElem?_of_mem hr
    obtain ⟨_, hh, _⟩ := X0.lst j r hj
    rw [hh] at z
    cases z
  -- before[following].append(node)
  refine ⟨d, _, XT1.tab, True.intro, fun od2 => ⟨_, rfl, d, od2, rfl, .inr ⟨_, upd_same, ?_⟩⟩⟩
  obtain ⟨G2, eG2⟩ : ∃ G2, G2 = upd H1 d (.frz od2 (.dT (zk keyNd ns (vals.map V.ref)))) := ⟨_, rfl⟩
  rw [← eG2]
  have G2d : G2 d = some (.frz od2 (.dT (zk keyNd ns (vals.map V.ref)))) := by rw [eG2]; exact upd_same
  have tG2 : Tups H1 G2 := fun a xs h => by rw [eG2]; exact ex_lock XT1.tab h (fun z => nomatch z)
  have kG2 : ∀ a o, a ≠ d → H1 a = some o → G2 a = some o := fun a o n h => by rw [eG2, upd_ne n]; exact h
  have XB2 : TbAt encNd G2 B ns bv (fun _ => []) := XB1.keep (fun a o ha h => kG2 a o (by
      rcases ha with z | z
      · rw [z]; exact nBd
      · exact fbd a z) h) tG2
  have lstG2 : ∀ {i : Nat} {r : Addr}, vals[i]? = some r → ∃ xs, G2 r = some (.lst xs) ∧ Ls G2 encAd xs (((ns[i]?).map adj).getD []) ∧ r ∉ bv := fun {i r} hi => by
    obtain ⟨xs, g1, g2⟩ := XT1.lst i r hi
    exact ⟨xs, kG2 _ _ (ne_of g1 XT1.tab fun z => nomatch z) g1, g2.keep tG2, fun hm => dv r (List.mem_of_getElem? hi) (fbH r hm)⟩
  have elen : ∀ i, (edgesOf adj (ns.take i)).length ≤ 14400000 := fun i => by
    have := edges_len (adj := adj) (k := 720) (l := ns.take i) fun n hn => (hadj n (List.mem_of_mem_take hn)).1
    rw [List.length_take] at this
    have h2 : min i ns.length * 720 ≤ 20000 * 720 := Nat.mul_le_mul_right _ (by omega)
    omega
  refine for_it walk_keysT (fun i σ H' => (∀ a o, a ∉ bv → G2 a = some o → H' a = some o) ∧ TbAt encNd H' B ns bv (preC ns (edgesOf adj (ns.take i))) ∧ ∃ x3 x4 x5, σ = [some (.ref d), some (.ref (He.ga K "is_closed")), some (.ref B), x3, x4, x5, none, none, none, none])
    ⟨fun a o _ h => h, ?_, none, none, none, rfl⟩ (fun i σ H' _ ⟨kp, _⟩ => kp _ _ (fun hm => fbd _ hm rfl) G2d) ?_ ?_
  · have : preC ns (edgesOf adj (ns.take 0)) = fun _ => [] := by
      funext i
      unfold preC
      cases ns[i]? <;> rfl
    rw [this]
    exact XB2
  · rintro i v σ F1 F1' hi ⟨kp, XE, x3, x4, x5, rfl⟩ ⟨rfl, kk, kv, q, hk1, rfl, hq⟩
    obtain ⟨n, hn, ek⟩ := zk_at hk1
    have ek : kk = keyNd n := ek
    subst ek
    have hi2 : i < vals.length := by rw [X0.len]; exact (List.getElem?_eq_some_iff.mp hn).1
    obtain ⟨r, hr0⟩ : ∃ r, vals[i]? = some r := ⟨_, List.getElem?_eq_getElem hi2⟩
    obtain ⟨xs, hxs, hlx, nrb⟩ := lstG2 hr0
    rw [hn] at hlx
    have hlx : Ls G2 encAd xs (adj n) := hlx
    have nm := List.mem_of_getElem? hn
    have lxs := hlx.len
    have ad := hadj n nm
    have tup1 : ∀ {H' : Hp}, (∀ a o, a ∉ bv → G2 a = some o → H' a = some o) → Tups G2 H' := fun kp a ys h => kp a _ (fun hm => by
      obtain ⟨j, hj⟩ := List.getElem?_of_mem hm
      obtain ⟨_, hh, _⟩ := XB2.lst j a hj
      rw [hh] at h
      cases h) h
    have gd : DGet F1' d (.ref q) (some (.ref r)) := by
      rw [← zk_some keyNd_inj (v := .ref r) X0.nd hn (by rw [List.getElem?_map, hr0]; rfl)]
      exact .inr ⟨_, keyNd n, q, .inr ⟨od2, kp _ _ (fun hm => fbd _ hm rfl) G2d⟩, rfl, hq, rfl⟩
    refine ⟨_, rfl, _, rfl, d, _, rfl, gd, r, rfl, ⟨_, SqL.of (kp _ _ nrb hxs)⟩, ?_⟩
    have tkE : edgesOf adj (ns.take (i + 1)) = edgesOf adj (ns.take i) ++ (adj n).map fun m => (n, m.2) := by
      rw [List.take_add_one, hn]
      unfold edgesOf
      rw [List.flatMap_append]
      congr 1
      exact List.append_nil _
    have hqn := hq
    refine for_it (walk_list (xs := xs)) (fun j σ H' => (∀ a o, a ∉ bv → G2 a = some o → H' a = some o) ∧ TbAt encNd H' B ns bv (preC ns (edgesOf adj (ns.take i) ++ ((adj n).take j).map fun m => (n, m.2))) ∧ H' q = some (.tup ((keyNd n).map kV)) ∧ ∃ x4 x5, σ = [some (.ref d), some (.ref (He.ga K "is_closed")), some (.ref B), some (.ref q), x4, x5, none, none, none, none])
      ⟨kp, by rw [List.take_zero, List.map_nil, List.append_nil]; exact XE, hq, _, _, rfl⟩ (fun j σ H' _ ⟨kp, _⟩ => SqL.of (kp _ _ nrb hxs)) ?_ ?_
    · rintro j v σ F2 F2' hj ⟨kp2, XE2, hq2, x4, x5, rfl⟩ ⟨rfl, hv⟩
      obtain ⟨m, hm, imm⟩ := (hlx.keep (tup1 kp2)).get hv
      obtain ⟨a, b, c, rfl, ha, hb, hc⟩ := ad_get imm
      have mm := List.mem_of_getElem? hm
      have mx := ad.2 m mm
      obtain ⟨k0, hk0⟩ := List.getElem?_of_mem mx
      have hk2 : k0 < bv.length := by rw [XE2.len]; exact (List.getElem?_eq_some_iff.mp hk0).1
      obtain ⟨r0, hr1⟩ : ∃ r0, bv[k0]? = some r0 := ⟨_, List.getElem?_eq_getElem hk2⟩
      obtain ⟨zs, hzs, hlz⟩ := XE2.lst k0 r0 hr1
      have lz := hlz.len
      have r0m := List.mem_of_getElem? hr1
      refine ⟨a, _, rfl, SqT.of ha, rfl, _, _, rfl, _, _, rfl, rfl, ?_⟩
      have bnd : (preC ns (edgesOf adj (ns.take i) ++ ((adj n).take j).map fun m => (n, m.2)) k0).length ≤ 15000000 := by
        unfold preC
        rw [hk0]
        have h1 := preOf_len (edgesOf adj (ns.take i) ++ ((adj n).take j).map fun m => (n, m.2)) m.2
        have h4 : (edgesOf adj (ns.take i) ++ ((adj n).take j).map fun m => (n, m.2)).length = (edgesOf adj (ns.take i)).length + min j (adj n).length := by rw [List.length_append, List.length_map, List.length_take]
        have h2 := elen i
        have h3 := ad.1
        show (preOf _ m.2).length ≤ _
        omega
      refine ⟨_, rfl, _, rfl, B, _, rfl, XE2.get hk0 hr1 hc, .inl ⟨rfl, _, SqL.of hzs⟩, _, rfl, r0, zs, _, rfl, rfl, hzs, sz_big (by omega), ?_⟩
      have XE3 := XE2.edge hr1 hzs (nd_of hq2)
      rw [preC_snoc X0.nd hk0] at XE3
      have tkj : (adj n).take (j + 1) = (adj n).take j ++ [m] := by rw [List.take_add_one, hm]; rfl
      refine ⟨fun y o hy h => ?_, ?_, Tups.mut hzs (fun _ z => nomatch z) _ _ hq2, _, _, rfl⟩
      · rw [upd_ne (fun z => hy (by rw [z]; exact r0m))]
        exact kp2 y o hy h
      · rw [tkj, List.map_append, ← List.append_assoc]
        exact XE3
    · rintro σ F2 ⟨kp2, XE2, hq2, x4, x5, rfl⟩
      refine ⟨kp2, ?_, _, _, _, rfl⟩
      rw [tkE]
      rw [lxs, List.take_length] at XE2
      exact XE2
  rintro σ F1 ⟨kp, XE, x3, x4, x5, rfl⟩
  rw [lk, List.take_length] at XE
  have fd1 : F1 d = some (.frz od2 (.dT (zk keyNd ns (vals.map V.ref)))) := kp _ _ (fun hm => fbd _ hm rfl) G2d
  refine ⟨fd1, ?_⟩
  obtain ⟨H2, eH2⟩ : ∃ H2, H2 = upd F1 d (.dT (zk keyNd ns (vals.map V.ref))) := ⟨_, rfl⟩
  rw [← eH2]
  have e2 : Ex H H2 := fun a o h => by
    have h1 := e1 a o h
    rw [eH2]
    by_cases z : a = d
    · subst z
      rw [XT1.tab] at h1
      rw [upd_same]
      exact h1
    · rw [upd_ne z]
      exact kp a o (fun hm => by rw [fbH a hm] at h; cases h) (kG2 a o z h1)
  have XE2 : TbAt encNd H2 B ns bv (preC ns (edgesOf adj ns)) := XE.keep (fun a o ha h => by
    rw [eH2, upd_ne (by
      rcases ha with z | z
      · rw [z]; exact nBd
      · exact fbd a z)]
    exact h) (by rw [eH2]; exact Tups.mut fd1 fun _ z => nomatch z)
  have XT2 := X0.keep (H' := H2) (fun a o _ h => e2 a o h) (Tups.of e2)
  -- far = {node: 0}
  refine ⟨d, _, XT2.tab, True.intro, fun od3 => ⟨_, rfl, d, od3, rfl, .inr ⟨_, upd_same, fun FD hFD => ?_⟩⟩⟩
  obtain ⟨G3, eG3⟩ : ∃ G3, G3 = upd H2 d (.frz od3 (.dT (zk keyNd ns (vals.map V.ref)))) := ⟨_, rfl⟩
  rw [← eG3] at hFD ⊢
  have G3d : G3 d = some (.frz od3 (.dT (zk keyNd ns (vals.map V.ref)))) := by rw [eG3]; exact upd_same
  have nFd : FD ≠ d := fun z => by rw [z, G3d] at hFD; cases hFD
  let z0 : List Node → List (Node × Nat) := fun l => (l.filter fun n => decide (n.i = n.j)).map fun n => (n, 0)
  have z0len : ∀ i, (z0 (ns.take i)).length ≤ 20000 := fun i => by
    show (((ns.take i).filter _).map _).length ≤ _
    rw [List.length_map]
    have h1 := List.length_filter_le (fun n : Node => decide (n.i = n.j)) (ns.take i)
    rw [List.length_take] at h1
    omega
  refine dcT_it walk_keysT (fun i H' => Ex G3 H' ∧ H' FD = some (.dT (farK (z0 (ns.take i))))) ⟨ex_new hFD, upd_same⟩ (fun i H' _ ⟨e, _⟩ => e _ _ G3d) ?_ ?_
  · rintro i x F F' hi ⟨e, hF⟩ ⟨rfl, kk, kv, q, hk1, rfl, hq⟩
    obtain ⟨n, hn, ek⟩ := zk_at hk1
    have ek : kk = keyNd n := ek
    subst ek
    have tk : ns.take (i + 1) = ns.take i ++ [n] := by rw [List.take_add_one, hn]; rfl
    refine ⟨rfl, rfl, _, rfl, _, n, rfl, nd_of hq, _, rfl, ?_⟩
    by_cases cl : n.i = n.j
    · rw [decide_eq_true cl]
      have nn : n ∉ (z0 (ns.take i)).map (·.1) := fun hm => by
        obtain ⟨p, hp, e1⟩ := List.mem_map.mp hm
        obtain ⟨y, hy, e2⟩ := List.mem_map.mp hp
        have hy2 : n ∈ ns.take i := by rw [← e1, ← e2]; exact (List.mem_filter.mp hy).1
        obtain ⟨j, hj, ej⟩ := List.getElem_of_mem hy2
        rw [List.length_take] at hj
        rw [List.getElem_take] at ej
        have hi2 := (List.getElem?_eq_some_iff.mp hn)
        exact absurd (List.getElem_inj X0.nd |>.mp (ej.trans hi2.2.symm)) (by omega)
      refine iteT ⟨_, rfl, farK (z0 (ns.take i)), keyNd n, q, rfl, hq, hF, Evl.sz_lt (by rw [List.length_map]; have := z0len i; omega), Evl.Ex.mut e hFD, ?_⟩
      rw [upd_same, show (V.int 0 : V) = V.int ((0 : Nat) : Int) from rfl, farK_put nn, tk]
      show _ = some (HO.dT (farK (((ns.take i ++ [n]).filter fun n => decide (n.i = n.j)).map fun n => (n, 0))))
      rw [List.filter_append, List.map_append, List.filter_cons_of_pos (by simpa using cl)]
      rfl
    · rw [decide_eq_false cl]
      refine iteF ⟨e, ?_⟩
      rw [hF, tk]
      show _ = some (HO.dT (farK (((ns.take i ++ [n]).filter fun n => decide (n.i = n.j)).map fun n => (n, 0))))
      rw [List.filter_append, List.filter_cons_of_neg (by simpa using cl), List.filter_nil, List.append_nil]
  rintro F3 ⟨e3, hF3⟩
  rw [lk, List.take_length] at hF3
  refine ⟨e3 _ _ G3d, ?_⟩
  obtain ⟨H4, eH4⟩ : ∃ H4, H4 = upd F3 d (.dT (zk keyNd ns (vals.map V.ref))) := ⟨_, rfl⟩
  have e4 : Ex H2 H4 := by rw [eH4]; exact ex_unlock XT2.tab (by rw [← eG3]; exact e3)
  have h4F : H4 FD = some (.dT (farK (z0 ns))) := by rw [eH4, upd_ne nFd]; exact hF3
  have H2F : H2 FD = none := by rw [eG3, upd_ne nFd] at hFD; exact hFD
  have HF0 : H FD = none := Evl.fresh_back e2 H2F
  rw [← eH4]
  have XE4 : TbAt encNd H4 B ns bv (preC ns (edgesOf adj ns)) := XE2.keep (fun a o _ h => e4 a o h) (Tups.of e4)
  -- waiting = list(far)
  refine ⟨_, rfl, FD, _, rfl, .inl h4F, fun wl bs hwl hks => ?_⟩
  have hwl0 : H wl = none := Evl.fresh_back (e2.trans e4) hwl
  have e5 : Ex H4 (upd H4 wl (.lst (bs.map V.ref))) := ex_new hwl
  obtain ⟨H5, eH5⟩ : ∃ H5, H5 = upd H4 wl (.lst (bs.map V.ref)) := ⟨_, rfl⟩
  rw [← eH5] at e5 ⊢
  have h5F := e5 _ _ h4F
  have h5w : H5 wl = some (.lst (bs.map V.ref)) := by rw [eH5]; exact upd_same
  have nFw : FD ≠ wl := ne_of h5F h5w (fun z => nomatch z)
  have hls : Ls H5 encNd (bs.map V.ref) ((z0 ns).map (·.1)) := by
    have : ∀ {L : List (Node × Nat)} {bs : List Addr}, IsKeys H4 (farK L) bs → Ls H5 encNd (bs.map V.ref) (L.map (·.1)) := by
      intro L
      induction L with
      | nil => intro bs h; cases h; exact .nil
      | cons p L ih =>
        intro bs h
        cases h with
        | cons h1 h2 => exact .cons (nd_of (e5 _ _ h1)) (ih h2)
    exact this hks
  have XE5 : TbAt encNd H5 B ns bv (preC ns (edgesOf adj ns)) := XE4.keep (fun a o _ h => e5 a o h) (Tups.of e5)
  have e05 : Ex H H5 := (e2.trans e4).trans e5
  have nbF : ∀ r ∈ bv, r ≠ FD ∧ r ≠ wl := fun r hr => by
    obtain ⟨j, hj⟩ := List.getElem?_of_mem hr
    obtain ⟨_, h1, _⟩ := XE4.lst j r hj
    exact ⟨ne_of h1 h4F (fun z => nomatch z), fun z => by rw [z, hwl] at h1; cases h1⟩
  have nBF : B ≠ FD := fun z => by rw [z] at XE2; rw [XE2.tab] at H2F; cases H2F
  have nBw : B ≠ wl := fun z => by rw [z] at XE4; rw [XE4.tab] at hwl; cases hwl
  have z0nd : ((z0 ns).map (·.1)).Nodup := by
    show (((ns.filter _).map _).map _).Nodup
    rw [List.map_map]
    have : ((fun p : Node × Nat => p.1) ∘ fun n : Node => (n, 0)) = id := rfl
    rw [this, List.map_id]
    exact X0.nd.filter _
  have B0 : Bfs0 ns adj (z0 ns) 0 := by
    refine ⟨z0nd, fun p hp => ?_, fun n hn e => ?_, ?_, fun p hp => ?_, fun i c hi => by omega⟩
    · obtain ⟨y, hy, rfl⟩ := List.mem_map.mp hp
      exact (List.mem_filter.mp hy).1
    · exact List.mem_map.mpr ⟨n, List.mem_filter.mpr ⟨hn, decide_eq_true e⟩, rfl⟩
    · rw [List.pairwise_map]
      exact List.Pairwise.imp (fun _ => Nat.le_refl _) (X0.nd.filter _)
    · obtain ⟨y, hy, rfl⟩ := List.mem_map.mp hp
      exact .inl ⟨rfl, of_decide_eq_true (List.mem_filter.mp hy).2⟩
  have N0 : Near (z0 ns) 0 := fun c hc p hp => by
    obtain ⟨y, hy, rfl⟩ := List.mem_map.mp hp
    exact Nat.zero_le _
  have tup5 : ∀ {H' : Hp}, (∀ a o, a ≠ FD → a ≠ wl → H5 a = some o → H' a = some o) → Tups H5 H' := fun kp a xs h => kp a _ (ne_of h h5F fun z => nomatch z) (ne_of h h5w fun z => nomatch z) h
  refine ⟨fun mm σ H' => ∃ at_ L x3 x4 x5 x9, mm = ns.length - at_ ∧ at_ ≤ L.length ∧ σ = [some (.ref d), some (.ref (He.ga K "is_closed")), some (.ref B), x3, x4, x5, some (.ref FD), some (.ref wl), some (.int (at_ : Nat)), x9] ∧ (∀ a o, a ≠ FD → a ≠ wl → H5 a = some o → H' a = some o) ∧ H' FD = some (.dT (farK L)) ∧ (∃ ws, H' wl = some (.lst ws) ∧ Ls H' encNd ws (L.map (·.1))) ∧ Bfs0 ns adj L at_ ∧ Near L at_,
    ⟨ns.length, 0, z0 ns, x3, x4, x5, none, by omega, Nat.zero_le _, rfl, fun a o _ _ h => h, h5F, ⟨_, h5w, hls⟩, B0, N0⟩, ?_⟩
  rintro mm σ F4 ⟨at_, L, x3, x4, x5, x9, rfl, hat, rfl, kp, hFD4, ⟨ws, hws, hlw⟩, BI, NI⟩
  have lw := hlw.len
  rw [List.length_map] at lw
  have LU : L.length ≤ ns.length := by
    have := nodup_le BI.nd fun x hx => by
      obtain ⟨p, hp, rfl⟩ := List.mem_map.mp hx
      exact BI.sub p hp
    rw [List.length_map] at this
    exact this
  refine ⟨_, rfl, _, rfl, wl, _, rfl, .inl (SqL.of hws), _, _, rfl, rfl, _, rfl, ?_⟩
  by_cases c : at_ < L.length
  · rw [decide_eq_true (by omega)]
    obtain ⟨cu, hcu⟩ : ∃ cu, L[at_]? = some cu := ⟨_, List.getElem?_eq_getElem c⟩
    have hcu2 : (L.map (·.1))[at_]? = some cu.1 := by rw [List.getElem?_map, hcu]; rfl
    obtain ⟨v, hv, imn⟩ := hlw.get' hcu2
    obtain ⟨a, rfl, ha⟩ := nd_get imn
    have ha : F4 a = some (.tup ((keyNd cu.1).map kV)) := ha
    have cm := List.mem_of_getElem? hcu
    have cns := BI.sub _ cm
    have near := NI _ hcu
    obtain ⟨k0, hk0⟩ := List.getElem?_of_mem cns
    have hk2 : k0 < bv.length := by rw [XE5.len]; exact (List.getElem?_eq_some_iff.mp hk0).1
    obtain ⟨r, hr1⟩ : ∃ r, bv[k0]? = some r := ⟨_, List.getElem?_eq_getElem hk2⟩
    have rm := List.mem_of_getElem? hr1
    have XEF : TbAt encNd F4 B ns bv (preC ns (edgesOf adj ns)) := XE5.keep (fun b o hb h => kp b o (by
      rcases hb with z | z
      · rw [z]; exact nBF
      · exact (nbF b z).1) (by
      rcases hb with z | z
      · rw [z]; exact nBw
      · exact (nbF b z).2) h) (tup5 kp)
    obtain ⟨zs, hzs, hlz⟩ := XE5.lst k0 r hr1
    have hlz : Ls H5 encNd zs (preOf (edgesOf adj ns) cu.1) := by
      have : preC ns (edgesOf adj ns) k0 = preOf (edgesOf adj ns) cu.1 := by unfold preC; rw [hk0]; rfl
      rw [← this]
      exact hlz
    refine iteT ⟨fun σ H' => ∃ L x3 x4 x5 x9, at_ + 1 ≤ L.length ∧ σ = [some (.ref d), some (.ref (He.ga K "is_closed")), some (.ref B), x3, x4, x5, some (.ref FD), some (.ref wl), some (.int (at_ + 1 : Nat)), x9] ∧ (∀ a o, a ≠ FD → a ≠ wl → H5 a = some o → H' a = some o) ∧ H' FD = some (.dT (farK L)) ∧ (∃ ws, H' wl = some (.lst ws) ∧ Ls H' encNd ws (L.map (·.1))) ∧ Bfs0 ns adj L (at_ + 1) ∧ Near L (at_ + 1),
      fun σ' H' ⟨L2, x3, x4, x5, x9, g1, g2, g3, g4, g5, g6, g7⟩ => ⟨ns.length - (at_ + 1), by omega, at_ + 1, L2, x3, x4, x5, x9, rfl, g1, g2, g3, g4, g5, g6, g7⟩, ?_⟩
    refine ⟨_, rfl, _, rfl, wl, _, _, _, rfl, rfl, SqL.of hws, atI_nat hv, ?_⟩
    refine ⟨_, rfl, _, _, rfl, rfl, ?_⟩
    have rF := kp _ _ (nbF r rm).1 (nbF r rm).2 hzs
    refine ⟨_, rfl, _, rfl, B, _, rfl, XEF.get hk0 hr1 ha, r, rfl, ⟨_, SqL.of rF⟩, ?_⟩
    have lzs := hlz.len
    refine for_it (walk_list (xs := zs)) (fun j σ H' => ∃ L2 x9, at_ < L2.length ∧ σ = [some (.ref d), some (.ref (He.ga K "is_closed")), some (.ref B), some (.ref a), x4, x5, some (.ref FD), some (.ref wl), some (.int (at_ + 1 : Nat)), x9] ∧ (∀ a o, a ≠ FD → a ≠ wl → H5 a = some o → H' a = some o) ∧ H' FD = some (.dT (farK L2)) ∧ (∃ ws, H' wl = some (.lst ws) ∧ Ls H' encNd ws (L2.map (·.1))) ∧ H' a = some (.tup ((keyNd cu.1).map kV)) ∧ Bfs0 ns adj L2 at_ ∧ L2[at_]? = some cu ∧ (∀ p ∈ L2, p.2 ≤ cu.2 + 1) ∧ ∀ y ∈ (preOf (edgesOf adj ns) cu.1).take j, ∃ q ∈ L2, q.1 = y ∧ q.2 ≤ cu.2 + 1)
      ⟨L, x9, c, rfl, kp, hFD4, ⟨ws, hws, hlw⟩, ha, BI, hcu, near, fun y hy => by simp at hy⟩ (fun j σ H' _ ⟨_, _, _, _, kp, _⟩ => SqL.of (kp _ _ (nbF r rm).1 (nbF r rm).2 hzs)) ?_ ?_
    · rintro j v σ F5 F5' hj ⟨L2, y9, c2, rfl, kp2, hF5, ⟨ws2, hws2, hlw2⟩, ha5, BI2, hcu5, near2, pr2⟩ ⟨rfl, hv2⟩
      obtain ⟨n, hn, imn2⟩ := (hlz.keep (tup5 kp2)).get hv2
      obtain ⟨b, rfl, hb⟩ := nd_get imn2
      have hb : F5' b = some (.tup ((keyNd n).map kV)) := hb
      have np := mem_pre.mp (List.mem_of_getElem? hn)
      have tk : (preOf (edgesOf adj ns) cu.1).take (j + 1) = (preOf (edgesOf adj ns) cu.1).take j ++ [n] := by rw [List.take_add_one, hn]; rfl
      have lw2 := hlw2.len
      rw [List.length_map] at lw2
      have LU2 : L2.length ≤ ns.length := by
        have := nodup_le BI2.nd fun x hx => by
          obtain ⟨p, hp, rfl⟩ := List.mem_map.mp hx
          exact BI2.sub p hp
        rw [List.length_map] at this
        exact this
      refine ⟨_, rfl, _, rfl, FD, _, rfl, DGet.t (k := keyNd n) hF5 hb, _, rfl, ?_⟩
      rw [farK_val]
      cases hf : farOf L2 n with
      | some dd =>
        refine iteF ⟨L2, _, c2, rfl, kp2, hF5, ⟨ws2, hws2, hlw2⟩, ha5, BI2, hcu5, near2, fun y hy => ?_⟩
        rw [tk] at hy
        rcases List.mem_append.mp hy with hy | hy
        · exact pr2 y hy
        · rw [List.mem_singleton.mp hy]
          exact ⟨_, farOf_some hf, rfl, near2 _ (farOf_some hf)⟩
      | none =>
        have nn := farOf_none.mp hf
        have gcu : DGet F5' FD (.ref a) (some (.int (cu.2 : Int))) := by
          have := DGet.t (k := keyNd cu.1) hF5 ha5
          rw [farK_val, farOf_mem BI2.nd (List.mem_of_getElem? hcu5)] at this
          exact this
        refine iteT ⟨_, rfl, _, rfl, FD, _, rfl, gcu, _, _, rfl, rfl, _, rfl, _, rfl, FD, _, rfl, DPut.t (k := keyNd n) hF5 hb (Evl.sz_lt (by rw [List.length_map]; omega)), ?_⟩
        have ep : putK (farK L2) (keyNd n) (V.int ((cu.2 : Int) + 1)) = farK (L2 ++ [(n, cu.2 + 1)]) := farK_put (d := cu.2 + 1) nn
        have ep2 : upd F5' FD (.dT (putK (farK L2) (keyNd n) ((fun i j : Int => V.int (i + j)) (cu.2 : Int) 1))) = upd F5' FD (.dT (farK (L2 ++ [(n, cu.2 + 1)]))) := by rw [← ep]
        rw [ep2]
        have nwF : wl ≠ FD := nFw.symm
        refine ⟨_, rfl, .inl ⟨rfl, _, SqL.of (xs := ws2) (by rw [upd_ne nwF]; exact hws2)⟩, _, rfl, wl, ws2, _, rfl, rfl, by rw [upd_ne nwF]; exact hws2, Evl.sz_lt (by omega), ?_⟩
        have tF : Tups F5' (upd (upd F5' FD (.dT (farK (L2 ++ [(n, cu.2 + 1)])))) wl (.lst (ws2 ++ [.ref b]))) := (Tups.mut hF5 fun _ z => nomatch z).trans (Tups.mut (u := .lst ws2) (by rw [upd_ne nwF]; exact hws2) fun _ z => nomatch z)
        have BI3 := BI2.add (List.mem_of_getElem? hcu5) (Nat.le_of_lt c2) near2 np.1 np.2 nn
        refine ⟨L2 ++ [(n, cu.2 + 1)], _, by rw [List.length_append]; omega, rfl, fun y o h1 h2 h => ?_, ?_, ⟨_, upd_same, ?_⟩, tF _ _ ha5, BI3, ?_, fun p hp => ?_, fun y hy => ?_⟩
        · rw [upd_ne h2, upd_ne h1]
          exact kp2 y o h1 h2 h
        · rw [upd_ne nFw]
          exact upd_same
        · rw [List.map_append]
          exact (hlw2.keep tF).snoc (imn2.keep tF)
        · rw [List.getElem?_append_left c2]
          exact hcu5
        · rcases List.mem_append.mp hp with hp | hp
          · exact near2 p hp
          · rw [List.mem_singleton.mp hp]
            exact Nat.le_refl _
        · rw [tk] at hy
          rcases List.mem_append.mp hy with hy | hy
          · obtain ⟨q, hq, e1⟩ := pr2 y hy
            exact ⟨q, List.mem_append_left _ hq, e1⟩
          · rw [List.mem_singleton.mp hy]
            exact ⟨_, List.mem_append_right _ List.mem_cons_self, rfl, Nat.le_refl _⟩
    · rintro σ F5 ⟨L2, y9, c2, rfl, kp2, hF5, ⟨ws2, hws2, hlw2⟩, ha5, BI2, hcu5, near2, pr2⟩
      rw [lzs, List.take_length] at pr2
      have nx := BI2.next hcu5 near2 fun n hn he => pr2 n (mem_pre.mpr ⟨hn, he⟩)
      exact ⟨L2, _, _, _, _, c2, rfl, kp2, hF5, ⟨ws2, hws2, hlw2⟩, nx.1, nx.2⟩
  · rw [decide_eq_false (by omega)]
    have e0 : at_ = L.length := by omega
    subst e0
    refine iteF ⟨_, rfl, k F4 FD L (fun a o h => ?_) hFD4 BI.far⟩
    exact kp a o (ne_of_none h HF0) (ne_of_none h hwl0) (e05 a o h)
end
end JD
end Part_JD13
section Part_JD14
set_option Elab.async false
set_option linter.all false
set_option maxRecDepth 100000
set_option maxHeartbeats 4000000
namespace JD
open PySem PySem.Spec PyProof.Rows L2 JR JX JT
open Evl (Ex)
/-- a def that may raise -/
def DefOkX (P : Program) (w : World) (K : PySem.W.Frag) (mg : Str → Option Value) (base : Heap) (k : Nat) (f : Addr) (ps : List Str) (sp : Sp) : Prop :=
  ∃ fd, FnOk P w K mg base (L2.CX P w) k f fd ps sp ∧ PySem.W.keepIn K (.ref f) = true ∧ Binds K fd ps []
section
variable {P : Program} {w : World} {K : PySem.W.Frag} {mg : Str → Option Value} {base : Heap}
def sp_TooMany_init (K : PySem.W.Frag) : Sp := fun vs H Q _ => ∃ (a : Addr) (i : Int), vs = [.ref a, .int i] ∧ H a = some (exo a (cA K "TooMany") none) ∧ ∀ dx, H dx = none → dx ≠ a → Q .non (upd (upd H dx (exd dx [("limit", .int i)])) a (exo a (cA K "TooMany") (some dx)))
abbrev N_TooMany_init : List Str := ["self", "limit"]
theorem sc_TooMany_init : FnScope N_TooMany_init ["self", "limit"] (defScope s_TooMany_init) := ⟨rfl, rfl, rfl, by decide +kernel, rfl, by decide +kernel, by decide +kernel⟩
theorem ok_TooMany_init (T : Txt K mg) : DefOk P w K mg base 1 (mA K "TooMany" "__init__") ["self", "limit"] (sp_TooMany_init K) := by
  obtain ⟨fd, F⟩ := T.d_TooMany_init
  refine ⟨fd, F.ok sc_TooMany_init (fun vs H Q E h => ?_) (fun cdv A outer s H vs Q E hr h => ?_), F.kp, F.bindsN fun _ _ _ _ _ _ us hl => match us, hl with | [_, _], _ => rfl⟩
  · obtain ⟨a, i, rfl, ha, k⟩ := h
    rfl
  have hu := hu_of hr
  have nd := sc_TooMany_init.nd
  obtain ⟨a, i, rfl, ha, k⟩ := h
  refine ⟨_, (PSs.nox (pss_one (ps_ost (pv 0) (pv 1)))), ?_⟩
  exact ⟨_, rfl, _, rfl, a, cA K "TooMany", rfl, T.x_TooMany, T.n_TooMany_limit, .inl ⟨ha, k⟩⟩
/-! ### least_count -/
abbrev Stt := Str × Int × Node
abbrev encSt (p : Stt) : PyData := .tuple [.str p.1, .int p.2.1, encNd p.2.2]
theorem st_get {H : Hp} {v : V} {p : Stt} (h : Im H v (encSt p)) : ∃ a c, v = .ref a ∧ H a = some (.tup [.str p.1, .int p.2.1, .ref c]) ∧ H c = some (.tup ((keyNd p.2.2).map kV)) := by
  obtain ⟨a, xs, rfl, ha, x, r, rfl, rfl, y, r2, rfl, rfl, z, r3, rfl, h3, rfl⟩ := h
  obtain ⟨c, rfl, hc⟩ := nd_get h3
  exact ⟨a, c, rfl, ha, hc⟩
/-- what the starts want, at the least -/
abbrev cntsOf (L : List (Node × Nat)) (sts : List Stt) : List Nat := sts.filterMap fun p => (farOf L p.2.2).map (· + 1)
def sp_least_count : Sp := fun vs H Q _ => ∃ (st fd : Addr) (xs : List V) (sts : List Stt) (L : List (Node × Nat)), vs = [.ref st, .ref fd] ∧ H st = some (.lst xs) ∧ Ls H encSt xs sts ∧ H fd = some (.dT (farK L)) ∧ sts.length ≤ 10000 ∧
  (cntsOf L sts = [] → ∀ H', Ex H H' → Q .non H') ∧ ∀ m : Nat, m ∈ cntsOf L sts → (∀ y ∈ cntsOf L sts, m ≤ y) → ∀ H', Ex H H' → Q (.int (m : Int)) H'
abbrev N_least_count : List Str := ["start", "far", "counts", "_", "node"]
theorem sc_least_count : FnScope N_least_count ["start", "far"] (defScope s_least_count) := ⟨rfl, rfl, rfl, by decide +kernel, rfl, by decide +kernel, by decide +kernel⟩
theorem ok_least_count (T : Txt K mg) : DefOk P w K mg base 1 (He.ga K "least_count") ["start", "far"] sp_least_count := by
  obtain ⟨fd, F⟩ := T.d_least_count
  refine ⟨fd, F.ok sc_least_count (fun vs H Q E h => ?_) (fun cdv A outer s H vs Q E hr h => ?_), F.kp, F.bindsN fun _ _ _ _ _ _ us hl => match us, hl with | [_, _], _ => rfl⟩
  · obtain ⟨st, fd, xs, sts, L, rfl, hst, hl, hfd, hz, k0, k⟩ := h
    rfl
  have hu := hu_of hr
  have nd := sc_least_count.nd
  obtain ⟨st, fd, xs, sts, L, rfl, hst, hl, hfd, hz, k0, k⟩ := h
  refine ⟨_, (PSs.nox (pss_cons (ps_setLc (i := 2) (own := [("_", 3), ("node", 4)]) (g := (gTup K 3 (gCons (gName 3) (gCons (gName 3) (gCons (gName 4) gNil)))))  rfl nd rfl rfl (sw_true rfl rfl rfl (by decide +kernel)) (pi_listK K (pv 0)) (blkOk_by (N := N_least_count) (sc := defScope s_least_count) (by decide +kernel)) (fun _ _ _ _ _ => (pg_tup rfl (pgs_cons (pg_name (i := 3) nd rfl (by first | exact Or.inl rfl | exact Or.inr rfl)) (pgs_cons (pg_name (i := 3) nd rfl (by first | exact Or.inl rfl | exact Or.inr rfl)) (pgs_cons (pg_name (i := 4) nd rfl (by first | exact Or.inl rfl | exact Or.inr rfl)) pgs_nil))))) (fun _ _ _ _ _ => (pts_one (pt_cmp (pc_din hu (pv 4) (pv 1))))) (fun _ _ _ _ _ => (pe_op op_add (pe_dget hu (pv 1) (pv 4) (fun _ _ => rfl)) pe_int)))
  (pss_one (ps_ret (pe_callBK (crk_minDK K rfl hr.units) (by rfl) T.b_min rfl (pa_cons (pv 2) pa_nil) (pk_cons pe_non pk_nil)))))), ?_⟩
  have lx := hl.len
  refine ⟨_, rfl, st, rfl, ⟨_, SqL.of hst⟩, fun D hD => ?_⟩
  refine lc_ls (enc := fun n : Nat => PyData.int (n : Int)) relEx walk_list (fun i => (sts[i]?).bind fun p => (farOf L p.2.2).map (· + 1)) hD True.intro (Evl.sz_lt (by omega)) (fun H2 e2 _ => SqL.of (e2 _ _ hst)) ?_ ?_
  · rintro i x F F' hi e2 t2 ⟨rfl, hx⟩ Go Sk go sk
    obtain ⟨p, hp, ip⟩ := (hl.keep t2).get hx
    obtain ⟨a, c, rfl, ha, hc⟩ := st_get ip
    have g1 : DGet F' fd (.ref c) ((farOf L p.2.2).map fun d => V.int (d : Int)) := by
      rw [← farK_val]
      exact DGet.t (k := keyNd p.2.2) (e2 _ _ hfd) hc
    refine ⟨a, _, rfl, SqT.of ha, rfl, _, _, rfl, _, _, rfl, _, _, rfl, rfl, rfl, ?_⟩
    refine ⟨_, rfl, _, rfl, fd, _, rfl, g1, _, rfl, ?_⟩
    cases hf : farOf L p.2.2 with
    | none => exact iteF (sk _ (by rw [hp]; show (farOf L p.2.2).map _ = none; rw [hf]; rfl) (Ex.refl _) (Tups.refl _))
    | some d =>
      rw [hf] at g1
      refine iteT ⟨_, rfl, _, rfl, fd, _, rfl, g1, _, _, rfl, rfl, ?_⟩
      exact go (d + 1) _ _ (by rw [hp]; show (farOf L p.2.2).map _ = _; rw [hf]; rfl) (Ex.refl _) (Tups.refl _) rfl
  · intro F ys e2 t2 hD2 hy
    have ec : (List.range xs.length).filterMap (fun i => (sts[i]?).bind fun p => (farOf L p.2.2).map (· + 1)) = cntsOf L sts := by
      rw [lx]
      show _ = sts.filterMap _
      rw [show (List.range sts.length).filterMap (fun i => (sts[i]?).bind fun p => (farOf L p.2.2).map (· + 1)) = ((List.range sts.length).filterMap fun i : Nat => sts[i]?).filterMap fun p => (farOf L p.2.2).map (· + 1) from (List.filterMap_filterMap ..).symm, fm_all rfl]
    rw [ec] at hy
    have ey : ys = ((cntsOf L sts).map fun n : Nat => (n : Int)).map V.int := by
      have : Ls F PyData.int ys ((cntsOf L sts).map fun n : Nat => (n : Int)) := by
        clear ec hD2 k0 k
        generalize cntsOf L sts = cs at hy
        induction hy with
        | nil => exact .nil
        | cons h _ ih => exact .cons h ih
      exact Ls.ints_eq this
    refine ⟨_, rfl, D, _, rfl, rfl, SqL.of (by rw [hD2, ey]), fun e => k0 (List.map_eq_nil_iff.mp e) _ e2, fun m hm hle => ?_⟩
    obtain ⟨n, hn, rfl⟩ := List.mem_map.mp hm
    exact k n hn (fun y hy => by have := hle (y : Int) (List.mem_map_of_mem hy); omega) _ e2
end
end JD
end Part_JD14
section Part_JD15
set_option Elab.async false
set_option linter.all false
set_option maxRecDepth 100000
set_option maxHeartbeats 4000000
namespace JD
open PySem PySem.Spec PyProof.Rows L2 JR JX JT
open Evl (Ex)
/-- a way of deeds through the stands, told by the lists -/
inductive PWay (sts : List Stt) (adj : Node → List Ad) (M : Int) : List Deed → Node → Prop where
  | one {p : Stt} : p ∈ sts → PWay sts adj M [(p.1, p.2.1)] p.2.2
  | more {ds : List Deed} {d : Deed} {n : Node} {m : Ad} : PWay sts adj M (ds ++ [d]) n → m ∈ adj n → PWay sts adj M (ds ++ [d] ++ [(m.1.1, (d.2 + m.1.2) % M)]) m.2
theorem mod_inj {M t x y : Int} (hx : 0 ≤ x ∧ x < M) (hy : 0 ≤ y ∧ y < M) (h : (t + x) % M = (t + y) % M) : x = y := by
  have h1 : ((t + x) - (t + y)) % M = 0 := Int.emod_eq_emod_iff_emod_sub_eq_zero.mp h
  have e1 : (t + x) - (t + y) = x - y := by omega
  rw [e1] at h1
  have h2 : ((t + y) - (t + x)) % M = 0 := Int.emod_eq_emod_iff_emod_sub_eq_zero.mp h.symm
  have e2 : (t + y) - (t + x) = y - x := by omega
  rw [e2] at h2
  rcases Int.lt_or_le x y with c | c
  · rw [Int.emod_eq_of_lt (by omega) (by omega)] at h2
    omega
  · rw [Int.emod_eq_of_lt (by omega) (by omega)] at h1
    omega
theorem step_mult {l : List Ad} {M t : Int} (nd : (l.map (·.1)).Nodup) (hb : ∀ m ∈ l, 0 ≤ m.1.2 ∧ m.1.2 < M) (dd : Deed) : (l.filter fun m => decide ((m.1.1, (t + m.1.2) % M) = dd)).length ≤ 1 := by
  have nd2 : ((l.filter fun m => decide ((m.1.1, (t + m.1.2) % M) = dd)).map (·.1)).Nodup := nd.sublist (List.filter_sublist.map _)
  have all : ∀ m ∈ l.filter fun m => decide ((m.1.1, (t + m.1.2) % M) = dd), (m.1.1, (t + m.1.2) % M) = dd ∧ m ∈ l := fun m hm => ⟨of_decide_eq_true (List.mem_filter.mp hm).2, (List.mem_filter.mp hm).1⟩
  match e : l.filter fun m => decide ((m.1.1, (t + m.1.2) % M) = dd) with
  | [] => rw [e]; exact Nat.zero_le _
  | [_] => rw [e]; exact Nat.le_refl _
  | a :: b :: r =>
    exfalso
    rw [e] at nd2 all
    have ha := all a List.mem_cons_self
    have hb2 := all b (List.mem_cons_of_mem _ List.mem_cons_self)
    have h1 : (a.1.1, (t + a.1.2) % M) = (b.1.1, (t + b.1.2) % M) := ha.1.trans hb2.1.symm
    rw [Prod.mk.injEq] at h1
    have e2 := mod_inj (hb a ha.2) (hb b hb2.2) h1.2
    have e3 : a.1 = b.1 := Prod.ext h1.1 e2
    rw [List.map_cons, List.map_cons, List.nodup_cons] at nd2
    exact nd2.1 (by rw [e3]; exact List.mem_cons_self)
abbrev nextW (adj : Node → List Ad) (M : Int) (dd : Deed) (nodes : List Node) : List Ad := nodes.flatMap fun n => (adj n).map fun m => ((m.1.1, (dd.2 + m.1.2) % M), m.2)
theorem next_mult {adj : Node → List Ad} {M : Int} {dd : Deed} (d2 : Deed) : ∀ {nodes : List Node}, (∀ n ∈ nodes, ((adj n).map (·.1)).Nodup ∧ ∀ m ∈ adj n, 0 ≤ m.1.2 ∧ m.1.2 < M) → ((nextW adj M dd nodes).filter fun w => decide (w.1 = d2)).length ≤ nodes.length
  | [], _ => by simp [nextW]
  | n :: nodes, h => by
    rw [nextW, List.flatMap_cons, List.filter_append, List.length_append, List.length_cons]
    have h1 := step_mult (t := dd.2) (h n List.mem_cons_self).1 (h n List.mem_cons_self).2 d2
    have h2 := next_mult (dd := dd) d2 (nodes := nodes) fun y hy => h y (List.mem_cons_of_mem _ hy)
    have h4 := Nat.add_le_add (a := (List.filter (fun w => decide (w.1 = d2)) ((adj n).map fun m => ((m.1.1, (dd.2 + m.1.2) % M), m.2))).length) (b := 1) (by
      rw [List.filter_map, List.length_map]
      exact h1) h2
    rw [Nat.add_comm 1] at h4
    exact h4
theorem next_len {adj : Node → List Ad} {M : Int} {dd : Deed} {k : Nat} : ∀ {nodes : List Node}, (∀ n ∈ nodes, (adj n).length ≤ k) → (nextW adj M dd nodes).length ≤ nodes.length * k
  | [], _ => by simp [nextW]
  | n :: nodes, h => by
    rw [nextW, List.flatMap_cons, List.length_append, List.length_map, List.length_cons, Nat.succ_mul]
    have := h n List.mem_cons_self
    have := next_len (M := M) (dd := dd) (nodes := nodes) fun y hy => h y (List.mem_cons_of_mem _ hy)
    unfold nextW at this
    omega
theorem shape_deed : Shape encDeed := ⟨fun _ _ => rfl, .inl fun b => ⟨_, _, rfl⟩, fun b => by simp [encDeed, PyData.depth, PyData.depthAll]⟩
theorem pl_word {x : Str} (h : IsW x) : (PyData.str x).canLay0 = true := by
  rcases h with rfl | rfl <;> decide +kernel
theorem pl_deed {d : Deed} (h : IsW d.1) : Pl (encDeed d) = true := by
  show (_ && (true && true)) = true
  rw [show Pl (PyData.str d.1) = true from pl_word h]
  rfl
theorem encDeed_inj {a b : Deed} (h : encDeed a = encDeed b) : a = b := by
  obtain ⟨a1, a2⟩ := a
  obtain ⟨b1, b2⟩ := b
  simp only [encDeed, PyData.tuple.injEq, List.cons.injEq, PyData.int.injEq, PyData.str.injEq] at h
  rw [h.1, h.2.1]
theorem eqv_deed {a b : Deed} (ha : IsW a.1) (hb : IsW b.1) : PyData.eqv (encDeed a) (encDeed b) = decide (a = b) := by
  have h := eqv_pl (encDeed a) (encDeed b) (pl_deed ha) (pl_deed hb)
  by_cases e : a = b
  · rw [decide_eq_true e]
    exact h.mpr (by rw [e])
  · rw [decide_eq_false e]
    cases q : PyData.eqv (encDeed a) (encDeed b) with
    | false => rfl
    | true => exact absurd (encDeed_inj (h.mp q)) e
theorem deed_depth (d : Deed) : (encDeed d).depth ≤ 64 := by simp [encDeed, PyData.depth, PyData.depthAll]
section
variable {P : Program} {w : World} {K : PySem.W.Frag} {mg : Str → Option Value} {base : Heap}
theorem cr_minEK {X : Cx} {β : Type} {enc : β → PyData} (K : PySem.W.Frag) (S : Shape enc) (hn : ∀ b, enc b ≠ .none) (hc : X.calm = true) (hu : X.A.units + 64 < cLine) (hK : X.K = K := by rfl) : CallR X (.builtin "min") (rMinE K enc) := by subst hK; exact cr_minE S hn hc hu
def sp_least_walk (K : PySem.W.Frag) : Sp := fun vs H Q E => ∃ (N M : Int) (st d fd : Addr) (xs : List V) (sts : List Stt) (ns : List Node) (vals : List Addr) (adj : Node → List Ad) (L : List (Node × Nat)), vs = [.int N, .int M, .ref st, .ref d, .ref fd] ∧
  H st = some (.lst xs) ∧ Ls H encSt xs sts ∧ sts.length ≤ 10000 ∧ TbAt encAd H d ns vals (fun i => ((ns[i]?).map adj).getD []) ∧ H fd = some (.dT (farK L)) ∧ FarOk ns adj L ∧ (2 ≤ N ∧ N ≤ 360) ∧ 0 < M ∧
  (∀ p ∈ sts, IsW p.1 ∧ p.2.2 ∈ ns) ∧ (∀ dd : Deed, ((sts.map fun p => ((p.1, p.2.1) : Deed)).filter fun x => decide (x = dd)).length ≤ 12) ∧
  (∀ n ∈ ns, (adj n).length ≤ 720 ∧ ((adj n).map (·.1)).Nodup ∧ ∀ m ∈ adj n, (0 ≤ m.1.2 ∧ m.1.2 < M) ∧ IsW m.1.1 ∧ m.2 ∈ ns) ∧
  (cntsOf L sts = [] → ∀ H', Ex H H' → E (.ref (cA K "NoPlan")) none H') ∧
  (∀ m ∈ cntsOf L sts, (∀ y ∈ cntsOf L sts, m ≤ y) → (400 < m → ∀ H' dd, Ex H H' → H' dd = some (.xd [("limit", .int 400)]) → E (.ref (cA K "TooMany")) (some dd) H') ∧
    (m ≤ 400 → ∀ H' p ds n, Ex H H' → ds.length = m → PWay sts adj M ds n → n.i = n.j → (∀ x ∈ ds, IsW x.1) → PlanAt K H' p N (ds.map fun x => (x.1, x.2 % N)) → Q (.ref p) H'))
abbrev N_least_walk : List Str := ["around", "modulus", "start", "table", "far", "count", "ways", "word", "turn", "node", "deeds", "left", "way", "deed", "nodes", "following"]
theorem sc_least_walk : FnScope N_least_walk ["around", "modulus", "start", "table", "far"] (defScope s_least_walk) := ⟨rfl, rfl, rfl, by decide +kernel, rfl, by decide +kernel, by decide +kernel⟩
theorem ok_least_walk (T : Txt K mg) : DefOkX P w K mg base 5 (He.ga K "least_walk") ["around", "modulus", "start", "table", "far"] (sp_least_walk K) := by
  obtain ⟨fd, F⟩ := T.d_least_walk
  obtain ⟨fd_Plan_init, G_Plan_init, kp_Plan_init, b_Plan_init⟩ := ok_Plan_init (P := P) (w := w) (base := base) T
  obtain ⟨fd_least_count, G_least_count, kp_least_count, b_least_count⟩ := ok_least_count (P := P) (w := w) (base := base) T
  obtain ⟨fd_TooMany_init, G_TooMany_init, kp_TooMany_init, b_TooMany_init⟩ := ok_TooMany_init (P := P) (w := w) (base := base) T
  refine ⟨fd, F.ok sc_least_walk (fun vs H Q E h => ?_) (fun cdv A outer s H vs Q E hr h => ?_), F.kp, F.bindsN fun _ _ _ _ _ _ us hl => match us, hl with | [_, _, _, _, _], _ => rfl⟩
  · obtain ⟨N, M, st, d, fd, xs, sts, ns, vals, adj, L, rfl, hst, hl, hz, XT, hfd, FO, hN, hM, hsts, hmul, hadj, kN, kM⟩ := h
    rfl
  have hu := hu_of hr
  have nd := sc_least_walk.nd
  obtain ⟨N, M, st, d, fd, xs, sts, ns, vals, adj, L, rfl, hst, hl, hz, XT, hfd, FO, hN, hM, hsts, hmul, hadj, kN, kM⟩ := h
  refine ⟨_, (pss_cons (ps_set (i := 5) nd rfl (by first | exact Or.inl rfl | exact Or.inr rfl) (pe_call G_least_count (hr.mono (by decide)) rfl T.g_least_count kp_least_count b_least_count .nil pass0 (pa_cons (pv 2) (pa_cons (pv 4) pa_nil))))
  (pss_cons (ps_if (pt_cmpR op_isN (pv 5) pe_non (nomark _)) (pss_one (ps_raise rfl (takes_of rfl rfl rfl rfl) (pmk_own0 PySem.F.excBase_ValueError T.xc_NoPlan T.g_NoPlan T.xk_NoPlan (raises_own T.xs_NoPlan T.xy_NoPlan) rfl))) pss_nil)
  (pss_cons (ps_if (pt_cmpR op_gt (pv 5) (pe_glob (v := .int 400) rfl T.i_MOST_DEEDS_walks.choose_spec ⟨_, rfl⟩) (nomark _)) (pss_one (ps_raise rfl (takes_of rfl rfl rfl rfl) (pmk_oex T.x_TooMany T.xi_TooMany T.xt_TooMany G_TooMany_init (hr.mono (by decide)) b_TooMany_init .nil pass0 rfl T.g_TooMany (pa_cons (pe_glob (v := .int 400) rfl T.i_MOST_DEEDS_walks.choose_spec ⟨_, rfl⟩) pa_nil)))) pss_nil)
  (PSs.nox (pss_cons (ps_setLc (i := 6) (own := [("word", 7), ("turn", 8), ("node", 9)]) (g := (gTup K 3 (gCons (gName 7) (gCons (gName 8) (gCons (gName 9) gNil))))) (tt := tYes) rfl nd rfl rfl (sw_true rfl rfl rfl (by decide +kernel)) (pi_listK K (pv 2)) (blkOk_by (N := N_least_walk) (sc := defScope s_least_walk) (by decide +kernel)) (fun _ _ _ _ _ => (pg_tup rfl (pgs_cons (pg_name (i := 7) nd rfl (by first | exact Or.inl rfl | exact Or.inr rfl)) (pgs_cons (pg_name (i := 8) nd rfl (by first | exact Or.inl rfl | exact Or.inr rfl)) (pgs_cons (pg_name (i := 9) nd rfl (by first | exact Or.inl rfl | exact Or.inr rfl)) pgs_nil))))) (fun _ _ _ _ _ => pts_nil) (fun _ _ _ _ _ => (pe_tup (pa_cons (pe_tup (pa_cons (pv 7) (pa_cons (pv 8) pa_nil))) (pa_cons (pv 9) pa_nil)))))
  (pss_cons (ps_set (i := 10) nd rfl (by first | exact Or.inl rfl | exact Or.inr rfl) (pe_lst pa_nil))
  (pss_cons (ps_for PassesOwn.never rfl (pi_range3 rfl T.b_range (pa_cons (pe_op op_sub (pv 5) pe_int) (pa_cons (pe_un un_neg pe_int) (pa_cons (pe_un un_neg pe_int) pa_nil)))) (pg_name (i := 11) nd rfl (by first | exact Or.inl rfl | exact Or.inr rfl)) (pss_cons (ps_setLc (i := 6) (own := [("way", 12)]) (g := (gName 12))  rfl nd rfl rfl (sw_true rfl rfl rfl (by decide +kernel)) (pi_listK K (pv 6)) (blkOk_by (N := N_least_walk) (sc := defScope s_least_walk) (by decide +kernel)) (fun _ _ _ _ _ => (pg_name (i := 12) nd rfl (by first | exact Or.inl rfl | exact Or.inr rfl))) (fun _ _ _ _ _ => (pts_one (pt_cmpR op_eq (pe_dget2 hu (pv 4) (pe_ix (ix_tupK K) (pv 12) pe_int (fun _ _ => rfl)) (pe_un un_neg pe_int) ⟨rfl, rfl, rfl, rfl⟩) (pv 11) (nomark _)))) (fun _ _ _ _ _ => (pv 12)))
  (pss_cons (ps_set (i := 13) nd rfl (by first | exact Or.inl rfl | exact Or.inr rfl) (pe_callB (cr_minEK K shape_deed (fun _ z => nomatch z) rfl hr.units) (by rfl) T.b_min rfl (pa_cons (pe_lc (own := [("way", 12)]) (g := (gName 12)) (tt := tYes) rfl nd (pi_listK K (pv 6)) (blkOk_by (N := N_least_walk) (sc := defScope s_least_walk) (by decide +kernel)) (fun _ _ _ _ _ => (pg_name (i := 12) nd rfl (by first | exact Or.inl rfl | exact Or.inr rfl))) (fun _ _ _ _ _ => pts_nil) (fun _ _ _ _ _ => (pe_ix (ix_tupK K) (pv 12) pe_int (fun _ _ => rfl)))) pa_nil)))
  (pss_cons (ps_expr (pe_bm PySem.F.plainAttrs_list PySem.F.slot_list_append PySem.F.type_list_append mt_append (pv 10) (pa_cons (pv 13) pa_nil)))
  (pss_cons (ps_setLc (i := 14) (own := [("way", 12)]) (g := (gName 12))  rfl nd rfl rfl (sw_true rfl rfl rfl (by decide +kernel)) (pi_listK K (pv 6)) (blkOk_by (N := N_least_walk) (sc := defScope s_least_walk) (by decide +kernel)) (fun _ _ _ _ _ => (pg_name (i := 12) nd rfl (by first | exact Or.inl rfl | exact Or.inr rfl))) (fun _ _ _ _ _ => (pts_one (pt_cmpR (op_eqDK K hr.units) (pe_ix (ix_tupK K) (pv 12) pe_int (fun _ _ => rfl)) (pv 13) (nomark _)))) (fun _ _ _ _ _ => (pe_ix (ix_tupK K) (pv 12) pe_int (fun _ _ => rfl))))
  (pss_cons (ps_set (i := 6) nd rfl (by first | exact Or.inl rfl | exact Or.inr rfl) (pe_lst pa_nil))
  (pss_one (ps_for PassesOwn.never rfl (pi_listK K (pv 14)) (pg_name (i := 9) nd rfl (by first | exact Or.inl rfl | exact Or.inr rfl)) (pss_one (ps_for PassesOwn.never rfl (pi_listK K (pe_dget hu (pv 3) (pv 9) (fun _ _ => rfl))) (pg_tup rfl (pgs_cons (pg_tup rfl (pgs_cons (pg_name (i := 7) nd rfl (by first | exact Or.inl rfl | exact Or.inr rfl)) (pgs_cons (pg_name (i := 8) nd rfl (by first | exact Or.inl rfl | exact Or.inr rfl)) pgs_nil))) (pgs_cons (pg_name (i := 15) nd rfl (by first | exact Or.inl rfl | exact Or.inr rfl)) pgs_nil))) (pss_one (ps_expr (pe_bm PySem.F.plainAttrs_list PySem.F.slot_list_append PySem.F.type_list_append mt_append (pv 6) (pa_cons (pe_tup (pa_cons (pe_tup (pa_cons (pv 7) (pa_cons (pe_op op_mod (pe_op op_add (pe_ix (ix_tupK K) (pv 13) pe_int (fun _ _ => rfl)) (pv 8)) (pv 1)) pa_nil))) (pa_cons (pv 15) pa_nil))) pa_nil))))))))))))))
  (pss_one (ps_ret (pe_make T.k_Plan G_Plan_init (hr.mono (by decide)) rfl T.g_Plan b_Plan_init .nil pass0 (pa_cons (pv 0) (pa_cons (pv 10) pa_nil)))))))))))), ?_⟩
  have lx := hl.len
  refine ⟨_, rfl, _, rfl, st, fd, xs, sts, L, rfl, hst, hl, hfd, hz, fun e H1 e1 => ⟨_, rfl, rfl, _, rfl, iteT (kN e H1 e1)⟩, fun m hm hle H1 e1 => ?_⟩
  refine ⟨_, rfl, rfl, _, rfl, iteF ⟨_, rfl, _, _, rfl, rfl, _, rfl, ?_⟩⟩
  obtain ⟨kX, kP⟩ := kM m hm hle
  by_cases c4 : 400 < m
  · rw [decide_eq_true (by omega)]
    refine iteT ⟨by decide, fun a ha => ⟨a, 400, rfl, upd_same, fun dx hdx ndx => ⟨rfl, dx, _, upd_same, (upd_ne ndx).trans upd_same, ?_, kX c4 _ dx (fun b o hb => ?_) upd_same⟩⟩⟩
    · rw [upd_ne ndx] at hdx
      exact hdx
    · have h1 := e1 b o hb
      have nba : b ≠ a := ne_of_none h1 ha
      have nbd : b ≠ dx := fun z => by rw [z] at h1; rw [upd_ne ndx, h1] at hdx; cases hdx
      rw [upd_ne nbd, del_ne nba, upd_ne nba, upd_ne nbd, upd_ne nba]
      exact h1
  rw [decide_eq_false (by omega)]
  refine iteF ?_
  -- ways = [((word, turn), node) ..]
  refine ⟨_, rfl, st, rfl, ⟨_, SqL.of (e1 _ _ hst)⟩, fun D hD => ?_⟩
  let w0 : Stt → Ad := fun p => ((p.1, p.2.1), p.2.2)
  refine lc_ls (enc := encAd) relEx walk_list (fun i => (sts[i]?).map w0) hD True.intro (Evl.sz_lt (by omega)) (fun H2 e2 _ => SqL.of (e2 _ _ (e1 _ _ hst))) ?_ ?_
  · rintro i x F F' hi e2 t2 ⟨rfl, hx⟩ Go Sk go sk
    obtain ⟨p, hp, ip⟩ := (hl.keep (Tups.of (e1.trans e2))).get hx
    obtain ⟨a, c, rfl, ha, hc⟩ := st_get ip
    refine ⟨a, _, rfl, SqT.of ha, rfl, _, _, rfl, _, _, rfl, _, _, rfl, rfl, rfl, yes_go ⟨_, rfl, _, rfl, (by show 2 ≤ sizeLine; decide), fun t1 ht1 => ⟨_, rfl, (by show 2 ≤ sizeLine; decide), fun t3 ht3 => ?_⟩⟩⟩
    have e3 : Ex F' (upd (upd F' t1 (.tup [.str p.1, .int p.2.1])) t3 (.tup [.ref t1, .ref c])) := (ex_new ht1).trans (ex_new ht3)
    refine go (w0 p) _ _ (by rw [hp]; rfl) e3 (Tups.of e3) ⟨t3, _, rfl, upd_same, _, _, rfl, ⟨t1, _, rfl, (ex_new ht3) _ _ upd_same, _, _, rfl, rfl, _, _, rfl, rfl, rfl⟩, _, _, rfl, nd_of (n := p.2.2) (e3 _ _ hc), rfl⟩
  intro F2 ws0 e2 t2 hD2 hy0
  rw [fm_map _ lx] at hy0
  have e12 := e1.trans e2
  -- deeds = []
  refine ⟨Nat.zero_le _, fun dl hdl => ?_⟩
  have hdl0 : H dl = none := Evl.fresh_back e12 hdl
  have hm2 : 0 < m := by
    obtain ⟨p, hp, e⟩ := List.mem_filterMap.mp hm
    obtain ⟨d', _, e⟩ := Option.map_eq_some_iff.mp e
    omega
  have start : ∃ p ∈ sts, farOf L p.2.2 = some (m - 1) := by
    obtain ⟨p, hp, e⟩ := List.mem_filterMap.mp hm
    obtain ⟨d', hd', e⟩ := Option.map_eq_some_iff.mp e
    exact ⟨p, hp, by rw [hd']; congr 1; omega⟩
  refine ⟨_, rfl, _, _, rfl, rfl, _, rfl, _, rfl, (m : Int) - 1, -1, -1, _, rfl, RgC.neg (by omega) (by omega) (by decide) (by decide), ?_⟩
  have en : ((m : Int) - 1 - -1).toNat = m := by omega
  rw [en]
  refine for_it walk_rangeC (fun k σ H' => Ex H H' ∧ ∃ wl ws ways dsv ds x7 x8 x9 x11 x12 x13 x14 x15, σ = [some (.int N), some (.int M), some (.ref st), some (.ref d), some (.ref fd), some (.int (m : Int)), some (.ref wl), x7, x8, x9, some (.ref dl), x11, x12, x13, x14, x15] ∧
      H' wl = some (.lst ws) ∧ Ls H' encAd ws ways ∧ wl ≠ dl ∧ H' dl = some (.lst dsv) ∧ Ls H' encDeed dsv ds ∧ ds.length = k ∧ (∀ x ∈ ds, IsW x.1) ∧ ways.length ≤ 10000 ∧ (∀ w ∈ ways, PWay sts adj M (ds ++ [w.1]) w.2 ∧ w.2 ∈ ns ∧ IsW w.1.1) ∧ (∀ dd : Deed, (ways.filter fun w => decide (w.1 = dd)).length ≤ 12) ∧
      (k < m → ∃ w ∈ ways, farOf L w.2 = some (m - 1 - k)) ∧ (k = m → ∃ n, PWay sts adj M ds n ∧ farOf L n = some 0))
    ⟨e12.trans (ex_new hdl), D, ws0, sts.map w0, [], [], _, _, _, _, _, _, _, _, rfl, (ex_new hdl) _ _ hD2, hy0.keep (Tups.new hdl), (fun z => by rw [z] at hD2; rw [hD2] at hdl; cases hdl), upd_same, .nil, rfl, (fun x hx => by simp at hx), (by rw [List.length_map]; exact hz), (fun w hw => ?_), (fun dd => ?_), (fun _ => ?_), (fun z => by omega)⟩ (fun _ _ _ _ _ => True.intro) ?_ ?_
  · obtain ⟨p, hp, rfl⟩ := List.mem_map.mp hw
    exact ⟨.one hp, (hsts p hp).2, (hsts p hp).1⟩
  · have := hmul dd
    rw [List.filter_map, List.length_map] at this
    rw [List.filter_map, List.length_map]
    exact this
  · obtain ⟨p, hp, e⟩ := start
    exact ⟨w0 p, List.mem_map_of_mem hp, by rw [Nat.sub_zero]; exact e⟩
  · rintro k0 v σ F3 F3' hk ⟨e3, wl, ws, ways, dsv, ds, x7, x8, x9, x11, x12, x13, x14, x15, rfl, hwl, hlw, nwd, hds, hlds, dlen, dW, wlen, wI, wM, wE, _⟩ ⟨rfl, rfl⟩
    have lw := hlw.len
    obtain ⟨left, eleft⟩ : ∃ left : Nat, left = m - 1 - k0 := ⟨_, rfl⟩
    have el : ((m : Int) - 1 + (k0 : Int) * -1) = (left : Int) := by omega
    show tSeq _ _ _ (List.set _ 11 (some (.int ((m : Int) - 1 + (k0 : Int) * -1)))) F3'
    rw [el]
    -- ways = [way .. if far.get(way[1], -1) == left]
    refine ⟨_, rfl, wl, rfl, ⟨_, SqL.of hwl⟩, fun D3 hD3 => ?_⟩
    refine lc_ls (enc := encAd) relEx walk_list (fun i => (ways[i]?).bind fun w => if farOf L w.2 = some left then some w else none) hD3 True.intro (Evl.sz_lt (by omega)) (fun H2 e2 _ => SqL.of (e2 _ _ hwl)) ?_ ?_
    · rintro i x F F' hi e4 t4 ⟨rfl, hx⟩ Go Sk go sk
      obtain ⟨p, hp, ip⟩ := (hlw.keep t4).get hx
      obtain ⟨a, b, c, rfl, ha, hb, hc⟩ := ad_get ip
      have g1 : DGet F' fd (.ref c) ((farOf L p.2).map fun d => V.int (d : Int)) := by
        rw [← farK_val]
        exact DGet.t (k := keyNd p.2) (e4 _ _ (e3 _ _ hfd)) hc
      refine ⟨rfl, _, rfl, fd, rfl, .inr ⟨_, .inl (e4 _ _ (e3 _ _ hfd))⟩, _, rfl, a, _, _, _, rfl, rfl, SqT.of ha, atI_nat (j := 1) rfl, _, rfl, _, g1, _, rfl, ?_⟩
      cases hf : farOf L p.2 with
      | none =>
        refine ⟨rfl, false, ?_, iteF (sk _ (by rw [hp]; exact if_neg (by rw [hf]; exact fun z => nomatch z)) (Ex.refl _) (Tups.refl _))⟩
        exact congrArg V.bl (decide_eq_false fun z => by have := V.int.inj z; omega)
      | some dd =>
        by_cases cl : dd = left
        · refine ⟨rfl, true, congrArg V.bl (decide_eq_true (by rw [cl]; rfl)), iteT ⟨_, rfl, go p _ _ (by rw [hp]; exact if_pos (by rw [hf, cl])) (Ex.refl _) (Tups.refl _) ip⟩⟩
        · refine ⟨rfl, false, congrArg V.bl (decide_eq_false fun z => cl (by have := V.int.inj z; omega)), iteF (sk _ (by rw [hp]; exact if_neg (by rw [hf]; exact fun z => cl (Option.some.inj z))) (Ex.refl _) (Tups.refl _))⟩
    intro F4 ws4 e4 t4 hD4 hy4
    rw [lw, fm_filter (p := fun w : Ad => farOf L w.2 = some left)] at hy4
    obtain ⟨wf, ewf⟩ : ∃ wf, wf = ways.filter fun w => decide (farOf L w.2 = some left) := ⟨_, rfl⟩
    rw [← ewf] at hy4
    have wfm : ∀ w ∈ wf, w ∈ ways ∧ farOf L w.2 = some left := fun w hw => by
      rw [ewf] at hw
      exact ⟨(List.mem_filter.mp hw).1, of_decide_eq_true (List.mem_filter.mp hw).2⟩
    obtain ⟨wE0, hwE0, hwE1⟩ := wE hk
    have wfne : wf ≠ [] := fun z => by
      have : wE0 ∈ wf := by rw [ewf]; exact List.mem_filter.mpr ⟨hwE0, decide_eq_true (by rw [eleft]; exact hwE1)⟩
      rw [z] at this
      cases this
    have wflen : wf.length ≤ 10000 := by rw [ewf]; exact Nat.le_trans (List.length_filter_le _ _) wlen
    have l4 := hy4.len
    have e34 := e3.trans e4
    -- deed = min([way[0] ..])
    refine ⟨_, rfl, D3, rfl, ⟨_, SqL.of hD4⟩, fun D5 hD5 => ?_⟩
    refine lc_ls (enc := encDeed) relEx walk_list (fun i => (wf[i]?).map (·.1)) hD5 True.intro (Evl.sz_lt (by omega)) (fun H2 e2 _ => SqL.of (e2 _ _ hD4)) ?_ ?_
    · rintro i x F F' hi e5 t5 ⟨rfl, hx⟩ Go Sk go sk
      obtain ⟨p, hp, ip⟩ := (hy4.keep t5).get hx
      obtain ⟨a, b, c, rfl, ha, hb, hc⟩ := ad_get ip
      exact ⟨rfl, yes_go ⟨_, rfl, a, _, _, _, rfl, rfl, SqT.of ha, atI_nat (j := 0) rfl, go p.1 _ _ (by rw [hp]; rfl) (Ex.refl _) (Tups.refl _) (deed_mk hb)⟩⟩
    intro F5 ws5 e5 t5 hD5' hy5
    rw [fm_map _ l4] at hy5
    refine ⟨D5, ws5, wf.map (·.1), rfl, SqL.of hD5', hy5, fun z => wfne (List.map_eq_nil_iff.mp z), fun i x dd hx hdd => ?_⟩
    rw [List.getElem?_map] at hdd
    obtain ⟨wd, hwd, rfl⟩ := Option.map_eq_some_iff.mp hdd
    have wdm := List.mem_of_getElem? hwd
    obtain ⟨wdw, wdf⟩ := wfm wd wdm
    obtain ⟨b', hb', imd⟩ := hy5.get hx
    rw [List.getElem?_map, hwd] at hb'
    cases hb'
    obtain ⟨ad, rfl, had⟩ := deed_get imd
    have dWd := (wI wd wdw).2.2
    have e35 := e34.trans e5
    have hds5 := (e4.trans e5) _ _ hds
    have hD45 := e5 _ _ hD4
    have nDdl : D3 ≠ dl := fun z => by rw [z] at hD3; rw [hD3] at hds; cases hds
    have ldv := hlds.len
    -- deeds.append(deed)
    refine ⟨_, rfl, .inl ⟨rfl, _, SqL.of hds5⟩, _, rfl, dl, dsv, _, rfl, rfl, hds5, Evl.sz_lt (by omega), ?_⟩
    obtain ⟨F6, eF6⟩ : ∃ F6, F6 = upd F5 dl (.lst (dsv ++ [.ref ad])) := ⟨_, rfl⟩
    have t6 : Tups F5 F6 := by rw [eF6]; exact Tups.mut hds5 fun _ z => nomatch z
    have e6 : Ex H F6 := by rw [eF6]; exact Evl.Ex.mut e35 hdl0
    have hD6 : F6 D3 = some (.lst ws4) := by rw [eF6, upd_ne nDdl]; exact hD45
    have hds6 : F6 dl = some (.lst (dsv ++ [.ref ad])) := by rw [eF6]; exact upd_same
    have hlds6 : Ls F6 encDeed (dsv ++ [.ref ad]) (ds ++ [wd.1]) := ((hlds.keep ((Tups.of (e4.trans e5)).trans t6))).snoc (imd.keep t6)
    have hy6 : Ls F6 encAd ws4 wf := hy4.keep ((Tups.of e5).trans t6)
    have had6 := t6 _ _ had
    rw [← eF6]
    -- nodes = [way[1] .. if way[0] == deed]
    refine ⟨_, rfl, D3, rfl, ⟨_, SqL.of hD6⟩, fun D7 hD7 => ?_⟩
    refine lc_ls (enc := encNd) relEx walk_list (fun i => (wf[i]?).bind fun w => if w.1 = wd.1 then some w.2 else none) hD7 True.intro (Evl.sz_lt (by omega)) (fun H2 e2 _ => SqL.of (e2 _ _ hD6)) ?_ ?_
    · rintro i x F F' hi e7 t7 ⟨rfl, hx⟩ Go Sk go sk
      obtain ⟨p, hp, ip⟩ := (hy6.keep t7).get hx
      obtain ⟨a, b, c, rfl, ha, hb, hc⟩ := ad_get ip
      have pW := (wI p (wfm p (List.mem_of_getElem? hp)).1).2.2
      refine ⟨rfl, _, rfl, a, _, _, _, rfl, rfl, SqT.of ha, atI_nat (j := 0) rfl, _, rfl, encDeed p.1, encDeed wd.1, Im.dp (deed_mk hb), Im.dp (deed_mk (t7 _ _ had6)), shaped_pl (pl_deed pW) (deed_depth _), shaped_pl (pl_deed dWd) (deed_depth _), _, rfl, ?_⟩
      rw [eqv_deed pW dWd]
      by_cases q : p.1 = wd.1
      · rw [decide_eq_true q]
        exact iteT ⟨_, rfl, a, _, _, _, rfl, rfl, SqT.of ha, atI_nat (j := 1) rfl, go p.2 _ _ (by rw [hp]; exact if_pos q) (Ex.refl _) (Tups.refl _) (nd_of hc)⟩
      · rw [decide_eq_false q]
        exact iteF (sk _ (by rw [hp]; exact if_neg q) (Ex.refl _) (Tups.refl _))
    intro F7 ws7 e7 t7 hD7' hy7
    obtain ⟨nodes, enodes⟩ : ∃ nodes, nodes = (List.range ws4.length).filterMap fun i => (wf[i]?).bind fun w => if w.1 = wd.1 then some w.2 else none := ⟨_, rfl⟩
    rw [← enodes] at hy7
    have nodeI : nodes = (wf.filter fun w => decide (w.1 = wd.1)).map (·.2) := by
      rw [enodes, l4]
      have := fm_filter (l := wf) (p := fun w : Ad => w.1 = wd.1)
      rw [← this, List.map_filterMap]
      refine fm_congr fun i _ => ?_
      cases wf[i]? with
      | none => rfl
      | some y =>
        show (if y.1 = wd.1 then some y.2 else none) = Option.map _ (if y.1 = wd.1 then some y else none)
        by_cases q : y.1 = wd.1
        · rw [if_pos q, if_pos q]; rfl
        · rw [if_neg q, if_neg q]; rfl
    have nodeM : ∀ n ∈ nodes, PWay sts adj M (ds ++ [wd.1]) n ∧ n ∈ ns ∧ farOf L n = some left := fun n hn => by
      rw [nodeI] at hn
      obtain ⟨w, hw, rfl⟩ := List.mem_map.mp hn
      have hw1 := (List.mem_filter.mp hw).1
      have hw2 : w.1 = wd.1 := of_decide_eq_true (List.mem_filter.mp hw).2
      obtain ⟨g1, g2⟩ := wfm w hw1
      obtain ⟨g3, g4, _⟩ := wI w g1
      rw [hw2] at g3
      exact ⟨g3, g4, g2⟩
    have wdn : wd.2 ∈ nodes := by rw [nodeI]; exact List.mem_map.mpr ⟨wd, List.mem_filter.mpr ⟨wdm, decide_eq_true rfl⟩, rfl⟩
    have nlen : nodes.length ≤ 12 := by
      rw [nodeI, List.length_map, ewf]
      refine Nat.le_trans ?_ (wM wd.1)
      rw [List.filter_filter]
      refine List.Sublist.length_le ?_
      have : (ways.filter fun a => decide (a.1 = wd.1) && decide (farOf L a.2 = some left)) = (ways.filter fun a => decide (a.1 = wd.1)).filter fun a => decide (farOf L a.2 = some left) := by
        rw [List.filter_filter]
        congr 1
        funext a
        exact Bool.and_comm _ _
      rw [this]
      exact List.filter_sublist
    have l7 := hy7.len
    have e67 := e6.trans e7
    have hds7 := e7 _ _ hds6
    -- ways = []
    refine ⟨Nat.zero_le _, fun wn hwn => ?_⟩
    have hwn0 : H wn = none := Evl.fresh_back e67 hwn
    have nwndl : wn ≠ dl := fun z => by rw [z, hds7] at hwn; cases hwn
    have e8 : Ex F7 (upd F7 wn (.lst [])) := ex_new hwn
    have nDwn : D7 ≠ wn := fun z => by rw [z, hwn] at hD7'; cases hD7'
    have h0D7 : H D7 = none := Evl.fresh_back e6 hD7
    have ldsn : (ds ++ [wd.1]).length = k0 + 1 := by rw [List.length_append, dlen]; rfl
    have dWn : ∀ x ∈ ds ++ [wd.1], IsW x.1 := fun x hx => by
      rcases List.mem_append.mp hx with hx | hx
      · exact dW x hx
      · rw [List.mem_singleton.mp hx]; exact dWd
    have adl : ∀ n ∈ nodes, (adj n).length ≤ 720 := fun n hn => (hadj n (nodeM n hn).2.1).1
    -- the next ways
    refine ⟨_, rfl, D7, rfl, ⟨_, SqL.of (e8 _ _ hD7')⟩, ?_⟩
    refine for_it (walk_list (xs := ws7)) (fun i σ H' => Ex H H' ∧ H' D7 = some (.lst ws7) ∧ Ls H' encNd ws7 nodes ∧ H' ad = some (.tup [.str wd.1.1, .int wd.1.2]) ∧ H' dl = some (.lst (dsv ++ [.ref ad])) ∧ Ls H' encDeed (dsv ++ [.ref ad]) (ds ++ [wd.1]) ∧
        (∃ x7 x8 x9 x15, σ = [some (.int N), some (.int M), some (.ref st), some (.ref d), some (.ref fd), some (.int (m : Int)), some (.ref wn), x7, x8, x9, some (.ref dl), some (.int (left : Int)), x12, some (.ref ad), some (.ref D7), x15]) ∧ ∃ wv, H' wn = some (.lst wv) ∧ Ls H' encAd wv (nextW adj M wd.1 (nodes.take i)))
      ⟨e67.trans e8, e8 _ _ hD7', hy7.keep (Tups.of e8), (t7.trans (Tups.of e8)) _ _ had6, e8 _ _ hds7, hlds6.keep (t7.trans (Tups.of e8)), ⟨_, _, _, _, rfl⟩, [], upd_same, .nil⟩ (fun i σ H' _ ⟨_, h, _⟩ => SqL.of h) ?_ ?_
    · rintro i v σ F8 F8' hi ⟨e9, hD9, hl9, had9, hds9, hls9, ⟨y7, y8, y9, y15, rfl⟩, wv, hwv, hlv⟩ ⟨rfl, hv⟩
      obtain ⟨n, hn, imn⟩ := hl9.get hv
      obtain ⟨a, rfl, ha⟩ := nd_get imn
      have ha : F8' a = some (.tup ((keyNd n).map kV)) := ha
      have nm := nodeM n (List.mem_of_getElem? hn)
      obtain ⟨i0, hi0⟩ := List.getElem?_of_mem nm.2.1
      have hi1 : i0 < vals.length := by rw [XT.len]; exact (List.getElem?_eq_some_iff.mp hi0).1
      obtain ⟨r, hr0⟩ : ∃ r, vals[i0]? = some r := ⟨_, List.getElem?_eq_getElem hi1⟩
      obtain ⟨zs, hzs, hlz⟩ := XT.lst i0 r hr0
      rw [hi0] at hlz
      have hlz : Ls H encAd zs (adj n) := hlz
      have lz := hlz.len
      have XT9 := XT.keep (fun a o _ h => e9 a o h) (Tups.of e9)
      have tk : nodes.take (i + 1) = nodes.take i ++ [n] := by rw [List.take_add_one, hn]; rfl
      have aN := hadj n nm.2.1
      refine ⟨_, rfl, _, rfl, d, _, rfl, XT9.get hi0 hr0 ha, r, rfl, ⟨_, SqL.of (e9 _ _ hzs)⟩, ?_⟩
      have nl1 : (nextW adj M wd.1 (nodes.take i)).length ≤ 12 * 720 := by
        have h1 := next_len (adj := adj) (M := M) (dd := wd.1) (k := 720) (nodes := nodes.take i) fun n hn => adl n (List.mem_of_mem_take hn)
        have h2 : (nodes.take i).length ≤ 12 := by rw [List.length_take]; omega
        exact Nat.le_trans h1 (Nat.mul_le_mul_right _ h2)
      let nx1 : Ad → Ad := fun m => ((m.1.1, (wd.1.2 + m.1.2) % M), m.2)
      refine for_it (walk_list (xs := zs)) (fun j σ H' => Ex H H' ∧ H' D7 = some (.lst ws7) ∧ Ls H' encNd ws7 nodes ∧ H' ad = some (.tup [.str wd.1.1, .int wd.1.2]) ∧ H' dl = some (.lst (dsv ++ [.ref ad])) ∧ Ls H' encDeed (dsv ++ [.ref ad]) (ds ++ [wd.1]) ∧
          (∃ x7 x8 x15, σ = [some (.int N), some (.int M), some (.ref st), some (.ref d), some (.ref fd), some (.int (m : Int)), some (.ref wn), x7, x8, some (.ref a), some (.ref dl), some (.int (left : Int)), x12, some (.ref ad), some (.ref D7), x15]) ∧ ∃ wv, H' wn = some (.lst wv) ∧ Ls H' encAd wv (nextW adj M wd.1 (nodes.take i) ++ ((adj n).take j).map nx1))
        ⟨e9, hD9, hl9, had9, hds9, hls9, ⟨_, _, _, rfl⟩, wv, hwv, by rw [List.take_zero, List.map_nil, List.append_nil]; exact hlv⟩ (fun j σ H' _ ⟨e, _⟩ => SqL.of (e _ _ hzs)) ?_ ?_
      · rintro j v σ F9 F9' hj ⟨e10, hD10, hl10, had10, hds10, hls10, ⟨z7, z8, z15, rfl⟩, wv10, hwv10, hlv10⟩ ⟨rfl, hv10⟩
        obtain ⟨mm, hmm, imm⟩ := (hlz.keep (Tups.of e10)).get hv10
        obtain ⟨a2, b2, c2, rfl, ha2, hb2, hc2⟩ := ad_get imm
        have mb := (aN.2.2 mm (List.mem_of_getElem? hmm))
        have l10 := hlv10.len
        rw [List.length_append, List.length_map, List.length_take] at l10
        have aL := aN.1
        refine ⟨a2, _, rfl, SqT.of ha2, rfl, _, _, rfl, ⟨b2, _, rfl, SqT.of hb2, rfl, _, _, rfl, _, _, rfl, rfl, _, _, rfl, rfl, ?_⟩⟩
        refine ⟨_, rfl, .inl ⟨rfl, _, SqL.of hwv10⟩, _, rfl, _, rfl, ad, _, _, _, rfl, rfl, SqT.of had10, atI_nat (j := 1) rfl, _, rfl, _, _, rfl, rfl, _, rfl, _, _, rfl, rfl, hM, (by show 2 ≤ sizeLine; decide), fun t1 ht1 => ⟨_, rfl, (by show 2 ≤ sizeLine; decide), fun t3 ht3 => ?_⟩⟩
        have e11 : Ex F9' (upd (upd F9' t1 (.tup [.str mm.1.1, .int ((wd.1.2 + mm.1.2) % M)])) t3 (.tup [.ref t1, .ref c2])) := (ex_new ht1).trans (ex_new ht3)
        obtain ⟨F10, eF10⟩ : ∃ F10, F10 = upd (upd F9' t1 (.tup [.str mm.1.1, .int ((wd.1.2 + mm.1.2) % M)])) t3 (.tup [.ref t1, .ref c2]) := ⟨_, rfl⟩
        have im3 : Im F10 (.ref t3) (encAd (nx1 mm)) := by
          rw [eF10]
          exact ⟨t3, _, rfl, upd_same, _, _, rfl, ⟨t1, _, rfl, (ex_new ht3) _ _ upd_same, _, _, rfl, rfl, _, _, rfl, rfl, rfl⟩, _, _, rfl, nd_of (n := mm.2) (e11 _ _ hc2), rfl⟩
        rw [← eF10] at e11
        have h11 := e11 _ _ hwv10
        refine ⟨wn, wv10, _, rfl, rfl, by rw [← eF10]; exact h11, Evl.sz_lt (by omega), ?_⟩
        rw [← eF10]
        have t12 : Tups F10 (upd F10 wn (.lst (wv10 ++ [.ref t3]))) := Tups.mut h11 fun _ z => nomatch z
        have tA := (Tups.of e11).trans t12
        have nLw : dl ≠ wn := fun z => nwndl z.symm
        refine ⟨Evl.Ex.mut (e10.trans e11) hwn0, (upd_ne nDwn).trans (e11 _ _ hD10), hl10.keep tA, tA _ _ had10, (upd_ne nLw).trans (e11 _ _ hds10), hls10.keep tA, ⟨_, _, _, rfl⟩, _, upd_same, ?_⟩
        have tk2 : (adj n).take (j + 1) = (adj n).take j ++ [mm] := by rw [List.take_add_one, hmm]; rfl
        rw [tk2, List.map_append, ← List.append_assoc]
        exact (hlv10.keep tA).snoc (im3.keep t12)
      · rintro σ F9 ⟨e10, hD10, hl10, had10, hds10, hls10, ⟨z7, z8, z15, rfl⟩, wv10, hwv10, hlv10⟩
        refine ⟨e10, hD10, hl10, had10, hds10, hls10, ⟨_, _, _, _, rfl⟩, wv10, hwv10, ?_⟩
        rw [tk]
        unfold nextW
        rw [List.flatMap_append]
        rw [lz, List.take_length] at hlv10
        have : List.flatMap (fun n => List.map (fun m => (((m.1.1, (wd.1.2 + m.1.2) % M), m.2) : Ad)) (adj n)) [n] = (adj n).map nx1 := List.append_nil _
        rw [this]
        exact hlv10
    · rintro σ F8 ⟨e9, hD9, hl9, had9, hds9, hls9, ⟨y7, y8, y9, y15, rfl⟩, wv, hwv, hlv⟩
      rw [l7, List.take_length] at hlv
      have nwl : (nextW adj M wd.1 nodes).length ≤ 8640 := Nat.le_trans (next_len adl) (Nat.mul_le_mul_right 720 nlen)
      refine ⟨e9, wn, wv, nextW adj M wd.1 nodes, dsv ++ [.ref ad], ds ++ [wd.1], _, _, _, _, _, _, _, _, rfl, hwv, hlv, nwndl, hds9, hls9, ldsn, dWn, (by omega), ?_, ?_, ?_, ?_⟩
      · intro w hw
        obtain ⟨n, hn, hw⟩ := List.mem_flatMap.mp hw
        obtain ⟨mm, hmm, rfl⟩ := List.mem_map.mp hw
        have nm := nodeM n hn
        have am := (hadj n nm.2.1).2.2 mm hmm
        exact ⟨.more nm.1 hmm, am.2.2, am.2.1⟩
      · intro dd
        exact Nat.le_trans (next_mult dd fun n hn => ⟨(hadj n (nodeM n hn).2.1).2.1, fun mm hmm => ((hadj n (nodeM n hn).2.1).2.2 mm hmm).1⟩) nlen
      · intro hk1
        rcases FO.down wd.2 left wdf with ⟨z, _⟩ | ⟨mm, hmm, d', hd', e⟩
        · omega
        · refine ⟨((mm.1.1, (wd.1.2 + mm.1.2) % M), mm.2), List.mem_flatMap.mpr ⟨wd.2, wdn, List.mem_map.mpr ⟨mm, hmm, rfl⟩⟩, ?_⟩
          rw [hd']
          congr 1
          omega
      · intro hk1
        exact ⟨wd.2, (nodeM _ wdn).1, by rw [wdf]; congr 1; omega⟩
  · rintro σ F3 ⟨e3, wl, ws, ways, dsv, ds, x7, x8, x9, x11, x12, x13, x14, x15, rfl, hwl, hlw, nwd, hds, hlds, dlen, dW, wlen, wI, wM, _, wF⟩
    obtain ⟨n, hw, hf⟩ := wF rfl
    have nij : n.i = n.j := by
      rcases FO.down n 0 hf with ⟨_, h⟩ | ⟨mm, hmm, d', hd', e⟩
      · exact h
      · omega
    refine ⟨_, rfl, _, rfl, fun x dx hx hdx ndx => ?_⟩
    have nxd : x ≠ dx := fun z => ndx z.symm
    have e5 : Ex F3 (upd (upd F3 dx (.own x)) x (.ins (cA K "Plan") dx [])) := (ex_new hdx).trans (ex_new ((upd_ne nxd).trans hx))
    refine ⟨x, dx, dl, N, dsv, ds, rfl, upd_same, e5 _ _ hds, hlds.keep (Tups.of e5), dW, (by omega), hN.1, hN.2, fun H' bt pl => ⟨rfl, kP (by omega) H' x ds n (fun b o hb => ?_) dlen hw nij dW pl⟩⟩
    have h1 := e3 _ _ hb
    exact bt b o (ne_of_none h1 hx) (e5 _ _ h1)
end
end JD
end Part_JD15
section Part_JD16a
set_option Elab.async false
set_option linter.all false
set_option maxRecDepth 100000
set_option maxHeartbeats 4000000
namespace JD
open PySem PySem.Spec PyProof.Rows L2 JR JX JT LamX
open Evl (Ex)
/-- the table that the lambda's code is kept in -/
abbrev tabsJ (K : PySem.W.Frag) : List (Addr × Str) := [((He.cT K lamAt).2, ("CutSearch.__init__" : Str) ++ ".<locals>." ++ "<lambda>")]
/-- explored(first, lambda, is_closed), tb the lambda's body's reading, its parameter in the place j -/
def tExplored (K : PySem.W.Frag) (i j : Nat) (tb : TE) : TE := fun σ H Q => ∃ a1, σ[i]? = some (some (.ref a1)) ∧ Tabs (tabsJ K) H ∧ ∀ H1, ExtN H H1 → Tabs (tabsJ K) H1 →
  ∃ (f0 : Addr) (Ok : HO → Prop) (mvs : Node → List Mv) (Good : Node → Prop) (U fs : List Node) (xs : List V), (∃ o, H1 f0 = some o ∧ Ok o) ∧ (∀ o, Ok o → ∃ kvs, o = .dT kvs) ∧ H1 a1 = some (.lst xs) ∧ Ls H1 encNd xs fs ∧ (∀ n ∈ fs, Good n) ∧ (∀ n, Good n → n ∈ U) ∧ U.length ≤ 20000 ∧
    (∀ n, Good n → (mvs n).length ≤ 720 ∧ ∀ m ∈ mvs n, ∀ n', m.2 = some n' → Good n') ∧
    (∀ (v : V) (n : Node) (H' : Hp) (Q' : VK), Wx f0 Ok H1 H' → Im H' v (encNd n) → Good n → (∀ H'' p ys, Wx f0 Ok H' H'' → H' p = none → H'' p = some (.lst ys) → Ls H'' encMv ys (mvs n) → Q' (.ref p) H'') → tb (σ.set j (some v)) H' Q') ∧
    ∀ H' d wl ns vals, Wx f0 Ok H1 H' → ExAt H' d wl ns vals (contAt mvs ns ns.length) → (∀ n ∈ fs, n ∈ ns) → (∀ n ∈ ns, Good n) → (∀ n ∈ ns, ∀ m ∈ adjOf mvs n, m.2 ∈ ns) → H1 d = none → Q (.ref d) H'
theorem pe_explored {X : Cx} (T : Txt X.K X.mg) {params : Arguments} {body : Expr} {scope : Scope} {k i j : Nat} {pa x1 : Str} {tb : TE} {p p1 p2 lpos pos : Pos}
    (hg : Gl X "explored") (hg2 : Gl X "is_closed") (h1 : PE X (.Name x1 p1) (tVar i))
    (TB : TabB X.base X.mg (He.cT X.K lamAt).1 (He.cT X.K lamAt).2) (hcode : X.env.code = .ref (He.cT X.K lamAt).1) (hq : X.env.qual = ("CutSearch.__init__" : Str) ++ ".<locals>.")
    (hr : Room (k + 2) X.A) (hk1 : 1 ≤ k + 1) (L : Lam1 X.env.scope scope pa) (hdef : defaultsOf params X.env = ([], []))
    (hbind : ∀ (q : Str) (cl : List (Str × Addr)) (pm cv ctv u : Value), bindArgs (PySem.W.kla_fn "<lambda>" q params body scope cl pm cv ctv) ⟨[u], []⟩ = pure [(pa, u)]) (hNd : X.N.Nodup) (hj : X.N[j]? = some pa)
    (hbody : ∀ (A : Around) (outer : List Env) (s : Shared) (H : Hp) (f c' : Addr), Room k (A.deeper (lamEnv X scope s.heap.objs.size f c')) → PE (lam1Cx X A outer s H scope f c') body tb) :
    PE X (.Call (.Name "explored" p) [.Name x1 p1, .Lambda params body scope lpos, .Name "is_closed" p2] [] pos) (tExplored X.K i j tb) := by
  obtain ⟨fd, F⟩ := T.d_explored
  obtain ⟨ds, rd, hb⟩ := F.binds1 (ps := ["first", "moves", "is_end", "limit"]) 3 0 (by simp) rfl fun T kV doc pm an cdv ct us its hl hl2 => match us, its, hl, hl2 with | [_, _, _], [_], _, _ => ⟨_, rfl, rfl⟩
  have kp := F.kp
  obtain ⟨oc, od, dV, kV, doc, pm, an, cdv, ct, osl, rfl, lk, hcd, _, _⟩ := F.ex
  refine ⟨fun pins s σ H Q I h => ?_⟩
  obtain ⟨a1, ha1, hT, h⟩ := h
  refine wpAny_Call_Name_kw (ld_glob I hg T.g_explored ?_)
  refine PySem.W.callWith_K (h₀ := X.base) I.ok.mod.kin kp ?_ (by rfl) (by rfl)
  refine Calls.spliced_cons (thn (h1.run pins s σ H (fun v H1 => v = .ref a1 ∧ H1 = H) I ⟨_, ha1, rfl, rfl⟩) fun u0 s0 ⟨v0, H0, I0, r0, e0, eH0⟩ => ?_)
  subst e0
  rw [eH0] at I0
  obtain rfl : u0 = Value.ref a1 := r0
  have hm : ((He.cT X.K lamAt).2, X.env.qual ++ "<lambda>") ∈ tabsJ X.K := by rw [hq]; exact List.mem_cons_self
  refine Calls.spliced_cons (lam_make2 I0 TB hcode hm (fun q hq1 _ => ?_) hT hdef (L.has I0.ok) fun f c' pm' ctv H1 s' I1 eN T1 hf hfn hfr hco => ?_)
  · rw [List.mem_singleton.mp hq1, hq]
  refine Calls.spliced_cons (ld_glob I1 hg2 T.g_is_closed ?_)
  refine Calls.spliced_nil ⟨I1.kIn, ?_⟩
  obtain ⟨f0, Ok, mvs, Good, U, fs, xs, g1, g2, g3, g4, g5, g6, g7, g8, g9, g10⟩ := h H1 eN T1
  have rc : codeAny (model X.prog X.w) X.A (.call (.ref (He.ga X.K "explored")) ⟨[.ref a1, .ref f, .ref (He.ga X.K "is_closed")], []⟩) (CR CX0 X.stack X.prog X.w H1 s' Q E0) s' := by
    match ds, rd with
    | [d0], .cons r0 .nil =>
    refine run_ofS (N := N_explored) (ps := ["first", "moves", "is_end", "limit"]) (us := [.ref a1, .ref f, .ref (He.ga X.K "is_closed"), d0]) (vs := [.ref a1, .ref f, .ref (He.ga X.K "is_closed"), .non]) lk hcd sc_explored hr I1.env0 (hb s' [.ref a1, .ref f, .ref (He.ga X.K "is_closed")] I1.kIn rfl) (.cons rfl (.cons rfl (.cons rfl (.cons r0 .nil)))) rfl fun hr' => ?_
    have ac : ∀ pn p1 p2 : Pos, PE (cxOf CX0 X.prog X.w X.K X.mg X.base N_explored "explored" (defScope s_explored) (He.ga X.K "explored") cdv X.A X.stack s' H1 E0).nox (.Call (.Name "moves" p1) [.Name "node" pn] [] p2) _ := fun pn p1 p2 =>
      pe_act1 (i := 1) (a := "moves") I1 L hf hfn hfr (hbind _ _ _ _ _) hNd hj hr' (fun A outer s H hr2 => hbody A outer s H f c' hr2) (pa_cons (pv 6) pa_nil) rfl (by first | exact Or.inl rfl | exact Or.inr rfl)
    obtain ⟨t', ht', hq'⟩ := explored_gives (P := X.prog) (w := X.w) (base := X.base) T (hr'.mono hk1) ac g1 g2 hco g3 g4 g5 g6 g7 g8 g9 g10
    exact ⟨t', ht'.nox, hq'⟩
  refine wpAny_call (codeAny_mono rc fun r s2 hq => ?_)
  cases r with
  | error e => exact (show False from hq).elim
  | ok fl =>
    cases fl with
    | ret u => exact I1.after hq
    | next => exact False.elim hq
    | brk => exact False.elim hq
    | cont => exact False.elim hq
end JD
end Part_JD16a
section Part_JD16b
set_option Elab.async false
set_option linter.all false
set_option maxRecDepth 100000
set_option maxHeartbeats 4000000
namespace JD
open PySem PySem.Spec PyProof.Rows L2 JR JX JT LamX
open Evl (Ex)
/-! ### what is kept by every way in which a heap goes on here -/
def Nice : HO → Prop
  | .ins _ _ fs => fs ≠ []
  | .lst _ => True
  | .dK _ => True
  | .dT _ => True
  | .tup _ => True
  | _ => False
def Nk (H H' : Hp) : Prop := ∀ a o, H a = some o → Nice o → H' a = some o
theorem Nk.of {H H' : Hp} (e : Ex H H') : Nk H H' := fun a o h _ => e a o h
theorem Nk.trans {H H1 H2 : Hp} (a : Nk H H1) (b : Nk H1 H2) : Nk H H2 := fun x o h n => b x o (a x o h n) n
theorem Nk.extN {H H' : Hp} (e : ExtN H H') : Nk H H' := fun a o h n => e a o h fun ps z => by
  subst z
  exact n
theorem Nk.but {H H' : Hp} {x dx C : Addr} (hx : H x = some (.ins C dx [])) (b : But x H H') : Nk H H' := fun a o h n => b a o (fun z => by
  rw [z, hx] at h
  cases h
  exact n rfl) h
theorem Nk.tups {H H' : Hp} (e : Nk H H') : Tups H H' := fun a xs h => e a _ h True.intro
section
variable {K : PySem.W.Frag} {H H' : Hp}
theorem PartAt.nk {pa : Addr} {N : Int} {D : Words} (h : PartAt K H pa N D) (e : Nk H H') : PartAt K H' pa N D := by
  obtain ⟨dp, dd, h1, h2, h3⟩ := h
  refine ⟨dp, dd, e _ _ h1 (fun z => nomatch z), e _ _ h2 True.intro, fun q hq => ?_⟩
  obtain ⟨dt, r, xs, g1, g2, g3⟩ := h3 q hq
  exact ⟨dt, r, xs, e _ _ g1 (fun z => nomatch z), e _ _ g2 True.intro, g3.keep e.tups⟩
theorem BoardAt.nk {b f : Addr} {N : Int} {D : Words} {s : Int} {sp : Str → List Int} (h : BoardAt K H b f N D s sp) (e : Nk H H') : BoardAt K H' b f N D s sp := by
  obtain ⟨⟨⟨dx, pa, d1, d2, hb, hA, ⟨k1, h1, h2, h3⟩, k2, h4, h5⟩⟩, o, hf, ok⟩ := h
  obtain ⟨kf, rfl, _⟩ := id ok
  refine ⟨⟨⟨dx, pa, d1, d2, e _ _ hb (fun z => nomatch z), hA.nk e, ⟨k1, e _ _ h1 True.intro, h2, fun x hx => ?_⟩, k2, e _ _ h4 True.intro, fun x hx => ?_⟩⟩, _, e _ _ hf True.intro, ok⟩
  · obtain ⟨r, g1, g2⟩ := h3 x hx
    exact ⟨r, g1, e _ _ g2 True.intro⟩
  · obtain ⟨r, m, g1, g2, g3⟩ := h5 x hx
    exact ⟨r, m, g1, e _ _ g2 True.intro, g3⟩
theorem TabAt.nk {d : Addr} {In : Tab} (h : TabAt H d In) (e : Nk H H') : TabAt H' d In := by
  obtain ⟨kvs, h1, h2⟩ := h
  exact ⟨kvs, e _ _ h1 True.intro, tab_keep h2 e.tups fun r xs h => e _ _ h True.intro⟩
theorem LetV.nk {N : Int} {v : V} : ∀ {o : Option Tab}, LetV K H N v o → Nk H H' → LetV K H' N v o
  | none, h, _ => h
  | some _, ⟨x, e, dx, t, h1, h2⟩, e2 => ⟨x, e, dx, t, e2 _ _ h1 (fun z => nomatch z), h2.nk e2⟩
end
theorem TabS.but {H H' : Hp} {P : Addr} {q : Str} {x dx C : Addr} {fs : List (Str × V)} (t : TabS H P q) (hx : H x = some (.ins C dx fs)) (e : But x H H') : TabS H' P q := by
  obtain ⟨ps, h1, h2, h3⟩ := t
  refine ⟨ps, e _ _ (ne_of h1 hx fun z => nomatch z) h1, h2, fun pos cv hc => ?_⟩
  obtain ⟨c, e1, e2⟩ := h3 pos cv hc
  exact ⟨c, e1, e _ _ (ne_of e2 hx fun z => nomatch z) e2⟩
theorem Tabs.but {T : List (Addr × Str)} {H H' : Hp} {x dx C : Addr} {fs : List (Str × V)} (t : Tabs T H) (hx : H x = some (.ins C dx fs)) (e : But x H H') : Tabs T H' := fun p hp => TabS.but (t p hp) hx e
/-! ### the stands -/
def mvsOf (N : Int) (D : Words) (s : Int) (sp : Str → List Int) (St : Tab) (n : Node) : List Mv := match St.find? fun q => decide (q.1 = n.st) with
  | some q => q.2.map fun r => ((r.1, r.2.1), behind N D s sp n r)
  | none => []
def stdsOf (sp : Str → List Int) (r : Rul) : List Stt := (List.range (sp r.1).length).map fun i : Nat => (r.1, r.2.1, (⟨r.2.2, r.1, (i : Int), (i : Int) + ((sp r.1).length : Int) - 1⟩ : Node))
def stsOf (sp : Str → List Int) (fs : List Rul) : List Stt := fs.flatMap (stdsOf sp)
structure StG (D : Words) (St : Tab) : Prop where
  nd : (St.map (·.1)).Nodup
  len : St.length ≤ 5
  rl : ∀ q ∈ St, q.2.length ≤ 720 ∧ ∀ r ∈ q.2, r.1 ∈ D.map (·.1) ∧ r.2.2 ∈ St.map (·.1)
def GoodN (D : Words) (sp : Str → List Int) (St : Tab) (n : Node) : Prop := n.ok sp (D.map (·.1)) ∧ n.st ∈ St.map (·.1)
def unodes (D : Words) (St : Tab) : List Node := (St.map (·.1)).flatMap fun z => (D.map (·.1)).flatMap fun w => (List.range 12).flatMap fun i : Nat => (List.range 24).map fun j : Nat => ⟨z, w, (i : Int), (j : Int)⟩
theorem flat_le {α β : Type} {f : α → List β} {k : Nat} : ∀ {l : List α}, (∀ a ∈ l, (f a).length ≤ k) → (l.flatMap f).length ≤ l.length * k
  | [], _ => by simp
  | a :: l, h => by
    rw [List.flatMap_cons, List.length_append, List.length_cons, Nat.succ_mul]
    have h1 := h a List.mem_cons_self
    have h2 := flat_le (f := f) (l := l) fun y hy => h y (List.mem_cons_of_mem _ hy)
    omega
theorem unodes_len {N s : Int} {sp : Str → List Int} {D : Words} {St : Tab} (B : BF N D s sp) (G : StG D St) : (unodes D St).length ≤ 20000 := by
  have lw : (D.map (·.1)).length ≤ 2 := by rcases B.part.ws with e | e | e <;> rw [e] <;> decide
  have h1 : (unodes D St).length ≤ (St.map (·.1)).length * (2 * 288) := flat_le fun z _ => Nat.le_trans (flat_le (k := 288) fun w _ => Nat.le_trans (flat_le (k := 24) fun i _ => by rw [List.length_map, List.length_range]; exact Nat.le_refl _) (by rw [List.length_range]; decide)) (Nat.mul_le_mul_right _ lw)
  rw [List.length_map] at h1
  have := G.len
  omega
theorem good_u {D : Words} {sp : Str → List Int} {St : Tab} (h12 : ∀ x ∈ D.map (·.1), (sp x).length ≤ 12) (n : Node) (h : GoodN D sp St n) : n ∈ unodes D St := by
  obtain ⟨⟨h1, h2, h3, h4, h5⟩, h6⟩ := h
  have h7 := h12 _ h1
  obtain ⟨st, w, i, j⟩ := n
  refine List.mem_flatMap.mpr ⟨st, h6, List.mem_flatMap.mpr ⟨w, h1, List.mem_flatMap.mpr ⟨i.toNat, List.mem_range.mpr ?_, List.mem_map.mpr ⟨j.toNat, List.mem_range.mpr ?_, ?_⟩⟩⟩⟩
  · have h3 : i < ((sp w).length : Int) := h3
    have h2 : 0 ≤ i := h2
    have h7 : (sp w).length ≤ 12 := h7
    omega
  · have h3 : i < ((sp w).length : Int) := h3
    have h2 : 0 ≤ i := h2
    have h4 : i ≤ j := h4
    have h5 : j < i + ((sp w).length : Int) := h5
    have h7 : (sp w).length ≤ 12 := h7
    omega
  · have h2 : 0 ≤ i := h2
    have h4 : i ≤ j := h4
    rw [Nd.mk.injEq]
    exact ⟨rfl, rfl, by omega, by omega⟩
theorem mvs_find {N s : Int} {sp : Str → List Int} {D : Words} {St : Tab} {n : Node} {q : Str × List Rul} (nd : (St.map (·.1)).Nodup) (hq : q ∈ St) (e : q.1 = n.st) : mvsOf N D s sp St n = q.2.map fun r => ((r.1, r.2.1), behind N D s sp n r) := by
  have : St.find? (fun q => decide (q.1 = n.st)) = some q := by
    induction St with
    | nil => cases hq
    | cons a St ih =>
      rw [List.map_cons, List.nodup_cons] at nd
      rcases List.mem_cons.mp hq with rfl | hq
      · exact List.find?_cons_of_pos (by rw [decide_eq_true e])
      · rw [List.find?_cons_of_neg]
        · exact ih nd.2 hq
        · rw [decide_eq_true_eq]
          intro z
          exact nd.1 (by rw [z, ← e]; exact List.mem_map_of_mem hq)
  unfold mvsOf
  rw [this]
theorem mvs_good {N s : Int} {sp : Str → List Int} {D : Words} {St : Tab} (B : BF N D s sp) (G : StG D St) (n : Node) (h : GoodN D sp St n) : (mvsOf N D s sp St n).length ≤ 720 ∧ ∀ m ∈ mvsOf N D s sp St n, ∀ n', m.2 = some n' → GoodN D sp St n' := by
  obtain ⟨q, hq, e⟩ := List.mem_map.mp h.2
  rw [mvs_find G.nd hq e]
  refine ⟨by rw [List.length_map]; exact (G.rl q hq).1, fun m hm n' e' => ?_⟩
  obtain ⟨r, hr, rfl⟩ := List.mem_map.mp hm
  obtain ⟨r1, r2⟩ := (G.rl q hq).2 r hr
  have e' : (stepIJ s (liftW N D r.1) (sp n.w) (sp r.1) r.2.1 n.i n.j).map (fun p => (⟨r.2.2, r.1, p.1, p.2⟩ : Node)) = some n' := e'
  obtain ⟨p, hp, rfl⟩ := Option.map_eq_some_iff.mp e'
  exact ⟨⟨r1, (step_some (B.bd.spots _ h.1.1) (B.bd.spots _ r1) B.bd.pos (fun x k _ => B.bd.shift _ r1 x k) (B.bd.mono _ r1) (B.bd.idem _ r1) h.1.2 hp).1⟩, r2⟩
theorem stG {N s : Int} {D : Words} {St : Tab} {o : Option Tab} (h : StOk D s St o) (hL : ∀ Tb, o = some Tb → LetF N D Tb) : StG D St := by
  cases o with
  | none =>
    obtain ⟨rs, rfl, h1, h2, _⟩ := h
    refine ⟨by simp, by simp, fun q hq => ?_⟩
    rw [List.mem_singleton.mp hq]
    exact ⟨h1, fun r hr => ⟨((h2 r).mp hr).1, by rw [((h2 r).mp hr).2.2]; simp⟩⟩
  | some Tb =>
    cases h
    have F := hL _ rfl
    exact ⟨F.nd, F.len, fun q hq => ⟨Nat.le_trans (F.rl q hq).1 (by decide), fun r hr => ⟨((F.rl q hq).2 r hr).1, ((F.rl q hq).2 r hr).2.2⟩⟩⟩
theorem fsG {N s : Int} {D : Words} {St : Tab} {o : Option Tab} {fs : List Rul} (h : StOk D s St o) (hf : FsOk D fs o) (hL : ∀ Tb, o = some Tb → LetF N D Tb) : fs.length ≤ 8 ∧ ∀ r ∈ fs, r.1 ∈ D.map (·.1) ∧ r.2.2 ∈ St.map (·.1) := by
  cases o with
  | none =>
    obtain ⟨rs, rfl, h1, h2, _⟩ := h
    refine ⟨Nat.le_trans hf.1 (by decide), fun r hr => ⟨((hf.2.1 r).mp hr).1, by rw [((hf.2.1 r).mp hr).2.2]; simp⟩⟩
  | some Tb =>
    cases h
    obtain ⟨q, hq, _, rfl⟩ := hf
    have F := hL _ rfl
    exact ⟨(F.rl q hq).1, fun r hr => ⟨((F.rl q hq).2 r hr).1, ((F.rl q hq).2 r hr).2.2⟩⟩
theorem std_good {D : Words} {sp : Str → List Int} {St : Tab} {r : Rul} (h : r.1 ∈ D.map (·.1) ∧ r.2.2 ∈ St.map (·.1)) {p : Stt} (hp : p ∈ stdsOf sp r) : GoodN D sp St p.2.2 ∧ p.1 = r.1 := by
  obtain ⟨i, hi, rfl⟩ := List.mem_map.mp hp
  have hi := List.mem_range.mp hi
  refine ⟨⟨⟨h.1, ?_⟩, h.2⟩, rfl⟩
  show 0 ≤ (i : Int) ∧ (i : Int) < ((sp r.1).length : Int) ∧ (i : Int) ≤ (i : Int) + ((sp r.1).length : Int) - 1 ∧ (i : Int) + ((sp r.1).length : Int) - 1 < (i : Int) + ((sp r.1).length : Int)
  omega
theorem sts_len {D : Words} {sp : Str → List Int} {fs : List Rul} (h12 : ∀ x ∈ D.map (·.1), (sp x).length ≤ 12) (hf : fs.length ≤ 8 ∧ ∀ r ∈ fs, r.1 ∈ D.map (·.1)) : (stsOf sp fs).length ≤ 96 := by
  have := flat_le (f := stdsOf sp) (k := 12) (l := fs) fun r hr => by
    unfold stdsOf
    rw [List.length_map, List.length_range]
    exact h12 _ (hf.2 r hr)
  have := hf.1
  unfold stsOf
  omega
end JD
end Part_JD16b
section Part_JD16
set_option Elab.async false
set_option linter.all false
set_option maxRecDepth 100000
set_option maxHeartbeats 4000000
namespace JD
open PySem PySem.Spec PyProof.Rows L2 JR JX JT LamX
open Evl (Ex)
section
variable {P : Program} {w : World} {K : PySem.W.Frag} {mg : Str → Option Value} {base : Heap}
abbrev cf1 (st : Addr) : List (Str × V) := [("start", .ref st)]
abbrev cf2 (st d : Addr) : List (Str × V) := [("start", .ref st), ("table", .ref d)]
abbrev cf3 (st d fd : Addr) : List (Str × V) := [("start", .ref st), ("table", .ref d), ("far", .ref fd)]
theorem cf1_put (st : Addr) : putF "start" (.ref st) [] = cf1 st := by kernel_rfl
theorem cf2_put (st d : Addr) : putF "table" (.ref d) (cf1 st) = cf2 st d := by kernel_rfl
theorem cf3_put (st d fd : Addr) : putF "far" (.ref fd) (cf2 st d) = cf3 st d fd := by kernel_rfl
/-- all but x and the tables stay -/
def ButN (x : Addr) (H H' : Hp) : Prop := ∀ a o, a ≠ x → H a = some o → (∀ ps, o ≠ .tbl ps) → H' a = some o
theorem cd_of {qual : Str} {f : Addr} {oc ct dV kV doc pm cdv : Value} {od an : Option Addr} {osl : Array (Option Value)} {x : Str} {params : Arguments} {body : List Stmt} {scope : Scope} {p : He.Defn} (ef : f = He.fAd K p) (lk : K.lookup f = some ⟨oc, od, .func (PySem.W.fnOf x qual params body scope dV kV doc pm an cdv ct), osl⟩) (hcd : PySem.W.codeIn K cdv qual = true) : cdv = .ref (He.cT K p).1 := by
  cases cdv with
  | ref c =>
    rw [ef] at lk
    exact congrArg Value.ref (He.codeOf_eq lk rfl).symm
  | _ => cases hcd
theorem TabS.wx {H H' : Hp} {P : Addr} {q : Str} {f : Addr} {Ok : HO → Prop} {kv : List (List Key × V)} (t : TabS H P q) (hf : H f = some (.dT kv)) (e : Wx f Ok H H') : TabS H' P q := by
  obtain ⟨ps, h1, h2, h3⟩ := t
  refine ⟨ps, e.1 _ _ (ne_of h1 hf fun z => nomatch z) h1, h2, fun pos cv hc => ?_⟩
  obtain ⟨c, e1, e2⟩ := h3 pos cv hc
  exact ⟨c, e1, e.1 _ _ (ne_of e2 hf fun z => nomatch z) e2⟩
theorem adj_le {mvs : Node → List Mv} {n : Node} {k : Nat} (h : (mvs n).length ≤ k) : (adjOf mvs n).length ≤ k := by
  unfold adjOf
  split
  · exact Nat.zero_le _
  · exact Nat.le_trans (List.length_filterMap_le _ _) h
theorem cont_all (mvs : Node → List Mv) (ns : List Node) : contAt mvs ns ns.length = fun i => ((ns[i]?).map (adjOf mvs)).getD [] := by
  funext i
  unfold contAt
  by_cases h : i < ns.length
  · rw [if_pos h]
  · rw [if_neg h, List.getElem?_eq_none (by omega)]
    rfl
structure CutAt (K : PySem.W.Frag) (H : Hp) (x : Addr) (N : Int) (D : Words) (s : Int) (sp : Str → List Int) (o : Option Tab) (fs : List Rul) (St : Tab) (ns : List Node) (L : List (Node × Nat)) : Prop where
  at_ : ∃ dx st d fd xs vals, H x = some (.ins (cA K "CutSearch") dx (cf3 st d fd)) ∧ H st = some (.lst xs) ∧ Ls H encSt xs (stsOf sp fs) ∧ TbAt encAd H d ns vals (fun i => ((ns[i]?).map (adjOf (mvsOf N D s sp St))).getD []) ∧ H fd = some (.dT (farK L))
  fsok : FsOk D fs o
  stok : StOk D s St o
  fo : FarOk ns (adjOf (mvsOf N D s sp St)) L
  good : ∀ n ∈ ns, GoodN D sp St n
  start : ∀ p ∈ stsOf sp fs, p.2.2 ∈ ns
  next : ∀ n ∈ ns, ∀ m ∈ adjOf (mvsOf N D s sp St) n, m.2 ∈ ns
def sp_CutSearch_init (K : PySem.W.Frag) : Sp := fun vs H Q _ => ∃ (x dx pa : Addr) (v : V) (N : Int) (D : Words) (s : Int) (sp : Str → List Int) (o : Option Tab), vs = [.ref x, .ref pa, v] ∧ H x = some (.ins (cA K "CutSearch") dx []) ∧ PartAt K H pa N D ∧ BF N D s sp ∧ (∀ y ∈ D.map (·.1), (sp y).length ≤ 12) ∧
  LetV K H N v o ∧ (∀ Tb, o = some Tb → LetF N D Tb) ∧ Tabs (tabsJ K) H ∧
  ∀ H' fs St ns L, ButN x H H' → Tabs (tabsJ K) H' → CutAt K H' x N D s sp o fs St ns L → Q .non H'
abbrev N_CutSearch_init : List Str := ["self", "part", "let", "board", "steps", "word", "turn", "state", "stand", "first", "_"]
theorem sc_CutSearch_init : FnScope N_CutSearch_init ["self", "part", "let"] (defScope s_CutSearch_init) := ⟨rfl, rfl, rfl, by decide +kernel, rfl, by decide +kernel, by decide +kernel⟩
theorem ok_CutSearch_init (TB : TabB base mg (He.cT K lamAt).1 (He.cT K lamAt).2) (T : Txt K mg) : DefOk P w K mg base 9 (mA K "CutSearch" "__init__") ["self", "part", "let"] (sp_CutSearch_init K) := by
  obtain ⟨fd, F⟩ := T.d_CutSearch_init
  obtain ⟨fd_check_let, G_check_let, kp_check_let, b_check_let⟩ := ok_check_let (P := P) (w := w) (base := base) T
  obtain ⟨fd_Board_init, G_Board_init, kp_Board_init, b_Board_init⟩ := ok_Board_init (P := P) (w := w) (base := base) T
  obtain ⟨fd_steps_by_state, G_steps_by_state, kp_steps_by_state, b_steps_by_state⟩ := ok_steps_by_state (P := P) (w := w) (base := base) T
  obtain ⟨fd_distances, G_distances, kp_distances, b_distances⟩ := ok_distances (P := P) (w := w) (base := base) T
  obtain ⟨fd_stand_moves, G_stand_moves, kp_stand_moves, b_stand_moves⟩ := ok_stand_moves (P := P) (w := w) (base := base) T
  obtain ⟨fd_first_steps, G_first_steps, kp_first_steps, b_first_steps⟩ := ok_first_steps (P := P) (w := w) (base := base) T
  obtain ⟨fd_stands_of, G_stands_of, kp_stands_of, b_stands_of⟩ := ok_stands_of (P := P) (w := w) (base := base) T
  obtain ⟨oc, od, dV, kV, doc, pm, an, cdv, ct, osl, rfl, lk, hcd, _, _⟩ := id F.ex
  have ecd : cdv = .ref (He.cT K lamAt).1 := cd_of (p := lamAt) rfl lk hcd
  subst ecd
  refine ⟨_, fn_of lk hcd sc_CutSearch_init (fun vs H Q E h => ?_) (fun A outer s H vs Q E hr h => ?_), F.kp, F.bindsN fun _ _ _ _ _ _ us hl => match us, hl with | [_, _, _], _ => rfl⟩
  · obtain ⟨x, dx, pa, v, N, D, s, sp, o, rfl, hx, hA, B, h12, hv, hL, hT, k⟩ := h
    rfl
  have hu := hu_of hr
  have nd := sc_CutSearch_init.nd
  obtain ⟨x, dx, pa, v, N, D, s, sp, o, rfl, hx, hA, B, h12, hv, hL, hT, k⟩ := h
  refine ⟨_, (PSs.nox (pss_cons (ps_expr (pe_call G_check_let (hr.mono (by decide)) rfl T.g_check_let kp_check_let b_check_let .nil pass0 (pa_cons (pv 1) (pa_cons (pv 2) pa_nil))))
  (pss_cons (ps_set (i := 3) nd rfl (by first | exact Or.inl rfl | exact Or.inr rfl) (pe_make T.k_Board G_Board_init (hr.mono (by decide)) rfl T.g_Board b_Board_init .nil pass0 (pa_cons (pv 1) pa_nil)))
  (pss_cons (ps_set (i := 4) nd rfl (by first | exact Or.inl rfl | exact Or.inr rfl) (pe_call G_steps_by_state (hr.mono (by decide)) rfl T.g_steps_by_state kp_steps_by_state b_steps_by_state .nil pass0 (pa_cons (pv 3) (pa_cons (pv 2) pa_nil))))
  (pss_cons (ps_fld (pv 0) (pe_lst pa_nil) rfl)
  (pss_cons (ps_for PassesOwn.never rfl (pi_listK K (pe_call G_first_steps (hr.mono (by decide)) rfl T.g_first_steps kp_first_steps b_first_steps .nil pass0 (pa_cons (pv 3) (pa_cons (pv 2) pa_nil)))) (pg_tup rfl (pgs_cons (pg_name (i := 5) nd rfl (by first | exact Or.inl rfl | exact Or.inr rfl)) (pgs_cons (pg_name (i := 6) nd rfl (by first | exact Or.inl rfl | exact Or.inr rfl)) (pgs_cons (pg_name (i := 7) nd rfl (by first | exact Or.inl rfl | exact Or.inr rfl)) pgs_nil)))) (pss_one (ps_for PassesOwn.never rfl (pi_listK K (pe_call G_stands_of (hr.mono (by decide)) rfl T.g_stands_of kp_stands_of b_stands_of .nil pass0 (pa_cons (pv 3) (pa_cons (pv 5) (pa_cons (pv 7) pa_nil))))) (pg_name (i := 8) nd rfl (by first | exact Or.inl rfl | exact Or.inr rfl)) (pss_one (ps_expr (pe_bm PySem.F.plainAttrs_list PySem.F.slot_list_append PySem.F.type_list_append mt_append (pe_fldK K (pv 0) rfl) (pa_cons (pe_tup (pa_cons (pv 5) (pa_cons (pv 6) (pa_cons (pv 8) pa_nil)))) pa_nil)))))))
  (pss_cons (ps_setLc (i := 9) (own := [("_", 10), ("stand", 8)]) (g := (gTup K 3 (gCons (gName 10) (gCons (gName 10) (gCons (gName 8) gNil))))) (tt := tYes) rfl nd rfl rfl (sw_true rfl rfl rfl (by decide +kernel)) (pi_listK K (pe_fldK K (pv 0) rfl)) (blkOk_by (N := N_CutSearch_init) (sc := defScope s_CutSearch_init) (by decide +kernel)) (fun _ _ _ _ _ => (pg_tup rfl (pgs_cons (pg_name (i := 10) nd rfl (by first | exact Or.inl rfl | exact Or.inr rfl)) (pgs_cons (pg_name (i := 10) nd rfl (by first | exact Or.inl rfl | exact Or.inr rfl)) (pgs_cons (pg_name (i := 8) nd rfl (by first | exact Or.inl rfl | exact Or.inr rfl)) pgs_nil))))) (fun _ _ _ _ _ => pts_nil) (fun _ _ _ _ _ => (pv 8)))
  (pss_cons (ps_fld (pv 0) (pe_explored (j := 8) (pa := "stand") T rfl rfl (pv 9) TB rfl rfl hr (by decide) (lam1_by (sc := defScope s_CutSearch_init) (by decide +kernel)) rfl (fun _ _ _ _ _ _ => rfl) nd rfl fun _ _ _ _ _ _ hr2 => (pe_call G_stand_moves (hr2.mono (by decide)) rfl T.g_stand_moves kp_stand_moves b_stand_moves .nil pass0 (pa_cons (pv 3) (pa_cons (pv 4) (pa_cons (pv 8) pa_nil))))) rfl)
  (pss_one (ps_fld (pv 0) (pe_call G_distances (hr.mono (by decide)) rfl T.g_distances kp_distances b_distances .nil pass0 (pa_cons (pe_fldK K (pv 0) rfl) (pa_cons (pe_glob (v := .ref (He.ga K "is_closed")) rfl T.g_is_closed rfl) pa_nil))) rfl)))))))))), ?_⟩
  refine ⟨_, rfl, _, rfl, pa, v, N, D, o, rfl, hA, B.part, hv, hL, fun H1 e1 => ?_⟩
  refine ⟨_, rfl, fun b dxb hb hdxb ndb => ?_⟩
  have nbd : b ≠ dxb := fun z => ndb z.symm
  have eB : Ex H1 (upd (upd H1 dxb (.own b)) b (.ins (cA K "Board") dxb [])) := (ex_new hdxb).trans (ex_new ((upd_ne nbd).trans hb))
  refine ⟨b, dxb, pa, N, D, s, sp, rfl, upd_same, hA.keep (e1.trans eB), B, fun H2 f bt hf BA => ⟨rfl, ?_⟩⟩
  have e12 : Ex H1 H2 := fun a u h => bt a u (ne_of_none h hb) (eB _ _ h)
  have e02 := e1.trans e12
  have hf0 : H f = none := Evl.fresh_back (e1.trans eB) hf
  refine ⟨_, rfl, _, rfl, b, f, N, D, s, sp, v, o, rfl, BA, B, hv.keep e02, hL, fun H3 d St e23 TA SO => ?_⟩
  have e03 := e02.trans e23
  have hx3 := e03 _ _ hx
  have BA3 : BoardAt K H3 b f N D s sp := BA.keep (Wx.ex e23)
  have SG := stG SO hL
  -- self.start = []
  refine ⟨Nat.zero_le _, fun st hst => ?_⟩
  have nsx : st ≠ x := fun z => by rw [z, hx3] at hst; cases hst
  refine ⟨_, rfl, x, _, dx, _, rfl, (upd_ne nsx.symm).trans hx3, T.c_CutSearch, T.n_CutSearch_start, by decide, ?_⟩
  rw [cf1_put]
  obtain ⟨G, eG⟩ : ∃ G, G = upd H3 x (.ins (cA K "CutSearch") dx (cf1 st)) := ⟨_, rfl⟩
  have b3G : But x H3 G := by rw [eG]; exact (But.refl x H3).put
  have nkG : Nk H3 G := Nk.but hx3 b3G
  have hGx : G x = some (.ins (cA K "CutSearch") dx (cf1 st)) := by rw [eG]; exact upd_same
  have hGst : G st = none := by rw [eG, upd_ne nsx]; exact hst
  obtain ⟨H4, eH4⟩ : ∃ H4, H4 = upd (upd H3 st (.lst [])) x (.ins (cA K "CutSearch") dx (cf1 st)) := ⟨_, rfl⟩
  have eG4 : Ex G H4 := fun a u h => by
    by_cases ax : a = x
    · rw [ax, hGx] at h
      rw [ax, eH4, upd_same, h]
    · have as' : a ≠ st := fun z => by rw [z, hGst] at h; cases h
      rw [eG, upd_ne ax] at h
      rw [eH4, upd_ne ax, upd_ne as']
      exact h
  have h4st : H4 st = some (.lst []) := by rw [eH4, upd_ne nsx, upd_same]
  rw [← eH4]
  have BAG : BoardAt K G b f N D s sp := BA3.nk nkG
  have hvG : LetV K G N v o := (hv.keep e03).nk nkG
  have TAG : TabAt G d St := TA.nk nkG
  -- the first steps
  refine ⟨_, rfl, _, rfl, b, f, N, D, s, sp, v, o, rfl, BAG.keep (Wx.ex eG4), B, hvG.keep eG4, hL, fun H5 p xs fs e45 hp hl FO => ?_⟩
  have eG5 := eG4.trans e45
  have FG := fsG SO FO hL
  have lf := hl.len
  refine ⟨p, rfl, ⟨_, SqL.of hp⟩, ?_⟩
  refine for_it (walk_list (xs := xs)) (fun i σ H' => Ex G H' ∧ H' p = some (.lst xs) ∧ Ls H' encRul xs fs ∧ (∃ y5 y6 y7 y8, σ = [some (.ref x), some (.ref pa), some v, some (.ref b), some (.ref d), y5, y6, y7, y8, none, none]) ∧ ∃ zs, H' st = some (.lst zs) ∧ Ls H' encSt zs (stsOf sp (fs.take i)))
    ⟨eG5, hp, hl, ⟨none, none, none, none, rfl⟩, [], e45 _ _ h4st, .nil⟩ (fun i σ H' _ ⟨_, h, _⟩ => SqL.of h) ?_ ?_
  · rintro i y σ F F' hi ⟨eF, hpF, hlF, ⟨y5, y6, y7, y8, rfl⟩, zs, hzs, hlz⟩ ⟨rfl, hy⟩
    obtain ⟨r, hr, ir⟩ := hlF.get hy
    obtain ⟨a, rfl, ha⟩ := rul_get ir
    have rm := FG.2 r (List.mem_of_getElem? hr)
    have r12 := h12 r.1 rm.1
    have tk : fs.take (i + 1) = fs.take i ++ [r] := by rw [List.take_add_one, hr]; rfl
    have lz : (stsOf sp (fs.take i)).length ≤ 96 := sts_len h12 ⟨by rw [List.length_take]; omega, fun r hr => (FG.2 r (List.mem_of_mem_take hr)).1⟩
    refine ⟨a, _, rfl, SqT.of ha, rfl, _, _, rfl, _, _, rfl, _, _, rfl, rfl, ?_⟩
    refine ⟨_, rfl, _, rfl, _, rfl, b, f, N, D, s, sp, r.1, r.2.2, rfl, BAG.keep (Wx.ex eF), B, rm.1, by omega, fun F1 q ws eF1 hq hlw => ?_⟩
    refine ⟨q, rfl, ⟨_, SqL.of hq⟩, ?_⟩
    have lw := hlw.len
    rw [List.length_map, List.length_range] at lw
    have eG1 := eF.trans eF1
    refine for_it (walk_list (xs := ws)) (fun j σ H' => Ex G H' ∧ H' p = some (.lst xs) ∧ Ls H' encRul xs fs ∧ H' q = some (.lst ws) ∧ Ls H' encNd ws ((List.range (sp r.1).length).map fun i : Nat => (⟨r.2.2, r.1, (i : Int), (i : Int) + ((sp r.1).length : Int) - 1⟩ : Node)) ∧ (∃ y8, σ = [some (.ref x), some (.ref pa), some v, some (.ref b), some (.ref d), some (.str r.1), some (.int r.2.1), some (.str r.2.2), y8, none, none]) ∧ ∃ zs, H' st = some (.lst zs) ∧ Ls H' encSt zs (stsOf sp (fs.take i) ++ (stdsOf sp r).take j))
      ⟨eG1, eF1 _ _ hpF, hlF.keep (Tups.of eF1), hq, hlw, ⟨_, rfl⟩, zs, eF1 _ _ hzs, by rw [List.take_zero, List.append_nil]; exact hlz.keep (Tups.of eF1)⟩ (fun i σ H' _ ⟨_, _, _, h, _⟩ => SqL.of h) ?_ ?_
    · rintro j y σ F2 F2' hj ⟨eF2, hp2, hl2, hq2, hlq2, ⟨y8, rfl⟩, zs2, hzs2, hlz2⟩ ⟨rfl, hy2⟩
      obtain ⟨n, hn, imn⟩ := hlq2.get hy2
      rw [List.getElem?_map] at hn
      obtain ⟨i', hi', rfl⟩ := Option.map_eq_some_iff.mp hn
      have hi2 : i' = j := by
        have := (List.getElem?_eq_some_iff.mp hi').2
        rw [List.getElem_range] at this
        exact this.symm
      subst hi2
      have l2 := hlz2.len
      rw [List.length_append, List.length_take] at l2
      have ls : (stdsOf sp r).length ≤ 12 := by unfold stdsOf; rw [List.length_map, List.length_range]; exact r12
      obtain ⟨c, rfl, hc⟩ := nd_get imn
      refine ⟨_, rfl, x, _, dx, _, .ref st, rfl, eF2 _ _ hGx, T.c_CutSearch, T.n_CutSearch_start, by kernel_rfl, .inl ⟨rfl, _, SqL.of hzs2⟩, _, rfl, _, rfl, _, rfl, (by show 3 ≤ sizeLine; decide), fun t ht => ⟨st, zs2, _, rfl, rfl, ex_new ht _ _ hzs2, Evl.sz_lt (by omega), ?_⟩⟩
      have eT : Ex F2' (upd F2' t (.tup [.str r.1, .int r.2.1, .ref c])) := ex_new ht
      have hst5 := eT _ _ hzs2
      have tT := (Tups.of eT).trans (Tups.mut (o := .lst (zs2 ++ [.ref t])) hst5 fun _ z => nomatch z)
      have npt : p ≠ st := fun z => by
        have h1 := e45 _ _ h4st
        rw [← z, hp] at h1
        cases h1
        exact absurd hi (Nat.not_lt_zero _)
      have nqt : q ≠ st := fun z => by
        have h1 := eF1 _ _ hzs
        rw [← z, hq] at h1
        have h2 := Option.some.inj h1
        injection h2 with h2
        rw [← h2] at hlz
        obtain ⟨v0, hv0⟩ : ∃ v0, ws[i']? = some v0 := ⟨_, hy2⟩
        obtain ⟨n1, _, g1⟩ := hlw.get hv0
        obtain ⟨n2, _, g2⟩ := (hlz.keep (Tups.of eF1)).get hv0
        obtain ⟨a1, r1, q1⟩ := nd_get g1
        obtain ⟨a2, c2, r2, q2, _⟩ := st_get g2
        rw [r1] at r2
        cases r2
        rw [q1] at q2
        have q3 := Option.some.inj q2
        injection q3 with q3
        have q4 : 4 = 3 := congrArg List.length q3
        exact absurd q4 (by decide)
      refine ⟨Evl.Ex.mut (eF2.trans eT) hGst, (upd_ne npt).trans (eT _ _ hp2), hl2.keep tT, (upd_ne nqt).trans (eT _ _ hq2), hlq2.keep tT, ⟨_, rfl⟩, _, upd_same, ?_⟩
      have e3 : (stdsOf sp r).take (i' + 1) = (stdsOf sp r).take i' ++ [(r.1, r.2.1, (⟨r.2.2, r.1, (i' : Int), (i' : Int) + ((sp r.1).length : Int) - 1⟩ : Node))] := by
        rw [List.take_add_one]
        unfold stdsOf
        rw [List.getElem?_map, hi']
        rfl
      rw [e3, ← List.append_assoc]
      refine (hlz2.keep tT).snoc ?_
      have tm : Tups (upd F2' t (.tup [.str r.1, .int r.2.1, .ref c])) _ := Tups.mut (o := .lst (zs2 ++ [.ref t])) hst5 fun _ z => nomatch z
      exact Im.keep tm ⟨t, _, rfl, upd_same, _, _, rfl, rfl, _, _, rfl, rfl, _, _, rfl, nd_of (n := ⟨r.2.2, r.1, (i' : Int), (i' : Int) + ((sp r.1).length : Int) - 1⟩) (eT _ _ hc), rfl⟩
    · rintro σ F2 ⟨eF2, hp2, hl2, hq2, hlq2, ⟨y8, rfl⟩, zs2, hzs2, hlz2⟩
      refine ⟨eF2, hp2, hl2, ⟨_, _, _, _, rfl⟩, zs2, hzs2, ?_⟩
      have e1 : stsOf sp (fs.take (i + 1)) = stsOf sp (fs.take i) ++ stdsOf sp r := by
        rw [tk]
        unfold stsOf
        rw [List.flatMap_append]
        congr 1
        exact List.append_nil _
      have e2 : (stdsOf sp r).take ws.length = stdsOf sp r := List.take_of_length_le (by unfold stdsOf; rw [List.length_map, List.length_range]; omega)
      rw [e2] at hlz2
      rw [e1]
      exact hlz2
  rintro σ H6 ⟨eG6, hp6, hl6, ⟨y5, y6, y7, y8, rfl⟩, zs, hzs, hlz⟩
  rw [lf, List.take_length] at hlz
  have lz : (stsOf sp fs).length ≤ 96 := sts_len h12 ⟨FG.1, fun r hr => (FG.2 r hr).1⟩
  have llz := hlz.len
  -- first
  refine ⟨_, rfl, x, _, dx, _, _, rfl, eG6 _ _ hGx, T.c_CutSearch, T.n_CutSearch_start, by kernel_rfl, st, rfl, ⟨_, SqL.of hzs⟩, fun D7 hD7 => ?_⟩
  refine lc_ls (enc := encNd) relEx walk_list (fun i => ((stsOf sp fs)[i]?).map (·.2.2)) hD7 True.intro (Evl.sz_lt (by omega)) (fun H2 e2 _ => SqL.of (e2 _ _ hzs)) ?_ ?_
  · rintro i y F F' hi e7 t7 ⟨rfl, hy⟩ Go Sk go sk
    obtain ⟨q, hq, iq⟩ := (hlz.keep t7).get hy
    obtain ⟨a, c, rfl, ha, hc⟩ := st_get iq
    exact ⟨a, _, rfl, SqT.of ha, rfl, _, _, rfl, _, _, rfl, _, _, rfl, rfl, rfl, yes_go ⟨_, rfl, go q.2.2 _ _ (by rw [hq]; rfl) (Ex.refl _) (Tups.refl _) (nd_of hc)⟩⟩
  intro H7 ys e67 t67 hD7' hy7
  rw [fm_map _ llz] at hy7
  have eG7 := eG6.trans e67
  have T7 : Tabs (tabsJ K) H7 := (Tabs.but (hT.ext e03) hx3 b3G).ext eG7
  -- self.table
  refine ⟨D7, rfl, T7, fun H8 eN T8 => ?_⟩
  have nk8 : Nk H7 H8 := Nk.extN eN
  have BA8 : BoardAt K H8 b f N D s sp := (BAG.keep (Wx.ex eG7)).nk nk8
  obtain ⟨kf, hf8⟩ := BA8.dT
  have TA8 : TabAt H8 d St := (TAG.keep eG7).nk nk8
  have hD8 := nk8 _ _ hD7' True.intro
  refine ⟨f, FkW N D s sp, mvsOf N D s sp St, GoodN D sp St, unodes D St, (stsOf sp fs).map (·.2.2), ys, BA8.2, fun o ho => ?_, hD8, hy7.keep nk8.tups, fun n hn => ?_, good_u h12, unodes_len B SG, mvs_good B SG, fun vv n H9 Q9 w9 imn gn k9 => ?_, fun H9 d9 wl ns vals w89 XA hfs hgood hnext hd9 => ?_⟩
  · obtain ⟨kv, rfl, _⟩ := ho
    exact ⟨kv, rfl⟩
  · obtain ⟨q, hq, rfl⟩ := List.mem_map.mp hn
    obtain ⟨r, hr, hq⟩ := List.mem_flatMap.mp hq
    exact (std_good (FG.2 r hr) hq).1
  · obtain ⟨q, hq, eq⟩ := List.mem_map.mp gn.2
    have w9t : TabAt H9 d St := by
      obtain ⟨kvs, g1, g2⟩ := TA8
      have tp := w9.tups hf8 fun _ z => nomatch z
      exact ⟨kvs, w9.1 _ _ (ne_of g1 hf8 fun z => nomatch z) g1, tab_keep g2 tp fun r xs h => w9.1 _ _ (ne_of h hf8 fun z => nomatch z) h⟩
    refine ⟨_, rfl, _, rfl, _, rfl, b, f, d, N, D, s, sp, vv, n, St, q, rfl, BA8.keep w9, B, w9t, SG.nd, hq, eq, (SG.rl q hq).1, fun r hr => ((SG.rl q hq).2 r hr).1, imn, gn.1.1, fun H10 p' xs' w10 hp0 hp' hl' => ?_⟩
    refine k9 H10 p' xs' w10 hp0 hp' ?_
    rw [mvs_find SG.nd hq eq]
    exact hl'
  have hx8 := eN _ _ (eG7 _ _ hGx) (fun _ z => nomatch z)
  have nxf : x ≠ f := ne_of hx8 hf8 fun z => nomatch z
  have hx9 := w89.1 _ _ nxf hx8
  have t89 : Tups H8 H9 := w89.tups hf8 fun _ z => nomatch z
  refine ⟨_, rfl, x, _, dx, _, rfl, hx9, T.c_CutSearch, T.n_CutSearch_table, (by show 1 < 1000; decide), ?_⟩
  rw [cf2_put]
  obtain ⟨H10, eH10⟩ : ∃ H10, H10 = upd H9 x (.ins (cA K "CutSearch") dx (cf2 st d9)) := ⟨_, rfl⟩
  have b910 : But x H9 H10 := by rw [eH10]; exact (But.refl x H9).put
  have hx10 : H10 x = some (.ins (cA K "CutSearch") dx (cf2 st d9)) := by rw [eH10]; exact upd_same
  have t910 : Tups H9 H10 := by rw [eH10]; exact Tups.mut hx9 fun _ z => nomatch z
  rw [← eH10]
  have X9 : TbAt encAd H9 d9 ns vals (fun i => ((ns[i]?).map (adjOf (mvsOf N D s sp St))).getD []) := ⟨XA.tab, XA.len, XA.nd, XA.vnd, fun i r hi => by
    have := XA.lst i r hi
    rw [cont_all] at this
    exact this⟩
  have kx : ∀ {Ha Hb : Hp} {ff : List (Str × V)}, Ha x = some (.ins (cA K "CutSearch") dx ff) → But x Ha Hb → Tups Ha Hb → TbAt encAd Ha d9 ns vals (fun i => ((ns[i]?).map (adjOf (mvsOf N D s sp St))).getD []) → TbAt encAd Hb d9 ns vals (fun i => ((ns[i]?).map (adjOf (mvsOf N D s sp St))).getD []) := fun {Ha Hb ff} hxa bab tab Xa => by
    refine Xa.keep (fun a u ha h => bab _ _ (fun z => ?_) h) tab
    rcases ha with rfl | ha
    · exact absurd z (ne_of Xa.tab hxa fun z => nomatch z)
    · obtain ⟨i, hi⟩ := List.getElem?_of_mem ha
      obtain ⟨xs', g, _⟩ := Xa.lst i a hi
      exact absurd z (ne_of g hxa fun z => nomatch z)
  have X10 := kx hx9 b910 t910 X9
  have nl : ns.length ≤ 20000 := Nat.le_trans (nodup_le X9.nd fun n hn => good_u h12 n (hgood n hn)) (unodes_len B SG)
  refine ⟨_, rfl, x, _, dx, _, _, rfl, hx10, T.c_CutSearch, T.n_CutSearch_table, by kernel_rfl, d9, ns, vals, adjOf (mvsOf N D s sp St), rfl, X10, fun n hn => ⟨adj_le (mvs_good B SG n (hgood n hn)).1, hnext n hn⟩, nl, fun H11 fd L e11 hfd FO2 => ?_⟩
  have hx11 := e11 _ _ hx10
  refine ⟨_, rfl, x, _, dx, _, rfl, hx11, T.c_CutSearch, T.n_CutSearch_far, (by show 2 < 1000; decide), ?_⟩
  rw [cf3_put]
  obtain ⟨H12, eH12⟩ : ∃ H12, H12 = upd H11 x (.ins (cA K "CutSearch") dx (cf3 st d9 fd)) := ⟨_, rfl⟩
  have b12 : But x H11 H12 := by rw [eH12]; exact (But.refl x H11).put
  have t12 : Tups H11 H12 := by rw [eH12]; exact Tups.mut hx11 fun _ z => nomatch z
  rw [← eH12]
  have nfn : ∀ {a : Addr} {u : HO}, H8 a = some u → (∀ z, u ≠ .dT z) → H9 a = some u := fun {a u} h n => w89.1 _ _ (ne_of h hf8 fun z => n _ z) h
  have toH12 : ∀ {a : Addr} {u : HO}, H9 a = some u → a ≠ x → H12 a = some u := fun {a u} h n => b12 _ _ n (e11 _ _ (b910 _ _ n h))
  refine k H12 fs St ns L (fun a u ax ha nt => ?_) ?_ ⟨⟨dx, st, d9, fd, zs, vals, ?_, ?_, ?_, ?_, ?_⟩, FO, SO, FO2, hgood, fun q hq => ?_, hnext⟩
  · have h3 := e03 _ _ ha
    have hG := b3G _ _ ax h3
    have h8 := eN _ _ (eG7 _ _ hG) nt
    exact toH12 (w89.1 _ _ (ne_of_none ha hf0) h8) ax
  · exact Tabs.but ((Tabs.but (fun q hq => TabS.wx (T8 q hq) hf8 w89) hx9 b910).ext e11) hx11 b12
  · rw [eH12]; exact upd_same
  · exact toH12 (nfn (nk8 _ _ (e67 _ _ hzs) True.intro) fun _ z => nomatch z) nsx
  · exact hlz.keep ((((((Tups.of e67).trans nk8.tups).trans t89).trans t910).trans (Tups.of e11)).trans t12)
  · exact kx hx11 b12 t12 (X10.keep (fun a u _ h => e11 _ _ h) (Tups.of e11))
  · exact b12 _ _ (ne_of hfd hx11 fun z => nomatch z) hfd
  · exact hfs _ (List.mem_map_of_mem hq)
end
end JD
end Part_JD16
section Part_JD17a
set_option Elab.async false
set_option linter.all false
set_option maxRecDepth 100000
set_option maxHeartbeats 4000000
namespace JD
open PySem PySem.Spec PyProof.Rows L2 JR JX JT LamX
open Evl (Ex)
structure CutG (N : Int) (D : Words) (s : Int) (sp : Str → List Int) (o : Option Tab) (fs : List Rul) (St : Tab) (ns : List Node) (L : List (Node × Nat)) : Prop where
  fsok : FsOk D fs o
  stok : StOk D s St o
  fo : FarOk ns (adjOf (mvsOf N D s sp St)) L
  good : ∀ n ∈ ns, GoodN D sp St n
  start : ∀ p ∈ stsOf sp fs, p.2.2 ∈ ns
  next : ∀ n ∈ ns, ∀ m ∈ adjOf (mvsOf N D s sp St) n, m.2 ∈ ns
theorem CutAt.g {K : PySem.W.Frag} {H : Hp} {x : Addr} {N : Int} {D : Words} {s : Int} {sp : Str → List Int} {o : Option Tab} {fs : List Rul} {St : Tab} {ns : List Node} {L : List (Node × Nat)} (h : CutAt K H x N D s sp o fs St ns L) : CutG N D s sp o fs St ns L := ⟨h.fsok, h.stok, h.fo, h.good, h.start, h.next⟩
/-- no rule twice -/
def LetN (o : Option Tab) : Prop := ∀ Tb, o = some Tb → ∀ q ∈ Tb, (q.2.map fun r => ((r.1, r.2.1) : Deed)).Nodup
abbrev modOf (N s : Int) : Option Tab → Int
  | none => s
  | some _ => N
section
variable {N s : Int} {D : Words} {sp : Str → List Int} {o : Option Tab} {fs : List Rul} {St : Tab} {ns : List Node} {L : List (Node × Nat)}
theorem isW_of (B : BF N D s sp) {x : Str} (h : x ∈ D.map (·.1)) : IsW x := by
  rcases B.part.ws with e | e | e <;> rw [e] at h <;> simp at h
  · exact .inl h
  · exact .inr h
  · exact h
theorem stN (h : StOk D s St o) (hN : LetN o) : ∀ q ∈ St, (q.2.map fun r => ((r.1, r.2.1) : Deed)).Nodup := by
  cases o with
  | none =>
    obtain ⟨rs, rfl, _, _, nd⟩ := h
    intro q hq
    rw [List.mem_singleton.mp hq]
    exact nd
  | some Tb =>
    cases h
    exact hN _ rfl
theorem stB (h : StOk D s St o) (hL : ∀ Tb, o = some Tb → LetF N D Tb) : ∀ q ∈ St, ∀ r ∈ q.2, 0 ≤ r.2.1 ∧ r.2.1 < modOf N s o := by
  cases o with
  | none =>
    obtain ⟨rs, rfl, _, h2, _⟩ := h
    intro q hq r hr
    rw [List.mem_singleton.mp hq] at hr
    exact ((h2 r).mp hr).2.1
  | some Tb =>
    cases h
    exact fun q hq r hr => (((hL _ rfl).rl q hq).2 r hr).2.1
theorem fsN (h : FsOk D fs o) (hN : LetN o) : (fs.map fun r => ((r.1, r.2.1) : Deed)).Nodup := by
  cases o with
  | none => exact List.pairwise_map.mpr ((List.pairwise_map.mp h.2.2).imp fun {x y} h e => h (by rw [Prod.mk.injEq] at e; exact e.1))
  | some Tb =>
    obtain ⟨q, hq, _, rfl⟩ := h
    exact hN _ rfl q hq
theorem adj_fst (mvs : Node → List Mv) (n : Node) : ((adjOf mvs n).map (·.1)).Sublist ((mvs n).map (·.1)) := by
  unfold adjOf
  split
  · exact List.nil_sublist _
  · induction mvs n with
    | nil => exact List.Sublist.refl _
    | cons m l ih =>
      rw [List.filterMap_cons, List.map_cons]
      cases m.2 with
      | none => exact ih.cons _
      | some n' => exact ih.cons₂ _
theorem adj_ok (B : BF N D s sp) (hL : ∀ Tb, o = some Tb → LetF N D Tb) (hN : LetN o) (C : CutG N D s sp o fs St ns L) : ∀ n ∈ ns, (adjOf (mvsOf N D s sp St) n).length ≤ 720 ∧ ((adjOf (mvsOf N D s sp St) n).map (·.1)).Nodup ∧ ∀ m ∈ adjOf (mvsOf N D s sp St) n, (0 ≤ m.1.2 ∧ m.1.2 < modOf N s o) ∧ IsW m.1.1 ∧ m.2 ∈ ns := by
  intro n hn
  have SG := stG C.stok hL
  have gn := C.good n hn
  obtain ⟨q, hq, eq⟩ := List.mem_map.mp gn.2
  have em := mvs_find (N := N) (s := s) (sp := sp) (D := D) SG.nd hq eq
  refine ⟨adj_le (mvs_good B SG n gn).1, ?_, fun m hm => ?_⟩
  · refine List.Nodup.sublist (adj_fst _ _) ?_
    rw [em, List.map_map]
    exact stN C.stok hN q hq
  · have h1 : m.1 ∈ (mvsOf N D s sp St n).map (·.1) := (adj_fst _ _).subset (List.mem_map_of_mem hm)
    rw [em, List.map_map] at h1
    obtain ⟨r, hr, e⟩ := List.mem_map.mp h1
    have e : ((r.1, r.2.1) : Deed) = m.1 := e
    rw [← e]
    exact ⟨stB C.stok hL q hq r hr, isW_of B ((SG.rl q hq).2 r hr).1, C.next n hn m hm⟩
theorem std_deed (r : Rul) : (stdsOf sp r).map (fun p => ((p.1, p.2.1) : Deed)) = (List.range (sp r.1).length).map fun _ => ((r.1, r.2.1) : Deed) := by
  unfold stdsOf
  rw [List.map_map]
  rfl
theorem mul0 {dd : Deed} : ∀ {fs : List Rul}, (∀ r ∈ fs, ((r.1, r.2.1) : Deed) ≠ dd) → (((stsOf sp fs).map fun p => ((p.1, p.2.1) : Deed)).filter fun x => decide (x = dd)) = []
  | [], _ => rfl
  | a :: fs, h => by
    unfold stsOf
    rw [List.flatMap_cons, List.map_append, List.filter_append, std_deed]
    have h2 := mul0 (fs := fs) fun r hr => h r (List.mem_cons_of_mem _ hr)
    unfold stsOf at h2
    rw [h2, List.append_nil, List.filter_eq_nil_iff]
    intro x hx
    obtain ⟨_, _, rfl⟩ := List.mem_map.mp hx
    rw [decide_eq_true_eq]
    exact h a List.mem_cons_self
theorem mul12 {dd : Deed} : ∀ {fs : List Rul}, (∀ r ∈ fs, (sp r.1).length ≤ 12) → (fs.map fun r => ((r.1, r.2.1) : Deed)).Nodup → (((stsOf sp fs).map fun p => ((p.1, p.2.1) : Deed)).filter fun x => decide (x = dd)).length ≤ 12
  | [], _, _ => Nat.zero_le _
  | a :: fs, h12, nd => by
    rw [List.map_cons, List.nodup_cons] at nd
    unfold stsOf
    rw [List.flatMap_cons, List.map_append, List.filter_append, List.length_append, std_deed]
    by_cases e : ((a.1, a.2.1) : Deed) = dd
    · have h2 := mul0 (sp := sp) (dd := dd) (fs := fs) fun r hr z => nd.1 (by rw [e, ← z]; exact List.mem_map_of_mem hr)
      unfold stsOf at h2
      rw [h2]
      refine Nat.le_trans (Nat.add_le_add_right (List.length_filter_le _ _) _) ?_
      rw [List.length_map, List.length_range]
      exact h12 a List.mem_cons_self
    · have h2 := mul12 (dd := dd) (fs := fs) (fun r hr => h12 r (List.mem_cons_of_mem _ hr)) nd.2
      unfold stsOf at h2
      have h3 : ((List.range (sp a.1).length).map fun _ => ((a.1, a.2.1) : Deed)).filter (fun x => decide (x = dd)) = [] := by
        rw [List.filter_eq_nil_iff]
        intro x hx
        obtain ⟨_, _, rfl⟩ := List.mem_map.mp hx
        rw [decide_eq_true_eq]
        exact e
      rw [h3]
      rw [List.length_nil, Nat.zero_add]
      exact h2
theorem sts_ok (B : BF N D s sp) (hL : ∀ Tb, o = some Tb → LetF N D Tb) (C : CutG N D s sp o fs St ns L) : ∀ p ∈ stsOf sp fs, IsW p.1 ∧ p.2.2 ∈ ns := by
  intro p hp
  obtain ⟨r, hr, hp2⟩ := List.mem_flatMap.mp hp
  have FG := fsG C.stok C.fsok hL
  refine ⟨?_, C.start p hp⟩
  rw [(std_good (FG.2 r hr) hp2).2]
  exact isW_of B (FG.2 r hr).1
end
/-- f(k = v, ..) -/
theorem pe_callN0 {X : Cx} {CX : CXT} {k : Nat} {f : Addr} {fd : FuncData} {ps ks : List Str} {sp : Sp} {E : XK} {x : Str} {p pos : Pos} {kws : List Keyword} {tk : TA} {g : List Value → List Value → List Value} {gV : List V → List V → List V}
    (F : FnOk X.prog X.w X.K X.mg X.base CX k f fd ps sp) (hr : Room k X.A) (hg : Gl X x) (hm : X.mg x = some (.ref f)) (hk : PySem.W.keepIn X.K (.ref f) = true) (hb : KBn X.K fd ps 0 ks g gV) (hx : Passes CX X E) (hkw : PK X kws tk)
    (hall : (backToKw pos (keywordEach kws X.env)).all (·.1.isSome) = true := by rfl) (hks : (backToKw pos (keywordEach kws X.env)).filterMap (·.1) = ks := by rfl) (hdb : (x == ("__debug__" : Str)) = false := by decide)
    (hpl : ((backTo pos (starEach [] X.env)).any (·.1) || (backToKw pos (keywordEach kws X.env)).any (·.1.isNone)) = false := by rfl) :
    PE X (.Call (.Name x p) [] kws pos) (fun σ H Q => tk σ H fun zs H2 => zs.length = ks.length ∧ sp (gV [] zs) H2 Q E) := by
  refine ⟨fun pins s σ H Q I h => ?_⟩
  refine wpAny_Call_Name_kw (ld_glob I hg hm ?_ hdb)
  refine PySem.W.callWith_KW0 (h₀ := X.base) I.ok.mod.kin hk hall ?_ hpl
  refine thn (hkw.run pos pins s σ H _ I h) fun ws s2 ⟨zs, H2, I2, rz, l2, q2⟩ => ⟨I2.kIn, ?_⟩
  rw [hks]
  exact run_fnN (us := []) (vs := []) F hr hb hx I2 .nil rz rfl l2 q2
end JD
end Part_JD17a
section Part_JD17
set_option Elab.async false
set_option linter.all false
set_option maxRecDepth 100000
set_option maxHeartbeats 4000000
namespace JD
open PySem PySem.Spec PyProof.Rows L2 JR JX JT LamX
open Evl (Ex)
section
variable {P : Program} {w : World} {K : PySem.W.Frag} {mg : Str → Option Value} {base : Heap}
/-- what both ask of the part and of the machine -/
structure Ask (K : PySem.W.Frag) (H : Hp) (pa : Addr) (v : V) (N : Int) (D : Words) (s : Int) (sp : Str → List Int) (o : Option Tab) : Prop where
  part : PartAt K H pa N D
  bf : BF N D s sp
  few : ∀ y ∈ D.map (·.1), (sp y).length ≤ 12
  letv : LetV K H N v o
  letf : ∀ Tb, o = some Tb → LetF N D Tb
  letn : LetN o
  tabs : Tabs (tabsJ K) H
def ExtT (K : PySem.W.Frag) (H H' : Hp) : Prop := ExtN H H' ∧ Tabs (tabsJ K) H'
def sp_least_length (K : PySem.W.Frag) : Sp := fun vs H Q _ => ∃ (pa : Addr) (v : V) (N : Int) (D : Words) (s : Int) (sp : Str → List Int) (o : Option Tab), vs = [.ref pa, v] ∧ Ask K H pa v N D s sp o ∧
  (s = 1 → ∀ H', ExtT K H H' → Q (.int 0) H') ∧ (s ≠ 1 → ∀ fs St ns L, CutG N D s sp o fs St ns L → (cntsOf L (stsOf sp fs) = [] → ∀ H', ExtT K H H' → Q .non H') ∧ ∀ m ∈ cntsOf L (stsOf sp fs), (∀ y ∈ cntsOf L (stsOf sp fs), m ≤ y) → ∀ H', ExtT K H H' → Q (.int (m : Int)) H')
abbrev N_least_length : List Str := ["part", "let", "search"]
theorem sc_least_length : FnScope N_least_length ["part", "let"] (defScope s_least_length) := ⟨rfl, rfl, rfl, by decide +kernel, rfl, by decide +kernel, by decide +kernel⟩
theorem ok_least_length (TB : TabB base mg (He.cT K lamAt).1 (He.cT K lamAt).2) (T : Txt K mg) : DefOk P w K mg base 11 (He.ga K "least_length") ["part", "let"] (sp_least_length K) := by
  obtain ⟨fd, F⟩ := T.d_least_length
  obtain ⟨fd_CutSearch_init, G_CutSearch_init, kp_CutSearch_init, b_CutSearch_init⟩ := ok_CutSearch_init (P := P) (w := w) (base := base) TB T
  obtain ⟨fd_Part_period, G_Part_period, kp_Part_period, b_Part_period⟩ := ok_Part_period (P := P) (w := w) (base := base) T
  obtain ⟨fd_least_count, G_least_count, kp_least_count, b_least_count⟩ := ok_least_count (P := P) (w := w) (base := base) T
  obtain ⟨ds, rd, hb⟩ := F.binds1 (ps := ["part", "let"]) 2 1 (by simp) rfl fun T kV doc pm an cdv ct us its hl hl2 => match us, its, hl, hl2 with | [_, _], [_], _, _ => ⟨_, rfl, rfl⟩
  match ds, rd with
  | [], _ =>
  refine ⟨fd, F.ok sc_least_length (fun vs H Q E h => ?_) (fun cdv A outer s H vs Q E hr h => ?_), F.kp, hb⟩
  · obtain ⟨pa, v, N, D, s, sp, o, rfl, A0, k1, k2⟩ := h
    rfl
  have hu := hu_of hr
  have nd := sc_least_length.nd
  obtain ⟨pa, v, N, D, s, sp, o, rfl, A0, k1, k2⟩ := h
  refine ⟨_, (PSs.nox (pss_cons (ps_set (i := 2) nd rfl (by first | exact Or.inl rfl | exact Or.inr rfl) (pe_make T.k_CutSearch G_CutSearch_init (hr.mono (by decide)) rfl T.g_CutSearch b_CutSearch_init .nil pass0 (pa_cons (pv 0) (pa_cons (pv 1) pa_nil))))
  (pss_cons (ps_if (pt_cmpR op_eq (pe_prop (pv 0) T.c_Part T.p_Part_period G_Part_period (hr.mono (by decide)) b_Part_period .nil pass0 rfl) pe_int (nomark _)) (pss_one (ps_ret pe_int)) pss_nil)
  (pss_one (ps_ret (pe_call G_least_count (hr.mono (by decide)) rfl T.g_least_count kp_least_count b_least_count .nil pass0 (pa_cons (pe_fldK K (pv 2) rfl) (pa_cons (pe_fldK K (pv 2) rfl) pa_nil)))))))), ?_⟩
  have B := A0.bf
  refine ⟨_, rfl, _, rfl, fun x dx hx hdx ndx => ?_⟩
  have nxd : x ≠ dx := fun z => ndx z.symm
  have eB : Ex H (upd (upd H dx (.own x)) x (.ins (cA K "CutSearch") dx [])) := (ex_new hdx).trans (ex_new ((upd_ne nxd).trans hx))
  refine ⟨x, dx, pa, v, N, D, s, sp, o, rfl, upd_same, A0.part.keep eB, B, A0.few, A0.letv.keep eB, A0.letf, A0.tabs.ext eB, fun H1 fs St ns L bn T1 CA => ⟨rfl, ?_⟩⟩
  have ex1 : ExtN H H1 := fun a u h n => bn a u (ne_of_none h hx) (eB _ _ h) n
  have p1 : PartAt K H1 pa N D := A0.part.nk (Nk.extN ex1)
  obtain ⟨dp, dd, hp1, hp2, hp3⟩ := id p1
  refine ⟨_, rfl, pa, dp, _, rfl, hp1, pa, N, D, rfl, p1, B.part, fun H2 s' e2 S => ?_⟩
  cases IsSpan.eq S B.span
  have x2 : ExtT K H H2 := ⟨ex1.trans (ExtN.of e2), T1.ext e2⟩
  obtain ⟨dx', st, d, fd', xs, vals, cx, cst, cl, cX, cfd⟩ := CA.at_
  have G := CA.g
  by_cases h1 : s = 1
  · exact ⟨rfl, true, congrArg V.bl (decide_eq_true (by rw [h1])), iteT (k1 h1 H2 x2)⟩
  refine ⟨rfl, false, congrArg V.bl (decide_eq_false fun z => h1 (V.int.inj z)), iteF ?_⟩
  obtain ⟨q1, q2⟩ := k2 h1 fs St ns L G
  have FG := fsG G.stok G.fsok A0.letf
  refine ⟨_, rfl, x, _, dx', _, .ref st, rfl, e2 _ _ cx, T.c_CutSearch, T.n_CutSearch_start, by kernel_rfl, _, rfl, x, _, dx', _, .ref fd', rfl, e2 _ _ cx, T.c_CutSearch, T.n_CutSearch_far, by kernel_rfl, st, fd', xs, stsOf sp fs, L, rfl, e2 _ _ cst, cl.keep (Tups.of e2), e2 _ _ cfd, Nat.le_trans (sts_len A0.few ⟨FG.1, fun r hr => (FG.2 r hr).1⟩) (by decide), fun h0 H3 e3 => q1 h0 H3 ⟨x2.1.trans (ExtN.of e3), x2.2.ext e3⟩, fun m hm hle H3 e3 => q2 m hm hle H3 ⟨x2.1.trans (ExtN.of e3), x2.2.ext e3⟩⟩
def swp {α : Type} : List α → List α
  | [a, b] => [b, a]
  | _ => []
def sp_shortest (K : PySem.W.Frag) : Sp := fun vs H Q E => ∃ (pa : Addr) (v : V) (N : Int) (D : Words) (s : Int) (sp : Str → List Int) (o : Option Tab), vs = [.ref pa, v] ∧ Ask K H pa v N D s sp o ∧
  (s = 1 → ∀ H' p, ExtT K H H' → PlanAt K H' p N [] → Q (.ref p) H') ∧ (s ≠ 1 → ∀ fs St ns L, CutG N D s sp o fs St ns L → (cntsOf L (stsOf sp fs) = [] → ∀ H', ExtT K H H' → E (.ref (cA K "NoPlan")) none H') ∧ ∀ m ∈ cntsOf L (stsOf sp fs), (∀ y ∈ cntsOf L (stsOf sp fs), m ≤ y) →
    (400 < m → ∀ H' dd, ExtT K H H' → H' dd = some (.xd [("limit", .int 400)]) → E (.ref (cA K "TooMany")) (some dd) H') ∧
    (m ≤ 400 → ∀ H' p ds n, ExtT K H H' → ds.length = m → PWay (stsOf sp fs) (adjOf (mvsOf N D s sp St)) (modOf N s o) ds n → n.i = n.j → (∀ x ∈ ds, IsW x.1) → PlanAt K H' p N (ds.map fun x => (x.1, x.2 % N)) → Q (.ref p) H'))
abbrev N_shortest : List Str := ["part", "let", "search", "modulus"]
theorem sc_shortest : FnScope N_shortest ["part", "let"] (defScope s_shortest) := ⟨rfl, rfl, rfl, by decide +kernel, rfl, by decide +kernel, by decide +kernel⟩
theorem ok_shortest (TB : TabB base mg (He.cT K lamAt).1 (He.cT K lamAt).2) (T : Txt K mg) : ∃ (fd : FuncData), FnOk P w K mg base (L2.CX P w) 11 (He.ga K "shortest") fd ["part", "let"] (sp_shortest K) ∧ PySem.W.keepIn K (.ref (He.ga K "shortest")) = true ∧ KBn K fd ["part", "let"] 0 ["let", "part"] (fun _ ws => swp ws) (fun _ zs => swp zs) := by
  obtain ⟨fd, F⟩ := T.d_shortest
  obtain ⟨fd_Part_period, G_Part_period, kp_Part_period, b_Part_period⟩ := ok_Part_period (P := P) (w := w) (base := base) T
  obtain ⟨fd_Plan_init, G_Plan_init, kp_Plan_init, b_Plan_init⟩ := ok_Plan_init (P := P) (w := w) (base := base) T
  obtain ⟨fd_CutSearch_init, G_CutSearch_init, kp_CutSearch_init, b_CutSearch_init⟩ := ok_CutSearch_init (P := P) (w := w) (base := base) TB T
  obtain ⟨fd_least_walk, G_least_walk, kp_least_walk, b_least_walk⟩ := ok_least_walk (P := P) (w := w) (base := base) T
  obtain ⟨its, hb⟩ := F.kbindsD (ps := ["part", "let"]) 0 ["let", "part"] (fun _ _ ws => swp ws) (by simp) (fun _ _ r3 => by cases r3 with | nil => exact .nil | cons a r => cases r with | nil => exact .nil | cons b r => cases r with | nil => exact .cons b (.cons a .nil) | cons _ _ => exact .nil) fun T kV doc pm an cdv ct us its ws hl hl2 hl3 => match us, its, ws, hl, hl2, hl3 with | [], [_], [_, _], _, _, _ => ⟨_, rfl, rfl⟩
  refine ⟨fd, F.ok sc_shortest (fun vs H Q E h => ?_) (fun cdv A outer s H vs Q E hr h => ?_), F.kp, hb⟩
  · obtain ⟨pa, v, N, D, s, sp, o, rfl, A0, k1, k2⟩ := h
    rfl
  have hu := hu_of hr
  have nd := sc_shortest.nd
  obtain ⟨pa, v, N, D, s, sp, o, rfl, A0, k1, k2⟩ := h
  refine ⟨_, (pss_cons (ps_set (i := 2) nd rfl (by first | exact Or.inl rfl | exact Or.inr rfl) (pe_make T.k_CutSearch G_CutSearch_init (hr.mono (by decide)) rfl T.g_CutSearch b_CutSearch_init .nil pass0 (pa_cons (pv 0) (pa_cons (pv 1) pa_nil))))
  (pss_cons (ps_if (pt_cmpR op_eq (pe_prop (pv 0) T.c_Part T.p_Part_period G_Part_period (hr.mono (by decide)) b_Part_period .nil pass0 rfl) pe_int (nomark _)) (pss_one (ps_ret (pe_make T.k_Plan G_Plan_init (hr.mono (by decide)) rfl T.g_Plan b_Plan_init .nil pass0 (pa_cons (pe_fldK K (pv 0) rfl) (pa_cons (pe_lst pa_nil) pa_nil))))) pss_nil)
  (pss_cons (ps_set (i := 3) nd rfl (by first | exact Or.inl rfl | exact Or.inr rfl) (pe_ifExp (pt_cmpR op_isN (pv 1) pe_non (nomark _)) (pe_prop (pv 0) T.c_Part T.p_Part_period G_Part_period (hr.mono (by decide)) b_Part_period .nil pass0 rfl) (pe_fldK K (pv 0) rfl)))
  (pss_cons (ps_ret (pe_call G_least_walk (hr.mono (by decide)) rfl T.g_least_walk kp_least_walk b_least_walk .nil (passes_call (takes_of rfl rfl rfl rfl) fun _ _ _ _ h => h) (pa_cons (pe_fldK K (pv 0) rfl) (pa_cons (pv 3) (pa_cons (pe_fldK K (pv 2) rfl) (pa_cons (pe_fldK K (pv 2) rfl) (pa_cons (pe_fldK K (pv 2) rfl) pa_nil)))))))
  (PSs.nox pss_nil))))), ?_⟩
  have B := A0.bf
  refine ⟨_, rfl, _, rfl, fun x dx hx hdx ndx => ?_⟩
  have nxd : x ≠ dx := fun z => ndx z.symm
  have eB : Ex H (upd (upd H dx (.own x)) x (.ins (cA K "CutSearch") dx [])) := (ex_new hdx).trans (ex_new ((upd_ne nxd).trans hx))
  refine ⟨x, dx, pa, v, N, D, s, sp, o, rfl, upd_same, A0.part.keep eB, B, A0.few, A0.letv.keep eB, A0.letf, A0.tabs.ext eB, fun H1 fs St ns L bn T1 CA => ⟨rfl, ?_⟩⟩
  have ex1 : ExtN H H1 := fun a u h n => bn a u (ne_of_none h hx) (eB _ _ h) n
  have p1 : PartAt K H1 pa N D := A0.part.nk (Nk.extN ex1)
  obtain ⟨dp, dd, hp1, hp2, hp3⟩ := id p1
  refine ⟨_, rfl, pa, dp, _, rfl, hp1, pa, N, D, rfl, p1, B.part, fun H2 s' e2 S => ?_⟩
  cases IsSpan.eq S B.span
  have x2 : ExtT K H H2 := ⟨ex1.trans (ExtN.of e2), T1.ext e2⟩
  obtain ⟨dx', st, d, fd', xs, vals, cx, cst, cl, cX, cfd⟩ := CA.at_
  have G := CA.g
  by_cases h1 : s = 1
  · refine ⟨rfl, true, congrArg V.bl (decide_eq_true (by rw [h1])), iteT ?_⟩
    refine ⟨_, rfl, pa, _, dp, _, .int N, rfl, e2 _ _ hp1, T.c_Part, T.n_Part_around, by kernel_rfl, Nat.zero_le _, fun ls hls => ?_⟩
    intro p dxp hp hdxp ndp
    have npd : p ≠ dxp := fun z => ndp z.symm
    have e3 : Ex H2 (upd H2 ls (.lst [])) := ex_new hls
    have e4 : Ex (upd H2 ls (.lst [])) (upd (upd (upd H2 ls (.lst [])) dxp (.own p)) p (.ins (cA K "Plan") dxp [])) := (ex_new hdxp).trans (ex_new ((upd_ne npd).trans hp))
    refine ⟨p, dxp, ls, N, [], [], rfl, upd_same, e4 _ _ upd_same, .nil, (fun _ h => by cases h), by decide, B.part.lo, B.part.hi, fun H5 bt pl => ⟨rfl, k1 h1 H5 p ?_ pl⟩⟩
    have e5 : Ex H2 H5 := fun a u h => bt a u (ne_of_none (e3 _ _ h) hp) (e4 _ _ (e3 _ _ h))
    exact ⟨x2.1.trans (ExtN.of e5), x2.2.ext e5⟩
  refine ⟨rfl, false, congrArg V.bl (decide_eq_false fun z => h1 (V.int.inj z)), iteF ?_⟩
  obtain ⟨q1, q2⟩ := k2 h1 fs St ns L G
  have FG := fsG G.stok G.fsok A0.letf
  cases o with
  | none =>
    cases (show v = .non from A0.letv)
    have p2 := p1.keep e2
    refine ⟨_, rfl, rfl, _, rfl, iteT ⟨_, rfl, pa, dp, _, rfl, e2 _ _ hp1, pa, N, D, rfl, p2, B.part, fun H3 s' e23 S => ?_⟩⟩
    cases IsSpan.eq S B.span
    have e3 := e2.trans e23
    have x4 : ∀ {H4 : Hp}, Ex H3 H4 → ExtT K H H4 := fun e => ⟨x2.1.trans (ExtN.of (e23.trans e)), x2.2.ext (e23.trans e)⟩
    refine ⟨_, rfl, pa, _, dp, _, .int N, rfl, e3 _ _ hp1, T.c_Part, T.n_Part_around, by kernel_rfl, _, rfl, _, rfl, x, _, dx', _, .ref st, rfl, e3 _ _ cx, T.c_CutSearch, T.n_CutSearch_start, by kernel_rfl, _, rfl, x, _, dx', _, .ref d, rfl, e3 _ _ cx, T.c_CutSearch, T.n_CutSearch_table, by kernel_rfl, _, rfl, x, _, dx', _, .ref fd', rfl, e3 _ _ cx, T.c_CutSearch, T.n_CutSearch_far, by kernel_rfl, N, s, st, d, fd', xs, stsOf sp fs, ns, vals, adjOf (mvsOf N D s sp St), L, rfl, e3 _ _ cst, cl.keep (Tups.of e3), Nat.le_trans (sts_len A0.few ⟨FG.1, fun r hr => (FG.2 r hr).1⟩) (by decide), cX.keep (fun a u _ h => e3 _ _ h) (Tups.of e3), e3 _ _ cfd, G.fo, ⟨B.part.lo, B.part.hi⟩, B.span.pos, sts_ok B A0.letf G, fun dd => mul12 (fun r hr => A0.few _ (FG.2 r hr).1) (fsN G.fsok A0.letn), adj_ok B A0.letf A0.letn G, fun h0 H4 e4 => q1 h0 H4 (x4 e4), fun m hm hle => ⟨fun g H4 dd' e4 hd => (q2 m hm hle).1 g H4 dd' (x4 e4) hd, fun g H4 p ds n e4 a1 a2 a3 a4 a5 => (q2 m hm hle).2 g H4 p ds n (x4 e4) a1 a2 a3 a4 a5⟩⟩
  | some Tb =>
    obtain ⟨lx, rfl, hlx⟩ := A0.letv
    have e3 := e2
    have x4 : ∀ {H4 : Hp}, Ex H2 H4 → ExtT K H H4 := fun e => ⟨x2.1.trans (ExtN.of e), x2.2.ext e⟩
    have lo := B.part.lo
    refine ⟨_, rfl, rfl, _, rfl, iteF ⟨_, rfl, pa, _, dp, _, .int N, rfl, e3 _ _ hp1, T.c_Part, T.n_Part_around, by kernel_rfl, ?_⟩⟩
    refine ⟨_, rfl, pa, _, dp, _, .int N, rfl, e3 _ _ hp1, T.c_Part, T.n_Part_around, by kernel_rfl, _, rfl, _, rfl, x, _, dx', _, .ref st, rfl, e3 _ _ cx, T.c_CutSearch, T.n_CutSearch_start, by kernel_rfl, _, rfl, x, _, dx', _, .ref d, rfl, e3 _ _ cx, T.c_CutSearch, T.n_CutSearch_table, by kernel_rfl, _, rfl, x, _, dx', _, .ref fd', rfl, e3 _ _ cx, T.c_CutSearch, T.n_CutSearch_far, by kernel_rfl, N, N, st, d, fd', xs, stsOf sp fs, ns, vals, adjOf (mvsOf N D s sp St), L, rfl, e3 _ _ cst, cl.keep (Tups.of e3), Nat.le_trans (sts_len A0.few ⟨FG.1, fun r hr => (FG.2 r hr).1⟩) (by decide), cX.keep (fun a u _ h => e3 _ _ h) (Tups.of e3), e3 _ _ cfd, G.fo, ⟨B.part.lo, B.part.hi⟩, (by omega), sts_ok B A0.letf G, fun dd => mul12 (fun r hr => A0.few _ (FG.2 r hr).1) (fsN G.fsok A0.letn), adj_ok B A0.letf A0.letn G, fun h0 H4 e4 => q1 h0 H4 (x4 e4), fun m hm hle => ⟨fun g H4 dd' e4 hd => (q2 m hm hle).1 g H4 dd' (x4 e4) hd, fun g H4 p ds n e4 a1 a2 a3 a4 a5 => (q2 m hm hle).2 g H4 p ds n (x4 e4) a1 a2 a3 a4 a5⟩⟩
end
end JD
end Part_JD17
section Part_JD18
set_option Elab.async false
set_option linter.all false
set_option maxRecDepth 100000
set_option maxHeartbeats 4000000
namespace JD
open PySem PySem.Spec PyProof.Rows L2 JR JX JT LamX
open Evl (Ex)
section
variable {P : Program} {w : World} {K : PySem.W.Frag} {mg : Str → Option Value} {base : Heap}
/-! ### the pool -/
theorem cpow18 : CPow 10 18 := by unfold CPow; decide
def PoolOk (o : HO) : Prop := ∃ n f k : Int, o = .lst [.int n, .int f, .int k]
def sp_pool (K : PySem.W.Frag) : Sp := fun vs H Q _ => ∃ (a : Addr) (k : Nat) (ns : List Int), vs = [.ref a, .int (k : Int)] ∧ SqL K H a (ns.map V.int) ∧ ∀ p o, PoolOk o → H p = none → Q (.ref p) (upd H p o)
abbrev N_law_pool : List Str := ["_law_script", "_law_k", "_law_cell"]
theorem sc_law_pool : FnScope N_law_pool ["_law_script", "_law_k"] (defScope s_law_pool) := ⟨rfl, rfl, rfl, by decide +kernel, rfl, by decide +kernel, by decide +kernel⟩
theorem ok_law_pool (T : Txt K mg) : DefOk P w K mg base 1 (He.ga K "_law_pool") ["_law_script", "_law_k"] (sp_pool K) := by
  obtain ⟨fd, F⟩ := T.d_law_pool
  refine ⟨fd, F.ok sc_law_pool (fun vs H Q E h => ?_) (fun cdv A outer s H vs Q E hr h => ?_), F.kp, F.bindsN fun _ _ _ _ _ _ us hl => match us, hl with | [_, _], _ => rfl⟩
  · obtain ⟨a, k, ns, rfl, hS, kk⟩ := h
    rfl
  have hu := hu_of hr
  have nd := sc_law_pool.nd
  obtain ⟨a, k, ns, rfl, hS, kk⟩ := h
  refine ⟨_, (PSs.nox (pss_cons (ps_set (i := 2) nd rfl (by first | exact Or.inl rfl | exact Or.inr rfl) pe_int)
  (pss_cons (ps_if (pt_cmpR op_lt (pv 1) (pe_callB call_len_seq (by rfl) T.b_len rfl (pa_cons (pv 0) pa_nil)) (nomark _)) (pss_one (ps_set (i := 2) nd rfl (by first | exact Or.inl rfl | exact Or.inr rfl) (pe_ix (ix_listK K) (pv 0) (pv 1) (fun _ _ => rfl)))) pss_nil)
  (pss_cons (ps_if (pt_cmpR op_ge (pv 2) (pe_op op_pow pe_int pe_int) (nomark _)) (pss_one (ps_ret (pe_lst (pa_cons (pv 2) (pa_cons pe_int (pa_cons pe_int pa_nil)))))) pss_nil)
  (pss_one (ps_ret (pe_lst (pa_cons (pe_op op_mod (pe_callTy call_int1 (by rfl) T.b_int rfl (pa_cons (pv 2) pa_nil)) pe_int) (pa_cons pe_int (pa_cons (pv 1) pa_nil)))))))))), ?_⟩
  have ls : (ns.map V.int).length = ns.length := List.length_map _
  refine ⟨_, rfl, _, rfl, a, _, rfl, .inl hS, _, _, rfl, rfl, _, rfl, ?_⟩
  by_cases h1 : k < ns.length
  · rw [decide_eq_true (by rw [ls]; omega)]
    refine iteT ⟨_, rfl, _, rfl, a, _, _, _, rfl, rfl, hS, atI_nat (j := k) (by rw [List.getElem?_map, List.getElem?_eq_getElem h1]; rfl), ?_⟩
    refine ⟨_, rfl, _, _, rfl, rfl, cpow18, _, _, rfl, rfl, _, rfl, ?_⟩
    by_cases h2 : (10 : Int) ^ (18 : Int).toNat ≤ ns[k]
    · rw [decide_eq_true h2]
      exact iteT ⟨_, rfl, (by show 3 ≤ sizeLine; decide), fun p hp => kk p _ ⟨_, _, _, rfl⟩ hp⟩
    · rw [decide_eq_false h2]
      exact iteF ⟨_, rfl, .inl ⟨_, rfl, _, _, rfl, rfl, (by show (0 : Int) < 2147483647; decide), _, rfl, (by show 3 ≤ sizeLine; decide), fun p hp => kk p _ ⟨_, _, _, rfl⟩ hp⟩⟩
  · rw [decide_eq_false (by rw [ls]; omega)]
    refine iteF ?_
    refine ⟨_, rfl, _, _, rfl, rfl, cpow18, _, _, rfl, rfl, _, rfl, ?_⟩
    by_cases h2 : (10 : Int) ^ (18 : Int).toNat ≤ 0
    · rw [decide_eq_true h2]
      exact iteT ⟨_, rfl, (by show 3 ≤ sizeLine; decide), fun p hp => kk p _ ⟨_, _, _, rfl⟩ hp⟩
    · rw [decide_eq_false h2]
      exact iteF ⟨_, rfl, .inl ⟨_, rfl, _, _, rfl, rfl, (by show (0 : Int) < 2147483647; decide), _, rfl, (by show 3 ≤ sizeLine; decide), fun p hp => kk p _ ⟨_, _, _, rfl⟩ hp⟩⟩
def sp_draw (K : PySem.W.Frag) : Sp := fun vs H Q _ => ∃ (p : Addr) (m : Int) (o : HO), vs = [.ref p, .int m] ∧ 0 < m ∧ m < 1073741824 ∧ H p = some o ∧ PoolOk o ∧ ∀ i H', 0 ≤ i → i < m → Wx p PoolOk H H' → Q (.int i) H'
abbrev N_law_draw : List Str := ["_law_pool_here", "_law_many", "_law_number"]
theorem sc_law_draw : FnScope N_law_draw ["_law_pool_here", "_law_many"] (defScope s_law_draw) := ⟨rfl, rfl, rfl, by decide +kernel, rfl, by decide +kernel, by decide +kernel⟩
theorem ok_law_draw (T : Txt K mg) : DefOk P w K mg base 1 (He.ga K "_law_draw") ["_law_pool_here", "_law_many"] (sp_draw K) := by
  obtain ⟨fd, F⟩ := T.d_law_draw
  refine ⟨fd, F.ok sc_law_draw (fun vs H Q E h => ?_) (fun cdv A outer s H vs Q E hr h => ?_), F.kp, F.bindsN fun _ _ _ _ _ _ us hl => match us, hl with | [_, _], _ => rfl⟩
  · obtain ⟨p, m, o, rfl, m0, m1, hp, ⟨n, f, k, rfl⟩, kk⟩ := h
    rfl
  have hu := hu_of hr
  have nd := sc_law_draw.nd
  obtain ⟨p, m, o, rfl, m0, m1, hp, ⟨n, f, k, rfl⟩, kk⟩ := h
  refine ⟨_, (PSs.nox (pss_cons (ps_set (i := 2) nd rfl (by first | exact Or.inl rfl | exact Or.inr rfl) (pe_ix (ix_listK K) (pv 0) pe_int (fun _ _ => rfl)))
  (pss_cons (ps_if (pt_cmpR op_eq (pe_ix (ix_listK K) (pv 0) pe_int (fun _ _ => rfl)) pe_int (nomark _)) (pss_cons (ps_asg (pe_op op_fdiv (pv 2) (pv 1)) (pg_sub (pv 0) pe_int set_list))
  (pss_one (ps_ret (pe_op op_mod (pe_callTy call_int1 (by rfl) T.b_int rfl (pa_cons (pv 2) pa_nil)) (pv 1))))) pss_nil)
  (pss_cons (ps_asg (pe_op op_add (pe_ix (ix_listK K) (pv 0) pe_int (fun _ _ => rfl)) pe_int) (pg_sub (pv 0) pe_int set_list))
  (pss_cons (ps_set (i := 2) nd rfl (by first | exact Or.inl rfl | exact Or.inr rfl) (pe_op op_mod (pe_callTy call_int1 (by rfl) T.b_int rfl (pa_cons (pe_op op_add (pe_op op_mul (pv 2) pe_int) (pe_op op_mul pe_int (pe_ix (ix_listK K) (pv 0) pe_int (fun _ _ => rfl)))) pa_nil)) pe_int))
  (pss_cons (ps_asg (pv 2) (pg_sub (pv 0) pe_int set_list))
  (pss_one (ps_ret (pe_op op_mod (pe_op op_fdiv (pe_op op_mod (pe_callTy call_int1 (by rfl) T.b_int rfl (pa_cons (pe_op op_mul (pv 2) (pe_op op_add (pe_op op_fdiv (pv 2) pe_int) pe_int)) pa_nil)) pe_int) pe_int) (pv 1)))))))))), ?_⟩
  have sq : SqL K H p [.int n, .int f, .int k] := SqL.of hp
  refine ⟨_, rfl, p, _, _, _, rfl, rfl, sq, atI_nat (j := 0) rfl, ?_⟩
  refine ⟨_, rfl, p, _, _, _, rfl, rfl, sq, atI_nat (j := 1) rfl, ?_⟩
  by_cases h1 : f = 1
  · refine ⟨rfl, true, congrArg V.bl (decide_eq_true (by rw [h1])), iteT ?_⟩
    refine ⟨_, rfl, _, rfl, _, _, rfl, rfl, ⟨m0, m1⟩, _, rfl, p, _, _, 0, rfl, rfl, hp, rfl, ?_⟩
    exact ⟨_, rfl, .inl ⟨_, rfl, _, rfl, _, _, rfl, rfl, m0, kk _ _ (Int.emod_nonneg _ (by omega)) (Int.emod_lt_of_pos _ m0) (Wx.put ⟨_, _, _, rfl⟩)⟩⟩
  refine ⟨rfl, false, congrArg V.bl (decide_eq_false fun z => h1 (V.int.inj z)), iteF ?_⟩
  refine ⟨_, rfl, p, _, _, _, rfl, rfl, sq, atI_nat (j := 2) rfl, _, _, rfl, rfl, _, rfl, p, _, _, 2, rfl, rfl, hp, rfl, ?_⟩
  have w1 : Wx p PoolOk H (upd H p (.lst [.int n, .int f, .int (k + 1)])) := Wx.put ⟨_, _, _, rfl⟩
  have h1p : upd H p (.lst [.int n, .int f, .int (k + 1)]) p = some (.lst [.int n, .int f, .int (k + 1)]) := upd_same
  refine ⟨_, rfl, _, _, rfl, rfl, .inr (by decide), _, rfl, p, _, _, _, rfl, rfl, SqL.of h1p, atI_nat (j := 2) rfl, _, _, rfl, rfl, .inl (by decide), _, _, rfl, rfl, .inl ⟨_, rfl, _, _, rfl, rfl, (by show (0 : Int) < 2147483647; decide), ?_⟩⟩
  obtain ⟨z, ez⟩ : ∃ z, z = (n * 48271 + 30103 * (k + 1)) % 2147483647 := ⟨_, rfl⟩
  have z0 : 0 ≤ z := by rw [ez]; exact Int.emod_nonneg _ (by decide)
  have z1 : z < 2147483647 := by rw [ez]; exact Int.emod_lt_of_pos _ (by decide)
  show gName 2 (V.int ((n * 48271 + 30103 * (k + 1)) % 2147483647)) _ _ _
  rw [← ez]
  refine ⟨_, rfl, _, rfl, p, _, _, 0, rfl, rfl, h1p, rfl, ?_⟩
  refine ⟨_, rfl, _, rfl, _, _, rfl, rfl, ⟨by decide, by decide⟩, _, _, rfl, rfl, _, _, rfl, rfl, .inl ⟨by omega, by omega⟩, .inl ⟨_, rfl, _, _, rfl, rfl, (by show (0 : Int) < 2147483399; decide), _, _, rfl, rfl, ⟨by decide, by decide⟩, _, rfl, _, _, rfl, rfl, m0, ?_⟩⟩
  exact kk _ _ (Int.emod_nonneg _ (by omega)) (Int.emod_lt_of_pos _ m0) (w1.trans (Wx.put ⟨_, _, _, rfl⟩))
end
end JD
end Part_JD18
section Part_JD19
set_option Elab.async false
set_option linter.all false
set_option maxRecDepth 100000
set_option maxHeartbeats 4000000
namespace JD
open PySem PySem.Spec PyProof.Rows L2 JR JX JT LamX
open Evl (Ex)
section
variable {P : Program} {w : World} {K : PySem.W.Frag} {mg : Str → Option Value} {base : Heap}
def menuAll (N : Int) : List Int := (List.range 12).filterMap fun i : Nat => if N % (1 + (i : Int)) = 0 then some (1 + (i : Int)) else none
theorem menu_mem {N l : Int} : l ∈ menuAll N ↔ 1 ≤ l ∧ l ≤ 12 ∧ N % l = 0 := by
  unfold menuAll
  rw [List.mem_filterMap]
  constructor
  · rintro ⟨i, hi, e⟩
    have := List.mem_range.mp hi
    split at e
    · rename_i h
      cases e
      exact ⟨by omega, by omega, h⟩
    · cases e
  · rintro ⟨h1, h2, h3⟩
    refine ⟨(l - 1).toNat, List.mem_range.mpr (by omega), ?_⟩
    have e : 1 + (((l - 1).toNat : Nat) : Int) = l := by omega
    rw [e, if_pos h3]
def sp_laps (K : PySem.W.Frag) : Sp := fun vs H Q _ => ∃ (p : Addr) (N : Int) (ev : Bool) (o : HO), vs = [.ref p, .int N, .bl ev, .int 12] ∧ H p = some o ∧ PoolOk o ∧ 2 ≤ N ∧ (ev = true → N % 2 = 0) ∧
  ∀ H' l, Wx p PoolOk H H' → 1 ≤ l → l ≤ 12 → N % l = 0 → (ev = true → l % 2 = 0) → Q (.int l) H'
abbrev N_law_laps : List Str := ["_law_pool_here", "_law_around", "_law_even", "_law_most", "_law_menu", "_law_laps_here", "_law_at"]
theorem sc_law_laps : FnScope N_law_laps ["_law_pool_here", "_law_around", "_law_even", "_law_most"] (defScope s_law_laps) := ⟨rfl, rfl, rfl, by decide +kernel, rfl, by decide +kernel, by decide +kernel⟩
theorem ok_law_laps (T : Txt K mg) : DefOk P w K mg base 2 (He.ga K "_law_laps") ["_law_pool_here", "_law_around", "_law_even", "_law_most"] (sp_laps K) := by
  obtain ⟨fd, F⟩ := T.d_law_laps
  obtain ⟨fd_law_draw, G_law_draw, kp_law_draw, b_law_draw⟩ := ok_law_draw (P := P) (w := w) (base := base) T
  refine ⟨fd, F.ok sc_law_laps (fun vs H Q E h => ?_) (fun cdv A outer s H vs Q E hr h => ?_), F.kp, F.bindsN fun _ _ _ _ _ _ us hl => match us, hl with | [_, _, _, _], _ => rfl⟩
  · obtain ⟨p, N, ev, o, rfl, hp, ok, hN, hev, k⟩ := h
    rfl
  have hu := hu_of hr
  have nd := sc_law_laps.nd
  obtain ⟨p, N, ev, o, rfl, hp, ok, hN, hev, k⟩ := h
  refine ⟨_, (PSs.nox (pss_cons (ps_setLc (i := 4) (own := [("_law_laps_here", 5)]) (g := (gName 5))  rfl nd rfl rfl (sw_true rfl rfl rfl (by decide +kernel)) (pi_range2 rfl T.b_range (pa_cons pe_int (pa_cons (pe_op op_add (pv 3) pe_int) pa_nil))) (blkOk_by (N := N_law_laps) (sc := defScope s_law_laps) (by decide +kernel)) (fun _ _ _ _ _ => (pg_name (i := 5) nd rfl (by first | exact Or.inl rfl | exact Or.inr rfl))) (fun _ _ _ _ _ => (pts_one (pt_cmpR op_eq (pe_op op_mod (pv 1) (pv 5)) pe_int (nomark _)))) (fun _ _ _ _ _ => (pv 5)))
  (pss_cons (ps_if (pt_val (pv 2)) (pss_one (ps_setLc (i := 4) (own := [("_law_laps_here", 5)]) (g := (gName 5))  rfl nd rfl rfl (sw_true rfl rfl rfl (by decide +kernel)) (pi_listK K (pv 4)) (blkOk_by (N := N_law_laps) (sc := defScope s_law_laps) (by decide +kernel)) (fun _ _ _ _ _ => (pg_name (i := 5) nd rfl (by first | exact Or.inl rfl | exact Or.inr rfl))) (fun _ _ _ _ _ => (pts_one (pt_cmpR op_eq (pe_op op_mod (pv 5) pe_int) pe_int (nomark _)))) (fun _ _ _ _ _ => (pv 5)))) pss_nil)
  (pss_cons (ps_set (i := 6) nd rfl (by first | exact Or.inl rfl | exact Or.inr rfl) (pe_call G_law_draw (hr.mono (by decide)) rfl T.g_law_draw kp_law_draw b_law_draw .nil pass0 (pa_cons (pv 0) (pa_cons (pe_op op_mul pe_int (pe_callB call_len_seq (by rfl) T.b_len rfl (pa_cons (pv 4) pa_nil))) pa_nil))))
  (pss_cons (ps_if (pt_cmpR op_ge (pv 6) (pe_callB call_len_seq (by rfl) T.b_len rfl (pa_cons (pv 4) pa_nil)) (nomark _)) (pss_one (ps_set (i := 6) nd rfl (by first | exact Or.inl rfl | exact Or.inr rfl) pe_int)) pss_nil)
  (pss_one (ps_ret (pe_ix (ix_listK K) (pv 4) (pv 6) (fun _ _ => rfl))))))))), ?_⟩
  refine ⟨_, rfl, _, _, rfl, rfl, 1, 13, rfl, ⟨by decide, by decide, by decide, by decide⟩, fun L hL => ?_⟩
  have nLp : L ≠ p := fun z => by rw [z, hp] at hL; cases hL
  refine lc_ls (enc := fun z : Int => .int z) relEx walk_range (fun i : Nat => if N % (1 + (i : Int)) = 0 then some (1 + (i : Int)) else none) hL True.intro (Evl.sz_lt (by decide)) (fun H2 e2 _ => True.intro) ?_ ?_
  · rintro i y F F' hi e2 t2 ⟨rfl, rfl⟩ Go Sk go sk
    refine ⟨rfl, _, rfl, _, rfl, _, _, rfl, rfl, (by omega), rfl, decide (N % (1 + (i : Int)) = 0), ?_, ?_⟩
    · exact congrArg V.bl (by by_cases h : N % (1 + (i : Int)) = 0 <;> simp [h])
    · by_cases h : N % (1 + (i : Int)) = 0
      · rw [decide_eq_true h]
        exact iteT ⟨_, rfl, go _ _ _ (if_pos h) (Ex.refl _) (Tups.refl _) rfl⟩
      · rw [decide_eq_false h]
        exact iteF (sk _ (if_neg h) (Ex.refl _) (Tups.refl _))
  intro H1 xs e1 t1 h1L hl
  have lx := hl.len
  have hl : Ls H1 (fun z : Int => .int z) xs (menuAll N) := hl
  have lx : xs.length = (menuAll N).length := hl.len
  have l12 : (menuAll N).length ≤ 12 := by
    have := List.length_filterMap_le (fun i : Nat => if N % (1 + (i : Int)) = 0 then some (1 + (i : Int)) else none) (List.range 12)
    rw [List.length_range] at this
    exact this
  cases ev with
  | false =>
    refine ⟨_, rfl, false, rfl, iteF ?_⟩
    have ne : 0 < (menuAll N).length := List.length_pos_of_mem (menu_mem.mpr ⟨by decide, by decide, Int.emod_one _⟩ : (1 : Int) ∈ menuAll N)
    have mem : ∀ l ∈ menuAll N, 1 ≤ l ∧ l ≤ 12 ∧ N % l = 0 ∧ (false = true → l % 2 = 0) := fun l h => ⟨(menu_mem.mp h).1, (menu_mem.mp h).2.1, (menu_mem.mp h).2.2, fun z => by cases z⟩
    refine ⟨_, rfl, _, rfl, L, _, rfl, .inl (SqL.of h1L), _, _, rfl, rfl, .inl ⟨by decide, by decide⟩, p, _, o, rfl, (by omega), (by omega), (e1) _ _ hp, ok, fun at_ H9 a0 a1 w9 => ?_⟩
    obtain ⟨j, rfl⟩ := Int.eq_ofNat_of_zero_le a0
    have nLp : L ≠ p := fun z => by
      have h1 := (e1) _ _ hp
      rw [← z] at h1
      rw [h1L] at h1
      cases h1
      exact nLp z
    have h9 := w9.1 _ _ nLp h1L
    refine ⟨_, rfl, _, rfl, L, _, rfl, .inl (SqL.of h9), _, _, rfl, rfl, _, rfl, ?_⟩
    by_cases hj : xs.length ≤ j
    · rw [decide_eq_true (by omega)]
      obtain ⟨v0, hv0⟩ : ∃ v0, xs[0]? = some v0 := ⟨_, List.getElem?_eq_getElem (by omega)⟩
      obtain ⟨l0, hl0, im0⟩ := hl.get hv0
      obtain rfl : v0 = .int l0 := im0
      refine iteT ⟨_, rfl, _, rfl, L, _, _, _, rfl, rfl, SqL.of h9, atI_nat (j := 0) hv0, ?_⟩
      obtain ⟨q1, q2, q3, q4⟩ := mem l0 (List.mem_of_getElem? hl0)
      exact k H9 l0 (Wx.trans (Wx.ex (e1)) w9) q1 q2 q3 q4
    · rw [decide_eq_false (by omega)]
      obtain ⟨v0, hv0⟩ : ∃ v0, xs[j]? = some v0 := ⟨_, List.getElem?_eq_getElem (by omega)⟩
      obtain ⟨l0, hl0, im0⟩ := hl.get hv0
      obtain rfl : v0 = .int l0 := im0
      refine iteF ⟨_, rfl, _, rfl, L, _, _, _, rfl, rfl, SqL.of h9, atI_nat (j := j) hv0, ?_⟩
      obtain ⟨q1, q2, q3, q4⟩ := mem l0 (List.mem_of_getElem? hl0)
      exact k H9 l0 (Wx.trans (Wx.ex (e1)) w9) q1 q2 q3 q4
  | true =>
    refine ⟨_, rfl, true, rfl, iteT ?_⟩
    refine ⟨_, rfl, L, rfl, ⟨_, SqL.of h1L⟩, fun L2 hL2 => ?_⟩
    have nL2p : L2 ≠ p := fun z => by rw [z, e1 _ _ hp] at hL2; cases hL2
    refine lc_ls (enc := fun z : Int => .int z) relEx walk_list (fun i => ((menuAll N)[i]?).bind fun l => if l % 2 = 0 then some l else none) hL2 True.intro (Evl.sz_lt (by omega)) (fun H2 e2 _ => SqL.of (e2 _ _ h1L)) ?_ ?_
    · rintro i y F F' hi e2 t2 ⟨rfl, hy⟩ Go Sk go sk
      obtain ⟨l0, hl0, im0⟩ := (hl.keep t2).get hy
      obtain rfl : y = .int l0 := im0
      refine ⟨rfl, _, rfl, _, _, rfl, rfl, (by show (0 : Int) < 2; decide), rfl, decide (l0 % 2 = 0), ?_, ?_⟩
      · exact congrArg V.bl (by by_cases h : l0 % 2 = 0 <;> simp [h])
      · by_cases h : l0 % 2 = 0
        · rw [decide_eq_true h]
          exact iteT ⟨_, rfl, go l0 _ _ (by rw [hl0]; exact if_pos h) (Ex.refl _) (Tups.refl _) rfl⟩
        · rw [decide_eq_false h]
          exact iteF (sk _ (by rw [hl0]; exact if_neg h) (Ex.refl _) (Tups.refl _))
    intro H2 ys e2 t2 h2L hl2
    rw [lx, fm_filter (p := fun l : Int => l % 2 = 0)] at hl2
    have ly := hl2.len
    have l12b := List.length_filter_le (fun l : Int => decide (l % 2 = 0)) (menuAll N)
    have mem : ∀ l ∈ (menuAll N).filter fun l => decide (l % 2 = 0), 1 ≤ l ∧ l ≤ 12 ∧ N % l = 0 ∧ (true = true → l % 2 = 0) := fun l h => by
      obtain ⟨h1, h2⟩ := List.mem_filter.mp h
      exact ⟨(menu_mem.mp h1).1, (menu_mem.mp h1).2.1, (menu_mem.mp h1).2.2, fun _ => of_decide_eq_true h2⟩
    have ne : 0 < ((menuAll N).filter fun l => decide (l % 2 = 0)).length := List.length_pos_of_mem (List.mem_filter.mpr ⟨menu_mem.mpr ⟨by decide, by decide, hev rfl⟩, by decide⟩ : (2 : Int) ∈ _)
    refine ⟨_, rfl, _, rfl, L2, _, rfl, .inl (SqL.of h2L), _, _, rfl, rfl, .inl ⟨by decide, by decide⟩, p, _, o, rfl, (by omega), (by omega), (e1.trans e2) _ _ hp, ok, fun at_ H9 a0 a1 w9 => ?_⟩
    obtain ⟨j, rfl⟩ := Int.eq_ofNat_of_zero_le a0
    have nLp : L2 ≠ p := fun z => by
      have h1 := (e1.trans e2) _ _ hp
      rw [← z] at h1
      rw [h2L] at h1
      cases h1
      exact nL2p z
    have h9 := w9.1 _ _ nLp h2L
    refine ⟨_, rfl, _, rfl, L2, _, rfl, .inl (SqL.of h9), _, _, rfl, rfl, _, rfl, ?_⟩
    by_cases hj : ys.length ≤ j
    · rw [decide_eq_true (by omega)]
      obtain ⟨v0, hv0⟩ : ∃ v0, ys[0]? = some v0 := ⟨_, List.getElem?_eq_getElem (by omega)⟩
      obtain ⟨l0, hl0, im0⟩ := hl2.get hv0
      obtain rfl : v0 = .int l0 := im0
      refine iteT ⟨_, rfl, _, rfl, L2, _, _, _, rfl, rfl, SqL.of h9, atI_nat (j := 0) hv0, ?_⟩
      obtain ⟨q1, q2, q3, q4⟩ := mem l0 (List.mem_of_getElem? hl0)
      exact k H9 l0 (Wx.trans (Wx.ex (e1.trans e2)) w9) q1 q2 q3 q4
    · rw [decide_eq_false (by omega)]
      obtain ⟨v0, hv0⟩ : ∃ v0, ys[j]? = some v0 := ⟨_, List.getElem?_eq_getElem (by omega)⟩
      obtain ⟨l0, hl0, im0⟩ := hl2.get hv0
      obtain rfl : v0 = .int l0 := im0
      refine iteF ⟨_, rfl, _, rfl, L2, _, _, _, rfl, rfl, SqL.of h9, atI_nat (j := j) hv0, ?_⟩
      obtain ⟨q1, q2, q3, q4⟩ := mem l0 (List.mem_of_getElem? hl0)
      exact k H9 l0 (Wx.trans (Wx.ex (e1.trans e2)) w9) q1 q2 q3 q4
end
end JD
end Part_JD19
section Part_JMath5
/-! The rows that the law draws. Plain Lean. -/
namespace JT
/-- the gap behind the k-th begin -/
def gapAt (sp : Int) (B : List Int) (k : Nat) : Int := (B.getD ((k + 1) % B.length) 0 - B.getD k 0 - 1) % sp + 1
structure Begs (sp : Int) (B : List Int) : Prop where
  pos : 0 < sp
  ne : B ≠ []
  asc : B.Pairwise (· < ·)
  rng : ∀ b ∈ B, 0 ≤ b ∧ b < sp
section
variable {sp : Int} {B : List Int} (V : Begs sp B)
include V
theorem Begs.at {k : Nat} (h : k < B.length) : B.getD k 0 = B[k] ∧ 0 ≤ B[k] ∧ B[k] < sp := by
  refine ⟨by rw [List.getD_eq_getElem?_getD, List.getElem?_eq_getElem h]; rfl, V.rng _ (List.getElem_mem h)⟩
theorem Begs.lt {k j : Nat} (hj : j < B.length) (h : k < j) : B[k]'(by omega) < B[j] := List.pairwise_iff_getElem.mp V.asc k j (by omega) hj h
theorem Begs.gap {k : Nat} (hk : k < B.length) : 1 ≤ gapAt sp B k ∧ gapAt sp B k ≤ sp ∧
    ∀ j (hj : j < B.length) (m : Int), B[k] < B[j] + m * sp → B[k] + gapAt sp B k ≤ B[j] + m * sp := by
  have h0 := V.pos
  have n1 := Int.emod_nonneg (B.getD ((k + 1) % B.length) 0 - B.getD k 0 - 1) (show sp ≠ 0 by omega)
  have n2 := Int.emod_lt_of_pos (B.getD ((k + 1) % B.length) 0 - B.getD k 0 - 1) h0
  refine ⟨by unfold gapAt; omega, by unfold gapAt; omega, fun j hj m hm => ?_⟩
  obtain ⟨ek, k0, k1⟩ := V.at hk
  obtain ⟨_, j0, j1⟩ := V.at hj
  have hm0 : 0 ≤ m := by
    rcases Int.lt_or_le m 0 with c | c
    · have : m * sp ≤ -1 * sp := Int.mul_le_mul_of_nonneg_right (by omega) (by omega)
      omega
    · exact c
  by_cases hl : k + 1 < B.length
  · have e1 : (k + 1) % B.length = k + 1 := Nat.mod_eq_of_lt hl
    obtain ⟨e2, q0, q1⟩ := V.at hl
    have lt := V.lt hl (Nat.lt_succ_self k)
    have g : gapAt sp B k = B[k + 1] - B[k] := by
      unfold gapAt
      rw [e1, e2, ek, Int.emod_eq_of_lt (by omega) (by omega)]
      omega
    rw [g]
    by_cases z : m = 0
    · subst z
      have : k < j := by
        rcases Nat.lt_trichotomy k j with c | c | c
        · exact c
        · subst c; omega
        · have := V.lt hk c; omega
      have : B[k + 1] ≤ B[j] := by
        rcases Nat.lt_or_eq_of_le (Nat.succ_le_of_lt this) with c | c
        · exact Int.le_of_lt (V.lt hj c)
        · subst c; exact Int.le_refl _
      omega
    · have : 1 * sp ≤ m * sp := Int.mul_le_mul_of_nonneg_right (by omega) (by omega)
      omega
  · have e1 : (k + 1) % B.length = 0 := by
      have : k + 1 = B.length := by omega
      rw [this, Nat.mod_self]
    have h00 : 0 < B.length := by omega
    obtain ⟨e2, q0, q1⟩ := V.at h00
    have le0 : B[0] ≤ B[k] := by
      rcases Nat.eq_zero_or_pos k with c | c
      · subst c; exact Int.le_refl _
      · exact Int.le_of_lt (V.lt hk c)
    have g : gapAt sp B k = B[0] + sp - B[k] := by
      unfold gapAt
      rw [e1, e2, ek]
      have e9 : (B[0] - B[k] - (1 : Int)) = (B[0] - B[k] - (1 : Int) + sp) + (-1 : Int) * sp := by omega
      rw [e9, Int.add_mul_emod_self_right, Int.emod_eq_of_lt (by omega) (by omega)]
      omega
    rw [g]
    have hm1 : m ≠ 0 := fun z => by
      subst z
      have : j ≤ k := by omega
      rcases Nat.lt_or_eq_of_le this with c | c
      · have := V.lt hk c; omega
      · subst c; omega
    have l0 : B[0] ≤ B[j] := by
      rcases Nat.eq_zero_or_pos j with c | c
      · subst c; exact Int.le_refl _
      · exact Int.le_of_lt (V.lt hj c)
    have : 1 * sp ≤ m * sp := Int.mul_le_mul_of_nonneg_right (by omega) (by omega)
    omega
end
/-- the rows of the law: from the begins, each lap -/
structure Drawn (N sp L : Int) (B : List Int) (of : Nat → Int) (rows : List Row) : Prop where
  begs : Begs sp B
  laps : 1 ≤ L
  all : N = L * sp
  big : 1 < N
  off : ∀ k, k < B.length → 0 ≤ of k ∧ of k < gapAt sp B k
  mem : ∀ p : Row, p ∈ rows ↔ ∃ k, ∃ h : k < B.length, ∃ l : Int, 0 ≤ l ∧ l < L ∧ p = (B[k] + l * sp, (B[k] + l * sp + of k) % N)
  asc : rows.Pairwise rowLe
  nd : rows.Nodup
section
variable {N sp L : Int} {B : List Int} {of : Nat → Int} {rows : List Row} (R : Drawn N sp L B of rows)
include R
theorem Drawn.lap {k : Nat} (h : k < B.length) {l : Int} (h0 : 0 ≤ l) (h1 : l < L) : 0 ≤ B[k] + l * sp ∧ B[k] + l * sp < N := by
  obtain ⟨_, b0, b1⟩ := R.begs.at h
  have h2 : 0 * sp ≤ l * sp := Int.mul_le_mul_of_nonneg_right h0 (Int.le_of_lt R.begs.pos)
  have h3 : (l + 1) * sp ≤ L * sp := Int.mul_le_mul_of_nonneg_right (by omega) (Int.le_of_lt R.begs.pos)
  rw [Int.add_mul, Int.one_mul, ← R.all] at h3
  omega
theorem Drawn.spN : sp ≤ N := by
  have h3 : 1 * sp ≤ L * sp := Int.mul_le_mul_of_nonneg_right R.laps (Int.le_of_lt R.begs.pos)
  rw [← R.all] at h3
  omega
theorem Drawn.offOf {k : Nat} (h : k < B.length) (l : Int) : JT.off N (B[k] + l * sp, (B[k] + l * sp + of k) % N) = of k := by
  obtain ⟨g1, g2, _⟩ := R.begs.gap h
  obtain ⟨o0, o1⟩ := R.off k h
  have := R.spN
  show ((B[k] + l * sp + of k) % N - (B[k] + l * sp)) % N = of k
  rw [Int.sub_emod, Int.emod_emod, ← Int.sub_emod]
  have : B[k] + l * sp + of k - (B[k] + l * sp) = of k := by omega
  rw [this, Int.emod_eq_of_lt o0 (by omega)]
theorem Drawn.next {k j : Nat} (hk : k < B.length) (hj : j < B.length) {l m : Int} (h : B[k] + l * sp < B[j] + m * sp) : B[k] + l * sp + of k < B[j] + m * sp := by
  obtain ⟨_, _, g⟩ := R.begs.gap hk
  have e : (m - l) * sp = m * sp - l * sp := Int.sub_mul ..
  have := g j hj (m - l) (by omega)
  have := (R.off k hk).2
  omega
theorem Drawn.ok : Rows N rows := by
  refine ⟨R.big, ?_, ?_, ?_, ?_, ?_⟩
  · intro z
    have h0 : 0 < B.length := List.length_pos_iff.mpr R.begs.ne
    have := (R.mem (B[0] + 0 * sp, (B[0] + 0 * sp + of 0) % N)).mpr ⟨0, h0, 0, Int.le_refl _, by have := R.laps; omega, rfl⟩
    rw [z] at this
    cases this
  · refine (List.Pairwise.and_mem.mp (R.asc.and R.nd)).imp fun {a b} ⟨ha, hb, le, ne⟩ => ?_
    rcases le with h | ⟨h, _⟩
    · exact h
    · exfalso
      obtain ⟨k, hk, l, l0, l1, rfl⟩ := (R.mem a).mp ha
      obtain ⟨j, hj, m, m0, m1, rfl⟩ := (R.mem b).mp hb
      have h : B[k] + l * sp = B[j] + m * sp := h
      obtain ⟨_, b0, b1⟩ := R.begs.at hk
      obtain ⟨_, c0, c1⟩ := R.begs.at hj
      have e : (l - m) * sp = l * sp - m * sp := Int.sub_mul ..
      have : l = m := by
        rcases Int.lt_trichotomy l m with c | c | c
        · have : (l - m) * sp ≤ -1 * sp := Int.mul_le_mul_of_nonneg_right (by omega) (by omega)
          omega
        · exact c
        · have : 1 * sp ≤ (l - m) * sp := Int.mul_le_mul_of_nonneg_right (by omega) (by omega)
          omega
      subst this
      have : B[k] = B[j] := by omega
      have kj : k = j := by
        rcases Nat.lt_trichotomy k j with c | c | c
        · have := R.begs.lt hj c; omega
        · exact c
        · have := R.begs.lt hk c; omega
      subst kj
      exact ne rfl
  · intro p hp
    obtain ⟨k, hk, l, l0, l1, rfl⟩ := (R.mem p).mp hp
    have := R.lap hk l0 l1
    have := R.big
    exact ⟨by simp only; omega, by simp only; omega, Int.emod_nonneg _ (by omega), Int.emod_lt_of_pos _ (by omega)⟩
  · intro p hp q hq h
    obtain ⟨k, hk, l, l0, l1, rfl⟩ := (R.mem p).mp hp
    obtain ⟨j, hj, m, m0, m1, rfl⟩ := (R.mem q).mp hq
    rw [R.offOf hk]
    exact R.next hk hj h
  · intro p hp q hq
    obtain ⟨k, hk, l, l0, l1, rfl⟩ := (R.mem p).mp hp
    obtain ⟨j, hj, m, m0, m1, rfl⟩ := (R.mem q).mp hq
    rw [R.offOf hk]
    have h1 := R.lap hk l0 l1
    have h2 := R.lap hj m0 m1
    have e : (m + L) * sp = m * sp + N := by rw [Int.add_mul, ← R.all]
    have := R.next hk hj (l := l) (m := m + L) (by omega)
    simp only
    omega
theorem Drawn.beg (b o : Int) : Beg N rows b o ↔ ∃ k, ∃ h : k < B.length, ∃ l : Int, b = B[k] + l * sp ∧ o = of k := by
  constructor
  · rintro ⟨p, hp, q, rfl, rfl⟩
    obtain ⟨k, hk, l, l0, l1, rfl⟩ := (R.mem p).mp hp
    refine ⟨k, hk, l + q * L, ?_, R.offOf hk l⟩
    rw [Int.add_mul, Int.mul_assoc, ← R.all]
    simp only
    omega
  · rintro ⟨k, hk, l, rfl, rfl⟩
    have hL := R.laps
    refine ⟨(B[k] + l % L * sp, (B[k] + l % L * sp + of k) % N), (R.mem _).mpr ⟨k, hk, l % L, Int.emod_nonneg _ (by omega), Int.emod_lt_of_pos _ (by omega), rfl⟩, l / L, ?_, (R.offOf hk _).symm⟩
    have e := Int.emod_add_mul_ediv l L
    have : l * sp = l % L * sp + l / L * N := by
      have e2 : l = l % L + l / L * L := by rw [Int.mul_comm (l / L)]; exact e.symm
      calc l * sp = (l % L + l / L * L) * sp := by rw [← e2]
        _ = l % L * sp + l / L * N := by rw [Int.add_mul, Int.mul_assoc, ← R.all]
    simp only
    omega
theorem Drawn.comm : Comm N rows sp := comm_of_beg R.ok fun b o => by
  rw [R.beg, R.beg]
  constructor
  · rintro ⟨k, hk, l, rfl, rfl⟩
    exact ⟨k, hk, l + 1, by rw [Int.add_mul, Int.one_mul]; omega, rfl⟩
  · rintro ⟨k, hk, l, e, rfl⟩
    exact ⟨k, hk, l - 1, by rw [Int.sub_mul, Int.one_mul]; omega, rfl⟩
end
end JT
end Part_JMath5
section Part_JD20
set_option Elab.async false
set_option linter.all false
set_option maxRecDepth 100000
set_option maxHeartbeats 4000000
namespace JD
open PySem PySem.Spec PyProof.Rows L2 JR JX JT LamX
open Evl (Ex)
theorem mod_all {sp z0 : Int} (h0 : 0 < sp) {bs : List Int} (h : ∀ i : Nat, (i : Int) < sp → (z0 + (i : Int)) % sp ∈ bs) : sp ≤ (bs.length : Int) := by
  have nd : ((List.range sp.toNat).map fun i : Nat => (z0 + (i : Int)) % sp).Nodup := nodup_map_of List.nodup_range fun a ha b hb e => by
    have ha := List.mem_range.mp ha
    have hb := List.mem_range.mp hb
    have := mod_inj (M := sp) (t := z0) (x := (a : Int)) (y := (b : Int)) (by omega) (by omega) e
    omega
  have := nodup_le nd fun x hx => by
    obtain ⟨i, hi, rfl⟩ := List.mem_map.mp hx
    have := List.mem_range.mp hi
    exact h i (by omega)
  rw [List.length_map, List.length_range] at this
  omega
theorem inV_int {z : Int} : ∀ {bs : List Int}, inV (.int z) (bs.map V.int) = decide (z ∈ bs)
  | [] => rfl
  | b :: bs => by
    have ih := inV_int (z := z) (bs := bs)
    unfold inV at ih ⊢
    rw [List.map_cons, List.any_cons, ih]
    by_cases h : z = b
    · subst h
      have : eqV (.int z) (.int z) = true := decide_eq_true rfl
      rw [this]
      simp
    · have : eqV (.int b) (.int z) = false := decide_eq_false fun e => h (by first | exact (V.int.inj e).symm | exact e.symm)
      rw [this]
      simp [h]
theorem flat_ints (bs : List Int) : (bs.map V.int).all flatV = true := by
  rw [List.all_eq_true]
  intro x hx
  obtain ⟨z, _, rfl⟩ := List.mem_map.mp hx
  rfl
/-- the pairs of one begin, of the first i begins -/
def lapRows (N S : Int) (L : Nat) (b f : Int) : List JT.Row := (List.range L).map fun l : Nat => (b + (l : Int) * S, (b + (l : Int) * S + f) % N)
def prs (N S : Int) (L : Nat) (B : List Int) (of : Nat → Int) : Nat → List JT.Row
  | 0 => []
  | i + 1 => prs N S L B of i ++ lapRows N S L (B.getD i 0) (of i)
theorem prs_congr {N S : Int} {L : Nat} {B : List Int} {of of' : Nat → Int} : ∀ {i : Nat}, (∀ k, k < i → of k = of' k) → prs N S L B of i = prs N S L B of' i
  | 0, _ => rfl
  | i + 1, h => by
    unfold prs
    rw [prs_congr fun k hk => h k (Nat.lt_succ_of_lt hk), h i (Nat.lt_succ_self i)]
theorem prs_len {N S : Int} {L : Nat} {B : List Int} {of : Nat → Int} : ∀ i : Nat, (prs N S L B of i).length = i * L
  | 0 => by simp [prs]
  | i + 1 => by
    unfold prs
    rw [List.length_append, prs_len i]
    unfold lapRows
    rw [List.length_map, List.length_range, Nat.succ_mul]
theorem prs_mem {N S : Int} {L : Nat} {B : List Int} {of : Nat → Int} {p : JT.Row} : ∀ {i : Nat}, p ∈ prs N S L B of i ↔ ∃ k, k < i ∧ ∃ l : Int, 0 ≤ l ∧ l < (L : Int) ∧ p = (B.getD k 0 + l * S, (B.getD k 0 + l * S + of k) % N)
  | 0 => by
    unfold prs
    constructor
    · intro h; cases h
    · rintro ⟨k, hk, _⟩; omega
  | i + 1 => by
    unfold prs
    rw [List.mem_append, prs_mem (i := i)]
    constructor
    · rintro (⟨k, hk, l, h⟩ | h)
      · exact ⟨k, by omega, l, h⟩
      · obtain ⟨l, hl, rfl⟩ := List.mem_map.mp h
        have := List.mem_range.mp hl
        exact ⟨i, by omega, (l : Int), by omega, by omega, rfl⟩
    · rintro ⟨k, hk, l, h0, h1, rfl⟩
      rcases Nat.lt_or_eq_of_le (Nat.lt_succ_iff.mp hk) with c | c
      · exact .inl ⟨k, c, l, h0, h1, rfl⟩
      · subst c
        refine .inr (List.mem_map.mpr ⟨l.toNat, List.mem_range.mpr (by omega), ?_⟩)
        rw [Int.toNat_of_nonneg h0]
theorem lap_inj {S a b l m : Int} (ha : 0 ≤ a ∧ a < S) (hb : 0 ≤ b ∧ b < S) (h : a + l * S = b + m * S) : a = b ∧ l = m := by
  have h1 : (a + l * S) % S = (b + m * S) % S := by rw [h]
  rw [Int.add_mul_emod_self_right, Int.add_mul_emod_self_right, Int.emod_eq_of_lt ha.1 ha.2, Int.emod_eq_of_lt hb.1 hb.2] at h1
  refine ⟨h1, ?_⟩
  have h2 : l * S = m * S := by omega
  exact Int.eq_of_mul_eq_mul_right (show S ≠ 0 by omega) h2
theorem prs_nodup {N S : Int} {L : Nat} {B : List Int} {of : Nat → Int} (V : Begs S B) : ∀ {i : Nat}, i ≤ B.length → (prs N S L B of i).Nodup
  | 0, _ => List.nodup_nil
  | i + 1, hi => by
    unfold prs
    have eg : ∀ k (hk : k < B.length), B.getD k 0 = B[k] := fun k hk => (V.at hk).1
    rw [List.nodup_append]
    refine ⟨prs_nodup V (by omega), ?_, fun a ha b hb e => ?_⟩
    · refine nodup_map_of List.nodup_range fun a _ b _ e => ?_
      have e1 := congrArg Prod.fst e
      have e1 : B.getD i 0 + (a : Int) * S = B.getD i 0 + (b : Int) * S := e1
      rw [eg i (by omega)] at e1
      have := (lap_inj (V.at (show i < B.length by omega)).2 (V.at (show i < B.length by omega)).2 e1).2
      omega
    · obtain ⟨k, hk, l, _, _, rfl⟩ := prs_mem.mp ha
      obtain ⟨m, _, rfl⟩ := List.mem_map.mp hb
      have e1 := congrArg Prod.fst e
      have e1 : B.getD k 0 + l * S = B.getD i 0 + (m : Int) * S := e1
      rw [eg i (by omega), eg k (by omega)] at e1
      have := (lap_inj (V.at (show k < B.length by omega)).2 (V.at (show i < B.length by omega)).2 e1).1
      have := V.lt (show i < B.length by omega) hk
      omega
theorem drawn_of {N S L : Int} {B : List Int} {of : Nat → Int} {T : List JT.Row} (V : Begs S B) (hL : 1 ≤ L) (eN : N = L * S) (hN : 1 < N) (ho : ∀ k, k < B.length → 0 ≤ of k ∧ of k < gapAt S B k) (pm : T.Perm (prs N S L.toNat B of B.length)) (so : T.Pairwise rowLe) : Drawn N S L B of T := by
  refine ⟨V, hL, eN, hN, ho, fun p => ?_, so, pm.nodup_iff.mpr (prs_nodup V (Nat.le_refl _))⟩
  rw [pm.mem_iff, prs_mem]
  constructor
  · rintro ⟨k, hk, l, h0, h1, rfl⟩
    exact ⟨k, hk, l, h0, by omega, by rw [(V.at hk).1]⟩
  · rintro ⟨k, hk, l, h0, h1, rfl⟩
    exact ⟨k, hk, l, h0, by omega, by rw [(V.at hk).1]⟩
section
variable {P : Program} {w : World} {K : PySem.W.Frag} {mg : Str → Option Value} {base : Heap}
def sp_rows (K : PySem.W.Frag) : Sp := fun vs H Q _ => ∃ (p : Addr) (N L : Int) (o : HO), vs = [.ref p, .int N, .int L, .int 12] ∧ H p = some o ∧ PoolOk o ∧ 2 ≤ N ∧ N ≤ 360 ∧ 1 ≤ L ∧ L ≤ 12 ∧ N % L = 0 ∧
  ∀ H' q xs rows, Wx p PoolOk H H' → q ≠ p → H' q = some (.lst xs) → Ls H' encRow xs rows → Rows N rows → rows.length ≤ 12 → Comm N rows (N / L) → Q (.ref q) H'
abbrev N_law_rows : List Str := ["_law_pool_here", "_law_around", "_law_laps_here", "_law_most", "_law_span_here", "_law_many", "_law_begins", "_law_k", "_law_begin", "_law_j", "_law_pairs", "_law_size", "_law_off", "_law_lap"]
theorem sc_law_rows : FnScope N_law_rows ["_law_pool_here", "_law_around", "_law_laps_here", "_law_most"] (defScope s_law_rows) := ⟨rfl, rfl, rfl, by decide +kernel, rfl, by decide +kernel, by decide +kernel⟩
theorem ok_law_rows (T : Txt K mg) : DefOk P w K mg base 2 (He.ga K "_law_rows") ["_law_pool_here", "_law_around", "_law_laps_here", "_law_most"] (sp_rows K) := by
  obtain ⟨fd, F⟩ := T.d_law_rows
  obtain ⟨fd_law_draw, G_law_draw, kp_law_draw, b_law_draw⟩ := ok_law_draw (P := P) (w := w) (base := base) T
  refine ⟨fd, F.ok sc_law_rows (fun vs H Q E h => ?_) (fun cdv A outer s H vs Q E hr h => ?_), F.kp, F.bindsN fun _ _ _ _ _ _ us hl => match us, hl with | [_, _, _, _], _ => rfl⟩
  · obtain ⟨p, N, L, o, rfl, hp, ok, n2, n3, l1, l2, hd, k⟩ := h
    rfl
  have hu := hu_of hr
  have nd := sc_law_rows.nd
  obtain ⟨p, N, L, o, rfl, hp, ok, n2, n3, l1, l2, hd, k⟩ := h
  refine ⟨_, (PSs.nox (pss_cons (ps_set (i := 4) nd rfl (by first | exact Or.inl rfl | exact Or.inr rfl) (pe_op op_fdiv (pv 1) (pv 2)))
  (pss_cons (ps_set (i := 5) nd rfl (by first | exact Or.inl rfl | exact Or.inr rfl) (pe_op op_add pe_int (pe_call G_law_draw (hr.mono (by decide)) rfl T.g_law_draw kp_law_draw b_law_draw .nil pass0 (pa_cons (pv 0) (pa_cons (pe_callB (call_min2 rfl) (by rfl) T.b_min rfl (pa_cons (pe_op op_fdiv (pv 3) (pv 2)) (pa_cons (pv 4) pa_nil))) pa_nil)))))
  (pss_cons (ps_set (i := 6) nd rfl (by first | exact Or.inl rfl | exact Or.inr rfl) (pe_lst pa_nil))
  (pss_cons (ps_for PassesOwn.never rfl (pi_range1 rfl T.b_range (pa_cons (pv 5) pa_nil)) (pg_name (i := 7) nd rfl (by first | exact Or.inl rfl | exact Or.inr rfl)) (pss_cons (ps_set (i := 8) nd rfl (by first | exact Or.inl rfl | exact Or.inr rfl) (pe_call G_law_draw (hr.mono (by decide)) rfl T.g_law_draw kp_law_draw b_law_draw .nil pass0 (pa_cons (pv 0) (pa_cons (pv 4) pa_nil))))
  (pss_cons (ps_for PassesOwn.never rfl (pi_range1 rfl T.b_range (pa_cons (pv 4) pa_nil)) (pg_name (i := 9) nd rfl (by first | exact Or.inl rfl | exact Or.inr rfl)) (pss_cons (ps_if (pt_cmpR (op_notIn_seqK K) (pv 8) (pv 6) rfl) (pss_one ps_break) pss_nil)
  (pss_one (ps_set (i := 8) nd rfl (by first | exact Or.inl rfl | exact Or.inr rfl) (pe_op op_mod (pe_op op_add (pv 8) pe_int) (pv 4))))))
  (pss_one (ps_expr (pe_bm PySem.F.plainAttrs_list PySem.F.slot_list_append PySem.F.type_list_append mt_append (pv 6) (pa_cons (pv 8) pa_nil)))))))
  (pss_cons (ps_set (i := 6) nd rfl (by first | exact Or.inl rfl | exact Or.inr rfl) (pe_callB (cr_sortedE shape_int hr.units) (by rfl) T.b_sorted rfl (pa_cons (pv 6) pa_nil)))
  (pss_cons (ps_set (i := 10) nd rfl (by first | exact Or.inl rfl | exact Or.inr rfl) (pe_lst pa_nil))
  (pss_cons (ps_for PassesOwn.never rfl (pi_range1 rfl T.b_range (pa_cons (pv 5) pa_nil)) (pg_name (i := 7) nd rfl (by first | exact Or.inl rfl | exact Or.inr rfl)) (pss_cons (ps_set (i := 11) nd rfl (by first | exact Or.inl rfl | exact Or.inr rfl) (pe_op op_add (pe_op op_mod (pe_op op_sub (pe_op op_sub (pe_ix (ix_listK K) (pv 6) (pe_op op_mod (pe_op op_add (pv 7) pe_int) (pv 5)) (fun _ _ => rfl)) (pe_ix (ix_listK K) (pv 6) (pv 7) (fun _ _ => rfl))) pe_int) (pv 4)) pe_int))
  (pss_cons (ps_set (i := 12) nd rfl (by first | exact Or.inl rfl | exact Or.inr rfl) (pe_call G_law_draw (hr.mono (by decide)) rfl T.g_law_draw kp_law_draw b_law_draw .nil pass0 (pa_cons (pv 0) (pa_cons (pv 11) pa_nil))))
  (pss_one (ps_for PassesOwn.never rfl (pi_range1 rfl T.b_range (pa_cons (pv 2) pa_nil)) (pg_name (i := 13) nd rfl (by first | exact Or.inl rfl | exact Or.inr rfl)) (pss_cons (ps_set (i := 8) nd rfl (by first | exact Or.inl rfl | exact Or.inr rfl) (pe_op op_add (pe_ix (ix_listK K) (pv 6) (pv 7) (fun _ _ => rfl)) (pe_op op_mul (pv 13) (pv 4))))
  (pss_one (ps_expr (pe_bm PySem.F.plainAttrs_list PySem.F.slot_list_append PySem.F.type_list_append mt_append (pv 10) (pa_cons (pe_tup (pa_cons (pv 8) (pa_cons (pe_op op_mod (pe_op op_add (pv 8) (pv 12)) (pv 1)) pa_nil))) pa_nil))))))))))
  (pss_one (ps_ret (pe_callB (cr_sortedE shape_row hr.units) (by rfl) T.b_sorted rfl (pa_cons (pv 10) pa_nil)))))))))))), ?_⟩
  have RW : Rel (Wx p PoolOk) (· ≠ p) := relWx
  have s1 : 1 ≤ N / L := by
    have := Int.ediv_mul_cancel (Int.dvd_of_emod_eq_zero hd)
    rcases Int.lt_or_le (N / L) 1 with c | c
    · have : N / L * L ≤ 0 * L := Int.mul_le_mul_of_nonneg_right (by omega) (by omega)
      omega
    · exact c
  have s2 : N / L ≤ 360 := by
    have := Int.ediv_le_self (a := N) L (by omega)
    omega
  have eN : N = L * (N / L) := by rw [Int.mul_comm]; exact (Int.ediv_mul_cancel (Int.dvd_of_emod_eq_zero hd)).symm
  refine ⟨_, rfl, _, rfl, _, _, rfl, rfl, ⟨by omega, by omega⟩, ?_⟩
  show gName 4 (V.int (N / L)) _ _ _
  obtain ⟨S, eS⟩ : ∃ S, S = N / L := ⟨_, rfl⟩
  rw [← eS] at s1 s2 eN k ⊢
  have q1 : 1 ≤ 12 / L := by
    rcases Int.lt_or_le (12 / L) 1 with c | c
    · have h1 := Int.emod_add_mul_ediv 12 L
      have h2 := Int.emod_lt_of_pos 12 (show 0 < L by omega)
      have h3 : L * (12 / L) ≤ L * 0 := Int.mul_le_mul_of_nonneg_left (by omega) (by omega)
      omega
    · exact c
  have q2 : 12 / L * L ≤ 12 := by
    have h1 := Int.emod_add_mul_ediv 12 L
    have h2 := Int.emod_nonneg 12 (show L ≠ 0 by omega)
    rw [Int.mul_comm] at h1
    omega
  have q3 : 12 / L ≤ 12 := Int.ediv_le_self L (by decide)
  refine ⟨_, rfl, _, rfl, _, rfl, _, _, rfl, rfl, ⟨by omega, by omega⟩, _, rfl, _, _, rfl, ?_⟩
  obtain ⟨mn, emn⟩ : ∃ mn, mn = if S < 12 / L then S else 12 / L := ⟨_, rfl⟩
  have mn1 : 1 ≤ mn ∧ mn ≤ S ∧ mn ≤ 12 / L := by rw [emn]; split <;> omega
  rw [← emn]
  refine ⟨p, mn, o, rfl, (by omega), (by omega), hp, ok, fun m0 H1 m1 m2 w1 => ?_⟩
  refine ⟨_, _, rfl, rfl, ?_⟩
  obtain ⟨M, eM⟩ : ∃ M : Nat, 1 + m0 = (M : Int) := Int.eq_ofNat_of_zero_le (by omega)
  show gName 5 (V.int (1 + m0)) _ _ _
  rw [eM]
  have M1 : 1 ≤ M := by omega
  have M2 : (M : Int) ≤ S := by omega
  have M3 : (M : Int) ≤ 12 / L := by omega
  -- begins = []
  refine ⟨Nat.zero_le _, fun bl hbl => ?_⟩
  have fr : ∀ {F : Hp} {a : Addr}, Wx p PoolOk H F → F a = none → H a = none ∧ a ≠ p := fun {F a} e h => by
    have hq : H a = none := by
      cases z : H a with
      | none => rfl
      | some u =>
        by_cases n : a = p
        · subst n
          obtain ⟨u', g, _⟩ := e.2 ⟨_, hp, ok⟩
          rw [g] at h
          cases h
        · rw [e.1 _ _ n z] at h
          cases h
    exact ⟨hq, fun z => by rw [z, hp] at hq; cases hq⟩
  obtain ⟨hbl0, nbp⟩ := fr w1 hbl
  have w2 : Wx p PoolOk H (upd H1 bl (.lst [])) := RW.alt w1 hbl0
  refine ⟨_, rfl, (M : Int), rfl, (by omega), (by omega), ?_⟩
  rw [Int.toNat_natCast]
  refine for_range (fun i σ F => Wx p PoolOk H F ∧ (∃ x7 x8 x9, σ = [some (.ref p), some (.int N), some (.int L), some (.int 12), some (.int S), some (.int (M : Int)), some (.ref bl), x7, x8, x9, none, none, none, none]) ∧ ∃ bs : List Int, F bl = some (.lst (bs.map V.int)) ∧ bs.length = i ∧ bs.Nodup ∧ ∀ b ∈ bs, 0 ≤ b ∧ b < S) ⟨w2, ⟨none, none, none, rfl⟩, [], upd_same, rfl, List.nodup_nil, fun b hb => by cases hb⟩ ?_ ?_
  · rintro i σ F hi ⟨wF, ⟨x7, x8, x9, rfl⟩, bs, hbs, lbs, ndb, rb⟩
    obtain ⟨o1, hp1, ok1⟩ := wF.2 ⟨o, hp, ok⟩
    refine ⟨_, rfl, _, rfl, p, S, o1, rfl, (by omega), (by omega), hp1, ok1, fun z F1 z0 z1 wz => ?_⟩
    have wF1 := wF.trans wz
    have hb1 := wz.1 _ _ nbp hbs
    have e0 : (z + ((0 : Nat) : Int)) % S = z := by rw [Int.emod_eq_of_lt] <;> omega
    refine ⟨_, rfl, S, rfl, (by omega), (by omega), ?_⟩
    refine for_range (fun j σ F' => F' = F1 ∧ (∃ x9, σ = [some (.ref p), some (.int N), some (.int L), some (.int 12), some (.int S), some (.int (M : Int)), some (.ref bl), some (.int (0 + (i : Int))), some (.int ((z + (j : Int)) % S)), x9, none, none, none, none]) ∧ ∀ i' : Nat, i' < j → (z + (i' : Int)) % S ∈ bs) ⟨rfl, ⟨x9, by rw [e0]; rfl⟩, fun i' h => by omega⟩ ?_ ?_
    · rintro j σ F' hj ⟨rfl, ⟨y9, rfl⟩, hm⟩
      refine ⟨_, rfl, _, rfl, bl, _, rfl, .inl (SqL.of hb1), rfl, flat_ints bs, _, rfl, ?_⟩
      rw [inV_int]
      by_cases hz : (z + (j : Int)) % S ∈ bs
      · rw [decide_eq_true hz]
        refine iteF ⟨_, rfl, _, _, rfl, rfl, _, rfl, _, _, rfl, rfl, (by omega), ?_⟩
        refine ⟨rfl, ⟨some (.int (0 + (j : Int))), ?_⟩, fun i' h => ?_⟩
        · have e2 : ((z + (j : Int)) % S + 1) % S = (z + ((j + 1 : Nat) : Int)) % S := by
            rw [Int.emod_add_emod]
            congr 1
            omega
          rw [← e2]
          rfl
        · rcases Nat.lt_or_eq_of_le (Nat.lt_succ_iff.mp h) with c | c
          · exact hm i' c
          · subst c; exact hz
      · rw [decide_eq_false hz]
        refine iteT ?_
        refine ⟨_, rfl, .inl ⟨rfl, _, SqL.of hb1⟩, _, rfl, bl, _, _, rfl, rfl, hb1, Evl.sz_lt (by rw [List.length_map]; omega), ?_⟩
        refine ⟨RW.alt wF1 hbl0, ⟨_, _, _, rfl⟩, bs ++ [(z + (j : Int)) % S], by rw [List.map_append]; exact upd_same, by rw [List.length_append, lbs]; rfl, ?_, fun b hb => ?_⟩
        · rw [List.nodup_append]
          refine ⟨ndb, by simp, fun a ha b hb e => ?_⟩
          rw [List.mem_singleton] at hb
          rw [e, hb] at ha
          exact hz ha
        · rcases List.mem_append.mp hb with hb | hb
          · exact rb b hb
          · rw [List.mem_singleton.mp hb]
            exact ⟨Int.emod_nonneg _ (by omega), Int.emod_lt_of_pos _ (by omega)⟩
    · rintro σ F' ⟨rfl, ⟨y9, rfl⟩, hm⟩
      have := mod_all (sp := S) (z0 := z) (bs := bs) (by omega) fun i' hi' => hm i' (by omega)
      omega
  · rintro σ F ⟨wF, ⟨x7, x8, x9, rfl⟩, bs, hbs, lbs, ndb, rb⟩
    refine ⟨_, rfl, bl, _, bs, rfl, SqL.of hbs, Ls.ints bs, fun xs' B p' pm so hl' hp' => ?_⟩
    obtain ⟨hp0', npp'⟩ := fr wF hp'
    have hB' := Ls.ints_eq hl'
    subst hB'
    have lB : B.length = M := by rw [pm.length_eq, lbs]
    have VB : Begs S B := by
      refine ⟨by omega, fun z => by rw [z] at lB; simp at lB; omega, ?_, fun b hb => rb b (pm.mem_iff.mp hb)⟩
      have ndB : B.Nodup := pm.nodup_iff.mpr ndb
      exact ((so.imp fun {a b} h => JR.le_int h).and ndB).imp fun {a b} ⟨h1, h2⟩ => by
        have : a ≠ b := h2
        omega
    have wS : Wx p PoolOk H (upd F p' (.lst (B.map V.int))) := RW.alt wF hp0'
    obtain ⟨F2, eF2⟩ : ∃ F2, F2 = upd F p' (.lst (B.map V.int)) := ⟨_, rfl⟩
    have hF2p : F2 p' = some (.lst (B.map V.int)) := by rw [eF2]; exact upd_same
    rw [← eF2] at wS ⊢
    refine ⟨Nat.zero_le _, fun pl hpl => ?_⟩
    obtain ⟨hpl0, nplp⟩ := fr wS hpl
    have npl' : p' ≠ pl := fun z => by rw [← z, hF2p] at hpl; cases hpl
    refine ⟨_, rfl, (M : Int), rfl, (by omega), (by omega), ?_⟩
    rw [Int.toNat_natCast]
    refine for_range (fun i σ F => Wx p PoolOk H F ∧ F p' = some (.lst (B.map V.int)) ∧ (∃ x7 x8 x9 x11 x12 x13, σ = [some (.ref p), some (.int N), some (.int L), some (.int 12), some (.int S), some (.int (M : Int)), some (.ref p'), x7, x8, x9, some (.ref pl), x11, x12, x13]) ∧ ∃ of xs, F pl = some (.lst xs) ∧ Ls F encRow xs (prs N S L.toNat B of i) ∧ ∀ k, k < i → 0 ≤ of k ∧ of k < gapAt S B k)
      ⟨RW.alt wS hpl0, (upd_ne npl').trans hF2p, ⟨x7, x8, x9, none, none, none, rfl⟩, fun _ => 0, [], upd_same, .nil, fun k hk => by omega⟩ ?_ ?_
    · rintro i σ F3 hi ⟨w3, h3p, ⟨y7, y8, y9, y11, y12, y13, rfl⟩, of, xs, hxs, hlx, ho⟩
      have hiB : i < B.length := by omega
      have z0 : (0 : Int) + (i : Int) = (i : Int) := Int.zero_add _
      rw [z0]
      have hj : (i + 1) % B.length < B.length := Nat.mod_lt _ (by omega)
      have g1 : (B.map V.int)[(i + 1) % B.length]? = some (.int (B.getD ((i + 1) % B.length) 0)) := by rw [List.getElem?_map, List.getElem?_eq_getElem hj, (VB.at hj).1]; rfl
      have g0 : (B.map V.int)[i]? = some (.int (B.getD i 0)) := by rw [List.getElem?_map, List.getElem?_eq_getElem hiB, (VB.at hiB).1]; rfl
      have idx : ((i : Int) + 1) % (M : Int) = (((i + 1) % B.length : Nat) : Int) := by rw [lB]; rfl
      obtain ⟨G1, G2, _⟩ := VB.gap hiB
      obtain ⟨o3, hp3, ok3⟩ := w3.2 ⟨o, hp, ok⟩
      refine ⟨_, rfl, _, rfl, _, _, rfl, rfl, _, rfl, _, _, rfl, rfl, (by omega), p', _, _, _, rfl, rfl, SqL.of h3p, (by show atI (B.map V.int) (((i : Int) + 1) % (M : Int)) = some _; rw [idx]; exact atI_nat (j := (i + 1) % B.length) g1), _, rfl, _, rfl, p', _, _, _, rfl, rfl, SqL.of h3p, atI_nat (j := i) g0, _, _, rfl, rfl, _, _, rfl, rfl, _, rfl, _, _, rfl, rfl, (by omega), _, _, rfl, rfl, ?_⟩
      show gName 11 (V.int (gapAt S B i)) _ _ _
      obtain ⟨gz, egz⟩ : ∃ gz, gz = gapAt S B i := ⟨_, rfl⟩
      rw [← egz] at G1 G2 ⊢
      refine ⟨_, rfl, _, rfl, p, gz, o3, rfl, (by omega), (by omega), hp3, ok3, fun f F4 f0 f1 w4 => ?_⟩
      have w34 := w3.trans w4
      refine ⟨_, rfl, L, rfl, (by omega), (by omega), ?_⟩
      refine for_range (fun j σ F => Wx p PoolOk H F ∧ F p' = some (.lst (B.map V.int)) ∧ (∃ x8 x9 x13, σ = [some (.ref p), some (.int N), some (.int L), some (.int 12), some (.int S), some (.int (M : Int)), some (.ref p'), some (.int (i : Int)), x8, x9, some (.ref pl), some (.int gz), some (.int f), x13]) ∧ ∃ xs, F pl = some (.lst xs) ∧ Ls F encRow xs (prs N S L.toNat B of i ++ (List.range j).map fun l : Nat => ((B.getD i 0 + (l : Int) * S, (B.getD i 0 + (l : Int) * S + f) % N) : JT.Row)))
        ⟨w34, w4.1 _ _ npp' h3p, ⟨y8, y9, y13, rfl⟩, xs, w4.1 _ _ nplp hxs, by rw [List.range_zero, List.map_nil, List.append_nil]; exact hlx.keep (w4.tups hp3 (by obtain ⟨_, _, _, rfl⟩ := ok3; exact fun _ z => nomatch z))⟩ ?_ ?_
      · rintro j σ F5 hj ⟨w5, h5p, ⟨u8, u9, u13, rfl⟩, xs5, hxs5, hl5⟩
        have z1 : (0 : Int) + (j : Int) = (j : Int) := Int.zero_add _
        rw [z1]
        have l5 := hl5.len
        rw [List.length_append, prs_len, List.length_map, List.length_range] at l5
        have l6 : i * L.toNat ≤ 360 * 12 := Nat.mul_le_mul (by omega) (by omega)
        refine ⟨_, rfl, _, rfl, p', _, _, _, rfl, rfl, SqL.of h5p, atI_nat (j := i) g0, _, rfl, _, rfl, _, _, rfl, rfl, .inr ⟨by omega, by omega⟩, _, _, rfl, rfl, ?_⟩
        refine ⟨_, rfl, .inl ⟨rfl, _, SqL.of hxs5⟩, _, rfl, _, rfl, _, rfl, _, _, rfl, rfl, _, rfl, _, _, rfl, rfl, (by omega), (by show 2 ≤ sizeLine; decide), fun t ht => ⟨pl, xs5, _, rfl, rfl, ex_new ht _ _ hxs5, Evl.sz_lt (by omega), ?_⟩⟩
        have npl3 : p' ≠ pl := npl'
        have w6 := w5.trans (Wx.ex (ex_new (o := .tup [.int (B.getD i 0 + (j : Int) * S), .int ((B.getD i 0 + (j : Int) * S + f) % N)]) ht))
        refine ⟨RW.alt w6 hpl0, (upd_ne npl3).trans (ex_new ht _ _ h5p), ⟨_, _, _, rfl⟩, _, upd_same, ?_⟩
        have t7 := (Tups.new (o := .tup [.int (B.getD i 0 + (j : Int) * S), .int ((B.getD i 0 + (j : Int) * S + f) % N)]) ht)
        have t8 : Tups (upd F5 t (.tup [.int (B.getD i 0 + (j : Int) * S), .int ((B.getD i 0 + (j : Int) * S + f) % N)])) _ := Tups.mut (o := .lst (xs5 ++ [.ref t])) (ex_new ht _ _ hxs5) fun _ z => nomatch z
        rw [List.range_succ, List.map_append, ← List.append_assoc]
        refine ((hl5.keep t7).keep t8).snoc (Im.keep t8 ⟨t, _, rfl, upd_same, _, _, rfl, rfl, _, _, rfl, rfl, rfl⟩)
      · rintro σ F5 ⟨w5, h5p, ⟨u8, u9, u13, rfl⟩, xs5, hxs5, hl5⟩
        have ecg : prs N S L.toNat B (fun k => if k = i then f else of k) i = prs N S L.toNat B of i := prs_congr fun k hk => if_neg (by omega)
        refine ⟨w5, h5p, ⟨_, _, _, _, _, _, rfl⟩, fun k => if k = i then f else of k, xs5, hxs5, ?_, fun k hk => ?_⟩
        · unfold prs
          rw [ecg, if_pos rfl]
          exact hl5
        · show 0 ≤ (if k = i then f else of k) ∧ (if k = i then f else of k) < gapAt S B k
          by_cases e : k = i
          · rw [if_pos e, e, ← egz]
            exact ⟨f0, f1⟩
          · rw [if_neg e]
            exact ho k (by omega)
    · rintro σ F3 ⟨w3, h3p, ⟨y7, y8, y9, y11, y12, y13, rfl⟩, of, xs, hxs, hlx, ho⟩
      refine ⟨_, rfl, pl, xs, _, rfl, SqL.of hxs, hlx, fun zs T q pm2 so2 hq hq0 => ?_⟩
      obtain ⟨hq0', nqp⟩ := fr w3 hq0
      rw [← lB] at pm2 ho
      have DR := drawn_of VB l1 eN (by omega) ho pm2 (so2.imp fun {a b} h => le_row h)
      refine k _ q zs T (RW.alt w3 hq0') nqp upd_same (hq.keep (Tups.new hq0)) DR.ok ?_ DR.comm
      rw [pm2.length_eq, prs_len, lB]
      have : (M : Int) * L ≤ 12 / L * L := Int.mul_le_mul_of_nonneg_right M3 (by omega)
      have e : ((M * L.toNat : Nat) : Int) = (M : Int) * L := by
        rw [Int.natCast_mul, Int.toNat_of_nonneg (by omega)]
      omega
end
end JD
end Part_JD20
section Part_JD21
set_option Elab.async false
set_option linter.all false
set_option maxRecDepth 100000
set_option maxHeartbeats 4000000
namespace JD
open PySem PySem.Spec PyProof.Rows L2 JR JX JT LamX
open Evl (Ex)
/-- the pairs by words -/
abbrev Pairs := List (Str × List JT.Row)
def PairsAt (H : Hp) (d : Addr) (W : Pairs) : Prop := ∃ kvs : List (Key × V), H d = some (.dK kvs) ∧ Paired (fun (kv : Key × V) (q : Str × List JT.Row) => kv.1 = Sum.inr q.1 ∧ ∃ r xs, kv.2 = .ref r ∧ H r = some (.lst xs) ∧ Ls H encRow xs q.2) kvs W
structure WorldF (N : Int) (W : Pairs) : Prop where
  ws : W.map (·.1) = (["push"] : List Str) ∨ W.map (·.1) = (["squeeze"] : List Str) ∨ W.map (·.1) = (["push", "squeeze"] : List Str)
  rows : ∀ q ∈ W, Rows N q.2 ∧ q.2.length ≤ 12
  even : ∀ q ∈ W, q.1 = "squeeze" → N % 2 = 0 ∧ Comm N q.2 (N / 2)
theorem comm_half {N L : Int} {rows : List JT.Row} (V : Rows N rows) (l1 : 1 ≤ L) (hd : N % L = 0) (h2 : L % 2 = 0) (hc : Comm N rows (N / L)) : N % 2 = 0 ∧ Comm N rows (N / 2) := by
  have e1 : N / L * L = N := Int.ediv_mul_cancel (Int.dvd_of_emod_eq_zero hd)
  have e2 : L / 2 * 2 = L := Int.ediv_mul_cancel (Int.dvd_of_emod_eq_zero h2)
  have e3 : L / 2 * (N / L) * 2 = N := by rw [Int.mul_right_comm, e2, Int.mul_comm, e1]
  have e4 : N / 2 = L / 2 * (N / L) := by omega
  refine ⟨by omega, ?_⟩
  rw [e4]
  exact hc.mul _
section
variable {P : Program} {w : World} {K : PySem.W.Frag} {mg : Str → Option Value} {base : Heap}
theorem pool_fr {p : Addr} {o : HO} {H F : Hp} {a : Addr} (hp : H p = some o) (ok : PoolOk o) (e : Wx p PoolOk H F) (h : F a = none) : H a = none ∧ a ≠ p := by
  have hq : H a = none := by
    cases z : H a with
    | none => rfl
    | some u =>
      by_cases n : a = p
      · subst n
        obtain ⟨u', g, _⟩ := e.2 ⟨_, hp, ok⟩
        rw [g] at h
        cases h
      · rw [e.1 _ _ n z] at h
        cases h
  exact ⟨hq, fun z => by rw [z, hp] at hq; cases hq⟩
def sp_world (K : PySem.W.Frag) : Sp := fun vs H Q _ => ∃ (p : Addr) (N : Int) (o : HO), vs = [.ref p, .int N, .int 12] ∧ H p = some o ∧ PoolOk o ∧ 2 ≤ N ∧ N ≤ 360 ∧
  ∀ H' d W, Wx p PoolOk H H' → d ≠ p → PairsAt H' d W → WorldF N W → Q (.ref d) H'
abbrev N_law_world : List Str := ["_law_pool_here", "_law_around", "_law_most", "_law_choice", "_law_pairs"]
theorem sc_law_world : FnScope N_law_world ["_law_pool_here", "_law_around", "_law_most"] (defScope s_law_world) := ⟨rfl, rfl, rfl, by decide +kernel, rfl, by decide +kernel, by decide +kernel⟩
theorem ok_law_world (T : Txt K mg) : DefOk P w K mg base 3 (He.ga K "_law_world") ["_law_pool_here", "_law_around", "_law_most"] (sp_world K) := by
  obtain ⟨fd, F⟩ := T.d_law_world
  obtain ⟨fd_law_draw, G_law_draw, kp_law_draw, b_law_draw⟩ := ok_law_draw (P := P) (w := w) (base := base) T
  obtain ⟨fd_law_rows, G_law_rows, kp_law_rows, b_law_rows⟩ := ok_law_rows (P := P) (w := w) (base := base) T
  obtain ⟨fd_law_laps, G_law_laps, kp_law_laps, b_law_laps⟩ := ok_law_laps (P := P) (w := w) (base := base) T
  refine ⟨fd, F.ok sc_law_world (fun vs H Q E h => ?_) (fun cdv A outer s H vs Q E hr h => ?_), F.kp, F.bindsN fun _ _ _ _ _ _ us hl => match us, hl with | [_, _, _], _ => rfl⟩
  · obtain ⟨p, N, o, rfl, hp, ok, n2, n3, k⟩ := h
    rfl
  have hu := hu_of hr
  have nd := sc_law_world.nd
  obtain ⟨p, N, o, rfl, hp, ok, n2, n3, k⟩ := h
  refine ⟨_, (PSs.nox (pss_cons (ps_set (i := 3) nd rfl (by first | exact Or.inl rfl | exact Or.inr rfl) (pe_call G_law_draw (hr.mono (by decide)) rfl T.g_law_draw kp_law_draw b_law_draw .nil pass0 (pa_cons (pv 0) (pa_cons pe_int pa_nil))))
  (pss_cons (ps_if (pt_cmpR op_eq (pe_op op_mod (pv 1) pe_int) pe_int (nomark _)) (pss_one (ps_set (i := 3) nd rfl (by first | exact Or.inl rfl | exact Or.inr rfl) pe_int)) pss_nil)
  (pss_cons (ps_set (i := 4) nd rfl (by first | exact Or.inl rfl | exact Or.inr rfl) pe_dnewK)
  (pss_cons (ps_if (pt_cmpR op_ne (pv 3) pe_int (nomark _)) (pss_one (ps_dput hu (pv 4) pe_str (pe_call G_law_rows (hr.mono (by decide)) rfl T.g_law_rows kp_law_rows b_law_rows .nil pass0 (pa_cons (pv 0) (pa_cons (pv 1) (pa_cons (pe_call G_law_laps (hr.mono (by decide)) rfl T.g_law_laps kp_law_laps b_law_laps .nil pass0 (pa_cons (pv 0) (pa_cons (pv 1) (pa_cons pe_bl (pa_cons (pv 2) pa_nil))))) (pa_cons (pv 2) pa_nil))))) rfl)) pss_nil)
  (pss_cons (ps_if (pt_cmpR op_ne (pv 3) pe_int (nomark _)) (pss_one (ps_dput hu (pv 4) pe_str (pe_call G_law_rows (hr.mono (by decide)) rfl T.g_law_rows kp_law_rows b_law_rows .nil pass0 (pa_cons (pv 0) (pa_cons (pv 1) (pa_cons (pe_call G_law_laps (hr.mono (by decide)) rfl T.g_law_laps kp_law_laps b_law_laps .nil pass0 (pa_cons (pv 0) (pa_cons (pv 1) (pa_cons pe_bl (pa_cons (pv 2) pa_nil))))) (pa_cons (pv 2) pa_nil))))) rfl)) pss_nil)
  (pss_one (ps_ret (pv 4))))))))), ?_⟩
  have RW : Rel (Wx p PoolOk) (· ≠ p) := relWx
  have fr : ∀ {F : Hp} {a : Addr}, Wx p PoolOk H F → F a = none → H a = none ∧ a ≠ p := fun {F a} e h => pool_fr hp ok e h
  refine ⟨_, rfl, p, 3, o, rfl, by decide, by decide, hp, ok, fun c H1 c0 c1 w1 => ?_⟩
  by_cases odd : N % 2 = 1
  · refine ⟨_, rfl, _, _, rfl, rfl, (by show (0 : Int) < 2; decide), rfl, true, congrArg V.bl (decide_eq_true (congrArg V.int odd)), iteT ?_⟩
    intro d hd
    obtain ⟨hd0, ndp⟩ := fr w1 hd
    have w2 : Wx p PoolOk H (upd H1 d (.dK [])) := RW.alt w1 hd0
    refine ⟨_, rfl, rfl, true, by decide, ?_⟩
    obtain ⟨oP, hpP, okP⟩ := w2.2 ⟨o, hp, ok⟩
    refine iteT ⟨_, rfl, _, rfl, _, rfl, _, rfl, _, rfl, p, N, false, oP, rfl, hpP, okP, n2, (fun z => by cases z), fun HaP LP waP l1P l2P ldP evP => ?_⟩
    obtain ⟨oYP, hpYP, okYP⟩ := waP.2 ⟨oP, hpP, okP⟩
    refine ⟨_, rfl, p, N, LP, oYP, rfl, hpYP, okYP, n2, n3, l1P, l2P, ldP, fun HbP qP xsP rowsP wbP qpP hqP hlP VP lenP cmP => ?_⟩
    have wP := w2.trans (waP.trans wbP)
    have hdP := (waP.trans wbP).1 _ _ ndp upd_same
    have qdP : qP ≠ d := ne_of hqP hdP fun z => nomatch z
    refine ⟨_, rfl, d, _, rfl, DPut.k (k := Sum.inr "push") hdP (by show 0 < sizeLine; decide), ?_⟩
    obtain ⟨HcP, eHcP⟩ : ∃ HcP, HcP = upd HbP d (.dK (putK ([] : List (Key × V)) (Sum.inr "push" : Key) (V.ref qP))) := ⟨_, rfl⟩
    have wcP : Wx p PoolOk H HcP := by rw [eHcP]; exact RW.alt wP hd0
    have tcP : Tups HbP HcP := by rw [eHcP]; exact Tups.mut hdP fun _ z => nomatch z
    have hqcP : HcP qP = some (.lst xsP) := by rw [eHcP, upd_ne qdP]; exact hqP
    have hdcP : HcP d = some (.dK [((Sum.inr "push" : Key), V.ref qP)]) := by rw [eHcP, upd_same]; rfl
    have hlcP := hlP.keep tcP
    rw [← eHcP]
    refine ⟨_, rfl, rfl, false, by decide, iteF ?_⟩
    refine ⟨_, rfl, ?_⟩
    refine k _ d [("push", rowsP)] wcP ndp ⟨_, hdcP, .cons ⟨rfl, qP, xsP, rfl, hqcP, hlcP⟩ .nil⟩ ⟨.inl rfl, fun q hq => ?_, fun q hq e => ?_⟩
    · rw [List.mem_singleton.mp hq]; exact ⟨VP, lenP⟩
    · rw [List.mem_singleton.mp hq] at e; exact absurd e (show ¬ (("push" : Str) = "squeeze") by decide)
  have hev : N % 2 = 0 := by omega
  refine ⟨_, rfl, _, _, rfl, rfl, (by show (0 : Int) < 2; decide), rfl, false, congrArg V.bl (decide_eq_false fun z => odd (V.int.inj z)), iteF ?_⟩
  have c3 : c = 0 ∨ c = 1 ∨ c = 2 := by omega
  rcases c3 with rfl | rfl | rfl
  · intro d hd
    obtain ⟨hd0, ndp⟩ := fr w1 hd
    have w2 : Wx p PoolOk H (upd H1 d (.dK [])) := RW.alt w1 hd0
    refine ⟨_, rfl, rfl, true, by decide, ?_⟩
    obtain ⟨oP, hpP, okP⟩ := w2.2 ⟨o, hp, ok⟩
    refine iteT ⟨_, rfl, _, rfl, _, rfl, _, rfl, _, rfl, p, N, false, oP, rfl, hpP, okP, n2, (fun z => by cases z), fun HaP LP waP l1P l2P ldP evP => ?_⟩
    obtain ⟨oYP, hpYP, okYP⟩ := waP.2 ⟨oP, hpP, okP⟩
    refine ⟨_, rfl, p, N, LP, oYP, rfl, hpYP, okYP, n2, n3, l1P, l2P, ldP, fun HbP qP xsP rowsP wbP qpP hqP hlP VP lenP cmP => ?_⟩
    have wP := w2.trans (waP.trans wbP)
    have hdP := (waP.trans wbP).1 _ _ ndp upd_same
    have qdP : qP ≠ d := ne_of hqP hdP fun z => nomatch z
    refine ⟨_, rfl, d, _, rfl, DPut.k (k := Sum.inr "push") hdP (by show 0 < sizeLine; decide), ?_⟩
    obtain ⟨HcP, eHcP⟩ : ∃ HcP, HcP = upd HbP d (.dK (putK ([] : List (Key × V)) (Sum.inr "push" : Key) (V.ref qP))) := ⟨_, rfl⟩
    have wcP : Wx p PoolOk H HcP := by rw [eHcP]; exact RW.alt wP hd0
    have tcP : Tups HbP HcP := by rw [eHcP]; exact Tups.mut hdP fun _ z => nomatch z
    have hqcP : HcP qP = some (.lst xsP) := by rw [eHcP, upd_ne qdP]; exact hqP
    have hdcP : HcP d = some (.dK [((Sum.inr "push" : Key), V.ref qP)]) := by rw [eHcP, upd_same]; rfl
    have hlcP := hlP.keep tcP
    rw [← eHcP]
    refine ⟨_, rfl, rfl, false, by decide, iteF ?_⟩
    refine ⟨_, rfl, ?_⟩
    refine k _ d [("push", rowsP)] wcP ndp ⟨_, hdcP, .cons ⟨rfl, qP, xsP, rfl, hqcP, hlcP⟩ .nil⟩ ⟨.inl rfl, fun q hq => ?_, fun q hq e => ?_⟩
    · rw [List.mem_singleton.mp hq]; exact ⟨VP, lenP⟩
    · rw [List.mem_singleton.mp hq] at e; exact absurd e (show ¬ (("push" : Str) = "squeeze") by decide)
  · intro d hd
    obtain ⟨hd0, ndp⟩ := fr w1 hd
    have w2 : Wx p PoolOk H (upd H1 d (.dK [])) := RW.alt w1 hd0
    refine ⟨_, rfl, rfl, false, by decide, iteF ?_⟩
    refine ⟨_, rfl, rfl, true, by decide, ?_⟩
    obtain ⟨oS, hpS, okS⟩ := w2.2 ⟨o, hp, ok⟩
    refine iteT ⟨_, rfl, _, rfl, _, rfl, _, rfl, _, rfl, p, N, true, oS, rfl, hpS, okS, n2, (fun _ => hev), fun HaS LS waS l1S l2S ldS evS => ?_⟩
    obtain ⟨oYS, hpYS, okYS⟩ := waS.2 ⟨oS, hpS, okS⟩
    refine ⟨_, rfl, p, N, LS, oYS, rfl, hpYS, okYS, n2, n3, l1S, l2S, ldS, fun HbS qS xsS rowsS wbS qpS hqS hlS VS lenS cmS => ?_⟩
    have wS := w2.trans (waS.trans wbS)
    have hdS := (waS.trans wbS).1 _ _ ndp upd_same
    have qdS : qS ≠ d := ne_of hqS hdS fun z => nomatch z
    refine ⟨_, rfl, d, _, rfl, DPut.k (k := Sum.inr "squeeze") hdS (by show 0 < sizeLine; decide), ?_⟩
    obtain ⟨HcS, eHcS⟩ : ∃ HcS, HcS = upd HbS d (.dK (putK ([] : List (Key × V)) (Sum.inr "squeeze" : Key) (V.ref qS))) := ⟨_, rfl⟩
    have wcS : Wx p PoolOk H HcS := by rw [eHcS]; exact RW.alt wS hd0
    have tcS : Tups HbS HcS := by rw [eHcS]; exact Tups.mut hdS fun _ z => nomatch z
    have hqcS : HcS qS = some (.lst xsS) := by rw [eHcS, upd_ne qdS]; exact hqS
    have hdcS : HcS d = some (.dK [((Sum.inr "squeeze" : Key), V.ref qS)]) := by rw [eHcS, upd_same]; rfl
    have hlcS := hlS.keep tcS
    rw [← eHcS]
    refine ⟨_, rfl, ?_⟩
    refine k _ d [("squeeze", rowsS)] wcS ndp ⟨_, hdcS, .cons ⟨rfl, qS, xsS, rfl, hqcS, hlcS⟩ .nil⟩ ⟨.inr (.inl rfl), fun q hq => ?_, fun q hq e => ?_⟩
    · rw [List.mem_singleton.mp hq]; exact ⟨VS, lenS⟩
    · rw [List.mem_singleton.mp hq]; exact comm_half VS l1S ldS (evS rfl) cmS
  · intro d hd
    obtain ⟨hd0, ndp⟩ := fr w1 hd
    have w2 : Wx p PoolOk H (upd H1 d (.dK [])) := RW.alt w1 hd0
    refine ⟨_, rfl, rfl, true, by decide, ?_⟩
    obtain ⟨oP, hpP, okP⟩ := w2.2 ⟨o, hp, ok⟩
    refine iteT ⟨_, rfl, _, rfl, _, rfl, _, rfl, _, rfl, p, N, false, oP, rfl, hpP, okP, n2, (fun z => by cases z), fun HaP LP waP l1P l2P ldP evP => ?_⟩
    obtain ⟨oYP, hpYP, okYP⟩ := waP.2 ⟨oP, hpP, okP⟩
    refine ⟨_, rfl, p, N, LP, oYP, rfl, hpYP, okYP, n2, n3, l1P, l2P, ldP, fun HbP qP xsP rowsP wbP qpP hqP hlP VP lenP cmP => ?_⟩
    have wP := w2.trans (waP.trans wbP)
    have hdP := (waP.trans wbP).1 _ _ ndp upd_same
    have qdP : qP ≠ d := ne_of hqP hdP fun z => nomatch z
    refine ⟨_, rfl, d, _, rfl, DPut.k (k := Sum.inr "push") hdP (by show 0 < sizeLine; decide), ?_⟩
    obtain ⟨HcP, eHcP⟩ : ∃ HcP, HcP = upd HbP d (.dK (putK ([] : List (Key × V)) (Sum.inr "push" : Key) (V.ref qP))) := ⟨_, rfl⟩
    have wcP : Wx p PoolOk H HcP := by rw [eHcP]; exact RW.alt wP hd0
    have tcP : Tups HbP HcP := by rw [eHcP]; exact Tups.mut hdP fun _ z => nomatch z
    have hqcP : HcP qP = some (.lst xsP) := by rw [eHcP, upd_ne qdP]; exact hqP
    have hdcP : HcP d = some (.dK [((Sum.inr "push" : Key), V.ref qP)]) := by rw [eHcP, upd_same]; rfl
    have hlcP := hlP.keep tcP
    rw [← eHcP]
    refine ⟨_, rfl, rfl, true, by decide, ?_⟩
    obtain ⟨oS, hpS, okS⟩ := wcP.2 ⟨o, hp, ok⟩
    refine iteT ⟨_, rfl, _, rfl, _, rfl, _, rfl, _, rfl, p, N, true, oS, rfl, hpS, okS, n2, (fun _ => hev), fun HaS LS waS l1S l2S ldS evS => ?_⟩
    obtain ⟨oYS, hpYS, okYS⟩ := waS.2 ⟨oS, hpS, okS⟩
    refine ⟨_, rfl, p, N, LS, oYS, rfl, hpYS, okYS, n2, n3, l1S, l2S, ldS, fun HbS qS xsS rowsS wbS qpS hqS hlS VS lenS cmS => ?_⟩
    have wS := wcP.trans (waS.trans wbS)
    have hdS := (waS.trans wbS).1 _ _ ndp hdcP
    have qdS : qS ≠ d := ne_of hqS hdS fun z => nomatch z
    refine ⟨_, rfl, d, _, rfl, DPut.k (k := Sum.inr "squeeze") hdS (by show 1 < sizeLine; decide), ?_⟩
    obtain ⟨HcS, eHcS⟩ : ∃ HcS, HcS = upd HbS d (.dK (putK [((Sum.inr "push" : Key), V.ref qP)] (Sum.inr "squeeze" : Key) (V.ref qS))) := ⟨_, rfl⟩
    have wcS : Wx p PoolOk H HcS := by rw [eHcS]; exact RW.alt wS hd0
    have tcS : Tups HbS HcS := by rw [eHcS]; exact Tups.mut hdS fun _ z => nomatch z
    have hqcS : HcS qS = some (.lst xsS) := by rw [eHcS, upd_ne qdS]; exact hqS
    have hdcS : HcS d = some (.dK ([((Sum.inr "push" : Key), V.ref qP)] ++ [((Sum.inr "squeeze" : Key), V.ref qS)])) := by rw [eHcS, upd_same]; rfl
    have hlcS := hlS.keep tcS
    rw [← eHcS]
    refine ⟨_, rfl, ?_⟩
    have qPd := ne_of hqcP hdcP fun z => nomatch z
    have hqc2 : HcS qP = some (.lst xsP) := by rw [eHcS, upd_ne qPd]; exact (waS.trans wbS).1 _ _ qpP hqcP
    have hlc2 : Ls HcS encRow xsP rowsP := (hlcP.keep ((waS.trans wbS).tups hpS (by obtain ⟨_, _, _, rfl⟩ := okS; exact fun _ z => nomatch z))).keep tcS
    refine k _ d [("push", rowsP), ("squeeze", rowsS)] wcS ndp ⟨_, hdcS, .cons ⟨rfl, qP, xsP, rfl, hqc2, hlc2⟩ (.cons ⟨rfl, qS, xsS, rfl, hqcS, hlcS⟩ .nil)⟩ ⟨.inr (.inr rfl), fun q hq => ?_, fun q hq e => ?_⟩
    · rcases List.mem_cons.mp hq with rfl | hq
      · exact ⟨VP, lenP⟩
      · rw [List.mem_singleton.mp hq]; exact ⟨VS, lenS⟩
    · rcases List.mem_cons.mp hq with rfl | hq
      · exact absurd e (show ¬ (("push" : Str) = "squeeze") by decide)
      · rw [List.mem_singleton.mp hq]; exact comm_half VS l1S ldS (evS rfl) cmS
end
end JD
end Part_JD21
section Part_JD22
set_option Elab.async false
set_option linter.all false
set_option maxRecDepth 100000
set_option maxHeartbeats 4000000
namespace JD
open PySem PySem.Spec PyProof.Rows L2 JR JX JT LamX
open Evl (Ex)
section
variable {P : Program} {w : World} {K : PySem.W.Frag} {mg : Str → Option Value} {base : Heap}
def sp_part (K : PySem.W.Frag) : Sp := fun vs H Q _ => ∃ (d : Addr) (N : Int) (W : Pairs), vs = [.ref d, .int N] ∧ PairsAt H d W ∧ WorldF N W ∧ 2 ≤ N ∧ N ≤ 360 ∧
  ∀ H' pa D, Ex H H' → PartAt K H' pa N D → PartF N D → (D.map fun q => (q.1, q.2.rows)) = W → Q (.ref pa) H'
abbrev N_law_part : List Str := ["_law_pairs", "_law_around", "_law_squeeze", "_law_push"]
theorem sc_law_part : FnScope N_law_part ["_law_pairs", "_law_around"] (defScope s_law_part) := ⟨rfl, rfl, rfl, by decide +kernel, rfl, by decide +kernel, by decide +kernel⟩
theorem ok_law_part (T : Txt K mg) : DefOk P w K mg base 7 (He.ga K "_law_part") ["_law_pairs", "_law_around"] (sp_part K) := by
  obtain ⟨fd, F⟩ := T.d_law_part
  obtain ⟨fd_Turning_init, G_Turning_init, kp_Turning_init, b_Turning_init⟩ := ok_Turning_init (P := P) (w := w) (base := base) T
  obtain ⟨fd_Part_init, G_Part_init, kp_Part_init, b_Part_init⟩ := ok_Part_init (P := P) (w := w) (base := base) T
  refine ⟨fd, F.ok sc_law_part (fun vs H Q E h => ?_) (fun cdv A outer s H vs Q E hr h => ?_), F.kp, F.bindsN fun _ _ _ _ _ _ us hl => match us, hl with | [_, _], _ => rfl⟩
  · obtain ⟨d, N, W, rfl, hW, WF, n2, n3, k⟩ := h
    rfl
  have hu := hu_of hr
  have nd := sc_law_part.nd
  obtain ⟨d, N, W, rfl, hW, WF, n2, n3, k⟩ := h
  refine ⟨_, (PSs.nox (pss_cons (ps_set (i := 2) nd rfl (by first | exact Or.inl rfl | exact Or.inr rfl) pe_non)
  (pss_cons (ps_set (i := 3) nd rfl (by first | exact Or.inl rfl | exact Or.inr rfl) pe_non)
  (pss_cons (ps_if (pt_cmp (pc_din hu pe_str (pv 0))) (pss_one (ps_set (i := 2) nd rfl (by first | exact Or.inl rfl | exact Or.inr rfl) (pe_make T.k_Turning G_Turning_init (hr.mono (by decide)) rfl T.g_Turning b_Turning_init .nil pass0 (pa_cons (pv 1) (pa_cons (pe_callTy call_list_of (by rfl) T.b_list rfl (pa_cons (pe_dget hu (pv 0) pe_str (fun _ _ => rfl)) pa_nil)) pa_nil))))) pss_nil)
  (pss_cons (ps_if (pt_cmp (pc_din hu pe_str (pv 0))) (pss_one (ps_set (i := 3) nd rfl (by first | exact Or.inl rfl | exact Or.inr rfl) (pe_make T.k_Turning G_Turning_init (hr.mono (by decide)) rfl T.g_Turning b_Turning_init .nil pass0 (pa_cons (pv 1) (pa_cons (pe_callTy call_list_of (by rfl) T.b_list rfl (pa_cons (pe_dget hu (pv 0) pe_str (fun _ _ => rfl)) pa_nil)) pa_nil))))) pss_nil)
  (pss_one (ps_ret (pe_makeK0 T.k_Part kp_Part_init (hr.mono (by decide)) rfl T.g_Part b_Part_init pass0 (pk_cons (pv 2) (pk_cons (pv 3) pk_nil)))))))))), ?_⟩
  obtain ⟨kvs, hd, hP⟩ := hW
  have W3 := WF.ws
  match W, kvs, hP with
  | [], [], .nil => rcases W3 with e | e | e <;> cases e
  | [(w1, rows1)], [(_, _)], .cons ⟨rfl, r1, xs1, rfl, hr1, hlx1⟩ .nil =>
    have V1 := WF.rows (w1, rows1) List.mem_cons_self
    rcases W3 with e | e | e
    · obtain rfl : w1 = "push" := (List.cons.inj e).1
      refine ⟨_, rfl, d, _, rfl, DGet.k (k := Sum.inr "squeeze") ((Ex.refl H) _ _ hd), false, (by kernel_rfl), iteF ?_⟩
      refine ⟨_, rfl, d, _, rfl, DGet.k (k := Sum.inr "push") ((Ex.refl H) _ _ hd), true, (by kernel_rfl), iteT ?_⟩
      refine ⟨_, rfl, _, rfl, d, _, rfl, (by rw [← (show valV [((Sum.inr "push" : Key), V.ref r1)] (Sum.inr "push" : Key) = some (V.ref r1) by kernel_rfl)]; exact DGet.k (k := Sum.inr "push") ((Ex.refl H) _ _ hd)), r1, xs1, rfl, .inl (SqL.of ((Ex.refl H) _ _ hr1)), fun lP hlP => ?_⟩
      intro tP dxP htP hdxP ndP
      have eP1 : Ex H (upd H lP (.lst xs1)) := ex_new hlP
      have ntP : tP ≠ dxP := fun z => ndP z.symm
      have eP2 : Ex (upd H lP (.lst xs1)) (upd (upd (upd H lP (.lst xs1)) dxP (.own tP)) tP (.ins (cA K "Turning") dxP [])) := (ex_new hdxP).trans (ex_new ((upd_ne ntP).trans htP))
      refine ⟨tP, dxP, lP, N, xs1, rows1, rfl, upd_same, eP2 _ _ upd_same, hlx1.keep (Tups.of ((Ex.refl H).trans (eP1.trans eP2))), V1.1, n3, V1.2, fun HP pP btP TAP IPP => ⟨rfl, ?_⟩⟩
      have eP : Ex H HP := fun a u h => btP a u (ne_of_none (eP1 _ _ h) htP) (eP2 _ _ (eP1 _ _ h))
      refine ⟨_, rfl, _, rfl, rfl, rfl, fun x dx hx hdx ndx => ?_⟩
      have nxd : x ≠ dx := fun z => ndx z.symm
      have eZ : Ex HP (upd (upd HP dx (.own x)) x (.ins (cA K "Part") dx [])) := (ex_new hdx).trans (ex_new ((upd_ne nxd).trans hx))
      have FT : ∀ q ∈ wordsOf (some (⟨tP, rows1, pP⟩ : TurnD)) (none : Option TurnD), TurnAt K HP q.2.t N q.2.rows q.2.p ∧ TurnF N q.2 := fun q hq => by rw [List.mem_singleton.mp hq]; exact ⟨TAP, ⟨V1.1, IPP, V1.2⟩⟩
      refine ⟨x, dx, N, (some (⟨tP, rows1, pP⟩ : TurnD)), (none : Option TurnD), rfl, upd_same, (fun z => nomatch z), fun q hq => ⟨(FT q hq).1.keep eZ, (FT q hq).2⟩, (fun dd e => nomatch e), fun H' bt PA => ⟨rfl, ?_⟩⟩
      refine k H' x (wordsOf (some (⟨tP, rows1, pP⟩ : TurnD)) (none : Option TurnD)) ((eP).trans fun a u h => bt a u (ne_of_none h hx) (eZ _ _ h)) PA ⟨n2, n3, fun q hq => (FT q hq).2, .inl rfl⟩ rfl
    · obtain rfl : w1 = "squeeze" := (List.cons.inj e).1
      have evS := WF.even _ List.mem_cons_self rfl
      refine ⟨_, rfl, d, _, rfl, DGet.k (k := Sum.inr "squeeze") ((Ex.refl H) _ _ hd), true, (by kernel_rfl), iteT ?_⟩
      refine ⟨_, rfl, _, rfl, d, _, rfl, (by rw [← (show valV [((Sum.inr "squeeze" : Key), V.ref r1)] (Sum.inr "squeeze" : Key) = some (V.ref r1) by kernel_rfl)]; exact DGet.k (k := Sum.inr "squeeze") ((Ex.refl H) _ _ hd)), r1, xs1, rfl, .inl (SqL.of ((Ex.refl H) _ _ hr1)), fun lS hlS => ?_⟩
      intro tS dxS htS hdxS ndS
      have eS1 : Ex H (upd H lS (.lst xs1)) := ex_new hlS
      have ntS : tS ≠ dxS := fun z => ndS z.symm
      have eS2 : Ex (upd H lS (.lst xs1)) (upd (upd (upd H lS (.lst xs1)) dxS (.own tS)) tS (.ins (cA K "Turning") dxS [])) := (ex_new hdxS).trans (ex_new ((upd_ne ntS).trans htS))
      refine ⟨tS, dxS, lS, N, xs1, rows1, rfl, upd_same, eS2 _ _ upd_same, hlx1.keep (Tups.of ((Ex.refl H).trans (eS1.trans eS2))), V1.1, n3, V1.2, fun HS pS btS TAS IPS => ⟨rfl, ?_⟩⟩
      have eS : Ex H HS := fun a u h => btS a u (ne_of_none (eS1 _ _ h) htS) (eS2 _ _ (eS1 _ _ h))
      refine ⟨_, rfl, d, _, rfl, DGet.k (k := Sum.inr "push") ((eS) _ _ hd), false, (by kernel_rfl), iteF ?_⟩
      refine ⟨_, rfl, _, rfl, rfl, rfl, fun x dx hx hdx ndx => ?_⟩
      have nxd : x ≠ dx := fun z => ndx z.symm
      have eZ : Ex HS (upd (upd HS dx (.own x)) x (.ins (cA K "Part") dx [])) := (ex_new hdx).trans (ex_new ((upd_ne nxd).trans hx))
      have FT : ∀ q ∈ wordsOf (none : Option TurnD) (some (⟨tS, rows1, pS⟩ : TurnD)), TurnAt K HS q.2.t N q.2.rows q.2.p ∧ TurnF N q.2 := fun q hq => by rw [List.mem_singleton.mp hq]; exact ⟨TAS, ⟨V1.1, IPS, V1.2⟩⟩
      refine ⟨x, dx, N, (none : Option TurnD), (some (⟨tS, rows1, pS⟩ : TurnD)), rfl, upd_same, (fun z => nomatch z), fun q hq => ⟨(FT q hq).1.keep eZ, (FT q hq).2⟩, (fun dd e => by cases e; exact ⟨evS.1, (IPS.iff V1.1 _).mp evS.2⟩), fun H' bt PA => ⟨rfl, ?_⟩⟩
      refine k H' x (wordsOf (none : Option TurnD) (some (⟨tS, rows1, pS⟩ : TurnD))) ((eS).trans fun a u h => bt a u (ne_of_none h hx) (eZ _ _ h)) PA ⟨n2, n3, fun q hq => (FT q hq).2, .inr (.inl rfl)⟩ rfl
    · cases e
  | [(w1, rowsP), (w2, rowsS)], [(_, _), (_, _)], .cons ⟨rfl, rP, xsP, rfl, hrP, hlxP⟩ (.cons ⟨rfl, rS, xsS, rfl, hrS, hlxS⟩ .nil) =>
    have VP := WF.rows (w1, rowsP) List.mem_cons_self
    have VS := WF.rows (w2, rowsS) (List.mem_cons_of_mem _ List.mem_cons_self)
    rcases W3 with e | e | e
    · cases e
    · cases e
    · obtain rfl : w1 = "push" := (List.cons.inj e).1
      obtain rfl : w2 = "squeeze" := (List.cons.inj (List.cons.inj e).2).1
      have evS := WF.even ("squeeze", rowsS) (List.mem_cons_of_mem _ List.mem_cons_self) rfl
      refine ⟨_, rfl, d, _, rfl, DGet.k (k := Sum.inr "squeeze") ((Ex.refl H) _ _ hd), true, (by kernel_rfl), iteT ?_⟩
      refine ⟨_, rfl, _, rfl, d, _, rfl, (by rw [← (show valV [((Sum.inr "push" : Key), V.ref rP), ((Sum.inr "squeeze" : Key), V.ref rS)] (Sum.inr "squeeze" : Key) = some (V.ref rS) by kernel_rfl)]; exact DGet.k (k := Sum.inr "squeeze") ((Ex.refl H) _ _ hd)), rS, xsS, rfl, .inl (SqL.of ((Ex.refl H) _ _ hrS)), fun lS hlS => ?_⟩
      intro tS dxS htS hdxS ndS
      have eS1 : Ex H (upd H lS (.lst xsS)) := ex_new hlS
      have ntS : tS ≠ dxS := fun z => ndS z.symm
      have eS2 : Ex (upd H lS (.lst xsS)) (upd (upd (upd H lS (.lst xsS)) dxS (.own tS)) tS (.ins (cA K "Turning") dxS [])) := (ex_new hdxS).trans (ex_new ((upd_ne ntS).trans htS))
      refine ⟨tS, dxS, lS, N, xsS, rowsS, rfl, upd_same, eS2 _ _ upd_same, hlxS.keep (Tups.of ((Ex.refl H).trans (eS1.trans eS2))), VS.1, n3, VS.2, fun HS pS btS TAS IPS => ⟨rfl, ?_⟩⟩
      have eS : Ex H HS := fun a u h => btS a u (ne_of_none (eS1 _ _ h) htS) (eS2 _ _ (eS1 _ _ h))
      refine ⟨_, rfl, d, _, rfl, DGet.k (k := Sum.inr "push") ((eS) _ _ hd), true, (by kernel_rfl), iteT ?_⟩
      refine ⟨_, rfl, _, rfl, d, _, rfl, (by rw [← (show valV [((Sum.inr "push" : Key), V.ref rP), ((Sum.inr "squeeze" : Key), V.ref rS)] (Sum.inr "push" : Key) = some (V.ref rP) by kernel_rfl)]; exact DGet.k (k := Sum.inr "push") ((eS) _ _ hd)), rP, xsP, rfl, .inl (SqL.of ((eS) _ _ hrP)), fun lP hlP => ?_⟩
      intro tP dxP htP hdxP ndP
      have eP1 : Ex HS (upd HS lP (.lst xsP)) := ex_new hlP
      have ntP : tP ≠ dxP := fun z => ndP z.symm
      have eP2 : Ex (upd HS lP (.lst xsP)) (upd (upd (upd HS lP (.lst xsP)) dxP (.own tP)) tP (.ins (cA K "Turning") dxP [])) := (ex_new hdxP).trans (ex_new ((upd_ne ntP).trans htP))
      refine ⟨tP, dxP, lP, N, xsP, rowsP, rfl, upd_same, eP2 _ _ upd_same, hlxP.keep (Tups.of ((eS).trans (eP1.trans eP2))), VP.1, n3, VP.2, fun HP pP btP TAP IPP => ⟨rfl, ?_⟩⟩
      have eP : Ex HS HP := fun a u h => btP a u (ne_of_none (eP1 _ _ h) htP) (eP2 _ _ (eP1 _ _ h))
      refine ⟨_, rfl, _, rfl, rfl, rfl, fun x dx hx hdx ndx => ?_⟩
      have nxd : x ≠ dx := fun z => ndx z.symm
      have eZ : Ex HP (upd (upd HP dx (.own x)) x (.ins (cA K "Part") dx [])) := (ex_new hdx).trans (ex_new ((upd_ne nxd).trans hx))
      have FT : ∀ q ∈ wordsOf (some (⟨tP, rowsP, pP⟩ : TurnD)) (some (⟨tS, rowsS, pS⟩ : TurnD)), TurnAt K HP q.2.t N q.2.rows q.2.p ∧ TurnF N q.2 := fun q hq => by
              rcases List.mem_cons.mp hq with rfl | hq
              · exact ⟨TAP, ⟨VP.1, IPP, VP.2⟩⟩
              · rw [List.mem_singleton.mp hq]; exact ⟨TAS.keep eP, ⟨VS.1, IPS, VS.2⟩⟩
      refine ⟨x, dx, N, (some (⟨tP, rowsP, pP⟩ : TurnD)), (some (⟨tS, rowsS, pS⟩ : TurnD)), rfl, upd_same, (fun z => nomatch z), fun q hq => ⟨(FT q hq).1.keep eZ, (FT q hq).2⟩, (fun dd e => by cases e; exact ⟨evS.1, (IPS.iff VS.1 _).mp evS.2⟩), fun H' bt PA => ⟨rfl, ?_⟩⟩
      refine k H' x (wordsOf (some (⟨tP, rowsP, pP⟩ : TurnD)) (some (⟨tS, rowsS, pS⟩ : TurnD))) ((eS.trans eP).trans fun a u h => bt a u (ne_of_none h hx) (eZ _ _ h)) PA ⟨n2, n3, fun q hq => (FT q hq).2, .inr (.inr rfl)⟩ rfl
  | _ :: _ :: _ :: _, _, _ => rcases W3 with e | e | e <;> exact absurd (congrArg List.length e) (by simp)
end
end JD
end Part_JD22
section Part_JD23
set_option Elab.async false
set_option linter.all false
set_option maxRecDepth 100000
set_option maxHeartbeats 4000000
namespace JD
open PySem PySem.Spec PyProof.Rows L2 JR JX JT LamX
open Evl (Ex)
section
variable {P : Program} {w : World} {K : PySem.W.Frag} {mg : Str → Option Value} {base : Heap}
/-- the lifts of the places, at t -/
abbrev tabOf (N : Int) (rows : List JT.Row) : List Int := (List.range N.toNat).map fun x : Nat => lifted N rows (x : Int)
def sp_lift (K : PySem.W.Frag) : Sp := fun vs H Q _ => ∃ (t : Addr) (y N : Int) (rows : List JT.Row), vs = [.ref t, .int y] ∧ H t = some (.lst ((tabOf N rows).map V.int)) ∧ Rows N rows ∧ 2 ≤ N ∧ N ≤ 360 ∧ Q (.int (lifted N rows y)) H
abbrev N_law_lift : List Str := ["_law_table_here", "_law_x", "_law_around"]
theorem sc_law_lift : FnScope N_law_lift ["_law_table_here", "_law_x"] (defScope s_law_lift) := ⟨rfl, rfl, rfl, by decide +kernel, rfl, by decide +kernel, by decide +kernel⟩
theorem ok_law_lift (T : Txt K mg) : DefOk P w K mg base 1 (He.ga K "_law_lift") ["_law_table_here", "_law_x"] (sp_lift K) := by
  obtain ⟨fd, F⟩ := T.d_law_lift
  refine ⟨fd, F.ok sc_law_lift (fun vs H Q E h => ?_) (fun cdv A outer s H vs Q E hr h => ?_), F.kp, F.bindsN fun _ _ _ _ _ _ us hl => match us, hl with | [_, _], _ => rfl⟩
  · obtain ⟨t, y, N, rows, rfl, ht, VR, n2, n3, k⟩ := h
    rfl
  have hu := hu_of hr
  have nd := sc_law_lift.nd
  obtain ⟨t, y, N, rows, rfl, ht, VR, n2, n3, k⟩ := h
  refine ⟨_, (PSs.nox (pss_cons (ps_set (i := 2) nd rfl (by first | exact Or.inl rfl | exact Or.inr rfl) (pe_callB call_len_seq (by rfl) T.b_len rfl (pa_cons (pv 0) pa_nil)))
  (pss_one (ps_ret (pe_op op_add (pe_ix (ix_listK K) (pv 0) (pe_op op_mod (pe_callTy call_int1 (by rfl) T.b_int rfl (pa_cons (pv 1) pa_nil)) (pv 2)) (fun _ _ => rfl)) (pe_op op_mul (pe_op op_fdiv (pv 1) (pv 2)) (pv 2))))))), ?_⟩
  have N0 : 0 < N := by omega
  have lN : ((((tabOf N rows).map V.int).length : Nat) : Int) = N := by rw [List.length_map, List.length_map, List.length_range]; omega
  have y0 := Int.emod_nonneg y (show N ≠ 0 by omega)
  have y1 := Int.emod_lt_of_pos y N0
  refine ⟨_, rfl, t, _, rfl, .inl (SqL.of ht), ?_⟩
  show gName 2 (V.int (((tabOf N rows).map V.int).length : Nat)) _ _ _
  rw [lN]
  have hg : ((tabOf N rows).map V.int)[(y % N).toNat]? = some (.int (lifted N rows (y % N))) := by
    rw [List.getElem?_map, List.getElem?_map, List.getElem?_range (by omega)]
    show some (V.int (lifted N rows (((y % N).toNat : Nat) : Int))) = _
    rw [Int.toNat_of_nonneg y0]
  have fin : lifted N rows (y % N) + y / N * N = lifted N rows y := by
    rw [← lifted_shiftN VR]
    congr 1
    rw [Int.mul_comm]
    exact Int.emod_add_mul_ediv y N
  refine ⟨_, rfl, _, rfl, .inl ⟨y, rfl, _, rfl, _, _, rfl, rfl, N0, t, _, _, _, rfl, rfl, SqL.of ht, (by show atI ((tabOf N rows).map V.int) (y % N) = some _; rw [← Int.toNat_of_nonneg y0]; exact atI_nat (j := (y % N).toNat) hg), ?_⟩⟩
  refine ⟨_, rfl, _, rfl, _, _, rfl, rfl, ⟨by omega, by omega⟩, _, rfl, _, _, rfl, rfl, .inr ⟨by omega, by omega⟩, _, _, rfl, rfl, ?_⟩
  show Q (V.int (lifted N rows (y % N) + y / N * N)) H
  rw [fin]
  exact k
end
end JD
end Part_JD23
section Part_JMath6
/-! The law's table of a turning: the lifts, place by place. Plain Lean. -/
namespace JT
section
variable {N : Int} {rows : List Row} (V : Rows N rows)
include V
theorem Rows.lt {i j : Nat} (hj : j < rows.length) (h : i < j) : (rows[i]'(by omega)).1 < rows[j].1 := List.pairwise_iff_getElem.mp V.asc i j (by omega) hj h
theorem Rows.le {i j : Nat} (hj : j < rows.length) (h : i ≤ j) : (rows[i]'(by omega)).1 ≤ rows[j].1 := by
  rcases Nat.lt_or_eq_of_le h with c | c
  · exact Int.le_of_lt (V.lt hj c)
  · subst c; exact Int.le_refl _
/-- at the place the first a rows have begun -/
def Begun (rows : List Row) (a : Nat) (place : Int) : Prop := a ≤ rows.length ∧ (∀ i (h : i < rows.length), i < a → rows[i].1 ≤ place) ∧ ∀ i (h : i < rows.length), a ≤ i → place < rows[i].1
theorem lift_at {a : Nat} {x : Int} (h0 : 0 ≤ x) (h1 : x < N) (B : Begun rows (a + 1) x) : ∃ h : a < rows.length, lifted N rows x = rows[a].1 + off N rows[a] := by
  obtain ⟨b1, b2, b3⟩ := B
  have ha : a < rows.length := by omega
  refine ⟨ha, lifted_of V ⟨rows[a], List.getElem_mem ha, 0, by omega, rfl⟩ (b2 a ha (by omega)) fun b' o' hb le => ?_⟩
  obtain ⟨p, hp, k, rfl, rfl⟩ := hb
  obtain ⟨i, hi, rfl⟩ := List.getElem_of_mem hp
  have r1 := V.rng _ (List.getElem_mem hi)
  have r2 := V.rng _ (List.getElem_mem ha)
  rcases Int.lt_trichotomy k 0 with c | c | c
  · have : k * N ≤ -1 * N := Int.mul_le_mul_of_nonneg_right (by omega) (by omega)
    omega
  · subst c
    rcases Nat.lt_or_ge i (a + 1) with d | d
    · have := V.le ha (i := i) (by omega)
      omega
    · have := b3 i hi d
      omega
  · have : 1 * N ≤ k * N := Int.mul_le_mul_of_nonneg_right (by omega) (by omega)
    omega
theorem lift_last {x : Int} (h0 : 0 ≤ x) (h1 : x < N) (B : Begun rows 0 x) : ∃ h : rows.length - 1 < rows.length, lifted N rows x = rows[rows.length - 1].1 - N + off N rows[rows.length - 1] := by
  obtain ⟨b1, b2, b3⟩ := B
  have ha : rows.length - 1 < rows.length := by have := List.length_pos_iff.mpr V.ne; omega
  have r2 := V.rng _ (List.getElem_mem ha)
  refine ⟨ha, lifted_of V ⟨rows[rows.length - 1], List.getElem_mem ha, -1, by omega, rfl⟩ (by omega) fun b' o' hb le => ?_⟩
  obtain ⟨p, hp, k, rfl, rfl⟩ := hb
  obtain ⟨i, hi, rfl⟩ := List.getElem_of_mem hp
  have r1 := V.rng _ (List.getElem_mem hi)
  have g := b3 i hi (Nat.zero_le _)
  have := V.le ha (i := i) (by omega)
  rcases Int.lt_or_le k 0 with c | c
  · have : k * N ≤ -1 * N := Int.mul_le_mul_of_nonneg_right (by omega) (by omega)
    omega
  · have : 0 * N ≤ k * N := Int.mul_le_mul_of_nonneg_right c (by omega)
    omega
theorem begun_zero : Begun rows 0 (-1) := ⟨Nat.zero_le _, fun i h z => by omega, fun i h _ => by have := V.rng _ (List.getElem_mem h); omega⟩
theorem begun_yes {a : Nat} {x : Int} (B : Begun rows a (x - 1)) (h : ∃ h : a < rows.length, rows[a].1 = x) : Begun rows (a + 1) x := by
  obtain ⟨b1, b2, b3⟩ := B
  obtain ⟨ha, e⟩ := h
  refine ⟨ha, fun i hi c => ?_, fun i hi c => ?_⟩
  · have := V.le ha (i := i) (by omega)
    omega
  · have := V.lt hi (i := a) (by omega)
    omega
omit V in
theorem begun_no {a : Nat} {x : Int} (B : Begun rows a (x - 1)) (h : ∀ h : a < rows.length, rows[a].1 ≠ x) (V : Rows N rows) : Begun rows a x := by
  obtain ⟨b1, b2, b3⟩ := B
  refine ⟨b1, fun i hi c => by have := b2 i hi c; omega, fun i hi c => ?_⟩
  have g := b3 i hi c
  rcases Nat.lt_or_eq_of_le c with d | d
  · have := V.lt hi d
    have := b3 a (by omega) (Nat.le_refl _)
    omega
  · subst d
    have := h hi
    omega
end
end JT
end Part_JMath6
section Part_JD24
set_option Elab.async false
set_option linter.all false
set_option maxRecDepth 100000
set_option maxHeartbeats 4000000
namespace JD
open PySem PySem.Spec PyProof.Rows L2 JR JX JT LamX
open Evl (Ex)
section
variable {P : Program} {w : World} {K : PySem.W.Frag} {mg : Str → Option Value} {base : Heap}
theorem atI_tab {xs : List V} {a : Nat} (h : a ≤ xs.length) (h0 : 0 < xs.length) : atI xs ((a : Int) - 1) = xs[if a = 0 then xs.length - 1 else a - 1]? := by
  unfold atI ixN
  by_cases e : a = 0
  · subst e
    rw [if_neg (by omega), if_pos (by omega), if_pos rfl]
    have : (((0 : Nat) : Int) - 1 + (xs.length : Int)).toNat = xs.length - 1 := by omega
    simp only [this]
    rfl
  · rw [if_pos (by omega), if_pos (by omega), if_neg e]
    have : ((a : Int) - 1).toNat = a - 1 := by omega
    simp only [this]
    rfl
theorem lift_tab {N : Int} {rows : List JT.Row} (VR : Rows N rows) {a : Nat} {x : Int} (h0 : 0 ≤ x) (h1 : x < N) (B : Begun rows a x) : ∃ p, rows[if a = 0 then rows.length - 1 else a - 1]? = some p ∧ lifted N rows x = p.1 - (if a = 0 then N else 0) + off N p := by
  by_cases e : a = 0
  · subst e
    obtain ⟨h, q⟩ := lift_last VR h0 h1 B
    exact ⟨_, by rw [if_pos rfl]; exact List.getElem?_eq_getElem h, by rw [if_pos rfl]; exact q⟩
  · obtain ⟨b, rfl⟩ : ∃ b, a = b + 1 := ⟨a - 1, by omega⟩
    obtain ⟨h, q⟩ := lift_at VR h0 h1 B
    exact ⟨_, by rw [if_neg e]; exact List.getElem?_eq_getElem h, by rw [if_neg e, Int.sub_zero]; exact q⟩
def sp_table (K : PySem.W.Frag) : Sp := fun vs H Q _ => ∃ (r : Addr) (N : Int) (xs : List V) (rows : List JT.Row), vs = [.ref r, .int N] ∧ H r = some (.lst xs) ∧ Ls H encRow xs rows ∧ Rows N rows ∧ rows.length ≤ 12 ∧ 2 ≤ N ∧ N ≤ 360 ∧
  ∀ H' t, Ex H H' → H' t = some (.lst ((tabOf N rows).map V.int)) → Q (.ref t) H'
abbrev N_law_table : List Str := ["_law_pairs", "_law_around", "_law_table_here", "_law_at", "_law_place", "_law_begin"]
theorem sc_law_table : FnScope N_law_table ["_law_pairs", "_law_around"] (defScope s_law_table) := ⟨rfl, rfl, rfl, by decide +kernel, rfl, by decide +kernel, by decide +kernel⟩
theorem ok_law_table (T : Txt K mg) : DefOk P w K mg base 1 (He.ga K "_law_table") ["_law_pairs", "_law_around"] (sp_table K) := by
  obtain ⟨fd, F⟩ := T.d_law_table
  refine ⟨fd, F.ok sc_law_table (fun vs H Q E h => ?_) (fun cdv A outer s H vs Q E hr h => ?_), F.kp, F.bindsN fun _ _ _ _ _ _ us hl => match us, hl with | [_, _], _ => rfl⟩
  · obtain ⟨r, N, xs, rows, rfl, hr0, hl, VR, hz, n2, n3, k⟩ := h
    rfl
  have hu := hu_of hr
  have nd := sc_law_table.nd
  obtain ⟨r, N, xs, rows, rfl, hr0, hl, VR, hz, n2, n3, k⟩ := h
  refine ⟨_, (PSs.nox (pss_cons (ps_set (i := 2) nd rfl (by first | exact Or.inl rfl | exact Or.inr rfl) (pe_lst pa_nil))
  (pss_cons (ps_set (i := 3) nd rfl (by first | exact Or.inl rfl | exact Or.inr rfl) (pe_un un_neg pe_int))
  (pss_cons (ps_for PassesOwn.never rfl (pi_range1 rfl T.b_range (pa_cons (pv 1) pa_nil)) (pg_name (i := 4) nd rfl (by first | exact Or.inl rfl | exact Or.inr rfl)) (pss_cons (ps_if (PW.pt (pw_and (pt_cmpR op_lt (pe_op op_add (pv 3) pe_int) (pe_callB call_len_seq (by rfl) T.b_len rfl (pa_cons (pv 0) pa_nil)) (nomark _)) (pw_and1 (pt_cmpR op_eq (pe_ix (ix_tupK K) (pe_ix (ix_listK K) (pv 0) (pe_op op_add (pv 3) pe_int) (fun _ _ => rfl)) pe_int (fun _ _ => rfl)) (pv 4) (nomark _))))) (pss_one (ps_set (i := 3) nd rfl (by first | exact Or.inl rfl | exact Or.inr rfl) (pe_op op_add (pv 3) pe_int))) pss_nil)
  (pss_cons (ps_set (i := 5) nd rfl (by first | exact Or.inl rfl | exact Or.inr rfl) (pe_ix (ix_tupK K) (pe_ix (ix_listK K) (pv 0) (pv 3) (fun _ _ => rfl)) pe_int (fun _ _ => rfl)))
  (pss_cons (ps_if (pt_cmpR op_lt (pv 3) pe_int (nomark _)) (pss_one (ps_set (i := 5) nd rfl (by first | exact Or.inl rfl | exact Or.inr rfl) (pe_op op_sub (pv 5) (pv 1)))) pss_nil)
  (pss_one (ps_expr (pe_bm PySem.F.plainAttrs_list PySem.F.slot_list_append PySem.F.type_list_append mt_append (pv 2) (pa_cons (pe_op op_add (pv 5) (pe_op op_mod (pe_op op_sub (pe_ix (ix_tupK K) (pe_ix (ix_listK K) (pv 0) (pv 3) (fun _ _ => rfl)) pe_int (fun _ _ => rfl)) (pe_ix (ix_tupK K) (pe_ix (ix_listK K) (pv 0) (pv 3) (fun _ _ => rfl)) pe_int (fun _ _ => rfl))) (pv 1))) pa_nil))))))))
  (pss_one (ps_ret (pv 2))))))), ?_⟩
  have lx := hl.len
  refine ⟨Nat.zero_le _, fun t ht => ?_⟩
  have e1 : Ex H (upd H t (.lst [])) := ex_new ht
  refine ⟨_, rfl, _, rfl, N, rfl, (by omega), (by omega), ?_⟩
  have rl : 0 < rows.length := List.length_pos_iff.mpr VR.ne
  refine for_range (fun i σ F => Ex H F ∧ ∃ (a : Nat) (x4 x5 : Option V), σ = [some (.ref r), some (.int N), some (.ref t), some (.int ((a : Int) - 1)), x4, x5] ∧ Begun rows a ((i : Int) - 1) ∧ F t = some (.lst (((List.range i).map fun x : Nat => lifted N rows (x : Int)).map V.int))) ⟨e1, 0, none, none, rfl, (by have := begun_zero VR; simpa using this), upd_same⟩ ?_ ?_
  · rintro i σ F hi ⟨eF, a, x4, x5, rfl, BG, hF⟩
    have z0 : (0 : Int) + (i : Int) = (i : Int) := Int.zero_add _
    rw [z0]
    have a1 : (a : Int) - 1 + 1 = (a : Int) := by omega
    refine ⟨_, rfl, _, _, rfl, rfl, _, rfl, r, xs, rfl, .inl (SqL.of (eF _ _ hr0)), _, _, rfl, rfl, _, rfl, ?_⟩
    by_cases ha : a < rows.length
    · rw [decide_eq_true (by omega)]
      obtain ⟨va, hva⟩ : ∃ v, xs[a]? = some v := ⟨_, List.getElem?_eq_getElem (by omega)⟩
      obtain ⟨pa, hpa, ipa⟩ := (hl.keep (Tups.of eF)).get hva
      obtain ⟨qa, rfl, hqa⟩ := PairAt.get ipa
      have epa : rows[a] = pa := by rw [List.getElem?_eq_getElem ha] at hpa; exact Option.some.inj hpa
      refine iteT ⟨_, rfl, _, rfl, _, _, rfl, rfl, r, xs, _, _, rfl, rfl, SqL.of (eF _ _ hr0), (by show atI xs ((a : Int) - 1 + 1) = some _; rw [a1]; exact atI_nat (j := a) hva), qa, _, _, _, rfl, rfl, SqT.of hqa, atI_nat (j := 0) rfl, _, rfl, ?_⟩
      by_cases hc : pa.1 = (i : Int)
      · refine ⟨rfl, true, congrArg V.bl (decide_eq_true (by rw [hc])), iteT ⟨_, rfl, _, _, rfl, rfl, ?_⟩⟩
        have BG1 : Begun rows (a + 1) (i : Int) := begun_yes VR BG ⟨ha, by rw [epa]; exact hc⟩
        have a2 : (a : Int) - 1 + 1 = ((a + 1 : Nat) : Int) - 1 := by omega
        show gName 3 (V.int ((a : Int) - 1 + 1)) _ _ _
        rw [a2]
        obtain ⟨pr, hpr, hlift⟩ := lift_tab VR (by omega) (by omega) BG1
        obtain ⟨v, hv, imv⟩ : ∃ v, xs[if (a + 1) = 0 then xs.length - 1 else (a + 1) - 1]? = some v ∧ Im F v (encRow pr) := by
          obtain ⟨v, hv⟩ : ∃ v, xs[if (a + 1) = 0 then xs.length - 1 else (a + 1) - 1]? = some v := ⟨_, List.getElem?_eq_getElem (by have := BG1.1; split <;> omega)⟩
          obtain ⟨p2, hp2, im2⟩ := (hl.keep (Tups.of eF)).get hv
          rw [lx, hpr] at hp2
          cases hp2
          exact ⟨v, hv, im2⟩
        obtain ⟨q, rfl, hq⟩ := PairAt.get imv
        have hal := BG1.1
        have BG2 : Begun rows ((a + 1)) (((i + 1 : Nat) : Int) - 1) := by
          have : (((i + 1 : Nat) : Int) - 1) = (i : Int) := by omega
          rw [this]
          exact BG1
        refine ⟨_, rfl, _, rfl, r, xs, _, _, rfl, rfl, SqL.of (eF _ _ hr0), (atI_tab (by omega) (by omega)).trans hv, q, _, _, _, rfl, rfl, SqT.of hq, atI_nat (j := 0) rfl, ?_⟩
        refine ⟨_, rfl, _, _, rfl, rfl, _, rfl, ?_⟩
        by_cases z : (a + 1) = 0
        · rw [decide_eq_true (by omega)]
          rw [if_pos z] at hlift
          refine iteT ⟨_, rfl, _, rfl, _, _, rfl, rfl, ?_⟩
          refine ⟨_, rfl, .inl ⟨rfl, _, SqL.of hF⟩, _, rfl, _, rfl, _, rfl, r, xs, _, _, rfl, rfl, SqL.of (eF _ _ hr0), (atI_tab (by omega) (by omega)).trans hv, q, _, _, _, rfl, rfl, SqT.of hq, atI_nat (j := 1) rfl, _, rfl, _, rfl, r, xs, _, _, rfl, rfl, SqL.of (eF _ _ hr0), (atI_tab (by omega) (by omega)).trans hv, q, _, _, _, rfl, rfl, SqT.of hq, atI_nat (j := 0) rfl, _, _, rfl, rfl, _, rfl, _, _, rfl, rfl, (by omega), _, _, rfl, rfl, t, _, _, rfl, rfl, hF, Evl.sz_lt (by rw [List.length_map, List.length_map, List.length_range]; omega), ?_⟩
          refine ⟨Evl.Ex.mut eF ht, (a + 1), _, _, rfl, (by have := BG2; exact this), ?_⟩
          rw [List.range_succ, List.map_append, List.map_append]
          show upd F t _ t = some (.lst (_ ++ [V.int (lifted N rows (i : Int))]))
          rw [hlift]
          exact upd_same
        · rw [decide_eq_false (by omega)]
          rw [if_neg z, Int.sub_zero] at hlift
          refine iteF ?_
          refine ⟨_, rfl, .inl ⟨rfl, _, SqL.of hF⟩, _, rfl, _, rfl, _, rfl, r, xs, _, _, rfl, rfl, SqL.of (eF _ _ hr0), (atI_tab (by omega) (by omega)).trans hv, q, _, _, _, rfl, rfl, SqT.of hq, atI_nat (j := 1) rfl, _, rfl, _, rfl, r, xs, _, _, rfl, rfl, SqL.of (eF _ _ hr0), (atI_tab (by omega) (by omega)).trans hv, q, _, _, _, rfl, rfl, SqT.of hq, atI_nat (j := 0) rfl, _, _, rfl, rfl, _, rfl, _, _, rfl, rfl, (by omega), _, _, rfl, rfl, t, _, _, rfl, rfl, hF, Evl.sz_lt (by rw [List.length_map, List.length_map, List.length_range]; omega), ?_⟩
          refine ⟨Evl.Ex.mut eF ht, (a + 1), _, _, rfl, (by have := BG2; exact this), ?_⟩
          rw [List.range_succ, List.map_append, List.map_append]
          show upd F t _ t = some (.lst (_ ++ [V.int (lifted N rows (i : Int))]))
          rw [hlift]
          exact upd_same
      · refine ⟨rfl, false, congrArg V.bl (decide_eq_false fun z => hc (V.int.inj z)), iteF ?_⟩
        have BG1 : Begun rows a (i : Int) := begun_no BG (fun h => by rw [epa]; exact hc) VR
        obtain ⟨pr, hpr, hlift⟩ := lift_tab VR (by omega) (by omega) BG1
        obtain ⟨v, hv, imv⟩ : ∃ v, xs[if (a) = 0 then xs.length - 1 else (a) - 1]? = some v ∧ Im F v (encRow pr) := by
          obtain ⟨v, hv⟩ : ∃ v, xs[if (a) = 0 then xs.length - 1 else (a) - 1]? = some v := ⟨_, List.getElem?_eq_getElem (by have := BG1.1; split <;> omega)⟩
          obtain ⟨p2, hp2, im2⟩ := (hl.keep (Tups.of eF)).get hv
          rw [lx, hpr] at hp2
          cases hp2
          exact ⟨v, hv, im2⟩
        obtain ⟨q, rfl, hq⟩ := PairAt.get imv
        have hal := BG1.1
        have BG2 : Begun rows ((a)) (((i + 1 : Nat) : Int) - 1) := by
          have : (((i + 1 : Nat) : Int) - 1) = (i : Int) := by omega
          rw [this]
          exact BG1
        refine ⟨_, rfl, _, rfl, r, xs, _, _, rfl, rfl, SqL.of (eF _ _ hr0), (atI_tab (by omega) (by omega)).trans hv, q, _, _, _, rfl, rfl, SqT.of hq, atI_nat (j := 0) rfl, ?_⟩
        refine ⟨_, rfl, _, _, rfl, rfl, _, rfl, ?_⟩
        by_cases z : (a) = 0
        · rw [decide_eq_true (by omega)]
          rw [if_pos z] at hlift
          refine iteT ⟨_, rfl, _, rfl, _, _, rfl, rfl, ?_⟩
          refine ⟨_, rfl, .inl ⟨rfl, _, SqL.of hF⟩, _, rfl, _, rfl, _, rfl, r, xs, _, _, rfl, rfl, SqL.of (eF _ _ hr0), (atI_tab (by omega) (by omega)).trans hv, q, _, _, _, rfl, rfl, SqT.of hq, atI_nat (j := 1) rfl, _, rfl, _, rfl, r, xs, _, _, rfl, rfl, SqL.of (eF _ _ hr0), (atI_tab (by omega) (by omega)).trans hv, q, _, _, _, rfl, rfl, SqT.of hq, atI_nat (j := 0) rfl, _, _, rfl, rfl, _, rfl, _, _, rfl, rfl, (by omega), _, _, rfl, rfl, t, _, _, rfl, rfl, hF, Evl.sz_lt (by rw [List.length_map, List.length_map, List.length_range]; omega), ?_⟩
          refine ⟨Evl.Ex.mut eF ht, (a), _, _, rfl, (by have := BG2; exact this), ?_⟩
          rw [List.range_succ, List.map_append, List.map_append]
          show upd F t _ t = some (.lst (_ ++ [V.int (lifted N rows (i : Int))]))
          rw [hlift]
          exact upd_same
        · rw [decide_eq_false (by omega)]
          rw [if_neg z, Int.sub_zero] at hlift
          refine iteF ?_
          refine ⟨_, rfl, .inl ⟨rfl, _, SqL.of hF⟩, _, rfl, _, rfl, _, rfl, r, xs, _, _, rfl, rfl, SqL.of (eF _ _ hr0), (atI_tab (by omega) (by omega)).trans hv, q, _, _, _, rfl, rfl, SqT.of hq, atI_nat (j := 1) rfl, _, rfl, _, rfl, r, xs, _, _, rfl, rfl, SqL.of (eF _ _ hr0), (atI_tab (by omega) (by omega)).trans hv, q, _, _, _, rfl, rfl, SqT.of hq, atI_nat (j := 0) rfl, _, _, rfl, rfl, _, rfl, _, _, rfl, rfl, (by omega), _, _, rfl, rfl, t, _, _, rfl, rfl, hF, Evl.sz_lt (by rw [List.length_map, List.length_map, List.length_range]; omega), ?_⟩
          refine ⟨Evl.Ex.mut eF ht, (a), _, _, rfl, (by have := BG2; exact this), ?_⟩
          rw [List.range_succ, List.map_append, List.map_append]
          show upd F t _ t = some (.lst (_ ++ [V.int (lifted N rows (i : Int))]))
          rw [hlift]
          exact upd_same
    · rw [decide_eq_false (by omega)]
      refine iteF (iteF ?_)
      have BG1 : Begun rows a (i : Int) := begun_no BG (fun h => absurd h ha) VR
      obtain ⟨pr, hpr, hlift⟩ := lift_tab VR (by omega) (by omega) BG1
      obtain ⟨v, hv, imv⟩ : ∃ v, xs[if (a) = 0 then xs.length - 1 else (a) - 1]? = some v ∧ Im F v (encRow pr) := by
        obtain ⟨v, hv⟩ : ∃ v, xs[if (a) = 0 then xs.length - 1 else (a) - 1]? = some v := ⟨_, List.getElem?_eq_getElem (by have := BG1.1; split <;> omega)⟩
        obtain ⟨p2, hp2, im2⟩ := (hl.keep (Tups.of eF)).get hv
        rw [lx, hpr] at hp2
        cases hp2
        exact ⟨v, hv, im2⟩
      obtain ⟨q, rfl, hq⟩ := PairAt.get imv
      have hal := BG1.1
      have BG2 : Begun rows ((a)) (((i + 1 : Nat) : Int) - 1) := by
        have : (((i + 1 : Nat) : Int) - 1) = (i : Int) := by omega
        rw [this]
        exact BG1
      refine ⟨_, rfl, _, rfl, r, xs, _, _, rfl, rfl, SqL.of (eF _ _ hr0), (atI_tab (by omega) (by omega)).trans hv, q, _, _, _, rfl, rfl, SqT.of hq, atI_nat (j := 0) rfl, ?_⟩
      refine ⟨_, rfl, _, _, rfl, rfl, _, rfl, ?_⟩
      by_cases z : (a) = 0
      · rw [decide_eq_true (by omega)]
        rw [if_pos z] at hlift
        refine iteT ⟨_, rfl, _, rfl, _, _, rfl, rfl, ?_⟩
        refine ⟨_, rfl, .inl ⟨rfl, _, SqL.of hF⟩, _, rfl, _, rfl, _, rfl, r, xs, _, _, rfl, rfl, SqL.of (eF _ _ hr0), (atI_tab (by omega) (by omega)).trans hv, q, _, _, _, rfl, rfl, SqT.of hq, atI_nat (j := 1) rfl, _, rfl, _, rfl, r, xs, _, _, rfl, rfl, SqL.of (eF _ _ hr0), (atI_tab (by omega) (by omega)).trans hv, q, _, _, _, rfl, rfl, SqT.of hq, atI_nat (j := 0) rfl, _, _, rfl, rfl, _, rfl, _, _, rfl, rfl, (by omega), _, _, rfl, rfl, t, _, _, rfl, rfl, hF, Evl.sz_lt (by rw [List.length_map, List.length_map, List.length_range]; omega), ?_⟩
        refine ⟨Evl.Ex.mut eF ht, (a), _, _, rfl, (by have := BG2; exact this), ?_⟩
        rw [List.range_succ, List.map_append, List.map_append]
        show upd F t _ t = some (.lst (_ ++ [V.int (lifted N rows (i : Int))]))
        rw [hlift]
        exact upd_same
      · rw [decide_eq_false (by omega)]
        rw [if_neg z, Int.sub_zero] at hlift
        refine iteF ?_
        refine ⟨_, rfl, .inl ⟨rfl, _, SqL.of hF⟩, _, rfl, _, rfl, _, rfl, r, xs, _, _, rfl, rfl, SqL.of (eF _ _ hr0), (atI_tab (by omega) (by omega)).trans hv, q, _, _, _, rfl, rfl, SqT.of hq, atI_nat (j := 1) rfl, _, rfl, _, rfl, r, xs, _, _, rfl, rfl, SqL.of (eF _ _ hr0), (atI_tab (by omega) (by omega)).trans hv, q, _, _, _, rfl, rfl, SqT.of hq, atI_nat (j := 0) rfl, _, _, rfl, rfl, _, rfl, _, _, rfl, rfl, (by omega), _, _, rfl, rfl, t, _, _, rfl, rfl, hF, Evl.sz_lt (by rw [List.length_map, List.length_map, List.length_range]; omega), ?_⟩
        refine ⟨Evl.Ex.mut eF ht, (a), _, _, rfl, (by have := BG2; exact this), ?_⟩
        rw [List.range_succ, List.map_append, List.map_append]
        show upd F t _ t = some (.lst (_ ++ [V.int (lifted N rows (i : Int))]))
        rw [hlift]
        exact upd_same
  · rintro σ F ⟨eF, a, x4, x5, rfl, BG, hF⟩
    exact ⟨_, rfl, k F t eF hF⟩
end
end JD
end Part_JD24
section Part_JD25
set_option Elab.async false
set_option linter.all false
set_option maxRecDepth 100000
set_option maxHeartbeats 4000000
namespace JD
open PySem PySem.Spec PyProof.Rows L2 JR JX JT LamX
open Evl (Ex)
/-- the tables by words -/
def TabsAt (N : Int) (H : Hp) (d : Addr) (W : Pairs) : Prop := ∃ kvs : List (Key × V), H d = some (.dK kvs) ∧ Paired (fun (kv : Key × V) (q : Str × List JT.Row) => kv.1 = Sum.inr q.1 ∧ ∃ r, kv.2 = .ref r ∧ H r = some (.lst ((tabOf N q.2).map V.int))) kvs W
theorem pair_val {β : Type} {R : Key × V → Str × β → Prop} (hR : ∀ kv q, R kv q → kv.1 = Sum.inr q.1) {kvs : List (Key × V)} {W : List (Str × β)} (h : Paired R kvs W) (nd : (W.map (·.1)).Nodup) {q : Str × β} (hq : q ∈ W) : ∃ v, valV kvs (Sum.inr q.1) = some v ∧ R (Sum.inr q.1, v) q := by
  induction h with
  | nil => cases hq
  | @cons kv b kvs W h1 _ ih =>
    rw [List.map_cons, List.nodup_cons] at nd
    have e := hR _ _ h1
    rcases List.mem_cons.mp hq with rfl | hq
    · exact ⟨kv.2, by rw [valV_pos e], by rw [← e]; exact h1⟩
    · obtain ⟨v, g1, g2⟩ := ih nd.2 hq
      refine ⟨v, ?_, g2⟩
      rw [valV_neg (p := kv) (fun z => nd.1 ?_)]
      · exact g1
      · rw [e] at z
        rw [Sum.inr.inj z]
        exact List.mem_map_of_mem hq
theorem pair_at {α β : Type} {R : α → β → Prop} {kvs : List α} {W : List β} (h : Paired R kvs W) : ∀ {i : Nat} {kv : α}, kvs[i]? = some kv → ∃ q, W[i]? = some q ∧ R kv q := by
  induction h with
  | nil => intro i kv hi; simp at hi
  | cons h1 _ ih =>
    intro i kv hi
    cases i with
    | zero =>
      rw [List.getElem?_cons_zero] at hi ⊢
      cases hi
      exact ⟨_, rfl, h1⟩
    | succ i =>
      rw [List.getElem?_cons_succ] at hi ⊢
      exact ih hi
theorem WorldF.nd {N : Int} {W : Pairs} (h : WorldF N W) : (W.map (·.1)).Nodup := by
  rcases h.ws with e | e | e <;> rw [e] <;> decide
theorem comm_range {N s : Int} {rows : List JT.Row} (VR : Rows N rows) (h : ∀ x : Nat, (x : Int) < N → lifted N rows ((x : Int) + s) = lifted N rows (x : Int) + s) : Comm N rows s := fun x => by
  have n0 := VR.N0
  have h0 := Int.emod_nonneg x (show N ≠ 0 by omega)
  have h1 := Int.emod_lt_of_pos x n0
  have e : x = x % N + x / N * N := by rw [Int.mul_comm]; exact (Int.emod_add_mul_ediv x N).symm
  have g := h (x % N).toNat (by omega)
  rw [Int.toNat_of_nonneg h0] at g
  have e2 : x + s = (x % N + s) + x / N * N := by omega
  rw [e2, lifted_shiftN VR, g]
  have e3 : lifted N rows x = lifted N rows (x % N) + x / N * N := by rw [← lifted_shiftN VR, ← e]
  rw [e3]
  omega
section
variable {P : Program} {w : World} {K : PySem.W.Frag} {mg : Str → Option Value} {base : Heap}
def sp_keeps (K : PySem.W.Frag) : Sp := fun vs H Q _ => ∃ (d : Addr) (s N : Int) (W : Pairs), vs = [.ref d, .int s] ∧ TabsAt N H d W ∧ WorldF N W ∧ 2 ≤ N ∧ N ≤ 360 ∧ 1 ≤ s ∧ s ≤ N ∧ ((∀ q ∈ W, Comm N q.2 s) → Q (.bl true) H) ∧ (¬ (∀ q ∈ W, Comm N q.2 s) → Q (.bl false) H)
abbrev N_law_keeps : List Str := ["_law_tables_here", "_law_span_here", "_law_word", "_law_table_here", "_law_x"]
theorem sc_law_keeps : FnScope N_law_keeps ["_law_tables_here", "_law_span_here"] (defScope s_law_keeps) := ⟨rfl, rfl, rfl, by decide +kernel, rfl, by decide +kernel, by decide +kernel⟩
theorem ok_law_keeps (T : Txt K mg) : DefOk P w K mg base 2 (He.ga K "_law_keeps") ["_law_tables_here", "_law_span_here"] (sp_keeps K) := by
  obtain ⟨fd, F⟩ := T.d_law_keeps
  obtain ⟨fd_law_lift, G_law_lift, kp_law_lift, b_law_lift⟩ := ok_law_lift (P := P) (w := w) (base := base) T
  refine ⟨fd, F.ok sc_law_keeps (fun vs H Q E h => ?_) (fun cdv A outer s H vs Q E hr h => ?_), F.kp, F.bindsN fun _ _ _ _ _ _ us hl => match us, hl with | [_, _], _ => rfl⟩
  · obtain ⟨d, s, N, W, rfl, hT, WF, n2, n3, s1, s2, k1, k2⟩ := h
    rfl
  have hu := hu_of hr
  have nd := sc_law_keeps.nd
  obtain ⟨d, s, N, W, rfl, hT, WF, n2, n3, s1, s2, k1, k2⟩ := h
  refine ⟨_, (PSs.nox (pss_cons (ps_lock (ps_for PassesOwn.never rfl (pi_keys (pv 0)) (pg_name (i := 2) nd rfl (by first | exact Or.inl rfl | exact Or.inr rfl)) (pss_cons (ps_set (i := 3) nd rfl (by first | exact Or.inl rfl | exact Or.inr rfl) (pe_dget hu (pv 0) (pv 2) (fun _ _ => rfl)))
  (pss_one (ps_for PassesOwn.never rfl (pi_range1 rfl T.b_range (pa_cons (pe_callB call_len_seq (by rfl) T.b_len rfl (pa_cons (pv 3) pa_nil)) pa_nil)) (pg_name (i := 4) nd rfl (by first | exact Or.inl rfl | exact Or.inr rfl)) (pss_one (ps_if (pt_cmpR op_ne (pe_call G_law_lift (hr.mono (by decide)) rfl T.g_law_lift kp_law_lift b_law_lift .nil pass0 (pa_cons (pv 3) (pa_cons (pe_op op_add (pv 4) (pv 1)) pa_nil))) (pe_op op_add (pe_ix (ix_listK K) (pv 3) (pv 4) (fun _ _ => rfl)) (pv 1)) (nomark _)) (pss_one (ps_ret pe_bl)) pss_nil)))))))
  (pss_one (ps_ret pe_bl)))), ?_⟩
  obtain ⟨kvs, hd, hP⟩ := id hT
  have lk : kvs.length = W.length := Paired.length hP
  refine ⟨d, _, hd, True.intro, fun od => ?_⟩
  obtain ⟨G, eG⟩ : ∃ G, G = upd H d (.frz od (.dK kvs)) := ⟨_, rfl⟩
  rw [← eG]
  have gd : G d = some (.frz od (.dK kvs)) := by rw [eG]; exact upd_same
  have back : upd G d (.dK kvs) = H := by
    funext a
    by_cases e : a = d
    · rw [e, upd_same, hd]
    · rw [upd_ne e, eG, upd_ne e]
  refine ⟨_, rfl, d, od, rfl, .inl ⟨kvs, gd, ?_⟩⟩
  refine for_it walk_keys (fun i σ F => G = F ∧ (∃ x2 x3 x4, σ = [some (.ref d), some (.int s), x2, x3, x4]) ∧ ∀ q ∈ W.take i, Comm N q.2 s) ⟨rfl, ⟨none, none, none, rfl⟩, fun q hq => by cases hq⟩ (fun i σ F _ ⟨h, _⟩ => by rw [← h]; exact gd) ?_ ?_
  · rintro i x σ F F' hi ⟨rfl, ⟨x2, x3, x4, rfl⟩, hc⟩ ⟨eF', kk, kv, hk, rfl⟩
    have eF' : G = F' := Eq.symm eF'
    subst eF'
    obtain ⟨q, hq, ek, r, er, hr0⟩ := pair_at hP hk
    have qm := List.mem_of_getElem? hq
    have ek : kk = Sum.inr q.1 := ek
    have er : kv = .ref r := er
    subst ek er
    have VR := (WF.rows q qm).1
    have tk : W.take (i + 1) = W.take i ++ [q] := by rw [List.take_add_one, hq]; rfl
    obtain ⟨v, hv, _, r', er', hr'⟩ := pair_val (fun _ _ h => h.1) hP WF.nd qm
    have er' : v = .ref r' := er'
    subst er'
    have gr : G r' = some (.lst ((tabOf N q.2).map V.int)) := by rw [eG, upd_ne (ne_of hr' hd fun z => nomatch z)]; exact hr'
    have dg : DGet G d (.str q.1) (some (.ref r')) := by rw [← hv]; exact .inl ⟨kvs, Sum.inr q.1, .inr ⟨od, gd⟩, rfl, rfl⟩
    have lN : ((((tabOf N q.2).map V.int).length : Nat) : Int) = N := by rw [List.length_map, List.length_map, List.length_range]; omega
    refine ⟨_, rfl, _, rfl, d, _, rfl, dg, ?_⟩
    refine ⟨_, rfl, r', _, rfl, .inl (SqL.of gr), ?_⟩
    refine ⟨(N : Int), congrArg (fun z : Int => [V.int z]) lN, by omega, by omega, ?_⟩
    refine for_range (fun j σ F => G = F ∧ (∃ x4, σ = [some (.ref d), some (.int s), some (.str q.1), some (.ref r'), x4]) ∧ ∀ x : Nat, x < j → lifted N q.2 ((x : Int) + s) = lifted N q.2 (x : Int) + s) ⟨rfl, ⟨_, rfl⟩, fun x hx => by omega⟩ ?_ ?_
    · rintro j σ F hj ⟨rfl, ⟨y4, rfl⟩, hm⟩
      have z0 : (0 : Int) + (j : Int) = (j : Int) := Int.zero_add _
      rw [z0]
      have hg : ((tabOf N q.2).map V.int)[j]? = some (.int (lifted N q.2 (j : Int))) := by
        rw [List.getElem?_map, List.getElem?_map, List.getElem?_range (by omega)]
        rfl
      refine ⟨_, rfl, _, rfl, _, rfl, _, _, rfl, rfl, r', _, N, q.2, rfl, gr, VR, n2, n3, ?_⟩
      refine ⟨_, rfl, _, rfl, r', _, _, _, rfl, rfl, SqL.of gr, atI_nat (j := j) hg, _, rfl, _, _, rfl, rfl, ?_⟩
      by_cases hc : lifted N q.2 ((j : Int) + s) = lifted N q.2 (j : Int) + s
      · refine ⟨rfl, false, congrArg V.bl (by rw [hc]; simp), iteF ⟨rfl, ⟨_, rfl⟩, fun x hx => ?_⟩⟩
        rcases Nat.lt_or_eq_of_le (Nat.lt_succ_iff.mp hx) with c | c
        · exact hm x c
        · subst c; exact hc
      · refine ⟨rfl, true, congrArg V.bl (by simp [hc]), iteT ⟨gd, ?_⟩⟩
        rw [back]
        exact k2 fun h => hc (h q qm _)
    · rintro σ F ⟨rfl, ⟨y4, rfl⟩, hm⟩
      refine ⟨rfl, ⟨_, _, _, rfl⟩, fun q' hq' => ?_⟩
      rw [tk] at hq'
      rcases List.mem_append.mp hq' with h | h
      · exact hc q' h
      · rw [List.mem_singleton.mp h]
        exact comm_range VR fun x hx => hm x (by omega)
  · rintro σ F ⟨rfl, ⟨x2, x3, x4, rfl⟩, hc⟩
    refine ⟨gd, ?_⟩
    rw [back]
    rw [lk, List.take_length] at hc
    exact k1 hc
end
end JD
end Part_JD25
section Part_JD26
set_option Elab.async false
set_option linter.all false
set_option maxRecDepth 100000
set_option maxHeartbeats 4000000
namespace JD
open PySem PySem.Spec PyProof.Rows L2 JR JX JT LamX
open Evl (Ex)
theorem pair_snoc {α β : Type} {R : α → β → Prop} {xs : List α} {ys : List β} (h : Paired R xs ys) {x : α} {y : β} (r : R x y) : Paired R (xs ++ [x]) (ys ++ [y]) := by
  induction h with
  | nil => exact .cons r .nil
  | cons h _ ih => exact .cons h ih
theorem pair_map {α β : Type} {R R' : α → β → Prop} {xs : List α} {ys : List β} (h : Paired R xs ys) (f : ∀ a b, R a b → R' a b) : Paired R' xs ys := by
  induction h with
  | nil => exact .nil
  | cons h _ ih => exact .cons (f _ _ h) ih
theorem pair_keys {β : Type} {R : Key × V → Str × β → Prop} (hR : ∀ kv q, R kv q → kv.1 = Sum.inr q.1) {kvs : List (Key × V)} {W : List (Str × β)} (h : Paired R kvs W) : kvs.map (·.1) = (W.map (·.1)).map Sum.inr := by
  induction h with
  | nil => rfl
  | cons h _ ih => rw [List.map_cons, List.map_cons, List.map_cons, ih, hR _ _ h]
theorem keys_kV {kvs : List (Key × V)} {ws : List Str} (h : kvs.map (·.1) = ws.map Sum.inr) : (kvs.map fun kv => kV kv.1) = ws.map V.str := by
  have : (kvs.map fun kv => kV kv.1) = (kvs.map (·.1)).map kV := by rw [List.map_map]; rfl
  rw [this, h, List.map_map]
  rfl
/-- the words are sorted already -/
theorem ws_sorted {ws ns : List Str} (h : ws = (["push"] : List Str) ∨ ws = (["squeeze"] : List Str) ∨ ws = (["push", "squeeze"] : List Str)) (pm : ns.Perm ws) (so : ns.Pairwise (fun a b => PySem.W.dataLe false PyData.str a b = true)) : ns = ws := by
  rcases h with rfl | rfl | rfl
  · exact List.perm_singleton.mp pm
  · exact List.perm_singleton.mp pm
  · have hl := pm.length_eq
    match ns, hl with
    | [a, b], _ =>
      have ha : a ∈ (["push", "squeeze"] : List Str) := pm.mem_iff.mp List.mem_cons_self
      have hb : b ∈ (["push", "squeeze"] : List Str) := pm.mem_iff.mp (List.mem_cons_of_mem _ List.mem_cons_self)
      have hn : ([a, b] : List Str).Nodup := pm.nodup_iff.mpr (by decide)
      have hs := (List.pairwise_cons.mp so).1 b List.mem_cons_self
      simp only [List.mem_cons, List.not_mem_nil, or_false] at ha hb
      rcases ha with rfl | rfl <;> rcases hb with rfl | rfl
      · exact absurd hn (by decide)
      · rfl
      · exact absurd hs (by decide +kernel)
      · exact absurd hn (by decide)
section
variable {P : Program} {w : World} {K : PySem.W.Frag} {mg : Str → Option Value} {base : Heap}
abbrev TabR (N : Int) (H : Hp) (kv : Key × V) (q : Str × List JT.Row) : Prop := kv.1 = Sum.inr q.1 ∧ ∃ r, kv.2 = .ref r ∧ H r = some (.lst ((tabOf N q.2).map V.int))
abbrev PrR (H : Hp) (kv : Key × V) (q : Str × List JT.Row) : Prop := kv.1 = Sum.inr q.1 ∧ ∃ r xs, kv.2 = .ref r ∧ H r = some (.lst xs) ∧ Ls H encRow xs q.2
def sp_tables (K : PySem.W.Frag) : Sp := fun vs H Q _ => ∃ (d : Addr) (N : Int) (W : Pairs), vs = [.ref d, .int N] ∧ PairsAt H d W ∧ WorldF N W ∧ 2 ≤ N ∧ N ≤ 360 ∧ ∀ H' t, Ex H H' → TabsAt N H' t W → Q (.ref t) H'
abbrev N_law_tables : List Str := ["_law_pairs", "_law_around", "_law_tables_here", "_law_word"]
theorem sc_law_tables : FnScope N_law_tables ["_law_pairs", "_law_around"] (defScope s_law_tables) := ⟨rfl, rfl, rfl, by decide +kernel, rfl, by decide +kernel, by decide +kernel⟩
theorem ok_law_tables (T : Txt K mg) : DefOk P w K mg base 2 (He.ga K "_law_tables") ["_law_pairs", "_law_around"] (sp_tables K) := by
  obtain ⟨fd, F⟩ := T.d_law_tables
  obtain ⟨fd_law_table, G_law_table, kp_law_table, b_law_table⟩ := ok_law_table (P := P) (w := w) (base := base) T
  refine ⟨fd, F.ok sc_law_tables (fun vs H Q E h => ?_) (fun cdv A outer s H vs Q E hr h => ?_), F.kp, F.bindsN fun _ _ _ _ _ _ us hl => match us, hl with | [_, _], _ => rfl⟩
  · obtain ⟨d, N, W, rfl, hW, WF, n2, n3, k⟩ := h
    rfl
  have hu := hu_of hr
  have nd := sc_law_tables.nd
  obtain ⟨d, N, W, rfl, hW, WF, n2, n3, k⟩ := h
  refine ⟨_, (PSs.nox (pss_cons (ps_set (i := 2) nd rfl (by first | exact Or.inl rfl | exact Or.inr rfl) pe_dnewK)
  (pss_cons (ps_for PassesOwn.never rfl (pi_listK K (pe_callB (cr_sortedE shape_str hr.units) (by rfl) T.b_sorted rfl (pa_cons (pe_callTy (call_list_dK rfl) (by rfl) T.b_list rfl (pa_cons (pv 0) pa_nil)) pa_nil))) (pg_name (i := 3) nd rfl (by first | exact Or.inl rfl | exact Or.inr rfl)) (pss_one (ps_dput hu (pv 2) (pv 3) (pe_call G_law_table (hr.mono (by decide)) rfl T.g_law_table kp_law_table b_law_table .nil pass0 (pa_cons (pe_dget hu (pv 0) (pv 3) (fun _ _ => rfl)) (pa_cons (pv 1) pa_nil))) rfl)))
  (pss_one (ps_ret (pv 2)))))), ?_⟩
  obtain ⟨kvs, hd, hP⟩ := hW
  have lk : kvs.length = W.length := Paired.length hP
  have lw : W.length ≤ 2 := by
    have : W.length = (W.map (·.1)).length := (List.length_map _).symm
    rw [this]
    rcases WF.ws with e | e | e <;> rw [e] <;> decide
  refine fun t ht => ?_
  have e1 : Ex H (upd H t (.dK [])) := ex_new ht
  have ek := keys_kV (pair_keys (R := PrR H) (fun _ _ h => h.1) hP)
  refine ⟨_, rfl, d, kvs, rfl, e1 _ _ hd, fun q hq => ?_⟩
  rw [ek]
  refine ⟨q, _, W.map (·.1), rfl, SqL.of upd_same, Ls.strs _, fun zs ns p pm so hns hp0 => ?_⟩
  obtain rfl := ws_sorted WF.ws pm so
  have zz := Ls.strs_eq hns
  obtain ⟨H3, eH3⟩ : ∃ H3, H3 = upd (upd (upd H t (.dK [])) q (.lst ((W.map (·.1)).map V.str))) p (.lst zs) := ⟨_, rfl⟩
  have e3 : Ex H H3 := by rw [eH3]; exact e1.trans ((ex_new hq).trans (ex_new hp0))
  have h3p : H3 p = some (.lst zs) := by rw [eH3]; exact upd_same
  have h3t : H3 t = some (.dK []) := by rw [eH3]; exact (ex_new hp0) _ _ ((ex_new hq) _ _ upd_same)
  rw [← eH3]
  refine ⟨p, rfl, ⟨_, SqL.of h3p⟩, ?_⟩
  refine for_it (walk_list (xs := zs)) (fun i σ F => Ex H F ∧ F p = some (.lst zs) ∧ (∃ x3, σ = [some (.ref d), some (.int N), some (.ref t), x3]) ∧ ∃ kvs', F t = some (.dK kvs') ∧ Paired (TabR N F) kvs' (W.take i)) ⟨e3, h3p, ⟨none, rfl⟩, [], h3t, .nil⟩ (fun i σ F _ ⟨_, h, _⟩ => SqL.of h) ?_ ?_
  · rintro i v σ F F' hi ⟨eF, hpF, ⟨x3, rfl⟩, kvs', hkF, hPF⟩ ⟨rfl, hv⟩
    rw [zz, List.getElem?_map, List.getElem?_map] at hv
    obtain ⟨nm, hn, rfl⟩ := Option.map_eq_some_iff.mp hv
    obtain ⟨q0, hq0, rfl⟩ := Option.map_eq_some_iff.mp hn
    have qm := List.mem_of_getElem? hq0
    have tk : W.take (i + 1) = W.take i ++ [q0] := by rw [List.take_add_one, hq0]; rfl
    obtain ⟨v, hv2, _, r, xs, er, hr0, hlr⟩ := pair_val (R := PrR H) (fun _ _ h => h.1) hP WF.nd qm
    have er : v = .ref r := er
    subst er
    have dg : DGet F' d (.str q0.1) (some (.ref r)) := by rw [← hv2]; exact DGet.k (k := Sum.inr q0.1) (eF _ _ hd)
    have VR := WF.rows q0 qm
    refine ⟨_, rfl, _, rfl, d, _, rfl, dg, _, rfl, r, N, xs, q0.2, rfl, eF _ _ hr0, hlr.keep (Tups.of eF), VR.1, VR.2, n2, n3, fun F2 tt e2 htt => ?_⟩
    have lk' : kvs'.length ≤ i := by
      have h1 := Paired.length hPF
      rw [List.length_take] at h1
      omega
    have li : i < W.length := (List.getElem?_eq_some_iff.mp hq0).1
    have h2t := e2 _ _ hkF
    refine ⟨_, rfl, _, rfl, t, _, rfl, DPut.k (k := Sum.inr q0.1) h2t (Evl.sz_lt (by omega)), ?_⟩
    have nk : (Sum.inr q0.1 : Key) ∉ kvs'.map (·.1) := fun z => by
      rw [pair_keys (R := TabR N F') (fun _ _ h => h.1) hPF] at z
      obtain ⟨y, hy, e⟩ := List.mem_map.mp z
      rw [Sum.inr.inj e, List.map_take] at hy
      obtain ⟨j, hj, ej⟩ := List.getElem_of_mem hy
      rw [List.length_take] at hj
      rw [List.getElem_take] at ej
      have hn' : (W.map (·.1))[i]? = some q0.1 := by rw [List.getElem?_map, hq0]; rfl
      have h1 := (List.getElem?_eq_some_iff.mp hn')
      exact absurd (List.getElem_inj WF.nd |>.mp (ej.trans h1.2.symm)) (by omega)
    have kp : ∀ {r : Addr} {xs : List V}, F2 r = some (.lst xs) → upd F2 t (.dK (putK kvs' (Sum.inr q0.1) (.ref tt))) r = some (.lst xs) := fun {r xs} h => by
      rw [upd_ne (ne_of h h2t fun z => nomatch z)]
      exact h
    refine ⟨Evl.Ex.mut (eF.trans e2) ht, kp (e2 _ _ hpF), ⟨_, rfl⟩, _, upd_same, ?_⟩
    rw [putK_new nk, tk]
    refine pair_snoc (pair_map hPF fun a b h => ?_) ⟨rfl, tt, rfl, ?_⟩
    · obtain ⟨g1, r', g2, g3⟩ := h
      exact ⟨g1, r', g2, by rw [← putK_new nk]; exact kp (e2 _ _ g3)⟩
    · rw [← putK_new nk]
      exact kp htt
  · rintro σ F ⟨eF, hpF, ⟨x3, rfl⟩, kvs', hkF, hPF⟩
    have lz : zs.length = W.length := by rw [zz, List.length_map, List.length_map]
    rw [lz, List.take_length] at hPF
    exact ⟨_, rfl, k F t eF ⟨kvs', hkF, hPF⟩⟩
def sp_span (K : PySem.W.Frag) : Sp := fun vs H Q _ => ∃ (d : Addr) (N s : Int) (W : Pairs), vs = [.ref d, .int N] ∧ TabsAt N H d W ∧ WorldF N W ∧ 2 ≤ N ∧ N ≤ 360 ∧ IsSpan N (W.map (·.2)) s ∧ Q (.int s) H
abbrev N_law_span : List Str := ["_law_tables_here", "_law_around", "_law_span_here"]
theorem sc_law_span : FnScope N_law_span ["_law_tables_here", "_law_around"] (defScope s_law_span) := ⟨rfl, rfl, rfl, by decide +kernel, rfl, by decide +kernel, by decide +kernel⟩
theorem ok_law_span (T : Txt K mg) : DefOk P w K mg base 3 (He.ga K "_law_span") ["_law_tables_here", "_law_around"] (sp_span K) := by
  obtain ⟨fd, F⟩ := T.d_law_span
  obtain ⟨fd_law_keeps, G_law_keeps, kp_law_keeps, b_law_keeps⟩ := ok_law_keeps (P := P) (w := w) (base := base) T
  refine ⟨fd, F.ok sc_law_span (fun vs H Q E h => ?_) (fun cdv A outer s H vs Q E hr h => ?_), F.kp, F.bindsN fun _ _ _ _ _ _ us hl => match us, hl with | [_, _], _ => rfl⟩
  · obtain ⟨d, N, s, W, rfl, hT, WF, n2, n3, S, k⟩ := h
    rfl
  have hu := hu_of hr
  have nd := sc_law_span.nd
  obtain ⟨d, N, s, W, rfl, hT, WF, n2, n3, S, k⟩ := h
  refine ⟨_, (PSs.nox (pss_cons (ps_for PassesOwn.never rfl (pi_range2 rfl T.b_range (pa_cons pe_int (pa_cons (pv 1) pa_nil))) (pg_name (i := 2) nd rfl (by first | exact Or.inl rfl | exact Or.inr rfl)) (pss_one (ps_if (PW.pt (pw_and (pt_cmpR op_eq (pe_op op_mod (pv 1) (pv 2)) pe_int (nomark _)) (pw_and1 (pt_val (pe_call G_law_keeps (hr.mono (by decide)) rfl T.g_law_keeps kp_law_keeps b_law_keeps .nil pass0 (pa_cons (pv 0) (pa_cons (pv 2) pa_nil))))))) (pss_one (ps_ret (pv 2))) pss_nil)))
  (pss_one (ps_ret (pv 1))))), ?_⟩
  have N0 : 0 < N := by omega
  have cmw : ∀ e, (∀ rows ∈ W.map (·.2), Comm N rows e) ↔ ∀ q ∈ W, Comm N q.2 e := fun e => ⟨fun h q hq => h _ (List.mem_map_of_mem hq), fun h rows hr => by
    obtain ⟨q, hq, rfl⟩ := List.mem_map.mp hr
    exact h q hq⟩
  refine ⟨_, rfl, 1, N, rfl, ⟨by decide, by decide, by omega, by omega⟩, ?_⟩
  refine for_range (lo := 1) (n := (N - 1).toNat) (fun i σ F => F = H ∧ (∃ x2, σ = [some (.ref d), some (.int N), x2]) ∧ ∀ e : Int, 0 < e → e < 1 + (i : Int) → N % e = 0 → ¬ ∀ q ∈ W, Comm N q.2 e) ⟨rfl, ⟨none, rfl⟩, fun e h0 h1 => by omega⟩ ?_ ?_
  · rintro i σ F hi ⟨rfl, ⟨x2, rfl⟩, hn⟩
    refine ⟨_, rfl, _, rfl, _, _, rfl, rfl, (by omega), rfl, decide (N % (1 + (i : Int)) = 0), ?_, ?_⟩
    · exact congrArg V.bl (by by_cases h : N % (1 + (i : Int)) = 0 <;> simp [h])
    by_cases hd : N % (1 + (i : Int)) = 0
    · rw [decide_eq_true hd]
      refine iteT ⟨_, rfl, _, rfl, d, 1 + (i : Int), N, W, rfl, hT, WF, n2, n3, by omega, by omega, fun hc => ⟨true, rfl, iteT ⟨_, rfl, ?_⟩⟩, fun hc => ⟨false, rfl, iteF ⟨rfl, ⟨_, rfl⟩, fun e h0 h1 h2 => ?_⟩⟩⟩
      · have e := S.least N0 (t := 1 + (i : Int)) (.inl ⟨by omega, by omega, hd, (cmw _).mpr hc⟩) fun e h0 h1 h2 h3 => hn e h0 h1 h2 ((cmw _).mp h3)
        show Q (V.int (1 + (i : Int))) F
        rw [e]
        exact k
      · by_cases c : e < 1 + (i : Int)
        · exact hn e h0 c h2
        · have : e = 1 + (i : Int) := by omega
          rw [this]
          exact hc
    · rw [decide_eq_false hd]
      refine iteF (iteF ⟨rfl, ⟨_, rfl⟩, fun e h0 h1 h2 => ?_⟩)
      by_cases c : e < 1 + (i : Int)
      · exact hn e h0 c h2
      · have : e = 1 + (i : Int) := by omega
        rw [this] at h2
        exact absurd h2 hd
  · rintro σ F ⟨rfl, ⟨x2, rfl⟩, hn⟩
    have e := S.least N0 (t := N) (.inr rfl) fun e h0 h1 h2 h3 => hn e h0 (by omega) h2 ((cmw _).mp h3)
    refine ⟨_, rfl, ?_⟩
    show Q (V.int N) F
    rw [e]
    exact k
/-- the law's own model of the part -/
def ModelAt (N s : Int) (H : Hp) (m : Addr) (W : Pairs) : Prop := ∃ t r : Addr, H m = some (.dK [((Sum.inr "around" : Key), V.int N), (Sum.inr "span", .int s), (Sum.inr "tables", .ref t), (Sum.inr "rests", .ref r)]) ∧ TabsAt N H t W
theorem TabsAt.keep {N : Int} {H H' : Hp} {d : Addr} {W : Pairs} (h : TabsAt N H d W) (e : Ex H H') : TabsAt N H' d W := by
  obtain ⟨kvs, h1, h2⟩ := h
  exact ⟨kvs, e _ _ h1, pair_map h2 fun a b ⟨g1, r, g2, g3⟩ => ⟨g1, r, g2, e _ _ g3⟩⟩
theorem ModelAt.keep {N s : Int} {H H' : Hp} {d : Addr} {W : Pairs} (h : ModelAt N s H d W) (e : Ex H H') : ModelAt N s H' d W := by
  obtain ⟨t, r, h1, h2⟩ := h
  exact ⟨t, r, e _ _ h1, h2.keep e⟩
def sp_model (K : PySem.W.Frag) : Sp := fun vs H Q _ => ∃ (d : Addr) (N s : Int) (W : Pairs), vs = [.ref d, .int N] ∧ PairsAt H d W ∧ WorldF N W ∧ 2 ≤ N ∧ N ≤ 360 ∧ IsSpan N (W.map (·.2)) s ∧ ∀ H' m, Ex H H' → ModelAt N s H' m W → Q (.ref m) H'
abbrev N_law_model : List Str := ["_law_pairs", "_law_around", "_law_tables_here", "_law_span_here", "_law_rests", "_law_word", "_law_x"]
theorem sc_law_model : FnScope N_law_model ["_law_pairs", "_law_around"] (defScope s_law_model) := ⟨rfl, rfl, rfl, by decide +kernel, rfl, by decide +kernel, by decide +kernel⟩
theorem ok_law_model (T : Txt K mg) : DefOk P w K mg base 4 (He.ga K "_law_model") ["_law_pairs", "_law_around"] (sp_model K) := by
  obtain ⟨fd, F⟩ := T.d_law_model
  obtain ⟨fd_law_tables, G_law_tables, kp_law_tables, b_law_tables⟩ := ok_law_tables (P := P) (w := w) (base := base) T
  obtain ⟨fd_law_span, G_law_span, kp_law_span, b_law_span⟩ := ok_law_span (P := P) (w := w) (base := base) T
  refine ⟨fd, F.ok sc_law_model (fun vs H Q E h => ?_) (fun cdv A outer s H vs Q E hr h => ?_), F.kp, F.bindsN fun _ _ _ _ _ _ us hl => match us, hl with | [_, _], _ => rfl⟩
  · obtain ⟨d, N, s, W, rfl, hW, WF, n2, n3, S, k⟩ := h
    rfl
  have hu := hu_of hr
  have nd := sc_law_model.nd
  obtain ⟨d, N, s, W, rfl, hW, WF, n2, n3, S, k⟩ := h
  refine ⟨_, (PSs.nox (pss_cons (ps_set (i := 2) nd rfl (by first | exact Or.inl rfl | exact Or.inr rfl) (pe_call G_law_tables (hr.mono (by decide)) rfl T.g_law_tables kp_law_tables b_law_tables .nil pass0 (pa_cons (pv 0) (pa_cons (pv 1) pa_nil))))
  (pss_cons (ps_set (i := 3) nd rfl (by first | exact Or.inl rfl | exact Or.inr rfl) (pe_call G_law_span (hr.mono (by decide)) rfl T.g_law_span kp_law_span b_law_span .nil pass0 (pa_cons (pv 2) (pa_cons (pv 1) pa_nil))))
  (pss_cons (ps_set (i := 4) nd rfl (by first | exact Or.inl rfl | exact Or.inr rfl) pe_dnewK)
  (pss_cons (ps_lock (ps_for PassesOwn.never rfl (pi_keys (pv 2)) (pg_name (i := 5) nd rfl (by first | exact Or.inl rfl | exact Or.inr rfl)) (pss_one (ps_dput hu (pv 4) (pv 5) (pe_lc (own := [("_law_x", 6)]) (g := (gName 6))  rfl nd (pi_range1 rfl T.b_range (pa_cons (pv 3) pa_nil)) (blkOk_by (N := N_law_model) (sc := defScope s_law_model) (by decide +kernel)) (fun _ _ _ _ _ => (pg_name (i := 6) nd rfl (by first | exact Or.inl rfl | exact Or.inr rfl))) (fun _ _ _ _ _ => (pts_one (pt_cmpR op_eq (pe_ix (ix_listK K) (pe_dget hu (pv 2) (pv 5) (fun _ _ => rfl)) (pv 6) (fun _ _ => rfl)) (pv 6) (nomark _)))) (fun _ _ _ _ _ => (pv 6))) rfl))))
  (pss_one (ps_ret (pe_disp (pps_cons pe_str (pv 1) (pps_cons pe_str (pv 3) (pps_cons pe_str (pv 2) (pps_cons pe_str (pv 4) pps_nil)))) rfl rfl (by intro z; cases z) (by decide))))))))), ?_⟩
  have s0 := S.pos
  have sN := S.le (show 0 < N by omega)
  refine ⟨_, rfl, _, rfl, d, N, W, rfl, hW, WF, n2, n3, fun H1 t e1 hT => ?_⟩
  refine ⟨_, rfl, _, rfl, t, N, s, W, rfl, hT, WF, n2, n3, S, ?_⟩
  refine fun r hr => ?_
  obtain ⟨H2, eH2⟩ : ∃ H2, H2 = upd H1 r (.dK []) := ⟨_, rfl⟩
  have e12 : Ex H1 H2 := by rw [eH2]; exact ex_new hr
  have h2r : H2 r = some (.dK []) := by rw [eH2]; exact upd_same
  rw [← eH2]
  obtain ⟨kvs, hd, hP⟩ := id hT
  have lk : kvs.length = W.length := Paired.length hP
  have lw : W.length ≤ 2 := by
    have : W.length = (W.map (·.1)).length := (List.length_map _).symm
    rw [this]
    rcases WF.ws with e | e | e <;> rw [e] <;> decide
  have h2t := e12 _ _ hd
  refine ⟨t, _, h2t, True.intro, fun od => ?_⟩
  obtain ⟨G, eG⟩ : ∃ G, G = upd H2 t (.frz od (.dK kvs)) := ⟨_, rfl⟩
  rw [← eG]
  have gt : G t = some (.frz od (.dK kvs)) := by rw [eG]; exact upd_same
  have nrt : r ≠ t := fun z => by rw [z, hd] at hr; cases hr
  have gr : G r = some (.dK []) := by rw [eG, upd_ne nrt]; exact h2r
  refine ⟨_, rfl, t, od, rfl, .inl ⟨kvs, gt, ?_⟩⟩
  refine for_it walk_keys (fun i σ F => F t = some (.frz od (.dK kvs)) ∧ (∀ a o, a ≠ r → G a = some o → F a = some o) ∧ (∃ x5 x6, σ = [some (.ref d), some (.int N), some (.ref t), some (.int s), some (.ref r), x5, x6]) ∧ ∃ kvs', F r = some (.dK kvs') ∧ kvs'.length ≤ i) ⟨gt, fun a o _ h => h, ⟨none, none, rfl⟩, [], gr, Nat.le_refl _⟩ (fun i σ F _ ⟨h, _⟩ => h) ?_ ?_
  · rintro i x σ F F' hi ⟨hFt, hFa, ⟨x5, x6, rfl⟩, kvs', hk, lk'⟩ ⟨rfl, kk, kv, hkk, rfl⟩
    obtain ⟨q, hq, ek, r1, er, hr1⟩ := pair_at hP hkk
    have qm := List.mem_of_getElem? hq
    have ek : kk = Sum.inr q.1 := ek
    subst ek
    obtain ⟨v, hv, _, r', er', hr'⟩ := pair_val (R := TabR N H1) (fun _ _ h => h.1) hP WF.nd qm
    have er' : v = .ref r' := er'
    subst er'
    have nr' : r' ≠ r := fun z => by rw [z, hr] at hr'; cases hr'
    have fr' : F' r' = some (.lst ((tabOf N q.2).map V.int)) := hFa _ _ nr' (by rw [eG, upd_ne (ne_of (e12 _ _ hr') h2t fun z => nomatch z)]; exact e12 _ _ hr')
    refine ⟨_, rfl, s, rfl, by omega, by omega, fun L hL => ?_⟩
    refine lc_ls (enc := PyData.int) relEx walk_range (fun j : Nat => if lifted N q.2 (j : Int) = (j : Int) then some (j : Int) else none) hL True.intro (Evl.sz_lt (by omega)) (fun H2 e2 _ => True.intro) ?_ ?_
    · rintro j y F1 F1' hj e2 t2 ⟨rfl, rfl⟩ Go Sk go sk
      have z0 : (0 : Int) + (j : Int) = (j : Int) := Int.zero_add _
      show gName 6 (V.int (0 + (j : Int))) _ _ _
      rw [z0]
      have dg : DGet F1' t (.str q.1) (some (.ref r')) := by rw [← hv]; exact .inl ⟨kvs, Sum.inr q.1, .inr ⟨od, e2 _ _ hFt⟩, rfl, rfl⟩
      have hg : ((tabOf N q.2).map V.int)[j]? = some (.int (lifted N q.2 (j : Int))) := by
        rw [List.getElem?_map, List.getElem?_map, List.getElem?_range (by omega)]
        rfl
      refine ⟨rfl, _, rfl, _, rfl, t, _, rfl, dg, _, rfl, r', _, _, _, rfl, rfl, SqL.of (e2 _ _ fr'), atI_nat (j := j) hg, _, rfl, rfl, decide (lifted N q.2 (j : Int) = (j : Int)), ?_, ?_⟩
      · exact congrArg V.bl (by by_cases h : lifted N q.2 (j : Int) = (j : Int) <;> simp [h])
      · by_cases h : lifted N q.2 (j : Int) = (j : Int)
        · rw [decide_eq_true h]
          exact iteT ⟨_, rfl, go _ _ _ (if_pos h) (Ex.refl _) (Tups.refl _) rfl⟩
        · rw [decide_eq_false h]
          exact iteF (sk _ (if_neg h) (Ex.refl _) (Tups.refl _))
    intro F2 ys e2 t2 hF2L hys
    refine ⟨_, rfl, _, rfl, r, _, rfl, DPut.k (k := Sum.inr q.1) (e2 _ _ hk) (Evl.sz_lt (by omega)), ?_⟩
    refine ⟨by rw [upd_ne nrt.symm]; exact e2 _ _ hFt, fun a o n h => by rw [upd_ne n]; exact e2 _ _ (hFa a o n h), ⟨_, _, rfl⟩, _, upd_same, ?_⟩
    have := length_putK kvs' (Sum.inr q.1) (V.ref L)
    omega
  · rintro σ F ⟨hFt, hFa, ⟨x5, x6, rfl⟩, kvs', hk, lk'⟩
    refine ⟨hFt, ?_⟩
    obtain ⟨F3, eF3⟩ : ∃ F3, F3 = upd F t (.dK kvs) := ⟨_, rfl⟩
    rw [← eF3]
    have e3 : Ex H1 F3 := fun a o h => by
      by_cases at_ : a = t
      · rw [at_, hd] at h
        rw [at_, eF3, upd_same]
        exact h
      · have ar : a ≠ r := fun z => by rw [z, hr] at h; cases h
        rw [eF3, upd_ne at_]
        refine hFa _ _ ar ?_
        rw [eG, upd_ne at_]
        exact e12 _ _ h
    refine fun m hm => ⟨_, rfl, _, rfl, _, rfl, _, rfl, upd_same, [((Sum.inr "around" : Key), V.int N), (Sum.inr "span", .int s), (Sum.inr "tables", .ref t), (Sum.inr "rests", .ref r)], rfl, (by show 4 ≤ 15; decide), ?_⟩
    have e4 : Ex F3 (upd (upd F3 m (.dK [])) m (.dK (mergeK [] [((Sum.inr "around" : Key), V.int N), (Sum.inr "span", .int s), (Sum.inr "tables", .ref t), (Sum.inr "rests", .ref r)]))) := by
      rw [upd_upd]
      exact ex_new hm
    refine k _ m (e1.trans (e3.trans e4)) ⟨t, r, ?_, hT.keep (e3.trans e4)⟩
    rw [upd_same]
    kernel_rfl
end
end JD
end Part_JD26
section Part_JD27
set_option Elab.async false
set_option linter.all false
set_option maxRecDepth 100000
set_option maxHeartbeats 4000000
namespace JD
open PySem PySem.Spec PyProof.Rows L2 JR JX JT LamX
open Evl (Ex)
abbrev TbR (H : Hp) (kv : Key × V) (q : Str × List Rul) : Prop := kv.1 = Sum.inr q.1 ∧ ∃ r xs, kv.2 = .ref r ∧ H r = some (.lst xs) ∧ Ls H encRul xs q.2
section
variable {P : Program} {w : World} {K : PySem.W.Frag} {mg : Str → Option Value} {base : Heap}
def sp_rules_of (K : PySem.W.Frag) : Sp := fun vs H Q _ => ∃ (d : Addr) (N : Int) (In : Tab) (q : Str × List Rul), vs = [.ref d, .int N, .str q.1] ∧ TabAt H d In ∧ (In.map (·.1)).Nodup ∧ q ∈ In ∧ 0 < N ∧ q.2.length ≤ 8 ∧
  ∀ H' p ys (rs : List Rul), Ex H H' → H' p = some (.lst ys) → Ls H' encRul ys rs → rs.Perm (q.2.map (red N)) → Q (.ref p) H'
abbrev N_law_rules_of : List Str := ["_law_rules_here", "_law_around", "_law_state", "_law_rule"]
theorem sc_law_rules_of : FnScope N_law_rules_of ["_law_rules_here", "_law_around", "_law_state"] (defScope s_law_rules_of) := ⟨rfl, rfl, rfl, by decide +kernel, rfl, by decide +kernel, by decide +kernel⟩
theorem ok_law_rules_of (T : Txt K mg) : DefOk P w K mg base 1 (He.ga K "_law_rules_of") ["_law_rules_here", "_law_around", "_law_state"] (sp_rules_of K) := by
  obtain ⟨fd, F⟩ := T.d_law_rules_of
  refine ⟨fd, F.ok sc_law_rules_of (fun vs H Q E h => ?_) (fun cdv A outer s H vs Q E hr h => ?_), F.kp, F.bindsN fun _ _ _ _ _ _ us hl => match us, hl with | [_, _, _], _ => rfl⟩
  · obtain ⟨d, N, In, q, rfl, hT, hnd, hq, N0, q8, k⟩ := h
    rfl
  have hu := hu_of hr
  have nd := sc_law_rules_of.nd
  obtain ⟨d, N, In, q, rfl, hT, hnd, hq, N0, q8, k⟩ := h
  refine ⟨_, (PSs.nox (pss_one (ps_ret (pe_callB (cr_sortedE shape_rul hr.units) (by rfl) T.b_sorted rfl (pa_cons (pe_lc (own := [("_law_rule", 3)]) (g := (gName 3)) (tt := tYes) rfl nd (pi_listK K (pe_dget hu (pv 0) (pv 2) (fun _ _ => rfl))) (blkOk_by (N := N_law_rules_of) (sc := defScope s_law_rules_of) (by decide +kernel)) (fun _ _ _ _ _ => (pg_name (i := 3) nd rfl (by first | exact Or.inl rfl | exact Or.inr rfl))) (fun _ _ _ _ _ => pts_nil) (fun _ _ _ _ _ => (pe_tup (pa_cons (pe_ix (ix_tupK K) (pv 3) pe_int (fun _ _ => rfl)) (pa_cons (pe_op op_mod (pe_callTy call_int1 (by rfl) T.b_int rfl (pa_cons (pe_ix (ix_tupK K) (pv 3) pe_int (fun _ _ => rfl)) pa_nil)) (pv 1)) (pa_cons (pe_ix (ix_tupK K) (pv 3) pe_int (fun _ _ => rfl)) pa_nil)))))) pa_nil))))), ?_⟩
  obtain ⟨kvs, hd, hp⟩ := id hT
  obtain ⟨r, xs, hv, hr0, hl⟩ := tab_valV hp hnd hq
  have lx := hl.len
  have dg : DGet H d (.str q.1) (some (.ref r)) := by rw [← hv]; exact DGet.k (k := Sum.inr q.1) hd
  refine ⟨_, rfl, _, rfl, d, _, rfl, dg, r, rfl, ⟨_, SqL.of hr0⟩, fun D hD => ?_⟩
  refine lc_ls (enc := encRul) relEx walk_list (fun i => (q.2[i]?).map (red N)) hD True.intro (Evl.sz_lt (by omega)) (fun H2 e2 _ => SqL.of (e2 _ _ hr0)) ?_ ?_
  · rintro i x F F' hi e2 t2 ⟨rfl, hx⟩ Go Sk go sk
    obtain ⟨p, hp2, ip⟩ := (hl.keep t2).get hx
    obtain ⟨c, rfl, hc⟩ := rul_get ip
    refine ⟨rfl, yes_go ⟨_, rfl, c, _, _, _, rfl, rfl, SqT.of hc, atI_nat (j := 0) rfl, _, rfl, c, _, _, _, rfl, rfl, SqT.of hc, atI_nat (j := 1) rfl, .inl ⟨_, rfl, _, rfl, _, _, rfl, rfl, N0, _, rfl, c, _, _, _, rfl, rfl, SqT.of hc, atI_nat (j := 2) rfl, (by show 3 ≤ sizeLine; decide), fun t ht => ?_⟩⟩⟩
    exact go (red N p) _ _ (by rw [hp2]; rfl) (ex_new ht) (Tups.new ht) (rul_mk upd_same)
  · intro F ys e2 t2 hD2 hy
    rw [fm_map _ lx] at hy
    refine ⟨D, ys, _, rfl, SqL.of hD2, hy, fun zs rs p pm so hzs hp0 => ?_⟩
    exact k _ p zs rs (e2.trans (ex_new hp0)) upd_same (hzs.keep (Tups.new hp0)) pm
def sp_handed (K : PySem.W.Frag) : Sp := fun vs H Q _ => ∃ (d : Addr) (In : Tab), vs = [.ref d] ∧ TabAt H d In ∧ (In.map (·.1)).Nodup ∧ In.length ≤ 5 ∧ ∀ H' t, Ex H H' → TabAt H' t In → Q (.ref t) H'
abbrev N_law_handed : List Str := ["_law_rules_here", "_law_handed_here", "_law_name"]
theorem sc_law_handed : FnScope N_law_handed ["_law_rules_here"] (defScope s_law_handed) := ⟨rfl, rfl, rfl, by decide +kernel, rfl, by decide +kernel, by decide +kernel⟩
theorem ok_law_handed (T : Txt K mg) : DefOk P w K mg base 1 (He.ga K "_law_handed") ["_law_rules_here"] (sp_handed K) := by
  obtain ⟨fd, F⟩ := T.d_law_handed
  refine ⟨fd, F.ok sc_law_handed (fun vs H Q E h => ?_) (fun cdv A outer s H vs Q E hr h => ?_), F.kp, F.bindsN fun _ _ _ _ _ _ us hl => match us, hl with | [_], _ => rfl⟩
  · obtain ⟨d, In, rfl, hT, hnd, l5, k⟩ := h
    rfl
  have hu := hu_of hr
  have nd := sc_law_handed.nd
  obtain ⟨d, In, rfl, hT, hnd, l5, k⟩ := h
  refine ⟨_, (PSs.nox (pss_cons (ps_set (i := 1) nd rfl (by first | exact Or.inl rfl | exact Or.inr rfl) pe_dnewK)
  (pss_cons (ps_lock (ps_for PassesOwn.never rfl (pi_keys (pv 0)) (pg_name (i := 2) nd rfl (by first | exact Or.inl rfl | exact Or.inr rfl)) (pss_one (ps_dput hu (pv 1) (pv 2) (pe_callTy call_list_of (by rfl) T.b_list rfl (pa_cons (pe_dget hu (pv 0) (pv 2) (fun _ _ => rfl)) pa_nil)) rfl))))
  (pss_one (ps_ret (pv 1)))))), ?_⟩
  obtain ⟨kvs, hd, hP⟩ := id hT
  have lk : kvs.length = In.length := Paired.length hP
  refine fun t ht => ?_
  have e1 : Ex H (upd H t (.dK [])) := ex_new ht
  have ntd : t ≠ d := fun z => by rw [z, hd] at ht; cases ht
  refine ⟨d, _, e1 _ _ hd, True.intro, fun od => ?_⟩
  obtain ⟨G, eG⟩ : ∃ G, G = upd (upd H t (.dK [])) d (.frz od (.dK kvs)) := ⟨_, rfl⟩
  rw [← eG]
  have gd : G d = some (.frz od (.dK kvs)) := by rw [eG]; exact upd_same
  have gt : G t = some (.dK []) := by rw [eG, upd_ne ntd]; exact upd_same
  have gl : ∀ {a : Addr} {o : HO}, H a = some o → o ≠ .dK kvs → G a = some o ∧ a ≠ t := fun {a o} h n => ⟨by rw [eG]; exact ex_lock (e1 _ _ hd) (e1 _ _ h) n, ne_of_none h ht⟩
  have tG : Tups H G := fun a xs h => (gl h fun z => nomatch z).1
  refine ⟨_, rfl, d, od, rfl, .inl ⟨kvs, gd, ?_⟩⟩
  refine for_it walk_keys (fun i σ F => F d = some (.frz od (.dK kvs)) ∧ (∀ a o, a ≠ t → G a = some o → F a = some o) ∧ (∃ x2, σ = [some (.ref d), some (.ref t), x2]) ∧ ∃ kvs', F t = some (.dK kvs') ∧ Paired (TbR F) kvs' (In.take i)) ⟨gd, fun a o _ h => h, ⟨none, rfl⟩, [], gt, .nil⟩ (fun i σ F _ ⟨h, _⟩ => h) ?_ ?_
  · rintro i x σ F F' hi ⟨hFd, hFa, ⟨x2, rfl⟩, kvs', hk, hPF⟩ ⟨rfl, kk, kv, hkk, rfl⟩
    obtain ⟨q, hq, ek, _⟩ := pair_at hP hkk
    have ek : kk = Sum.inr q.1 := ek
    subst ek
    have qm := List.mem_of_getElem? hq
    have tk : In.take (i + 1) = In.take i ++ [q] := by rw [List.take_add_one, hq]; rfl
    obtain ⟨v, hv, _, r, xs, er, hr0, hlr⟩ := pair_val (R := TbR H) (fun _ _ h => h.1) hP hnd qm
    have er : v = .ref r := er
    subst er
    have gr := gl hr0 (fun z => nomatch z)
    have fr : F' r = some (.lst xs) := hFa _ _ gr.2 gr.1
    have dg : DGet F' d (.str q.1) (some (.ref r)) := by rw [← hv]; exact .inl ⟨kvs, Sum.inr q.1, .inr ⟨od, hFd⟩, rfl, rfl⟩
    refine ⟨_, rfl, _, rfl, d, _, rfl, dg, r, xs, rfl, .inl (SqL.of fr), fun l hl => ?_⟩
    have e2 : Ex F' (upd F' l (.lst xs)) := ex_new hl
    have li : i < In.length := (List.getElem?_eq_some_iff.mp hq).1
    have lk' : kvs'.length ≤ i := by
      have h1 := Paired.length hPF
      rw [List.length_take] at h1
      omega
    have h2t := e2 _ _ hk
    refine ⟨_, rfl, _, rfl, t, _, rfl, DPut.k (k := Sum.inr q.1) h2t (Evl.sz_lt (by omega)), ?_⟩
    have nk : (Sum.inr q.1 : Key) ∉ kvs'.map (·.1) := fun z => by
      rw [pair_keys (R := TbR F') (fun _ _ h => h.1) hPF] at z
      obtain ⟨y, hy, e⟩ := List.mem_map.mp z
      rw [Sum.inr.inj e, List.map_take] at hy
      obtain ⟨j, hj, ej⟩ := List.getElem_of_mem hy
      rw [List.length_take] at hj
      rw [List.getElem_take] at ej
      have hn' : (In.map (·.1))[i]? = some q.1 := by rw [List.getElem?_map, hq]; rfl
      have h1 := (List.getElem?_eq_some_iff.mp hn')
      exact absurd (List.getElem_inj hnd |>.mp (ej.trans h1.2.symm)) (by omega)
    obtain ⟨F2, eF2⟩ : ∃ F2, F2 = upd F' l (.lst xs) := ⟨_, rfl⟩
    rw [← eF2] at e2 h2t ⊢
    have kp : ∀ {r : Addr} {xs : List V}, F2 r = some (.lst xs) → upd F2 t (.dK (putK kvs' (Sum.inr q.1) (.ref l))) r = some (.lst xs) := fun {r xs} h => by
      rw [upd_ne (ne_of h h2t fun z => nomatch z)]
      exact h
    have tp : Tups F2 (upd F2 t (.dK (putK kvs' (Sum.inr q.1) (.ref l)))) := Tups.mut h2t fun _ z => nomatch z
    have tall : Tups H F2 := fun a ys h => e2 _ _ (hFa _ _ (gl h fun z => nomatch z).2 (gl h fun z => nomatch z).1)
    have hl2 : F2 l = some (.lst xs) := by rw [eF2]; exact upd_same
    refine ⟨?_, fun a o n h => ?_, ⟨_, rfl⟩, _, upd_same, ?_⟩
    · rw [upd_ne ntd.symm]
      exact e2 _ _ hFd
    · rw [upd_ne n]
      exact e2 _ _ (hFa a o n h)
    rw [putK_new nk, tk]
    refine pair_snoc (pair_map hPF fun a b h => ?_) ⟨rfl, l, xs, rfl, by rw [← putK_new nk]; exact kp hl2, by rw [← putK_new nk]; exact (hlr.keep tall).keep tp⟩
    obtain ⟨g1, r', ys, g2, g3, g4⟩ := h
    exact ⟨g1, r', ys, g2, by rw [← putK_new nk]; exact kp (e2 _ _ g3), by rw [← putK_new nk]; exact (g4.keep (Tups.of e2)).keep tp⟩
  · rintro σ F ⟨hFd, hFa, ⟨x2, rfl⟩, kvs', hk, hPF⟩
    refine ⟨hFd, ?_⟩
    rw [lk, List.take_length] at hPF
    obtain ⟨F3, eF3⟩ : ∃ F3, F3 = upd F d (.dK kvs) := ⟨_, rfl⟩
    rw [← eF3]
    have e3 : Ex H F3 := fun a o h => by
      by_cases ad : a = d
      · rw [ad, hd] at h
        rw [ad, eF3, upd_same]
        exact h
      · have at_ : a ≠ t := ne_of_none h ht
        rw [eF3, upd_ne ad]
        refine hFa _ _ at_ ?_
        rw [eG, upd_ne ad]
        exact e1 _ _ h
    have kp : ∀ {r : Addr} {xs : List V}, F r = some (.lst xs) → F3 r = some (.lst xs) := fun {r xs} h => by
      rw [eF3, upd_ne (ne_of h hFd fun z => nomatch z)]
      exact h
    have tp : Tups F F3 := by rw [eF3]; exact Tups.mut hFd fun _ z => nomatch z
    refine ⟨_, rfl, k _ t e3 ⟨kvs', by rw [eF3, upd_ne ntd]; exact hk, pair_map hPF fun a b h => ?_⟩⟩
    obtain ⟨g1, r', ys, g2, g3, g4⟩ := h
    exact ⟨g1, r', ys, g2, kp g3, g4.keep tp⟩
/-- the rules, or none -/
def RulV (H : Hp) (v : V) : Option Tab → Prop
  | none => v = .non
  | some In => ∃ d, v = .ref d ∧ TabAt H d In
def MadeO (N : Int) : Option Tab → Option Tab → Prop
  | none, none => True
  | some In, some Tb => Made N In Tb
  | _, _ => False
theorem RulV.keep {H H' : Hp} {v : V} : ∀ {o : Option Tab}, RulV H v o → Ex H H' → RulV H' v o
  | none, h, _ => h
  | some _, ⟨d, e, h⟩, e2 => ⟨d, e, h.keep e2⟩
def sp_let (K : PySem.W.Frag) : Sp := fun vs H Q _ => ∃ (v : V) (N : Int) (o : Option Tab), vs = [v, .int N] ∧ RulV H v o ∧ (∀ In, o = some In → InF N In) ∧ ∀ H' v' o', Ex H H' → LetV K H' N v' o' → MadeO N o o' → Q v' H'
abbrev N_law_let : List Str := ["_law_rules_here", "_law_around"]
theorem sc_law_let : FnScope N_law_let ["_law_rules_here", "_law_around"] (defScope s_law_let) := ⟨rfl, rfl, rfl, by decide +kernel, rfl, by decide +kernel, by decide +kernel⟩
theorem ok_law_let (T : Txt K mg) : DefOk P w K mg base 8 (He.ga K "_law_let") ["_law_rules_here", "_law_around"] (sp_let K) := by
  obtain ⟨fd, F⟩ := T.d_law_let
  obtain ⟨fd_Let_init, G_Let_init, kp_Let_init, b_Let_init⟩ := ok_Let_init (P := P) (w := w) (base := base) T
  obtain ⟨fd_law_handed, G_law_handed, kp_law_handed, b_law_handed⟩ := ok_law_handed (P := P) (w := w) (base := base) T
  refine ⟨fd, F.ok sc_law_let (fun vs H Q E h => ?_) (fun cdv A outer s H vs Q E hr h => ?_), F.kp, F.bindsN fun _ _ _ _ _ _ us hl => match us, hl with | [_, _], _ => rfl⟩
  · obtain ⟨v, N, o, rfl, hv, hF, k⟩ := h
    rfl
  have hu := hu_of hr
  have nd := sc_law_let.nd
  obtain ⟨v, N, o, rfl, hv, hF, k⟩ := h
  refine ⟨_, (PSs.nox (pss_cons (ps_if (pt_cmpR op_isN (pv 0) pe_non (nomark _)) (pss_one (ps_ret pe_non)) pss_nil)
  (pss_one (ps_ret (pe_make T.k_Let G_Let_init (hr.mono (by decide)) rfl T.g_Let b_Let_init .nil pass0 (pa_cons (pv 1) (pa_cons (pe_call G_law_handed (hr.mono (by decide)) rfl T.g_law_handed kp_law_handed b_law_handed .nil pass0 (pa_cons (pv 0) pa_nil)) pa_nil))))))), ?_⟩
  cases o with
  | none =>
    cases (show v = .non from hv)
    exact ⟨_, rfl, rfl, _, rfl, iteT (k _ .non none (Ex.refl _) rfl True.intro)⟩
  | some In =>
    obtain ⟨d, rfl, hT⟩ := hv
    have F0 := hF In rfl
    refine ⟨_, rfl, rfl, _, rfl, iteF ?_⟩
    refine ⟨_, rfl, _, rfl, d, In, rfl, hT, F0.nd, F0.len, fun H1 t e1 hT1 => ?_⟩
    intro x dx hx hdx ndx
    have nxd : x ≠ dx := fun z => ndx z.symm
    have e2 : Ex H1 (upd (upd H1 dx (.own x)) x (.ins (cA K "Let") dx [])) := (ex_new hdx).trans (ex_new ((upd_ne nxd).trans hx))
    refine ⟨x, dx, t, N, In, rfl, upd_same, hT1.keep e2, F0, fun H2 Tb bt LA MA => ⟨rfl, ?_⟩⟩
    exact k H2 (.ref x) (some Tb) (e1.trans fun a u h => bt a u (ne_of_none h hx) (e2 _ _ h)) ⟨x, rfl, LA⟩ MA
end
end JD
end Part_JD27
section Part_JD29
set_option Elab.async false
set_option linter.all false
set_option maxRecDepth 100000
set_option maxHeartbeats 4000000
namespace JD
open PySem PySem.Spec PyProof.Rows L2 JR JX JT LamX
open Evl (Ex)
section
variable {P : Program} {w : World} {K : PySem.W.Frag} {mg : Str → Option Value} {base : Heap}
theorem op_notInDK {X : Cx} (K : PySem.W.Frag) (hu : X.A.units + 65 < cLine) (hK : X.K = K := by rfl) : OpR X (compareOp .NotIn) (rNotInD K) := by subst hK; exact op_notInD hu
theorem units65 {k : Nat} {A : Around} (r : Room k A) : A.units + 65 < cLine := by have := r.un; omega
theorem ls_list {K : PySem.W.Frag} {H : Hp} {a : Addr} {β : Type} {enc : β → PyData} {xs : List V} {bs : List β} (hs : SqL K H a xs) (h : Ls H enc xs bs) : Dp K H (.ref a) (.list (bs.map enc)) := .lst hs (ImAll.dp h.all)
theorem any_deed {d : Deed} (hd : IsW d.1) : ∀ {ds : List Deed}, (∀ e ∈ ds, IsW e.1) → ((ds.map encDeed).any fun z => PyData.eqv z (encDeed d)) = decide (d ∈ ds)
  | [], _ => rfl
  | e :: ds, h => by
    rw [List.map_cons, List.any_cons, any_deed hd (fun y hy => h y (List.mem_cons_of_mem _ hy)), eqv_deed (h e List.mem_cons_self) hd]
    by_cases c : e = d
    · subst c; simp
    · have : ¬ d = e := fun z => c z.symm
      simp [c, this]
theorem shaped_deeds {ds : List Deed} (h : ∀ e ∈ ds, IsW e.1) : SeqAt.shaped (.list (ds.map encDeed)) = true := by
  have hp : ∀ ds : List Deed, (∀ e ∈ ds, IsW e.1) → PlAll (ds.map encDeed) = true := by
    intro ds
    induction ds with
    | nil => intro _; rfl
    | cons a ds ih =>
      intro h
      simp [PlAll, pl_deed (h a List.mem_cons_self), ih fun e he => h e (List.mem_cons_of_mem _ he)]
  refine shaped_pl (by simpa [Pl] using hp ds h) ?_
  have := depth_le (enc := encDeed) (k := 1) (fun b => by simp [encDeed, PyData.depth, PyData.depthAll]) ds
  simp only [PyData.depth]
  omega
/-- a row of rules, one that is being made -/
def RowG (N : Int) (ws nms : List Str) (row : List Rul) : Prop := (row.map fun r => ((r.1, r.2.1 % N) : Deed)).Nodup ∧ ∀ r ∈ row, r.1 ∈ ws ∧ r.2.2 ∈ nms
def RowF (N : Int) (ws nms : List Str) (row : List Rul) : Prop := row.length ≤ 8 ∧ RowG N ws nms row
abbrev TbP (p : Addr) (H : Hp) (kv : Key × V) (q : Str × List Rul) : Prop := kv.1 = Sum.inr q.1 ∧ ∃ r xs, kv.2 = .ref r ∧ r ≠ p ∧ H r = some (.lst xs) ∧ Ls H encRul xs q.2
def sp_rules (K : PySem.W.Frag) : Sp := fun vs H Q _ => ∃ (p wl : Addr) (N : Int) (ws : List Str) (o : HO) (st : Nat), vs = [.ref p, .int N, .ref wl, .int (st : Int), .int 8] ∧ H p = some o ∧ PoolOk o ∧ 2 ≤ N ∧ N ≤ 360 ∧ H wl = some (.lst (ws.map V.str)) ∧ ws ≠ [] ∧ ws.length ≤ 2 ∧ (∀ x ∈ ws, IsW x) ∧ 1 ≤ st ∧ st ≤ 5 ∧
  ∀ H' d In, Wx p PoolOk H H' → TabAt H' d In → InF N In → (∀ q ∈ In, ∀ r ∈ q.2, r.1 ∈ ws) → Q (.ref d) H'
abbrev N_law_rules : List Str := ["_law_pool_here", "_law_around", "_law_words", "_law_states", "_law_most", "_law_names", "_law_rules_here", "_law_name", "_law_row", "_law_taken", "_law_k", "_law_word", "_law_turn", "_law_goal"]
theorem sc_law_rules : FnScope N_law_rules ["_law_pool_here", "_law_around", "_law_words", "_law_states", "_law_most"] (defScope s_law_rules) := ⟨rfl, rfl, rfl, by decide +kernel, rfl, by decide +kernel, by decide +kernel⟩
theorem ok_law_rules (T : Txt K mg) : DefOk P w K mg base 2 (He.ga K "_law_rules") ["_law_pool_here", "_law_around", "_law_words", "_law_states", "_law_most"] (sp_rules K) := by
  obtain ⟨fd, F⟩ := T.d_law_rules
  obtain ⟨fd_law_draw, G_law_draw, kp_law_draw, b_law_draw⟩ := ok_law_draw (P := P) (w := w) (base := base) T
  refine ⟨fd, F.ok sc_law_rules (fun vs H Q E h => ?_) (fun cdv A outer s H vs Q E hr h => ?_), F.kp, F.bindsN fun _ _ _ _ _ _ us hl => match us, hl with | [_, _, _, _, _], _ => rfl⟩
  · obtain ⟨p, wl, N, ws, o, st, rfl, hp, ok, n2, n3, hwl, wne, wl2, hw, st1, st5, k⟩ := h
    rfl
  have hu := hu_of hr
  have nd := sc_law_rules.nd
  obtain ⟨p, wl, N, ws, o, st, rfl, hp, ok, n2, n3, hwl, wne, wl2, hw, st1, st5, k⟩ := h
  refine ⟨_, (PSs.nox (pss_cons (ps_set (i := 5) nd rfl (by first | exact Or.inl rfl | exact Or.inr rfl) (pe_slice sl_list (pe_lst (pa_cons pe_str (pa_cons pe_str (pa_cons pe_str (pa_cons pe_str (pa_cons pe_str pa_nil)))))) po_none (po_some (pv 3))))
  (pss_cons (ps_set (i := 6) nd rfl (by first | exact Or.inl rfl | exact Or.inr rfl) pe_dnewK)
  (pss_cons (ps_for PassesOwn.never rfl (pi_listK K (pv 5)) (pg_name (i := 7) nd rfl (by first | exact Or.inl rfl | exact Or.inr rfl)) (pss_cons (ps_set (i := 8) nd rfl (by first | exact Or.inl rfl | exact Or.inr rfl) (pe_lst pa_nil))
  (pss_cons (ps_set (i := 9) nd rfl (by first | exact Or.inl rfl | exact Or.inr rfl) (pe_lst pa_nil))
  (pss_cons (ps_for PassesOwn.never rfl (pi_range1 rfl T.b_range (pa_cons (pe_call G_law_draw (hr.mono (by decide)) rfl T.g_law_draw kp_law_draw b_law_draw .nil pass0 (pa_cons (pv 0) (pa_cons (pe_op op_add (pv 4) pe_int) pa_nil))) pa_nil)) (pg_name (i := 10) nd rfl (by first | exact Or.inl rfl | exact Or.inr rfl)) (pss_cons (ps_set (i := 11) nd rfl (by first | exact Or.inl rfl | exact Or.inr rfl) (pe_ix (ix_listK K) (pv 2) (pe_call G_law_draw (hr.mono (by decide)) rfl T.g_law_draw kp_law_draw b_law_draw .nil pass0 (pa_cons (pv 0) (pa_cons (pe_callB call_len_seq (by rfl) T.b_len rfl (pa_cons (pv 2) pa_nil)) pa_nil))) (fun _ _ => rfl)))
  (pss_cons (ps_set (i := 12) nd rfl (by first | exact Or.inl rfl | exact Or.inr rfl) (pe_call G_law_draw (hr.mono (by decide)) rfl T.g_law_draw kp_law_draw b_law_draw .nil pass0 (pa_cons (pv 0) (pa_cons (pv 1) pa_nil))))
  (pss_cons (ps_set (i := 13) nd rfl (by first | exact Or.inl rfl | exact Or.inr rfl) (pe_ix (ix_listK K) (pv 5) (pe_call G_law_draw (hr.mono (by decide)) rfl T.g_law_draw kp_law_draw b_law_draw .nil pass0 (pa_cons (pv 0) (pa_cons (pv 3) pa_nil))) (fun _ _ => rfl)))
  (pss_one (ps_if (pt_cmpR (op_notInDK K (units65 hr)) (pe_tup (pa_cons (pv 11) (pa_cons (pv 12) pa_nil))) (pv 9) rfl) (pss_cons (ps_expr (pe_bm PySem.F.plainAttrs_list PySem.F.slot_list_append PySem.F.type_list_append mt_append (pv 9) (pa_cons (pe_tup (pa_cons (pv 11) (pa_cons (pv 12) pa_nil))) pa_nil)))
  (pss_one (ps_expr (pe_bm PySem.F.plainAttrs_list PySem.F.slot_list_append PySem.F.type_list_append mt_append (pv 8) (pa_cons (pe_tup (pa_cons (pv 11) (pa_cons (pe_op op_add (pv 12) (pe_op op_mul (pv 1) (pe_op op_sub (pe_op op_mod (pv 10) pe_int) pe_int))) (pa_cons (pv 13) pa_nil)))) pa_nil))))) pss_nil))))))
  (pss_one (ps_dput hu (pv 6) (pv 7) (pv 8) rfl))))))
  (pss_one (ps_ret (pv 6))))))), ?_⟩
  have RW : Rel (Wx p PoolOk) (· ≠ p) := relWx
  have fr : ∀ {F : Hp} {a : Addr}, Wx p PoolOk H F → F a = none → H a = none ∧ a ≠ p := fun {F a} e h => pool_fr hp ok e h
  have nwp : wl ≠ p := fun z => by
    rw [z, hp] at hwl
    obtain ⟨a, b, c, rfl⟩ := ok
    have e := HO.lst.inj (Option.some.inj hwl)
    cases ws with
    | nil => cases e
    | cons x ws => rw [List.map_cons] at e; cases (List.cons.inj e).1
  -- names
  refine ⟨(by show 5 ≤ sizeLine; decide), fun l0 hl0 => ?_⟩
  have e0 : Ex H (upd H l0 (.lst (names5.map V.str))) := ex_new hl0
  refine ⟨_, rfl, _, rfl, l0, _, rfl, SqL.of upd_same, fun nl hnl => ?_⟩
  have ecut : cutV (names5.map V.str) none (some (st : Int)) = (names5.take st).map V.str := by
    obtain h | h | h | h | h : st = 1 ∨ st = 2 ∨ st = 3 ∨ st = 4 ∨ st = 5 := by omega
    all_goals subst h; rfl
  obtain ⟨nms, enms⟩ : ∃ nms, nms = names5.take st := ⟨_, rfl⟩
  have nlen : nms.length = st := by rw [enms, List.length_take]; show min st 5 = st; omega
  have nnd : nms.Nodup := by rw [enms]; exact List.Nodup.sublist (List.take_sublist _ _) (by decide)
  have nmem : ∀ x ∈ nms, x ∈ names5 := fun x hx => by rw [enms] at hx; exact List.mem_of_mem_take hx
  have nst : ("start" : Str) ∈ nms := by
    rw [enms]
    obtain h | h | h | h | h : st = 1 ∨ st = 2 ∨ st = 3 ∨ st = 4 ∨ st = 5 := by omega
    all_goals subst h; decide
  have hnl0 : H nl = none := Evl.fresh_back e0 hnl
  have nnp : nl ≠ p := fun z => by rw [z, hp] at hnl0; cases hnl0
  obtain ⟨H1, eH1⟩ : ∃ H1, H1 = upd (upd H l0 (.lst (names5.map V.str))) nl (.lst (nms.map V.str)) := ⟨_, rfl⟩
  have e1 : Ex H H1 := by rw [eH1]; exact e0.trans (ex_new hnl)
  have h1nl : H1 nl = some (.lst (nms.map V.str)) := by rw [eH1]; exact upd_same
  show gName 5 _ _ (upd (upd H l0 (.lst (names5.map V.str))) nl (.lst (cutV (names5.map V.str) none (some (st : Int))))) _
  rw [ecut, ← enms, ← eH1]
  -- rules = {}
  refine fun d hd => ?_
  have hd0 : H d = none := Evl.fresh_back e1 hd
  have ndp : d ≠ p := fun z => by rw [z, hp] at hd0; cases hd0
  have ndn : d ≠ nl := fun z => by rw [z, h1nl] at hd; cases hd
  obtain ⟨H2, eH2⟩ : ∃ H2, H2 = upd H1 d (.dK []) := ⟨_, rfl⟩
  have e2 : Ex H H2 := by rw [eH2]; exact e1.trans (ex_new hd)
  have h2nl : H2 nl = some (.lst (nms.map V.str)) := by rw [eH2, upd_ne ndn.symm]; exact h1nl
  have h2d : H2 d = some (.dK []) := by rw [eH2]; exact upd_same
  rw [← eH2]
  refine ⟨_, rfl, nl, rfl, ⟨_, SqL.of h2nl⟩, ?_⟩
  have lnl : (nms.map V.str).length = st := by rw [List.length_map, nlen]
  refine for_it (walk_list (xs := nms.map V.str)) (fun i σ F => Wx p PoolOk H F ∧ F nl = some (.lst (nms.map V.str)) ∧ (∃ x7 x8 x9 x10 x11 x12 x13, σ = [some (.ref p), some (.int N), some (.ref wl), some (.int (st : Int)), some (.int 8), some (.ref nl), some (.ref d), x7, x8, x9, x10, x11, x12, x13]) ∧
      ∃ kvs In, F d = some (.dK kvs) ∧ Paired (TbP p F) kvs In ∧ In.map (·.1) = nms.take i ∧ ∀ q ∈ In, RowF N ws nms q.2)
    ⟨Wx.ex e2, h2nl, ⟨none, none, none, none, none, none, none, rfl⟩, [], [], h2d, .nil, rfl, fun q hq => by cases hq⟩ (fun i σ F _ ⟨_, h, _⟩ => SqL.of h) ?_ ?_
  · rintro i v σ F F' hi ⟨wF, hFn, ⟨x7, x8, x9, x10, x11, x12, x13, rfl⟩, kvs, In, hFd, hPF, hIn, hRF⟩ ⟨rfl, hv⟩
    rw [List.getElem?_map] at hv
    obtain ⟨nm, hnm, rfl⟩ := Option.map_eq_some_iff.mp hv
    -- row = []; taken = []
    refine ⟨Nat.zero_le _, fun rl hrl => ⟨Nat.zero_le _, fun tl htl => ?_⟩⟩
    obtain ⟨hrl0, nrp⟩ := fr wF hrl
    have nrt : rl ≠ tl := fun z => by rw [z] at htl; rw [upd_same] at htl; cases htl
    have htl1 : F' tl = none := by rw [upd_ne nrt.symm] at htl; exact htl
    obtain ⟨htl0, ntp⟩ := fr wF htl1
    obtain ⟨F0, eF0⟩ : ∃ F0, F0 = upd (upd F' rl (.lst [])) tl (.lst []) := ⟨_, rfl⟩
    have eF : Ex F' F0 := by rw [eF0]; exact (ex_new hrl).trans (ex_new htl)
    have f0r : F0 rl = some (.lst []) := by rw [eF0, upd_ne nrt]; exact upd_same
    have f0t : F0 tl = some (.lst []) := by rw [eF0]; exact upd_same
    have nrn : rl ≠ nl := fun z => by rw [z, hFn] at hrl; cases hrl
    have ntn : tl ≠ nl := fun z => by rw [z, hFn] at htl1; cases htl1
    have wF0 : Wx p PoolOk H F0 := wF.trans (Wx.ex eF)
    rw [← eF0]
    obtain ⟨o1, hp1, ok1⟩ := wF0.2 ⟨o, hp, ok⟩
    refine ⟨_, rfl, _, rfl, _, _, rfl, rfl, p, 9, o1, rfl, (by decide), (by decide), hp1, ok1, fun c G0 c0 c1 wc => ?_⟩
    refine ⟨c, rfl, (by omega), (by omega), ?_⟩
    refine for_range (fun j σ G => Wx p PoolOk H G ∧ (∀ a o, a ≠ p → a ≠ rl → a ≠ tl → F0 a = some o → G a = some o) ∧ (∃ x10 x11 x12 x13, σ = [some (.ref p), some (.int N), some (.ref wl), some (.int (st : Int)), some (.int 8), some (.ref nl), some (.ref d), some (.str nm), some (.ref rl), some (.ref tl), x10, x11, x12, x13]) ∧
        ∃ rx row tx taken, G rl = some (.lst rx) ∧ Ls G encRul rx row ∧ G tl = some (.lst tx) ∧ Ls G encDeed tx taken ∧ row.length ≤ j ∧ taken = row.map (fun r => ((r.1, r.2.1 % N) : Deed)) ∧ RowG N ws nms row)
      ⟨wF0.trans wc, fun a o n _ _ h => wc.1 a o n h, ⟨_, _, _, _, rfl⟩, [], [], [], [], wc.1 _ _ nrp f0r, .nil, wc.1 _ _ ntp f0t, .nil, Nat.le_refl _, rfl, List.nodup_nil, fun r hr => by cases hr⟩ ?_ ?_
    · rintro j σ G hj ⟨wG, kG, ⟨x10, x11, x12, x13, rfl⟩, rx, row, tx, taken, hrx, hlr, htx, hlt, rlen, etk, rg⟩
      have lrx := hlr.len
      have ltx := hlt.len
      have tlen : taken.length = row.length := by rw [etk, List.length_map]
      -- word
      obtain ⟨oa, hpa, oka⟩ := wG.2 ⟨o, hp, ok⟩
      have hwG := wG.1 _ _ nwp hwl
      have wpos := List.length_pos_iff.mpr wne
      have lw : (ws.map V.str).length = ws.length := List.length_map _
      refine ⟨_, rfl, _, rfl, _, rfl, wl, _, rfl, .inl (SqL.of hwG), p, _, oa, rfl, (by rw [lw]; omega), (by rw [lw]; omega), hpa, oka, fun z G1 z0 z1 wz => ?_⟩
      obtain ⟨zi, rfl⟩ := Int.eq_ofNat_of_zero_le z0
      have zlt : zi < ws.length := by rw [lw] at z1; omega
      have wG1 := wG.trans wz
      have hwi : (ws.map V.str)[zi]? = some (.str ws[zi]) := by rw [List.getElem?_map, List.getElem?_eq_getElem zlt]; rfl
      refine ⟨wl, _, _, _, rfl, rfl, SqL.of (wG1.1 _ _ nwp hwl), atI_nat hwi, ?_⟩
      -- turn
      obtain ⟨ob, hpb, okb⟩ := wG1.2 ⟨o, hp, ok⟩
      refine ⟨_, rfl, _, rfl, p, N, ob, rfl, (by omega), (by omega), hpb, okb, fun t G2 t0 t1 wt => ?_⟩
      have wG2 := wG1.trans wt
      -- goal
      obtain ⟨oc, hpc, okc⟩ := wG2.2 ⟨o, hp, ok⟩
      refine ⟨_, rfl, _, rfl, _, rfl, p, (st : Int), oc, rfl, (by omega), (by omega), hpc, okc, fun g G3 g0 g1 wg => ?_⟩
      obtain ⟨gi, rfl⟩ := Int.eq_ofNat_of_zero_le g0
      have glt : gi < nms.length := by omega
      have w13 := wz.trans (wt.trans wg)
      have hn3 : G3 nl = some (.lst (nms.map V.str)) := w13.1 _ _ nnp (kG _ _ nnp nrn.symm ntn.symm (eF _ _ hFn))
      have hgi : (nms.map V.str)[gi]? = some (.str nms[gi]) := by rw [List.getElem?_map, List.getElem?_eq_getElem glt]; rfl
      refine ⟨nl, _, _, _, rfl, rfl, SqL.of hn3, atI_nat hgi, ?_⟩
      have wG3 := wG.trans w13
      have t13 : Tups G G3 := w13.tups hpa (by obtain ⟨_, _, _, rfl⟩ := oka; exact fun _ z => nomatch z)
      have hr3 := w13.1 _ _ nrp hrx
      have ht3 := w13.1 _ _ ntp htx
      have kG3 : ∀ a o, a ≠ p → a ≠ rl → a ≠ tl → F0 a = some o → G3 a = some o := fun a o n1 n2 n3 h => w13.1 a o n1 (kG a o n1 n2 n3 h)
      have hlr3 := hlr.keep t13
      have hlt3 := hlt.keep t13
      have wW := hw ws[zi] (List.getElem_mem zlt)
      have tW : ∀ e ∈ taken, IsW e.1 := fun e he => by
        rw [etk] at he
        obtain ⟨r, hr, rfl⟩ := List.mem_map.mp he
        exact hw _ (rg.2 r hr).1
      -- the test
      refine ⟨_, rfl, _, rfl, (by show 2 ≤ sizeLine; decide), fun tt htt => ?_⟩
      obtain ⟨G4, eG4⟩ : ∃ G4, G4 = upd G3 tt (.tup [.str ws[zi], .int t]) := ⟨_, rfl⟩
      have e34 : Ex G3 G4 := by rw [eG4]; exact ex_new htt
      have h4t : G4 tt = some (.tup [.str ws[zi], .int t]) := by rw [eG4]; exact upd_same
      have htt0 := fr wG3 htt
      have wG4 : Wx p PoolOk H G4 := wG3.trans (Wx.ex e34)
      rw [← eG4]
      refine ⟨_, rfl, encDeed (ws[zi], t), taken.map encDeed, Im.dp (deed_mk h4t), ls_list (SqL.of (e34 _ _ ht3)) (hlt3.keep (Tups.of e34)), shaped_pl (pl_deed (d := (ws[zi], t)) wW) (deed_depth _), shaped_deeds tW, _, rfl, ?_⟩
      rw [any_deed (d := (ws[zi], t)) wW tW]
      by_cases hin : ((ws[zi], t) : Deed) ∈ taken
      · rw [decide_eq_true hin]
        refine iteF ⟨wG4, fun a o n1 n2 n3 h => e34 _ _ (kG3 a o n1 n2 n3 h), ⟨_, _, _, _, rfl⟩, rx, row, tx, taken, e34 _ _ hr3, hlr3.keep (Tups.of e34), e34 _ _ ht3, hlt3.keep (Tups.of e34), by omega, etk, rg⟩
      · rw [decide_eq_false hin]
        have h4tl := e34 _ _ ht3
        have h4rl := e34 _ _ hr3
        refine iteT ⟨_, rfl, .inl ⟨rfl, _, SqL.of h4tl⟩, _, rfl, _, rfl, (by show 2 ≤ sizeLine; decide), fun t2 ht2 => ?_⟩
        have nt2 : tl ≠ t2 := ne_of_none h4tl ht2
        have nt2r : rl ≠ t2 := ne_of_none h4rl ht2
        obtain ⟨G5, eG5⟩ : ∃ G5, G5 = upd G4 t2 (.tup [.str ws[zi], .int t]) := ⟨_, rfl⟩
        have e45 : Ex G4 G5 := by rw [eG5]; exact ex_new ht2
        have h5t : G5 t2 = some (.tup [.str ws[zi], .int t]) := by rw [eG5]; exact upd_same
        have wG5 : Wx p PoolOk H G5 := wG4.trans (Wx.ex e45)
        have h5tl := e45 _ _ h4tl
        rw [← eG5]
        refine ⟨tl, tx, _, rfl, rfl, h5tl, Evl.sz_lt (by omega), ?_⟩
        obtain ⟨G6, eG6⟩ : ∃ G6, G6 = upd G5 tl (.lst (tx ++ [.ref t2])) := ⟨_, rfl⟩
        have wG6 : Wx p PoolOk H G6 := by rw [eG6]; exact RW.alt wG5 htl0
        have t56 : Tups G5 G6 := by rw [eG6]; exact Tups.mut h5tl fun _ z => nomatch z
        have h6tl : G6 tl = some (.lst (tx ++ [.ref t2])) := by rw [eG6]; exact upd_same
        have h6rl : G6 rl = some (.lst rx) := by rw [eG6, upd_ne nrt]; exact e45 _ _ h4rl
        have hlt6 : Ls G6 encDeed (tx ++ [.ref t2]) (taken ++ [((ws[zi], t) : Deed)]) := (((hlt3.keep (Tups.of e34)).keep (Tups.of e45)).keep t56).snoc (deed_mk (t56 _ _ h5t))
        have hlr6 : Ls G6 encRul rx row := ((hlr3.keep (Tups.of e34)).keep (Tups.of e45)).keep t56
        have kG6 : ∀ a o, a ≠ p → a ≠ rl → a ≠ tl → F0 a = some o → G6 a = some o := fun a o n1 n2 n3 h => by
          rw [eG6, upd_ne n3]
          exact e45 _ _ (e34 _ _ (kG3 a o n1 n2 n3 h))
        rw [← eG6]
        have jm := Int.emod_nonneg (0 + (j : Int)) (show (3 : Int) ≠ 0 by decide)
        have jm2 := Int.emod_lt_of_pos (0 + (j : Int)) (show (0 : Int) < 3 by decide)
        refine ⟨_, rfl, .inl ⟨rfl, _, SqL.of h6rl⟩, _, rfl, _, rfl, _, rfl, _, rfl, _, _, rfl, rfl, (by show (0 : Int) < 3; decide), _, _, rfl, rfl, _, _, rfl, rfl, .inl ⟨by omega, by omega⟩, _, _, rfl, rfl, _, rfl, (by show 3 ≤ sizeLine; decide), fun t3 ht3 => ?_⟩
        obtain ⟨kk, ekk⟩ : ∃ kk : Int, kk = (0 + (j : Int)) % 3 - 1 := ⟨_, rfl⟩
        obtain ⟨G7, eG7⟩ : ∃ G7, G7 = upd G6 t3 (.tup [.str ws[zi], .int (t + N * kk), .str nms[gi]]) := ⟨_, rfl⟩
        have e67 : Ex G6 G7 := by rw [eG7]; exact ex_new ht3
        have h7t : G7 t3 = some (.tup [.str ws[zi], .int (t + N * kk), .str nms[gi]]) := by rw [eG7]; exact upd_same
        have h7rl := e67 _ _ h6rl
        refine ⟨rl, rx, _, rfl, rfl, (by
          have h := h7rl
          rw [eG7, ekk] at h
          exact h), Evl.sz_lt (by omega), ?_⟩
        show Wx p PoolOk H (upd (upd G6 t3 (.tup [.str ws[zi], .int (t + N * ((0 + (j : Int)) % 3 - 1)), .str nms[gi]])) rl (.lst (rx ++ [.ref t3]))) ∧ _
        rw [← ekk, ← eG7]
        have t78 : Tups G7 (upd G7 rl (.lst (rx ++ [.ref t3]))) := Tups.mut h7rl fun _ z => nomatch z
        have tN : (t + N * kk) % N = t := by rw [Int.add_mul_emod_self_left, Int.emod_eq_of_lt t0 t1]
        refine ⟨RW.alt (wG6.trans (Wx.ex e67)) hrl0, fun a o n1 n2 n3 h => by rw [upd_ne n2]; exact e67 _ _ (kG6 a o n1 n2 n3 h), ⟨_, _, _, _, rfl⟩, rx ++ [.ref t3], row ++ [((ws[zi], t + N * kk, nms[gi]) : Rul)], tx ++ [.ref t2], taken ++ [((ws[zi], t) : Deed)], upd_same, ((hlr6.keep (Tups.of e67)).keep t78).snoc (rul_mk (t78 _ _ h7t)), by rw [upd_ne nrt.symm]; exact e67 _ _ h6tl, (hlt6.keep (Tups.of e67)).keep t78, by rw [List.length_append, List.length_singleton]; omega, ?_, ?_, fun r hr => ?_⟩
        · rw [List.map_append, ← etk, List.map_cons, tN]
          rfl
        · rw [List.map_append, ← etk, List.map_cons, tN, List.map_nil, List.nodup_append]
          refine ⟨by rw [etk]; exact rg.1, by simp, fun a ha b hb e => ?_⟩
          rw [List.mem_singleton] at hb
          rw [e, hb] at ha
          exact hin ha
        · rcases List.mem_append.mp hr with hr | hr
          · exact rg.2 r hr
          · rw [List.mem_singleton.mp hr]
            exact ⟨List.getElem_mem zlt, List.getElem_mem glt⟩
    · rintro σ G ⟨wG, kG, ⟨x10, x11, x12, x13, rfl⟩, rx, row, tx, taken, hrx, hlr, htx, hlt, rlen, etk, rg⟩
      have ndr : d ≠ rl := fun z => by rw [← z, hFd] at hrl; cases hrl
      have ndt : d ≠ tl := fun z => by rw [← z, hFd] at htl1; cases htl1
      have hGd := kG _ _ ndp ndr ndt (eF _ _ hFd)
      have lIn : kvs.length ≤ i := by
        have h1 := Paired.length hPF
        have h2 : (In.map (·.1)).length = (nms.take i).length := by rw [hIn]
        rw [List.length_map, List.length_take] at h2
        omega
      have li : i < nms.length := (List.getElem?_eq_some_iff.mp hnm).1
      refine ⟨_, rfl, _, rfl, _, rfl, d, _, rfl, DPut.k (k := Sum.inr nm) hGd (Evl.sz_lt (by omega)), ?_⟩
      have nk : (Sum.inr nm : Key) ∉ kvs.map (·.1) := fun z => by
        rw [pair_keys (R := TbP p F') (fun _ _ h => h.1) hPF, hIn] at z
        obtain ⟨y, hy, e⟩ := List.mem_map.mp z
        rw [Sum.inr.inj e] at hy
        obtain ⟨j, hj, ej⟩ := List.getElem_of_mem hy
        rw [List.length_take] at hj
        rw [List.getElem_take] at ej
        have h1 := (List.getElem?_eq_some_iff.mp hnm)
        exact absurd (List.getElem_inj nnd |>.mp (ej.trans h1.2.symm)) (by omega)
      have tG : Tups G (upd G d (.dK (putK kvs (Sum.inr nm) (.ref rl)))) := Tups.mut hGd fun _ z => nomatch z
      have t0G : Tups F' G := fun a xs h => by
        have a0 := eF _ _ h
        refine kG a _ (fun z => ?_) (fun z => ?_) (fun z => ?_) a0
        · rw [z, hp1] at a0
          obtain ⟨_, _, _, rfl⟩ := ok1
          cases a0
        · rw [z, f0r] at a0; cases a0
        · rw [z, f0t] at a0; cases a0
      have kp : ∀ {r : Addr} {xs : List V}, G r = some (.lst xs) → upd G d (.dK (putK kvs (Sum.inr nm) (.ref rl))) r = some (.lst xs) := fun {r xs} h => by
        rw [upd_ne (ne_of h hGd fun z => nomatch z)]
        exact h
      have hGn := kG _ _ nnp nrn.symm ntn.symm (eF _ _ hFn)
      refine ⟨RW.alt wG hd0, kp hGn, ⟨_, _, _, _, _, _, _, rfl⟩, _, In ++ [(nm, row)], upd_same, ?_, ?_, fun q hq => ?_⟩
      · rw [putK_new nk]
        refine pair_snoc (pair_map hPF fun a b h => ?_) ⟨rfl, rl, rx, rfl, nrp, by rw [← putK_new nk]; exact kp hrx, by rw [← putK_new nk]; exact hlr.keep tG⟩
        obtain ⟨g1, r', ys, g2, g3, g4, g5⟩ := h
        have nr' : r' ≠ rl := fun z => by rw [z] at g4; rw [g4] at hrl; cases hrl
        have nt' : r' ≠ tl := fun z => by rw [z] at g4; rw [g4] at htl1; cases htl1
        exact ⟨g1, r', ys, g2, g3, by rw [← putK_new nk]; exact kp (kG _ _ g3 nr' nt' (eF _ _ g4)), by rw [← putK_new nk]; exact (g5.keep t0G).keep tG⟩
      · rw [List.map_append, hIn, List.take_add_one, hnm]
        rfl
      · rcases List.mem_append.mp hq with hq | hq
        · exact hRF q hq
        · rw [List.mem_singleton.mp hq]
          have rl2 : row.length ≤ c.toNat := rlen
          exact ⟨by show row.length ≤ 8; omega, rg⟩
  · rintro σ F ⟨wF, hFn, ⟨x7, x8, x9, x10, x11, x12, x13, rfl⟩, kvs, In, hFd, hPF, hIn, hRF⟩
    rw [lnl, ← nlen, List.take_length] at hIn
    refine ⟨_, rfl, k F d In wF ⟨kvs, hFd, pair_map hPF fun a b h => ?_⟩ ⟨n2, n3, by rw [hIn]; exact nnd, fun q hq => nmem _ (by rw [← hIn]; exact List.mem_map_of_mem hq), by rw [hIn]; exact nst, ?_, fun q hq => ⟨(hRF q hq).1, fun r hr => ⟨hw _ ((hRF q hq).2.2 r hr).1, by rw [hIn]; exact ((hRF q hq).2.2 r hr).2⟩, (hRF q hq).2.1⟩⟩ fun q hq r hr => ((hRF q hq).2.2 r hr).1⟩
    · obtain ⟨g1, r', ys, g2, _, g4, g5⟩ := h
      exact ⟨g1, r', ys, g2, g4, g5⟩
    · have : In.length = (In.map (·.1)).length := (List.length_map _).symm
      rw [this, hIn, nlen]
      exact st5
end
end JD
end Part_JD29
section Part_JMath7
/-! The standings behind a plan, as the law counts them; a span for any part. Plain Lean. -/
namespace JT
section
variable {W : Type} {s : Int} {G : W → Int → Int} {sp : W → List Int} {ws : List W}
/-- l lists the standings behind the deeds, each once -/
structure Stand (s : Int) (G : W → Int → Int) (ds : List (W × Int)) (l : List Int) : Prop where
  nd : l.Nodup
  mem : ∀ y, y ∈ l ↔ ∃ x, ev G ds x % s = y
theorem Stand.rng {ds : List (W × Int)} {l : List Int} (h : Stand s G ds l) (h0 : 0 < s) {y : Int} (hy : y ∈ l) : 0 ≤ y ∧ y < s := by
  obtain ⟨x, rfl⟩ := (h.mem y).mp hy
  exact ⟨Int.emod_nonneg _ (by omega), Int.emod_lt_of_pos _ h0⟩
theorem stand_nil (h0 : 0 < s) : Stand s G [] ((List.range s.toNat).map fun i : Nat => (i : Int)) := by
  refine ⟨nodup_map_of List.nodup_range fun a _ b _ e => Int.ofNat.inj e, fun y => ?_⟩
  rw [List.mem_map]
  constructor
  · rintro ⟨i, hi, rfl⟩
    have := List.mem_range.mp hi
    refine ⟨(i : Int), ?_⟩
    show (i : Int) % s = (i : Int)
    exact Int.emod_eq_of_lt (by omega) (by omega)
  · rintro ⟨x, rfl⟩
    show ∃ i : Nat, i ∈ List.range s.toNat ∧ (i : Int) = x % s
    have a := Int.emod_nonneg x (show s ≠ 0 by omega)
    have b := Int.emod_lt_of_pos x h0
    exact ⟨(x % s).toNat, List.mem_range.mpr (by omega), Int.toNat_of_nonneg a⟩
theorem dm_mod (B : Bd s G sp ws) {d : W × Int} (hd : d.1 ∈ ws) (x : Int) : dm G d (x % s) % s = dm G d x % s := by
  have h := dm_shift B hd (x % s) (x / s)
  have e := Int.emod_add_mul_ediv x s
  rw [Int.mul_comm] at e
  rw [e] at h
  rw [h, Int.add_mul_emod_self_right]
theorem stand_snoc (B : Bd s G sp ws) {ds : List (W × Int)} {d : W × Int} (hd : d.1 ∈ ws) {l l' : List Int} (h : Stand s G ds l) (nd : l'.Nodup) (hm : ∀ y, y ∈ l' ↔ ∃ z ∈ l, dm G d z % s = y) : Stand s G (ds ++ [d]) l' := by
  refine ⟨nd, fun y => ?_⟩
  rw [hm]
  constructor
  · rintro ⟨z, hz, rfl⟩
    obtain ⟨x, rfl⟩ := (h.mem z).mp hz
    exact ⟨x, by rw [ev_snoc, dm_mod B hd]⟩
  · rintro ⟨x, rfl⟩
    exact ⟨ev G ds x % s, (h.mem _).mpr ⟨x, rfl⟩, by rw [ev_snoc, dm_mod B hd]⟩
theorem stand_one {ds : List (W × Int)} {l : List Int} (h : Stand s G ds l) : l.length = 1 ↔ AllOne s G ds := by
  constructor
  · intro e x y
    match l, e with
    | [a], _ =>
      have hx := (h.mem _).mpr ⟨x, rfl⟩
      have hy := (h.mem _).mpr ⟨y, rfl⟩
      rw [List.mem_singleton] at hx hy
      rw [hx, hy]
  · intro al
    have h0 := (h.mem _).mpr ⟨0, rfl⟩
    match l, h with
    | [], _ => cases h0
    | [_], _ => rfl
    | a :: b :: r, h =>
      obtain ⟨x, hx⟩ := (h.mem a).mp List.mem_cons_self
      obtain ⟨y, hy⟩ := (h.mem b).mp (List.mem_cons_of_mem _ List.mem_cons_self)
      have e : a = b := by rw [← hx, ← hy, al x y]
      exact absurd (by rw [e]; exact List.mem_cons_self) (List.nodup_cons.mp h.nd).1
end
/-- for turnings with periods there is a span -/
theorem span_ex {N : Int} : ∀ (F : List (List Row)), (∀ r ∈ F, Rows N r ∧ ∃ p, IsPeriod N r p) → ∃ s, IsSpan N F s := by
  have key : ∀ (F G : List (List Row)) (s : Int), IsSpan N G s → (∀ r ∈ F, Rows N r ∧ ∃ p, IsPeriod N r p) → ∃ s, IsSpan N (G ++ F) s := by
    intro F
    induction F with
    | nil => intro G s h _; exact ⟨s, by rw [List.append_nil]; exact h⟩
    | cons r F ih =>
      intro G s hs h
      obtain ⟨V, p, hp⟩ := h r List.mem_cons_self
      obtain ⟨t, ht⟩ := ih (G ++ [r]) _ (hs.cons V hp) fun q hq => h q (List.mem_cons_of_mem _ hq)
      exact ⟨t, by rw [List.append_assoc] at ht; exact ht⟩
  intro F h
  obtain ⟨s, hs⟩ := key F [] 1 (isSpan_nil N) h
  exact ⟨s, hs⟩
/-- the rests of a turning within the span, ascending -/
def spotsL (s : Int) (rows : List Row) : List Int := ((rows.map (·.2)).mergeSort (fun a b => decide (a ≤ b))).filter fun r => decide (r < s)
theorem spots_len (s : Int) (rows : List Row) : (spotsL s rows).length ≤ rows.length := by
  unfold spotsL
  have h := List.length_filter_le (fun r => decide (r < s)) ((rows.map (·.2)).mergeSort (fun a b => decide (a ≤ b)))
  rw [List.length_mergeSort, List.length_map] at h
  exact h
theorem spotsL_ok {N s : Int} {rows : List Row} (V : Rows N rows) (h0 : 0 < s) (hs : s ≤ N) (hc : Comm N rows s) : Spots (lifted N rows) s (spotsL s rows) := by
  refine spots_of V h0 hs hc (List.mergeSort_perm _ _) ?_
  have h := List.pairwise_mergeSort (le := fun a b : Int => decide (a ≤ b)) (fun a b c h1 h2 => by
    have := of_decide_eq_true h1
    have := of_decide_eq_true h2
    exact decide_eq_true (by omega)) (fun a b => by
    rw [Bool.or_eq_true, decide_eq_true_eq, decide_eq_true_eq]
    omega) (rows.map (·.2))
  exact h.imp fun {a b} h => of_decide_eq_true h
end JT
end Part_JMath7
section Part_JGlue
set_option Elab.async false
set_option linter.all false
set_option maxRecDepth 100000
set_option maxHeartbeats 4000000
/-! From the search's facts to what the law asks. -/
namespace JD
open PySem PySem.Spec PyProof.Rows L2 JR JX JT LamX
/-- the board's facts for any part -/
theorem bf_of {N : Int} {D : Words} (F : PartF N D) : ∃ s sp, BF N D s sp ∧ ∀ y ∈ D.map (·.1), (sp y).length ≤ 12 := by
  have nd : (D.map (·.1)).Nodup := by rcases F.ws with e | e | e <;> rw [e] <;> decide
  have lo := F.lo
  obtain ⟨s, S⟩ := span_ex (N := N) (D.map (·.2.rows)) fun r hr => by
    obtain ⟨q, hq, rfl⟩ := List.mem_map.mp hr
    exact ⟨(F.tf q hq).rows, _, (F.tf q hq).per⟩
  have s0 := S.pos
  have sN := S.le (show 0 < N by omega)
  have at_ : ∀ w ∈ D.map (·.1), ∃ q ∈ D, q.1 = w ∧ rowsOfW D w = q.2.rows := fun w hw => by
    obtain ⟨q, hq, rfl⟩ := List.mem_map.mp hw
    exact ⟨q, hq, rfl, rowsOfW_mem nd hq⟩
  have cm : ∀ q ∈ D, Comm N q.2.rows s := fun q hq => (S.iff s).mpr Int.emod_self _ (List.mem_map_of_mem (f := fun q : Str × TurnD => q.2.rows) hq)
  refine ⟨s, fun w => spotsL s (rowsOfW D w), ⟨F, S, ⟨s0, ?_, ?_, ?_, ?_, ?_, ?_⟩⟩, ?_⟩
  · rcases F.ws with e | e | e <;> rw [e] <;> exact fun z => nomatch z
  · intro w hw x y h
    obtain ⟨q, hq, _, e⟩ := at_ w hw
    show lifted N (rowsOfW D w) x ≤ lifted N (rowsOfW D w) y
    rw [e]
    exact lifted_mono (F.tf q hq).rows h
  · intro w hw x k
    obtain ⟨q, hq, _, e⟩ := at_ w hw
    show lifted N (rowsOfW D w) (x + k * s) = lifted N (rowsOfW D w) x + k * s
    rw [e]
    exact (cm q hq).mul k x
  · intro w hw x
    obtain ⟨q, hq, _, e⟩ := at_ w hw
    show lifted N (rowsOfW D w) (lifted N (rowsOfW D w) x) = lifted N (rowsOfW D w) x
    rw [e]
    exact lifted_idem (F.tf q hq).rows x
  · intro w hw
    obtain ⟨q, hq, _, e⟩ := at_ w hw
    show Spots (lifted N (rowsOfW D w)) s (spotsL s (rowsOfW D w))
    rw [e]
    exact spotsL_ok (F.tf q hq).rows s0 sN (cm q hq)
  · intro e h
    refine (S.iff e).mp fun rows hr => ?_
    obtain ⟨q, hq, rfl⟩ := List.mem_map.mp hr
    have h2 := h q.1 (List.mem_map_of_mem hq)
    intro x
    have h3 : lifted N (rowsOfW D q.1) (x + e) = lifted N (rowsOfW D q.1) x + e := h2 x
    rw [rowsOfW_mem nd hq] at h3
    exact h3
  · intro w hw
    obtain ⟨q, hq, _, e⟩ := at_ w hw
    show (spotsL s (rowsOfW D w)).length ≤ 12
    rw [e]
    exact Nat.le_trans (spots_len _ _) (F.tf q hq).len
/-- the machine's steps -/
def rulesOf (St : Tab) (z v : Str) (b : Int) (z' : Str) : Prop := ∃ q ∈ St, q.1 = z ∧ ((v, b, z') : Rul) ∈ q.2
def startOf (sp : Str → List Int) (fs : List Rul) (w : Str) (t : Int) (n : Node) : Prop := ((w, t, n) : Stt) ∈ stsOf sp fs
theorem start_iff {sp : Str → List Int} {fs : List Rul} {w : Str} {t : Int} {n : Node} : startOf sp fs w t n ↔ ∃ r ∈ fs, r.1 = w ∧ r.2.1 = t ∧ ∃ i : Nat, i < (sp w).length ∧ n = ⟨r.2.2, w, (i : Int), (i : Int) + ((sp w).length : Int) - 1⟩ := by
  unfold startOf stsOf
  rw [List.mem_flatMap]
  constructor
  · rintro ⟨r, hr, h⟩
    obtain ⟨i, hi, e⟩ := List.mem_map.mp h
    have hi := List.mem_range.mp hi
    rw [Prod.mk.injEq, Prod.mk.injEq] at e
    obtain ⟨rfl, rfl, rfl⟩ := e
    exact ⟨r, hr, rfl, rfl, i, hi, rfl⟩
  · rintro ⟨r, hr, rfl, rfl, i, hi, rfl⟩
    exact ⟨r, hr, List.mem_map.mpr ⟨i, List.mem_range.mpr hi, rfl⟩⟩
section
variable {N s : Int} {D : Words} {sp : Str → List Int} {o : Option Tab} {fs : List Rul} {St : Tab} {ns : List Node} {L : List (Node × Nat)}
theorem tab_uniq {St : Tab} (nd : (St.map (·.1)).Nodup) {q q' : Str × List Rul} (h : q ∈ St) (h' : q' ∈ St) (e : q.1 = q'.1) : q = q' := by
  induction St with
  | nil => cases h
  | cons a St ih =>
    rw [List.map_cons, List.nodup_cons] at nd
    rcases List.mem_cons.mp h with rfl | h1
    · rcases List.mem_cons.mp h' with rfl | h2
      · rfl
      · exact absurd (by rw [e]; exact List.mem_map_of_mem h2) nd.1
    · rcases List.mem_cons.mp h' with rfl | h2
      · exact absurd (by rw [← e]; exact List.mem_map_of_mem h1) nd.1
      · exact ih nd.2 h1 h2
theorem edge_iff (G : StG D St) {n : Node} (hg : GoodN D sp St n) {v : Str} {b : Int} {n' : Node} : Edge s (liftW N D) sp (rulesOf St) n v b n' ↔ (((v, b), n') : Ad) ∈ adjOf (mvsOf N D s sp St) n := by
  obtain ⟨q, hq, eq⟩ := List.mem_map.mp hg.2
  unfold adjOf
  rw [mvs_find G.nd hq eq]
  constructor
  · rintro ⟨⟨q', hq', e', hr⟩, wd, op, to⟩
    cases tab_uniq G.nd hq' hq (e'.trans eq.symm)
    rw [if_neg op, List.mem_filterMap]
    refine ⟨_, List.mem_map.mpr ⟨_, hr, rfl⟩, ?_⟩
    show (behind N D s sp n (v, b, n'.st)).map _ = _
    unfold behind
    have to : stepIJ s (liftW N D v) (sp n.w) (sp v) b n.i n.j = some (n'.i, n'.j) := to
    show ((stepIJ s (liftW N D v) (sp n.w) (sp v) b n.i n.j).map _).map _ = _
    rw [to]
    obtain ⟨st, w, i, j⟩ := n'
    have wd : w = v := wd
    subst wd
    rfl
  · intro h
    by_cases op : n.i = n.j
    · rw [if_pos op] at h
      cases h
    rw [if_neg op, List.mem_filterMap] at h
    obtain ⟨mv, hmv, e⟩ := h
    obtain ⟨r, hr, rfl⟩ := List.mem_map.mp hmv
    obtain ⟨n2, hb, e2⟩ := Option.map_eq_some_iff.mp e
    rw [Prod.mk.injEq, Prod.mk.injEq] at e2
    obtain ⟨⟨rfl, rfl⟩, rfl⟩ := e2
    have hb : behind N D s sp n r = some n2 := hb
    unfold behind at hb
    obtain ⟨p, hp, rfl⟩ := Option.map_eq_some_iff.mp hb
    exact ⟨⟨q, hq, eq, hr⟩, rfl, op, hp⟩
/-- the run of a machine along deeds -/
def lastT (ds : List Deed) : Nat → Int
  | 0 => 0
  | k + 1 => (ds.getD k ("", 0)).2
def Runs (rl : Str → Str → Int → Str → Prop) (M : Int) (z0 : Str) (ds : List Deed) (z : Str) : Prop := ∃ f : Nat → Str, f 0 = z0 ∧ f ds.length = z ∧ ∀ k d, ds[k]? = some d → rl (f k) d.1 ((d.2 - lastT ds k) % M) (f (k + 1))
theorem lastT_app {ds : List Deed} {d : Deed} : ∀ {k : Nat}, k ≤ ds.length → lastT (ds ++ [d]) k = lastT ds k
  | 0, _ => rfl
  | k + 1, h => by
    show ((ds ++ [d]).getD k ("", 0)).2 = (ds.getD k ("", 0)).2
    rw [List.getD_eq_getElem?_getD, List.getD_eq_getElem?_getD, List.getElem?_append_left (by omega)]
theorem lastT_end {ds : List Deed} {d : Deed} : lastT (ds ++ [d]) (ds ++ [d]).length = d.2 := by
  rw [List.length_append, List.length_singleton]
  show ((ds ++ [d]).getD ds.length ("", 0)).2 = d.2
  rw [List.getD_eq_getElem?_getD, List.getElem?_append_right (Nat.le_refl _), Nat.sub_self]
  rfl
theorem Runs.snoc {rl : Str → Str → Int → Str → Prop} {M : Int} {z0 z z' : Str} {ds : List Deed} (h : Runs rl M z0 ds z) {d : Deed} (hd : rl z d.1 ((d.2 - lastT ds ds.length) % M) z') : Runs rl M z0 (ds ++ [d]) z' := by
  obtain ⟨f, f0, f1, f2⟩ := h
  refine ⟨fun k => if k ≤ ds.length then f k else z', ?_, ?_, fun k e he => ?_⟩
  · show (if 0 ≤ ds.length then f 0 else z') = z0
    rw [if_pos (Nat.zero_le _), f0]
  · show (if (ds ++ [d]).length ≤ ds.length then _ else z') = z'
    rw [List.length_append, List.length_singleton, if_neg (by omega)]
  · have hk : k < (ds ++ [d]).length := (List.getElem?_eq_some_iff.mp he).1
    rw [List.length_append, List.length_singleton] at hk
    show rl (if k ≤ ds.length then f k else z') e.1 ((e.2 - lastT (ds ++ [d]) k) % M) (if k + 1 ≤ ds.length then f (k + 1) else z')
    rw [if_pos (by omega), lastT_app (by omega)]
    by_cases c : k < ds.length
    · rw [if_pos (show k + 1 ≤ ds.length by omega)]
      rw [List.getElem?_append_left c] at he
      exact f2 k e he
    · obtain rfl : k = ds.length := by omega
      rw [if_neg (by omega), f1]
      rw [List.getElem?_append_right (Nat.le_refl _), Nat.sub_self] at he
      cases he
      exact hd
/-- what the law needs of a plan -/
structure PlanF (N s : Int) (D : Words) (o : Option Tab) (ds : List Deed) (m : Nat) : Prop where
  len : ds.length = m
  one : AllOne s (liftW N D) ds
  notyet : ¬ AllOne s (liftW N D) (ds.take (m - 1))
  pos : 0 < m
  wd : ∀ d ∈ ds, d.1 ∈ D.map (·.1)
  rng : ∀ d ∈ ds, 0 ≤ d.2 ∧ d.2 < modOf N s o
  run : ∀ Tb, o = some Tb → ∃ z, Runs (rulesOf Tb) N "start" ds z
  free : o = none → ∀ d, ds[0]? = some d → d.2 = 0
theorem mod_sub {M t b : Int} (h0 : 0 ≤ b) (h1 : b < M) : ((t + b) % M - t) % M = b := by
  rw [Int.sub_emod, Int.emod_emod, ← Int.sub_emod, show t + b - t = b by omega, Int.emod_eq_of_lt h0 h1]
variable (B : BF N D s sp) (hL : ∀ Tb, o = some Tb → LetF N D Tb) (C : CutG N D s sp o fs St ns L)
include B hL C
theorem starts_ok : Starts sp (D.map (·.1)) (startOf sp fs) := by
  have FG := fsG C.stok C.fsok hL
  refine ⟨fun w t n h => ?_, fun w t n i h h0 h1 => ?_⟩
  · obtain ⟨r, hr, rfl, rfl, i, hi, rfl⟩ := start_iff.mp h
    exact ⟨(FG.2 r hr).1, rfl, by show 0 ≤ (i : Int); omega, by show (i : Int) < _; omega, rfl⟩
  · obtain ⟨r, hr, rfl, rfl, j, hj, rfl⟩ := start_iff.mp h
    refine start_iff.mpr ⟨r, hr, rfl, rfl, i.toNat, by omega, ?_⟩
    rw [Int.toNat_of_nonneg h0]
theorem rules_w : ∀ z v b z', rulesOf St z v b z' → v ∈ D.map (·.1) := by
  rintro z v b z' ⟨q, hq, _, hr⟩
  exact ((stG C.stok hL).rl q hq |>.2 _ hr).1
theorem far_ok : Far s (liftW N D) sp (rulesOf St) (· ∈ ns) (farOf L) := by
  have G := stG C.stok hL
  refine ⟨fun n hn e => C.fo.zero n hn e, fun n v b n' hn e => ?_, fun n v b n' d hn e hd => ?_⟩
  · exact C.next n hn _ ((edge_iff G (C.good n hn)).mp e)
  · exact C.fo.up n hn _ ((edge_iff G (C.good n hn)).mp e) d hd
theorem start_in : ∀ w t n, startOf sp fs w t n → n ∈ ns := fun w t n h => C.start _ h
theorem way_of {M : Int} {ds : List Deed} {n : Node} (h : PWay (stsOf sp fs) (adjOf (mvsOf N D s sp St)) M ds n) : n ∈ ns ∧ ∃ ds0 d, ds = ds0 ++ [d] ∧ Way s (liftW N D) sp (rulesOf St) (startOf sp fs) M ds d.2 n := by
  have G := stG C.stok hL
  induction h with
  | @one p hp => exact ⟨C.start p hp, [], (p.1, p.2.1), rfl, .one hp⟩
  | @more ds d n m hw hm ih =>
    obtain ⟨hn, ds0, d0, e, W⟩ := ih
    obtain ⟨rfl, e2⟩ := List.append_inj' e rfl
    cases (List.cons.inj e2).1
    obtain ⟨⟨v, b⟩, n'⟩ := m
    have ed := (edge_iff G (C.good n hn) (v := v) (b := b) (n' := n')).mpr hm
    exact ⟨C.next n hn _ hm, _, (v, (d.2 + b) % M), rfl, .more W ed⟩
theorem way_wd {M : Int} {ds : List Deed} {n : Node} (h : PWay (stsOf sp fs) (adjOf (mvsOf N D s sp St)) M ds n) (hM : 0 < M) (hMo : M = modOf N s o) : (∀ d ∈ ds, d.1 ∈ D.map (·.1)) ∧ ∀ d ∈ ds, 0 ≤ d.2 ∧ d.2 < M := by
  have G := stG C.stok hL
  have FG := fsG C.stok C.fsok hL
  have lo := B.part.lo
  have s0 := B.span.pos
  induction h with
  | @one p hp =>
    obtain ⟨r, hr, e1, e2, _⟩ := start_iff.mp (show startOf sp fs p.1 p.2.1 p.2.2 from hp)
    refine ⟨fun d hd => ?_, fun d hd => ?_⟩
    · rw [List.mem_singleton.mp hd, ← e1]
      exact (FG.2 r hr).1
    · rw [List.mem_singleton.mp hd]
      show 0 ≤ p.2.1 ∧ p.2.1 < M
      rw [← e2, hMo]
      have fo := C.fsok
      cases o with
      | none =>
        have e3 := ((fo.2.1 r).mp hr).2.1
        rw [e3]
        exact ⟨Int.le_refl _, s0⟩
      | some Tb =>
        obtain ⟨q, hq, _, rfl⟩ := fo
        exact (((hL _ rfl).rl q hq).2 r hr).2.1
  | @more ds d n m hw hm ih =>
    have hn := (way_of B hL C hw).1
    obtain ⟨⟨v, b⟩, n'⟩ := m
    have ed := (edge_iff G (C.good n hn) (v := v) (b := b) (n' := n')).mpr hm
    refine ⟨fun d' hd => ?_, fun d' hd => ?_⟩
    · rcases List.mem_append.mp hd with h | h
      · exact ih.1 d' h
      · rw [List.mem_singleton.mp h]
        exact rules_w B hL C _ _ _ _ ed.rule
    · rcases List.mem_append.mp hd with h | h
      · exact ih.2 d' h
      · rw [List.mem_singleton.mp h]
        exact ⟨Int.emod_nonneg _ (by omega), Int.emod_lt_of_pos _ hM⟩
theorem way_free {M : Int} {ds : List Deed} {n : Node} (h : PWay (stsOf sp fs) (adjOf (mvsOf N D s sp St)) M ds n) (ho : o = none) : ∀ d, ds[0]? = some d → d.2 = 0 := by
  induction h with
  | @one p hp =>
    intro d hd
    cases hd
    obtain ⟨r, hr, e1, e2, _⟩ := start_iff.mp (show startOf sp fs p.1 p.2.1 p.2.2 from hp)
    show p.2.1 = 0
    rw [← e2]
    have fo := C.fsok
    subst ho
    exact ((fo.2.1 r).mp hr).2.1
  | @more ds d n m hw hm ih =>
    intro d' hd
    rw [List.getElem?_append_left (by rw [List.length_append, List.length_singleton]; omega)] at hd
    exact ih d' hd
theorem way_run {ds : List Deed} {n : Node} {Tb : Tab} (h : PWay (stsOf sp fs) (adjOf (mvsOf N D s sp St)) N ds n) (ho : o = some Tb) : Runs (rulesOf Tb) N "start" ds n.st := by
  have G := stG C.stok hL
  subst ho
  obtain rfl : St = Tb := C.stok
  have F := hL _ rfl
  induction h with
  | @one p hp =>
    obtain ⟨r, hr, e1, e2, i, hi, e3⟩ := start_iff.mp (show startOf sp fs p.1 p.2.1 p.2.2 from hp)
    obtain ⟨q, hq, eq, efs⟩ := C.fsok
    have h0 : Runs (rulesOf St) N "start" [] "start" := ⟨fun _ => "start", rfl, rfl, fun k d hd => by simp at hd⟩
    have h1 := h0.snoc (d := (p.1, p.2.1)) (z' := p.2.2.st) ?_
    · exact h1
    · rw [e3]
      rw [efs] at hr
      have rb := ((F.rl q hq).2 r hr).2.1
      show rulesOf St "start" p.1 ((p.2.1 - 0) % N) r.2.2
      rw [Int.sub_zero, ← e2, ← e1, Int.emod_eq_of_lt rb.1 rb.2]
      exact ⟨q, hq, eq, hr⟩
  | @more ds d n m hw hm ih =>
    have hn := (way_of B hL C hw).1
    obtain ⟨⟨v, b⟩, n'⟩ := m
    have ed := (edge_iff G (C.good n hn) (v := v) (b := b) (n' := n')).mpr hm
    obtain ⟨q, hq, eq, hr⟩ := ed.rule
    have rb := ((F.rl q hq).2 _ hr).2.1
    refine ih.snoc ?_
    rw [lastT_end]
    show rulesOf St n.st v (((d.2 + b) % N - d.2) % N) n'.st
    rw [mod_sub rb.1 rb.2]
    exact ⟨q, hq, eq, hr⟩
/-- the plan that is told -/
theorem plan_ok (h1 : s ≠ 1) {m : Nat} (hm : m ∈ cntsOf L (stsOf sp fs)) (hle : ∀ y ∈ cntsOf L (stsOf sp fs), m ≤ y) {ds : List Deed} {n : Node} (hlen : ds.length = m) (h : PWay (stsOf sp fs) (adjOf (mvsOf N D s sp St)) (modOf N s o) ds n) (hc : n.i = n.j) :
    PlanF N s D o ds m := by
  have s0 := B.span.pos
  have lo := B.part.lo
  have M0 : 0 < modOf N s o := by
    cases o with
    | none => exact s0
    | some Tb => show 0 < N; omega
  have hM : modOf N s o % s = 0 := by
    cases o with
    | none => exact Int.emod_self
    | some Tb => exact B.span.dvd
  obtain ⟨_, ds0, d, _, W⟩ := way_of B hL C h
  have hrw := rules_w B hL C
  have SS := starts_ok B hL C
  have m0 : 0 < m := by
    obtain ⟨p, hp, e⟩ := List.mem_filterMap.mp hm
    obtain ⟨d', _, e⟩ := Option.map_eq_some_iff.mp e
    omega
  refine ⟨hlen, plan_does B.bd hrw SS hM W hc, plan_first B.bd hrw SS hM (far_ok B hL C) (start_in B hL C) (fun w t n d hs hd => ?_) h1 W hlen, m0, (way_wd B hL C h M0 rfl).1, (way_wd B hL C h M0 rfl).2, fun Tb e => ?_, fun e => way_free B hL C h e⟩
  · exact hle (d + 1) (List.mem_filterMap.mpr ⟨(w, t, n), hs, by show (farOf L n).map _ = _; rw [hd]; rfl⟩)
  · subst e
    exact ⟨n.st, way_run B hL C h rfl⟩
/-- without a machine there is a plan of at most as many deeds as the period -/
theorem free_least (ho : o = none) : ∃ c ∈ cntsOf L (stsOf sp fs), (c : Int) ≤ s := by
  have s0 := B.span.pos
  have fo := C.fsok
  have so := C.stok
  subst ho
  obtain ⟨rs, eS, _, hrs, _⟩ := so
  obtain ⟨w, hw⟩ : ∃ w, w ∈ D.map (·.1) := by
    have := B.bd.ne
    cases e : D.map (·.1) with
    | nil => exact absurd e this
    | cons a r => exact ⟨a, List.mem_cons_self⟩
  have hl := (B.bd.spots w hw).len
  have hf : (((w, 0, "") : Rul)) ∈ fs := (fo.2.1 _).mpr ⟨hw, rfl, rfl⟩
  have hs : startOf sp fs w 0 ⟨"", w, 0, 0 + ((sp w).length : Int) - 1⟩ := start_iff.mpr ⟨_, hf, rfl, rfl, 0, by omega, rfl⟩
  have SS := starts_ok B hL C
  have F := far_ok B hL C
  have hst := free_start B.bd SS hs
  have ok := start_ok B.bd SS hs
  have g := free_goes (rules := rulesOf St) B.bd "" (fun v hv b b0 b1 => ⟨(("" : Str), rs), by rw [eS]; exact List.mem_cons_self, rfl, (hrs _).mpr ⟨hv, ⟨b0, b1⟩, rfl⟩⟩) (s - 1).toNat _ rfl ok (by omega)
  obtain ⟨d, hd, hle⟩ := F.goes g (start_in B hL C _ _ _ hs)
  exact ⟨d + 1, List.mem_filterMap.mpr ⟨_, hs, by show (farOf L _).map _ = _; rw [hd]; rfl⟩, by omega⟩
end
end JD
end Part_JGlue
section Part_JD32
set_option Elab.async false
set_option linter.all false
set_option maxRecDepth 100000
set_option maxHeartbeats 4000000
namespace JD
open PySem PySem.Spec PyProof.Rows L2 JR JX JT LamX
open Evl (Ex)
/-- the law's rules as steps -/
def rulesIn (N : Int) (In : Tab) (z v : Str) (b : Int) (z' : Str) : Prop := ∃ q ∈ In, q.1 = z ∧ ((v, b, z') : Rul) ∈ q.2.map (red N)
theorem pl_name {x : Str} (h : x ∈ names5) : (PyData.str x).canLay0 = true := by
  have : (names5.all fun x => (PyData.str x).canLay0) = true := by decide +kernel
  exact List.all_eq_true.mp this x h
theorem shaped_strs {l : List Str} (h : ∀ x ∈ l, x ∈ names5) : SeqAt.shaped (.list (l.map PyData.str)) = true := by
  have hp : ∀ l : List Str, (∀ x ∈ l, x ∈ names5) → PlAll (l.map PyData.str) = true := by
    intro l
    induction l with
    | nil => intro _; rfl
    | cons a l ih =>
      intro h
      have h1 : Pl (PyData.str a) = true := pl_name (h a List.mem_cons_self)
      simp [PlAll, h1, ih fun e he => h e (List.mem_cons_of_mem _ he)]
  refine shaped_pl (by simpa [Pl] using hp l h) ?_
  have := depth_le (enc := PyData.str) (k := 1) (fun b => by simp [PyData.depth]) l
  simp only [PyData.depth]
  omega
theorem InF.step {N : Int} {In : Tab} (F : InF N In) {z v : Str} {b : Int} {z' : Str} (h : rulesIn N In z v b z') : ∃ q ∈ In, q.1 = z ∧ ((v, b, z') : Rul) ∈ q.2.map (red N) ∧ ∀ z2, ((v, b, z2) : Rul) ∈ q.2.map (red N) → z2 = z' := by
  obtain ⟨q, hq, e, hm⟩ := h
  refine ⟨q, hq, e, hm, fun z2 h2 => ?_⟩
  obtain ⟨r1, hr1, e1⟩ := List.mem_map.mp hm
  obtain ⟨r2, hr2, e2⟩ := List.mem_map.mp h2
  have nd := (F.rl q hq).2.2
  have key : ∀ {l : List Rul}, (l.map fun r => (r.1, r.2.1 % N)).Nodup → ∀ {a b : Rul}, a ∈ l → b ∈ l → (a.1, a.2.1 % N) = (b.1, b.2.1 % N) → a = b := by
    intro l
    induction l with
    | nil => intro _ a b ha; cases ha
    | cons c l ih =>
      intro nd a b ha hb e
      rw [List.map_cons, List.nodup_cons] at nd
      rcases List.mem_cons.mp ha with rfl | ha2
      · rcases List.mem_cons.mp hb with rfl | hb2
        · rfl
        · exact absurd (by rw [e]; exact List.mem_map_of_mem (f := fun r : Rul => (r.1, r.2.1 % N)) hb2) nd.1
      · rcases List.mem_cons.mp hb with rfl | hb2
        · exact absurd (by rw [← e]; exact List.mem_map_of_mem (f := fun r : Rul => (r.1, r.2.1 % N)) ha2) nd.1
        · exact ih nd.2 ha2 hb2 e
  simp only [red, Prod.mk.injEq] at e1 e2
  have := key nd hr1 hr2 (by rw [e1.1, e1.2.1, e2.1, e2.2.1])
  rw [← e1.2.2, ← e2.2.2, this]
section
variable {P : Program} {w : World} {K : PySem.W.Frag} {mg : Str → Option Value} {base : Heap}
theorem sl_tupK {X : Cx} (K : PySem.W.Frag) (hK : X.K = K := by rfl) : SlR X (rSlT K) := by subst hK; exact sl_tup
def sp_is_let (K : PySem.W.Frag) : Sp := fun vs H Q _ => ∃ (v : V) (N : Int) (dl : Addr) (xs : List V) (ds : List Deed) (o : Option Tab), vs = [v, .int N, .ref dl] ∧ RulV H v o ∧ 0 < N ∧ (∀ In, o = some In → InF N In ∧ ∃ z, Runs (rulesIn N In) N "start" ds z) ∧ H dl = some (.lst xs) ∧ Ls H encDeed xs ds ∧ (∀ d ∈ ds, IsW d.1) ∧ ∀ H', Ex H H' → Q (.bl true) H'
abbrev N_law_is_let : List Str := ["_law_rules_here", "_law_around", "_law_deeds", "_law_state", "_law_last", "_law_deed", "_law_step", "_law_goals", "_law_rule"]
theorem sc_law_is_let : FnScope N_law_is_let ["_law_rules_here", "_law_around", "_law_deeds"] (defScope s_law_is_let) := ⟨rfl, rfl, rfl, by decide +kernel, rfl, by decide +kernel, by decide +kernel⟩
theorem ok_law_is_let (T : Txt K mg) : DefOk P w K mg base 2 (He.ga K "_law_is_let") ["_law_rules_here", "_law_around", "_law_deeds"] (sp_is_let K) := by
  obtain ⟨fd, F⟩ := T.d_law_is_let
  obtain ⟨fd_law_rules_of, G_law_rules_of, kp_law_rules_of, b_law_rules_of⟩ := ok_law_rules_of (P := P) (w := w) (base := base) T
  refine ⟨fd, F.ok sc_law_is_let (fun vs H Q E h => ?_) (fun cdv A outer s H vs Q E hr h => ?_), F.kp, F.bindsN fun _ _ _ _ _ _ us hl => match us, hl with | [_, _, _], _ => rfl⟩
  · obtain ⟨v, N, dl, xs, ds, o, rfl, hv, N0, hF, hdl, hl, hW, k⟩ := h
    rfl
  have hu := hu_of hr
  have nd := sc_law_is_let.nd
  obtain ⟨v, N, dl, xs, ds, o, rfl, hv, N0, hF, hdl, hl, hW, k⟩ := h
  refine ⟨_, (PSs.nox (pss_cons (ps_if (pt_cmpR op_isN (pv 0) pe_non (nomark _)) (pss_one (ps_ret pe_bl)) pss_nil)
  (pss_cons (ps_set (i := 3) nd rfl (by first | exact Or.inl rfl | exact Or.inr rfl) pe_str)
  (pss_cons (ps_set (i := 4) nd rfl (by first | exact Or.inl rfl | exact Or.inr rfl) pe_int)
  (pss_cons (ps_for PassesOwn.never rfl (pi_listK K (pv 2)) (pg_name (i := 5) nd rfl (by first | exact Or.inl rfl | exact Or.inr rfl)) (pss_cons (ps_set (i := 6) nd rfl (by first | exact Or.inl rfl | exact Or.inr rfl) (pe_tup (pa_cons (pe_ix (ix_tupK K) (pv 5) pe_int (fun _ _ => rfl)) (pa_cons (pe_op op_mod (pe_callTy call_int1 (by rfl) T.b_int rfl (pa_cons (pe_op op_sub (pe_ix (ix_tupK K) (pv 5) pe_int (fun _ _ => rfl)) (pv 4)) pa_nil)) (pv 1)) pa_nil))))
  (pss_cons (ps_setLc (i := 7) (own := [("_law_rule", 8)]) (g := (gName 8))  rfl nd rfl rfl (sw_true rfl rfl rfl (by decide +kernel)) (pi_listK K (pe_call G_law_rules_of (hr.mono (by decide)) rfl T.g_law_rules_of kp_law_rules_of b_law_rules_of .nil pass0 (pa_cons (pv 0) (pa_cons (pv 1) (pa_cons (pv 3) pa_nil))))) (blkOk_by (N := N_law_is_let) (sc := defScope s_law_is_let) (by decide +kernel)) (fun _ _ _ _ _ => (pg_name (i := 8) nd rfl (by first | exact Or.inl rfl | exact Or.inr rfl))) (fun _ _ _ _ _ => (pts_one (pt_cmpR (op_eqDK K hr.units) (pe_slice (sl_tupK K) (pv 8) po_none (po_some pe_int)) (pv 6) (nomark _)))) (fun _ _ _ _ _ => (pe_ix (ix_tupK K) (pv 8) pe_int (fun _ _ => rfl))))
  (pss_cons (ps_if (pt_cmpR (op_eqDK K hr.units) (pv 7) (pe_lst pa_nil) (nomark _)) (pss_one (ps_ret pe_bl)) pss_nil)
  (pss_cons (ps_set (i := 3) nd rfl (by first | exact Or.inl rfl | exact Or.inr rfl) (pe_ix (ix_listK K) (pv 7) pe_int (fun _ _ => rfl)))
  (pss_one (ps_set (i := 4) nd rfl (by first | exact Or.inl rfl | exact Or.inr rfl) (pe_ix (ix_tupK K) (pv 5) pe_int (fun _ _ => rfl)))))))))
  (pss_one (ps_ret pe_bl))))))), ?_⟩
  have lx := hl.len
  cases o with
  | none =>
    cases (show v = .non from hv)
    exact ⟨_, rfl, rfl, _, rfl, iteT (k _ (Ex.refl _))⟩
  | some In =>
    obtain ⟨d0, rfl, hT⟩ := hv
    obtain ⟨F0, zE, f, f0, _, fs⟩ := hF In rfl
    refine ⟨_, rfl, rfl, _, rfl, iteF ?_⟩
    refine ⟨_, rfl, dl, rfl, ⟨_, SqL.of hdl⟩, ?_⟩
    refine for_it (walk_list (xs := xs)) (fun i σ F => Ex H F ∧ ∃ x5 x6 x7 x8, σ = [some (.ref d0), some (.int N), some (.ref dl), some (.str (f i)), some (.int (lastT ds i)), x5, x6, x7, x8]) ⟨Ex.refl H, none, none, none, none, by rw [f0]; rfl⟩ (fun i σ F _ ⟨e, _⟩ => SqL.of (e _ _ hdl)) ?_ ?_
    · rintro i v σ F F' hi ⟨eF, x5, x6, x7, x8, rfl⟩ ⟨rfl, hv⟩
      obtain ⟨d, hd, im⟩ := (hl.keep (Tups.of eF)).get hv
      obtain ⟨a, rfl, ha⟩ := deed_get im
      have dW := hW d (List.mem_of_getElem? hd)
      have hA : SqT K F' a [.str d.1, .int d.2] := SqT.of ha
      obtain ⟨q, hq, eq, hm, uq⟩ := F0.step (fs i d hd)
      obtain ⟨b, eb⟩ : ∃ b, b = (d.2 - lastT ds i) % N := ⟨_, rfl⟩
      -- step
      refine ⟨_, rfl, a, _, _, _, rfl, rfl, hA, atI_nat (j := 0) rfl, _, rfl, a, _, _, _, rfl, rfl, hA, atI_nat (j := 1) rfl, _, rfl, _, _, rfl, rfl, .inl ⟨_, rfl, _, rfl, _, _, rfl, rfl, N0, (by show 2 ≤ sizeLine; decide), fun ts hts => ?_⟩⟩
      show gName 6 _ _ (upd F' ts (.tup [.str d.1, .int ((d.2 - lastT ds i) % N)])) _
      obtain ⟨F1, eF1⟩ : ∃ F1, F1 = upd F' ts (.tup [.str d.1, .int b]) := ⟨_, rfl⟩
      rw [← eb] at hm uq ⊢
      rw [← eF1]
      have e1 : Ex F' F1 := by rw [eF1]; exact ex_new hts
      have h1s : F1 ts = some (.tup [.str d.1, .int b]) := by rw [eF1]; exact upd_same
      have q8 := (F0.rl q hq).1
      -- goals
      refine ⟨_, rfl, _, rfl, _, rfl, d0, N, In, q, by rw [eq]; rfl, hT.keep (eF.trans e1), F0.nd, hq, N0, q8, fun F2 p2 ys rs e2 hp2 hys pm => ?_⟩
      have h2s := e2 _ _ h1s
      have lys := hys.len
      have lrs : rs.length ≤ 8 := by rw [pm.length_eq, List.length_map]; exact q8
      have rW : ∀ r ∈ rs, IsW r.1 ∧ r.2.2 ∈ names5 := fun r hr => by
        obtain ⟨r0, hr0, rfl⟩ := List.mem_map.mp (pm.mem_iff.mp hr)
        have := (F0.rl q hq).2.1 r0 hr0
        refine ⟨this.1, ?_⟩
        obtain ⟨q', hq', e'⟩ := List.mem_map.mp this.2
        show r0.2.2 ∈ names5
        rw [← e']
        exact F0.nm q' hq'
      refine ⟨p2, rfl, ⟨_, SqL.of hp2⟩, fun D hD => ?_⟩
      refine lc_ls (enc := PyData.str) relEx walk_list (fun j => (rs[j]?).bind fun r => if ((r.1, r.2.1) : Deed) = (d.1, b) then some r.2.2 else none) hD True.intro (Evl.sz_lt (by omega)) (fun H2 e2 _ => SqL.of (e2 _ _ hp2)) ?_ ?_
      · rintro j y G G' hj e3 t3 ⟨rfl, hy⟩ Go Sk go sk
        obtain ⟨r, hr, ir⟩ := (hys.keep t3).get hy
        obtain ⟨c, rfl, hc⟩ := rul_get ir
        have rw1 := rW r (List.mem_of_getElem? hr)
        refine ⟨rfl, _, rfl, _, rfl, c, _, rfl, SqT.of hc, (by intro z; exact absurd (show (2 : Nat) = 3 from z.2) (by decide)), fun t1 ht1 => ?_⟩
        have e4 : Ex G' (upd G' t1 (.tup [.str r.1, .int r.2.1])) := ex_new ht1
        refine ⟨_, rfl, encDeed (r.1, r.2.1), encDeed (d.1, b), Im.dp (deed_mk (x := r.1) (i := r.2.1) upd_same), Im.dp (deed_mk (e4 _ _ (e3 _ _ h2s))), shaped_pl (pl_deed (d := (r.1, r.2.1)) rw1.1) (deed_depth _), shaped_pl (pl_deed (d := (d.1, b)) dW) (deed_depth _), _, rfl, ?_⟩
        rw [eqv_deed (a := (r.1, r.2.1)) (b := (d.1, b)) rw1.1 dW]
        by_cases qq : ((r.1, r.2.1) : Deed) = (d.1, b)
        · rw [decide_eq_true qq]
          exact iteT ⟨_, rfl, c, _, _, _, rfl, rfl, SqT.of (e4 _ _ hc), atI_nat (j := 2) rfl, go r.2.2 _ _ (by rw [hr]; exact if_pos qq) e4 (Tups.of e4) rfl⟩
        · rw [decide_eq_false qq]
          exact iteF (sk _ (by rw [hr]; exact if_neg qq) e4 (Tups.of e4))
      intro F3 gs e3 t3 hD3 hgs
      obtain ⟨goals, eg⟩ : ∃ goals, goals = (List.range ys.length).filterMap fun j => (rs[j]?).bind fun r => if ((r.1, r.2.1) : Deed) = (d.1, b) then some r.2.2 else none := ⟨_, rfl⟩
      rw [← eg] at hgs
      have egs := Ls.strs_eq hgs
      have gm : ∀ z, z ∈ goals ↔ ((d.1, b, z) : Rul) ∈ rs := fun z => by
        rw [eg, List.mem_filterMap]
        constructor
        · rintro ⟨j, _, e⟩
          obtain ⟨r, hr, e⟩ := Option.bind_eq_some_iff.mp e
          by_cases qq : ((r.1, r.2.1) : Deed) = (d.1, b)
          · rw [if_pos qq] at e
            cases e
            obtain ⟨r1, r2, r3⟩ := r
            rw [Prod.mk.injEq] at qq
            obtain ⟨q1, q2⟩ := qq
            have q1 : r1 = d.1 := q1
            have q2 : r2 = b := q2
            subst q1 q2
            exact List.mem_of_getElem? hr
          · rw [if_neg qq] at e
            cases e
        · intro h
          obtain ⟨j, hj⟩ := List.getElem?_of_mem h
          refine ⟨j, List.mem_range.mpr (by have := (List.getElem?_eq_some_iff.mp hj).1; omega), ?_⟩
          rw [hj]
          exact if_pos rfl
      have gall : ∀ z ∈ goals, z = f (i + 1) := fun z hz => uq z (pm.mem_iff.mp ((gm z).mp hz))
      have gin : f (i + 1) ∈ goals := (gm _).mpr (pm.mem_iff.mpr hm)
      obtain ⟨g1, gr, egl⟩ : ∃ g1 gr, goals = g1 :: gr := by
        cases goals with
        | nil => cases gin
        | cons a r => exact ⟨a, r, rfl⟩
      have eg1 : g1 = f (i + 1) := gall g1 (by rw [egl]; exact List.mem_cons_self)
      have gn : ∀ z ∈ goals, z ∈ names5 := fun z hz => (rW _ ((gm z).mp hz)).2
      -- goals == []
      refine ⟨_, rfl, Nat.zero_le _, fun le hle => ?_⟩
      have e4 : Ex F3 (upd F3 le (.lst [])) := ex_new hle
      refine ⟨.list (goals.map PyData.str), .list [], ls_list (SqL.of (e4 _ _ hD3)) (hgs.keep (Tups.of e4)), .lst (SqL.of upd_same) .nil, shaped_strs gn, shaped_strs (l := []) (fun _ h => by cases h), _, rfl, ?_⟩
      have ene : PyData.eqv (.list (goals.map PyData.str)) (.list []) = false := by rw [egl]; rfl
      rw [ene]
      refine iteF ?_
      have h4D := e4 _ _ hD3
      rw [egs, egl] at h4D
      refine ⟨_, rfl, D, _, _, _, rfl, rfl, SqL.of h4D, atI_nat (j := 0) rfl, ?_⟩
      have e5 : Ex F' (upd F3 le (.lst [])) := e1.trans (e2.trans (e3.trans e4))
      refine ⟨_, rfl, a, _, _, _, rfl, rfl, SqT.of (e5 _ _ ha), atI_nat (j := 1) rfl, ?_⟩
      have el : lastT ds (i + 1) = d.2 := by
        show (ds.getD i ("", 0)).2 = d.2
        rw [List.getD_eq_getElem?_getD, hd]
        rfl
      refine ⟨eF.trans e5, some (.ref a), some (.ref ts), some (.ref D), x8, ?_⟩
      rw [← eg1, el]
      rfl
    · rintro σ F ⟨eF, x5, x6, x7, x8, rfl⟩
      exact k F eF
end
end JD
end Part_JD32
section Part_JD30
set_option Elab.async false
set_option linter.all false
set_option maxRecDepth 100000
set_option maxHeartbeats 4000000
namespace JD
open PySem PySem.Spec PyProof.Rows L2 JR JX JT LamX
open Evl (Ex)
section
variable {P : Program} {w : World} {K : PySem.W.Frag} {mg : Str → Option Value} {base : Heap}
/-- f(k = v, ..), what it raises told by the slots -/
theorem pe_callN0S {X : Cx} {CX : CXT} {k : Nat} {f : Addr} {fd : FuncData} {ps ks : List Str} {sp : Sp} {E : L2.St → XK} {x : Str} {p pos : Pos} {kws : List Keyword} {tk : TA} {g : List Value → List Value → List Value} {gV : List V → List V → List V}
    (F : FnOk X.prog X.w X.K X.mg X.base CX k f fd ps sp) (hr : Room k X.A) (hg : Gl X x) (hm : X.mg x = some (.ref f)) (hk : PySem.W.keepIn X.K (.ref f) = true) (hb : KBn X.K fd ps 0 ks g gV) (hx : ∀ σ, PassesAt CX X σ (E σ)) (hkw : PK X kws tk)
    (hall : (backToKw pos (keywordEach kws X.env)).all (·.1.isSome) = true := by rfl) (hks : (backToKw pos (keywordEach kws X.env)).filterMap (·.1) = ks := by rfl) (hdb : (x == ("__debug__" : Str)) = false := by decide)
    (hpl : ((backTo pos (starEach [] X.env)).any (·.1) || (backToKw pos (keywordEach kws X.env)).any (·.1.isNone)) = false := by rfl) :
    PE X (.Call (.Name x p) [] kws pos) (fun σ H Q => tk σ H fun zs H2 => zs.length = ks.length ∧ sp (gV [] zs) H2 Q (E σ)) := by
  refine ⟨fun pins s σ H Q I h => ?_⟩
  refine wpAny_Call_Name_kw (ld_glob I hg hm ?_ hdb)
  refine PySem.W.callWith_KW0 (h₀ := X.base) I.ok.mod.kin hk hall ?_ hpl
  refine thn (hkw.run pos pins s σ H _ I h) fun us s2 ⟨zs, H2, I2, rz, l2, q2⟩ => ⟨I2.kIn, ?_⟩
  rw [hks]
  refine wpAny_call (codeAny_mono (F.run X.A X.stack s2 H2 ⟨[], ks.zip us⟩ (g [] us) (gV [] zs) Q (E σ) hr I2.env0 (hb.to s2 [] us I2.kIn rfl (rz.length.symm.trans l2)) (hb.rel .nil rz) q2) fun r t hq => ?_)
  cases r with
  | error e => exact hx σ pins H2 s2 e t I2 hq
  | ok fl =>
    cases fl with
    | ret u => exact I2.after hq
    | next => exact False.elim hq
    | brk => exact False.elim hq
    | cont => exact False.elim hq
theorem call_isE2 {X : Cx} {a D : Addr} {oe : Obj} {cls : Value} {d : Option Addr} {pn : List (Addr × Obj)} (C : ExcC X.K D) (hz : Zc cls d oe) (hf : ∃ vs, oe.data = .fields vs) : CallR (X.suite a ((a, oe) :: pn)) (.builtin "isinstance") (fun xs H Q => (cls = .ref D ∧ d = none) ∧ rIsE X.K D a xs H Q) := by
  intro pins s σ H xs us Q I r h
  obtain ⟨⟨rfl, rfl⟩, h⟩ := h
  exact call_isE C hz hf pins s σ H xs us Q I r h
theorem xf_of {K : PySem.W.Frag} {C : Addr} (h : ExcC K C) : XfC K C := ⟨h.hg, h.hk, h.hs, h.hd⟩
def sp_asked (K : PySem.W.Frag) : Sp := fun vs H Q _ => ∃ (pa : Addr) (v : V) (N : Int) (D : Words) (s : Int) (sp : Str → List Int) (o : Option Tab), vs = [.ref pa, v] ∧ Ask K H pa v N D s sp o ∧
  (s = 1 → ∀ H' p l, ExtT K H H' → PlanAt K H' p N [] → H' l = some (.lst [.str "plan", .ref p]) → Q (.ref l) H') ∧ (s ≠ 1 → ∀ fs St ns L, CutG N D s sp o fs St ns L →
    (cntsOf L (stsOf sp fs) = [] → ∀ H' l, ExtT K H H' → H' l = some (.lst [.str "none", .bl true]) → Q (.ref l) H') ∧ ∀ m ∈ cntsOf L (stsOf sp fs), (∀ y ∈ cntsOf L (stsOf sp fs), m ≤ y) →
    (400 < m → ∀ H' l, ExtT K H H' → H' l = some (.lst [.str "many", .int 400]) → Q (.ref l) H') ∧
    (m ≤ 400 → ∀ H' p l ds n, ExtT K H H' → ds.length = m → PWay (stsOf sp fs) (adjOf (mvsOf N D s sp St)) (modOf N s o) ds n → n.i = n.j → (∀ x ∈ ds, IsW x.1) → PlanAt K H' p N (ds.map fun x => (x.1, x.2 % N)) → H' l = some (.lst [.str "plan", .ref p]) → Q (.ref l) H'))
abbrev N_law_asked : List Str := ["_law_part_here", "_law_let_here", "_law_answer", "e"]
theorem sc_law_asked : FnScope N_law_asked ["_law_part_here", "_law_let_here"] (defScope s_law_asked) := ⟨rfl, rfl, rfl, by decide +kernel, rfl, by decide +kernel, by decide +kernel⟩
theorem ok_law_asked (TB : TabB base mg (He.cT K lamAt).1 (He.cT K lamAt).2) (T : Txt K mg) : DefOk P w K mg base 12 (He.ga K "_law_asked") ["_law_part_here", "_law_let_here"] (sp_asked K) := by
  obtain ⟨fd, F⟩ := T.d_law_asked
  obtain ⟨fd_shortest, G_shortest, kp_shortest, b_shortest⟩ := ok_shortest (P := P) (w := w) (base := base) TB T
  refine ⟨fd, F.ok sc_law_asked (fun vs H Q E h => ?_) (fun cdv A outer s H vs Q E hr h => ?_), F.kp, F.bindsN fun _ _ _ _ _ _ us hl => match us, hl with | [_, _], _ => rfl⟩
  · obtain ⟨pa, v, N, D, s, sp, o, rfl, A0, k1, k2⟩ := h
    rfl
  have hu := hu_of hr
  have nd := sc_law_asked.nd
  obtain ⟨pa, v, N, D, s, sp, o, rfl, A0, k1, k2⟩ := h
  refine ⟨_, (PSs.nox (pss_cons (ps_try_named (i := 3) rfl rfl nd rfl rfl (fun W pn xe tk _ => pss_one (ps_set (i := 2) nd rfl (Or.inl rfl) (pe_callN0S G_shortest (hr.mono (by decide)) rfl T.g_shortest kp_shortest b_shortest (fun σ => passAt tk σ) (pk_cons (pv 1) (pk_cons (pv 0) pk_nil))))) (.cons ⟨rfl, by decide, .inl T.g_NoPlan⟩ (fun a oe cls d pn hz hf => pss_one (ps_ret (pe_lst (pa_cons pe_str (pa_cons (pe_callB (call_isE2 T.xe_NoPlan hz hf) (by rfl) T.b_isinstance rfl (pa_cons (pv 3) (pa_cons (pe_glob (v := .ref (cA K "JawError")) rfl T.g_JawError rfl) pa_nil))) pa_nil))))) (.cons ⟨rfl, by decide, .inl T.g_TooMany⟩ (fun a oe cls d pn hz hf => pss_one (ps_ret (pe_lst (pa_cons pe_str (pa_cons (pe_xf (xf_of T.xe_TooMany) T.n_TooMany_limit hz hf (pv 3)) pa_nil))))) .nil)))
  (pss_one (ps_ret (pe_lst (pa_cons pe_str (pa_cons (pv 2) pa_nil))))))), ?_⟩
  have xt : ∀ {H1 H2 : Hp}, ExtT K H H1 → Ex H1 H2 → ExtT K H H2 := fun x e => ⟨x.1.trans (ExtN.of e), x.2.ext e⟩
  refine ⟨_, rfl, _, rfl, rfl, pa, v, N, D, s, sp, o, rfl, A0, fun h1 H1 p x1 pl => ?_, fun h1 fs St ns L C => ?_⟩
  · refine ⟨_, rfl, (by show 2 ≤ sizeLine; decide), fun l hl => ?_⟩
    obtain ⟨dx, q, ys, g1, g2, g3⟩ := pl
    have e := ex_new (o := .lst [.str "plan", .ref p]) hl
    exact k1 h1 _ p l (xt x1 e) ⟨dx, q, ys, e _ _ g1, e _ _ g2, g3.keep (Tups.of e)⟩ upd_same
  obtain ⟨q1, q2⟩ := k2 h1 fs St ns L C
  refine ⟨fun h0 H1 x1 => ?_, fun m hm hle => ⟨fun g H1 dd x1 hdd => ?_, fun g H1 p ds n x1 a1 a2 a3 a4 pl => ?_⟩⟩
  · refine ⟨true, T.xm_NoPlan_NoPlan, fun _ a ha => ?_, fun z => nomatch z⟩
    refine ⟨_, rfl, ⟨rfl, rfl⟩, _, .ref (cA K "JawError"), true, rfl, fun u r => r, T.xj_NoPlan, (by show 2 ≤ sizeLine; decide), fun l hl => ?_⟩
    exact q1 h0 _ l (xt x1 (ex_new hl)) upd_same
  · refine ⟨false, T.xm_TooMany_NoPlan, (fun z => nomatch z), fun _ => ⟨true, T.xm_TooMany_TooMany, fun _ a ha => ?_, fun z => nomatch z⟩⟩
    refine ⟨_, rfl, rfl, rfl, dd, _, .int 400, rfl, hdd, (by kernel_rfl), (by show 2 ≤ sizeLine; decide), fun l hl => ?_⟩
    exact (q2 m hm hle).1 g _ l (xt x1 (ex_new hl)) upd_same
  · refine ⟨_, rfl, (by show 2 ≤ sizeLine; decide), fun l hl => ?_⟩
    obtain ⟨dx, q, ys, g1, g2, g3⟩ := pl
    have e := ex_new (o := .lst [.str "plan", .ref p]) hl
    exact (q2 m hm hle).2 g _ p l ds n (xt x1 e) a1 a2 a3 a4 ⟨dx, q, ys, e _ _ g1, e _ _ g2, g3.keep (Tups.of e)⟩ upd_same
end
end JD
end Part_JD30
section Part_JD31
set_option Elab.async false
set_option linter.all false
set_option maxRecDepth 100000
set_option maxHeartbeats 4000000
namespace JD
open PySem PySem.Spec PyProof.Rows L2 JR JX JT LamX
open Evl (Ex)
section
variable {P : Program} {w : World} {K : PySem.W.Frag} {mg : Str → Option Value} {base : Heap}
abbrev modK (N s : Int) (t r : Addr) : List (Key × V) := [((Sum.inr "around" : Key), V.int N), (Sum.inr "span", .int s), (Sum.inr "tables", .ref t), (Sum.inr "rests", .ref r)]
theorem modK_s (N s : Int) (t r : Addr) : valV (modK N s t r) (Sum.inr "span") = some (.int s) := by kernel_rfl
theorem modK_t (N s : Int) (t r : Addr) : valV (modK N s t r) (Sum.inr "tables") = some (.ref t) := by kernel_rfl
def sp_counts (K : PySem.W.Frag) : Sp := fun vs H Q _ => ∃ (m dl : Addr) (N s : Int) (W : Pairs) (xs : List V) (ds : List Deed) (G : Str → Int → Int) (sp : Str → List Int), vs = [.ref m, .ref dl] ∧ ModelAt N s H m W ∧ WorldF N W ∧ 2 ≤ N ∧ N ≤ 360 ∧ s ≤ N ∧ H dl = some (.lst xs) ∧ Ls H encDeed xs ds ∧ ds.length ≤ 400 ∧
  (∀ d ∈ ds, d.1 ∈ W.map (·.1)) ∧ (∀ q ∈ W, G q.1 = lifted N q.2) ∧ Bd s G sp (W.map (·.1)) ∧
  ∀ H' p (cs : List Int), Ex H H' → H' p = some (.lst (cs.map V.int)) → cs.length = ds.length + 1 → (∀ k, k ≤ ds.length → ∃ c, cs[k]? = some c ∧ (c = 1 ↔ AllOne s G (ds.take k))) → Q (.ref p) H'
abbrev N_law_counts : List Str := ["_law_model_here", "_law_deeds", "_law_span_here", "_law_standings", "_law_x", "_law_counts_here", "_law_deed", "_law_table_here"]
theorem sc_law_counts : FnScope N_law_counts ["_law_model_here", "_law_deeds"] (defScope s_law_counts) := ⟨rfl, rfl, rfl, by decide +kernel, rfl, by decide +kernel, by decide +kernel⟩
theorem ok_law_counts (T : Txt K mg) : DefOk P w K mg base 2 (He.ga K "_law_counts") ["_law_model_here", "_law_deeds"] (sp_counts K) := by
  obtain ⟨fd, F⟩ := T.d_law_counts
  obtain ⟨fd_law_lift, G_law_lift, kp_law_lift, b_law_lift⟩ := ok_law_lift (P := P) (w := w) (base := base) T
  refine ⟨fd, F.ok sc_law_counts (fun vs H Q E h => ?_) (fun cdv A outer s H vs Q E hr h => ?_), F.kp, F.bindsN fun _ _ _ _ _ _ us hl => match us, hl with | [_, _], _ => rfl⟩
  · obtain ⟨m, dl, N, s, W, xs, ds, G, sp, rfl, hM, WF, n2, n3, sN, hdl, hl, l400, hw, hG, B, k⟩ := h
    rfl
  have hu := hu_of hr
  have nd := sc_law_counts.nd
  obtain ⟨m, dl, N, s, W, xs, ds, G, sp, rfl, hM, WF, n2, n3, sN, hdl, hl, l400, hw, hG, B, k⟩ := h
  refine ⟨_, (PSs.nox (pss_cons (ps_set (i := 2) nd rfl (by first | exact Or.inl rfl | exact Or.inr rfl) (pe_dget hu (pv 0) pe_str (fun _ _ => rfl)))
  (pss_cons (ps_setLc (i := 3) (own := [("_law_x", 4)]) (g := (gName 4)) (tt := tYes) rfl nd rfl rfl (sw_true rfl rfl rfl (by decide +kernel)) (pi_range1 rfl T.b_range (pa_cons (pv 2) pa_nil)) (blkOk_by (N := N_law_counts) (sc := defScope s_law_counts) (by decide +kernel)) (fun _ _ _ _ _ => (pg_name (i := 4) nd rfl (by first | exact Or.inl rfl | exact Or.inr rfl))) (fun _ _ _ _ _ => pts_nil) (fun _ _ _ _ _ => (pv 4)))
  (pss_cons (ps_set (i := 5) nd rfl (by first | exact Or.inl rfl | exact Or.inr rfl) (pe_lst (pa_cons (pv 2) pa_nil)))
  (pss_cons (ps_for PassesOwn.never rfl (pi_listK K (pv 1)) (pg_name (i := 6) nd rfl (by first | exact Or.inl rfl | exact Or.inr rfl)) (pss_cons (ps_set (i := 7) nd rfl (by first | exact Or.inl rfl | exact Or.inr rfl) (pe_dget hu (pe_dget hu (pv 0) pe_str (fun _ _ => rfl)) (pe_ix (ix_tupK K) (pv 6) pe_int (fun _ _ => rfl)) (fun _ _ => rfl)))
  (pss_cons (ps_set (i := 3) nd rfl (by first | exact Or.inl rfl | exact Or.inr rfl) (pe_callB (cr_sortedInts rfl) (by rfl) T.b_sorted rfl (pa_cons (pe_callTy (cr_setInts rfl) (by rfl) T.b_set rfl (pa_cons (pe_lc (own := [("_law_x", 4)]) (g := (gName 4)) (tt := tYes) rfl nd (pi_listK K (pv 3)) (blkOk_by (N := N_law_counts) (sc := defScope s_law_counts) (by decide +kernel)) (fun _ _ _ _ _ => (pg_name (i := 4) nd rfl (by first | exact Or.inl rfl | exact Or.inr rfl))) (fun _ _ _ _ _ => pts_nil) (fun _ _ _ _ _ => (pe_op op_mod (pe_callTy call_int1 (by rfl) T.b_int rfl (pa_cons (pe_op op_add (pe_call G_law_lift (hr.mono (by decide)) rfl T.g_law_lift kp_law_lift b_law_lift .nil pass0 (pa_cons (pv 7) (pa_cons (pe_op op_sub (pv 4) (pe_ix (ix_tupK K) (pv 6) pe_int (fun _ _ => rfl))) pa_nil))) (pe_ix (ix_tupK K) (pv 6) pe_int (fun _ _ => rfl))) pa_nil)) (pv 2)))) pa_nil)) pa_nil)))
  (pss_one (ps_expr (pe_bm PySem.F.plainAttrs_list PySem.F.slot_list_append PySem.F.type_list_append mt_append (pv 5) (pa_cons (pe_callB call_len_seq (by rfl) T.b_len rfl (pa_cons (pv 3) pa_nil)) pa_nil)))))))
  (pss_one (ps_ret (pv 5)))))))), ?_⟩
  obtain ⟨t, r, hm, hT⟩ := id hM
  obtain ⟨kvs, ht, hP⟩ := id hT
  have s0 := B.pos
  have lx := hl.len
  have dS : ∀ {F : Hp}, Ex H F → DGet F m (.str "span") (some (.int s)) := fun {F} e => by rw [← modK_s N s t r]; exact DGet.k (k := Sum.inr "span") (e _ _ hm)
  have dT : ∀ {F : Hp}, Ex H F → DGet F m (.str "tables") (some (.ref t)) := fun {F} e => by rw [← modK_t N s t r]; exact DGet.k (k := Sum.inr "tables") (e _ _ hm)
  refine ⟨_, rfl, m, _, rfl, dS (Ex.refl H), ?_⟩
  refine ⟨_, rfl, s, rfl, by omega, by omega, fun D hD => ?_⟩
  refine lc_ls (enc := PyData.int) relEx walk_range (fun j : Nat => some (j : Int)) hD True.intro (Evl.sz_lt (by omega)) (fun H2 e2 _ => True.intro) ?_ ?_
  · rintro j y F1 F1' hj e2 t2 ⟨rfl, rfl⟩ Go Sk go sk
    refine ⟨rfl, yes_go ⟨_, rfl, go _ _ _ rfl (Ex.refl _) (Tups.refl _) (by show V.int (0 + (j : Int)) = _; rw [Int.zero_add])⟩⟩
  intro F1 ys e1 t1 hD1 hys
  have ey := Ls.ints_eq hys
  have em : ((List.range s.toNat).filterMap fun j : Nat => some (j : Int)) = (List.range s.toNat).map fun j : Nat => (j : Int) := by
    rw [← List.filterMap_eq_map]
    rfl
  rw [em] at ey
  obtain ⟨z0, ez0⟩ : ∃ z0, z0 = (List.range s.toNat).map fun j : Nat => (j : Int) := ⟨_, rfl⟩
  rw [← ez0] at ey
  have st0 : Stand s G ([] : List Deed) z0 := by rw [ez0]; exact stand_nil s0
  have lz0 : z0.length = s.toNat := by rw [ez0, List.length_map, List.length_range]
  refine ⟨_, rfl, (by show 1 ≤ sizeLine; decide), fun cl hcl => ?_⟩
  have hcl0 : H cl = none := Evl.fresh_back e1 hcl
  have ncd : D ≠ cl := ne_of_none hD1 hcl
  have e2 : Ex H (upd F1 cl (.lst [.int s])) := e1.trans (ex_new hcl)
  refine ⟨_, rfl, dl, rfl, ⟨_, SqL.of (e2 _ _ hdl)⟩, ?_⟩
  refine for_it (walk_list (xs := xs)) (fun i σ F => Ex H F ∧ ∃ (sl : Addr) (zs : List Int) (cs : List Int) (x4 x6 x7 : Option V), σ = [some (.ref m), some (.ref dl), some (.int s), some (.ref sl), x4, some (.ref cl), x6, x7] ∧ sl ≠ cl ∧ F sl = some (.lst (zs.map V.int)) ∧ Stand s G (ds.take i) zs ∧ F cl = some (.lst (cs.map V.int)) ∧ cs.length = i + 1 ∧ ∀ j, j ≤ i → ∃ c, cs[j]? = some c ∧ (c = 1 ↔ AllOne s G (ds.take j)))
    ⟨e2, D, z0, [s], none, none, none, rfl, ncd, by rw [upd_ne ncd, hD1, ey], by rw [List.take_zero]; exact st0, upd_same, rfl, fun j hj => ?_⟩ (fun i σ F _ ⟨e, _⟩ => SqL.of (e _ _ hdl)) ?_ ?_
  · obtain rfl : j = 0 := by omega
    refine ⟨s, rfl, ?_⟩
    rw [List.take_zero, ← stand_one st0, lz0]
    omega
  · rintro i v σ F F' hi ⟨eF, sl, zs, cs, x4, x6, x7, rfl, nsc, hsl, hst, hcs, lcs, hc⟩ ⟨rfl, hv⟩
    obtain ⟨d, hd, im⟩ := (hl.keep (Tups.of eF)).get hv
    obtain ⟨a, rfl, ha⟩ := deed_get im
    have dmm := List.mem_of_getElem? hd
    have hA : SqT K F' a [.str d.1, .int d.2] := SqT.of ha
    have dw := hw d dmm
    obtain ⟨q, hq, eq⟩ := List.mem_map.mp dw
    obtain ⟨v, hv2, _, r', er', hr'⟩ := pair_val (R := TabR N H) (fun _ _ h => h.1) hP WF.nd hq
    have er' : v = .ref r' := er'
    subst er'
    have dg : DGet F' t (.str d.1) (some (.ref r')) := by rw [← hv2, ← eq]; exact DGet.k (k := Sum.inr q.1) (eF _ _ ht)
    have tk : ds.take (i + 1) = ds.take i ++ [d] := by rw [List.take_add_one, hd]; rfl
    have li : i < ds.length := (List.getElem?_eq_some_iff.mp hd).1
    have zl : zs.length ≤ 360 := by
      have h1 := nodup_le (l := zs) (m := z0) hst.nd fun y hy => by
        have h2 := hst.rng s0 hy
        rw [ez0]
        exact List.mem_map.mpr ⟨y.toNat, List.mem_range.mpr (by omega), Int.toNat_of_nonneg h2.1⟩
      omega
    have gw : ∀ x, lifted N q.2 x = G d.1 x := fun x => by rw [← eq, hG q hq]
    refine ⟨_, rfl, m, _, rfl, dT eF, _, rfl, a, _, _, _, rfl, rfl, hA, atI_nat (j := 0) rfl, t, _, rfl, dg, ?_⟩
    refine ⟨_, rfl, sl, rfl, ⟨_, SqL.of hsl⟩, fun D2 hD2 => ?_⟩
    refine lc_ls (enc := PyData.int) relEx walk_list (fun j => (zs[j]?).map fun z => dm G d z % s) hD2 True.intro (Evl.sz_lt (by rw [List.length_map]; omega)) (fun H2 e2 _ => SqL.of (e2 _ _ hsl)) ?_ ?_
    · rintro j y F1 F1' hj e3 t3 ⟨rfl, hy⟩ Go Sk go sk
      rw [List.getElem?_map] at hy
      obtain ⟨z, hz, rfl⟩ := Option.map_eq_some_iff.mp hy
      have hA1 : SqT K F1' a [.str d.1, .int d.2] := SqT.of (e3 _ _ ha)
      refine ⟨rfl, yes_go ⟨_, rfl, _, rfl, _, rfl, a, _, _, _, rfl, rfl, hA1, atI_nat (j := 1) rfl, _, _, rfl, rfl, r', z - d.2, N, q.2, rfl, e3 _ _ (eF _ _ hr'), (WF.rows q hq).1, n2, n3, _, rfl, a, _, _, _, rfl, rfl, hA1, atI_nat (j := 1) rfl, _, _, rfl, rfl, .inl ⟨_, rfl, _, rfl, _, _, rfl, rfl, s0, ?_⟩⟩⟩
      refine go (dm G d z % s) _ _ (by rw [hz]; rfl) (Ex.refl _) (Tups.refl _) ?_
      show V.int ((lifted N q.2 (z - d.2) + d.2) % s) = V.int _
      rw [gw]
      rfl
    intro F2 ys2 e3 t3 hD2' hys2
    rw [fm_map _ (List.length_map _)] at hys2
    have ey2 := Ls.ints_eq hys2
    rw [ey2] at hD2'
    refine ⟨D2, _, rfl, SqL.of hD2', (by rw [List.length_map]; unfold scanBound; omega), fun p c hp => ?_⟩
    refine ⟨p, _, c, rfl, upd_same, fun zs' p2 nd' mem' hp2 => ?_⟩
    have e4 : Ex F' (upd (upd F2 p (SetO w p (fun j => decide (j ∈ List.map (fun z => dm G d z % s) zs)) c)) p2 (.lst (zs'.map V.int))) := e3.trans ((ex_new hp).trans (ex_new hp2))
    show gName 3 _ _ (upd (upd F2 p (SetO w p (fun j => decide (j ∈ List.map (fun z => dm G d z % s) zs)) c)) p2 (.lst (zs'.map V.int))) _
    obtain ⟨F3, eF3⟩ : ∃ F3, F3 = upd (upd F2 p (SetO w p (fun j => decide (j ∈ List.map (fun z => dm G d z % s) zs)) c)) p2 (.lst (zs'.map V.int)) := ⟨_, rfl⟩
    rw [← eF3] at e4 ⊢
    have h3p : F3 p2 = some (.lst (zs'.map V.int)) := by rw [eF3]; exact upd_same
    have h3c := e4 _ _ hcs
    have np2 : p2 ≠ cl := by
      have h1 : upd F2 p (SetO w p (fun j => decide (j ∈ List.map (fun z => dm G d z % s) zs)) c) cl = some (.lst (cs.map V.int)) := ex_new hp _ _ (e3 _ _ hcs)
      have hp2 : upd F2 p (SetO w p (fun j => decide (j ∈ List.map (fun z => dm G d z % s) zs)) c) p2 = none := hp2
      exact fun z => by rw [z] at hp2; rw [h1] at hp2; cases hp2
    have ec : (((zs'.map V.int).length : Nat) : Int) = (zs'.length : Int) := by rw [List.length_map]
    refine ⟨_, rfl, .inl ⟨rfl, _, SqL.of h3c⟩, _, rfl, p2, _, rfl, .inl (SqL.of h3p), cl, _, _, rfl, rfl, h3c, Evl.sz_lt (by rw [List.length_map, lcs]; omega), ?_⟩
    have st1 : Stand s G (ds.take (i + 1)) zs' := by
      rw [tk]
      refine stand_snoc B dw hst nd' fun y => ?_
      rw [mem', decide_eq_true_eq, List.mem_map]
    refine ⟨Evl.Ex.mut (eF.trans e4) hcl0, p2, zs', cs ++ [(zs'.length : Int)], _, _, _, rfl, np2, ?_, st1, ?_, by rw [List.length_append, lcs]; rfl, fun j hj => ?_⟩
    · rw [upd_ne np2]
      exact h3p
    · rw [List.map_append, upd_same, ec]
      rfl
    · rcases Nat.lt_or_eq_of_le hj with c1 | c1
      · obtain ⟨c', g1, g2⟩ := hc j (by omega)
        exact ⟨c', by rw [List.getElem?_append_left (by omega)]; exact g1, g2⟩
      · subst c1
        refine ⟨(zs'.length : Int), by rw [List.getElem?_append_right (by omega), lcs, Nat.sub_self]; rfl, ?_⟩
        rw [← stand_one st1]
        omega
  · rintro σ F ⟨eF, sl, zs, cs, x4, x6, x7, rfl, nsc, hsl, hst, hcs, lcs, hc⟩
    rw [lx] at lcs hc
    exact ⟨_, rfl, k F cl cs eF hcs lcs hc⟩
end
end JD
end Part_JD31
section Part_JD28
set_option Elab.async false
set_option linter.all false
set_option maxRecDepth 100000
set_option maxHeartbeats 4000000
namespace JD
open PySem PySem.Spec PyProof.Rows L2 JR JX JT LamX
open Evl (Ex)
section
variable {P : Program} {w : World} {K : PySem.W.Frag} {mg : Str → Option Value} {base : Heap}
theorem inV_strs_not {z : Str} {l : List Str} (h : z ∈ l) : (!inV (.str z) (l.map V.str)) = false := by rw [inV_strs h]; rfl
def sp_is_plan (K : PySem.W.Frag) : Sp := fun vs H Q _ => ∃ (p wl : Addr) (N : Int) (ws : List Str) (ds : List Deed), vs = [.ref p, .int N, .ref wl] ∧ PlanAt K H p N ds ∧ H wl = some (.lst (ws.map V.str)) ∧ (∀ d ∈ ds, d.1 ∈ ws) ∧ (∀ d ∈ ds, 0 ≤ d.2 ∧ d.2 < N) ∧ Q (.bl true) H
abbrev N_law_is_plan : List Str := ["_law_plan", "_law_around", "_law_words", "_law_deed"]
theorem sc_law_is_plan : FnScope N_law_is_plan ["_law_plan", "_law_around", "_law_words"] (defScope s_law_is_plan) := ⟨rfl, rfl, rfl, by decide +kernel, rfl, by decide +kernel, by decide +kernel⟩
theorem ok_law_is_plan (T : Txt K mg) : DefOk P w K mg base 1 (He.ga K "_law_is_plan") ["_law_plan", "_law_around", "_law_words"] (sp_is_plan K) := by
  obtain ⟨fd, F⟩ := T.d_law_is_plan
  refine ⟨fd, F.ok sc_law_is_plan (fun vs H Q E h => ?_) (fun cdv A outer s H vs Q E hr h => ?_), F.kp, F.bindsN fun _ _ _ _ _ _ us hl => match us, hl with | [_, _, _], _ => rfl⟩
  · obtain ⟨p, wl, N, ws, ds, rfl, ⟨dx, q, ys, hp, hq, hl⟩, hwl, hw, hr0, k⟩ := h
    rfl
  have hu := hu_of hr
  have nd := sc_law_is_plan.nd
  obtain ⟨p, wl, N, ws, ds, rfl, ⟨dx, q, ys, hp, hq, hl⟩, hwl, hw, hr0, k⟩ := h
  refine ⟨_, (PSs.nox (pss_cons (ps_if (PW.pt (pw_or (pt_not (pt_val (pe_callB call_isi (by rfl) T.b_isinstance rfl (pa_cons (pv 0) (pa_cons (pe_glob (v := .ref (cA K "Plan")) rfl T.g_Plan rfl) pa_nil))))) (pw_or (pt_cmpR op_ne (pe_fldK K (pv 0) rfl) (pv 1) (nomark _)) (pw_or1 (pt_not (pt_val (pe_callB call_isi (by rfl) T.b_isinstance rfl (pa_cons (pe_fldK K (pv 0) rfl) (pa_cons (pe_bltn (v := .ty "tuple") rfl T.b_tuple rfl rfl) pa_nil))))))))) (pss_one (ps_ret pe_bl)) pss_nil)
  (pss_cons (ps_for PassesOwn.never rfl (pi_tupK K (pe_fldK K (pv 0) rfl)) (pg_name (i := 3) nd rfl (by first | exact Or.inl rfl | exact Or.inr rfl)) (pss_cons (ps_if (PW.pt (pw_or (pt_not (pt_val (pe_callB call_isi (by rfl) T.b_isinstance rfl (pa_cons (pv 3) (pa_cons (pe_bltn (v := .ty "tuple") rfl T.b_tuple rfl rfl) pa_nil))))) (pw_or (pt_cmpR op_ne (pe_callB call_len_seq (by rfl) T.b_len rfl (pa_cons (pv 3) pa_nil)) pe_int (nomark _)) (pw_or (pt_not (pt_val (pe_callB call_isi (by rfl) T.b_isinstance rfl (pa_cons (pe_ix (ix_tupK K) (pv 3) pe_int (fun _ _ => rfl)) (pa_cons (pe_bltn (v := .ty "str") rfl T.b_str rfl rfl) pa_nil))))) (pw_or1 (pt_cmpR (op_notIn_seqK K) (pe_ix (ix_tupK K) (pv 3) pe_int (fun _ _ => rfl)) (pv 2) rfl)))))) (pss_one (ps_ret pe_bl)) pss_nil)
  (pss_one (ps_if (PW.pt (pw_or (pt_not (pt_val (pe_callB call_isi (by rfl) T.b_isinstance rfl (pa_cons (pe_ix (ix_tupK K) (pv 3) pe_int (fun _ _ => rfl)) (pa_cons (pe_bltn (v := .ty "int") rfl T.b_int rfl rfl) pa_nil))))) (pw_or (pt_val (pe_callB call_isi (by rfl) T.b_isinstance rfl (pa_cons (pe_ix (ix_tupK K) (pv 3) pe_int (fun _ _ => rfl)) (pa_cons (pe_bltn (v := .ty "bool") rfl T.b_bool rfl rfl) pa_nil)))) (pw_or1 (pt_not (pt_chain op_le op_lt pe_int (pe_ix (ix_tupK K) (pv 3) pe_int (fun _ _ => rfl)) (pv 1))))))) (pss_one (ps_ret pe_bl)) pss_nil))))
  (pss_one (ps_ret pe_bl))))), ?_⟩
  refine ⟨_, rfl, .ref p, .ref (cA K "Plan"), _, _, true, rfl, .own _, .base (insB_ok T.o_Plan T.c_Plan hp), if_pos (beq_self_eq_true _), true, rfl, iteF ?_⟩
  refine ⟨_, rfl, p, _, dx, _, _, rfl, hp, T.c_Plan, T.n_Plan_around, plf_a _ _, _, rfl, rfl, _, rfl, iteNS rfl ?_⟩
  have hT : SqT K H q ys := SqT.of hq
  refine ⟨_, rfl, p, _, dx, _, _, rfl, hp, T.c_Plan, T.n_Plan_deeds, plf_d _ _, .ref q, .ty "tuple", _, _, true, rfl, .ty _, .base (.tup hq), kit_ty (by decide +kernel), true, rfl, iteF ?_⟩
  refine ⟨_, rfl, p, _, dx, _, _, rfl, hp, T.c_Plan, T.n_Plan_deeds, plf_d _ _, q, rfl, ⟨_, hT⟩, ?_⟩
  refine for_it walk_tup (fun i σ F => H = F ∧ ∃ x3, σ = [some (.ref p), some (.int N), some (.ref wl), x3]) ⟨rfl, none, rfl⟩ (fun i σ F _ ⟨e, _⟩ => by rw [← e]; exact hT) ?_ ?_
  · rintro i v σ F F' hi ⟨rfl, x3, rfl⟩ ⟨eF, hv⟩
    have eF : H = F' := Eq.symm eF
    subst eF
    obtain ⟨d, hd, im⟩ := hl.get hv
    obtain ⟨a, rfl, ha⟩ := deed_get im
    have dm := List.mem_of_getElem? hd
    have hA : SqT K H a [.str d.1, .int d.2] := SqT.of ha
    have rg := hr0 d dm
    refine ⟨_, rfl, .ref a, .ty "tuple", _, _, true, rfl, .ty _, .base (.tup ha), kit_ty (by decide +kernel), true, rfl, iteF ?_⟩
    refine ⟨_, rfl, a, _, rfl, .inr hA, rfl, _, rfl, iteF ?_⟩
    refine ⟨_, rfl, a, _, _, _, rfl, rfl, hA, atI_nat (j := 0) rfl, .str d.1, .ty "str", _, _, true, rfl, .ty _, .base (.str _), kit_ty (by decide +kernel), true, rfl, iteF ?_⟩
    refine ⟨_, rfl, a, _, _, _, rfl, rfl, hA, atI_nat (j := 0) rfl, _, rfl, wl, _, rfl, .inl (SqL.of hwl), rfl, flat_strs _, _, rfl, ?_⟩
    rw [if_pos rfl, inV_strs (hw d dm)]
    refine iteF ?_
    refine ⟨_, rfl, a, _, _, _, rfl, rfl, hA, atI_nat (j := 1) rfl, .int d.2, .ty "int", _, _, true, rfl, .ty _, .base (.int _), kit_ty (by decide +kernel), true, rfl, iteF ?_⟩
    refine ⟨_, rfl, a, _, _, _, rfl, rfl, hA, atI_nat (j := 1) rfl, .int d.2, .ty "bool", _, _, false, rfl, .ty _, .base (.int _), kit_ty (by decide +kernel), false, rfl, iteF ?_⟩
    refine ⟨_, rfl, a, _, _, _, rfl, rfl, hA, atI_nat (j := 1) rfl, _, _, rfl, rfl, _, rfl, ?_⟩
    rw [decide_eq_true rg.1]
    refine ⟨_, rfl, _, _, rfl, rfl, _, rfl, ?_⟩
    rw [decide_eq_true rg.2]
    exact iteF ⟨rfl, _, rfl⟩
  · rintro σ F ⟨rfl, x3, rfl⟩
    exact k
end
end JD
end Part_JD28
section Part_JGlue2
set_option Elab.async false
set_option linter.all false
set_option maxRecDepth 100000
set_option maxHeartbeats 4000000
/-! The least count does not hang on the search's own lists; the machine from the law's rules. -/
namespace JD
open PySem PySem.Spec PyProof.Rows L2 JR JX JT LamX
open Evl (Ex)
theorem goes_congr {W S : Type} {s : Int} {G : W → Int → Int} {sp : W → List Int} {r r' : S → W → Int → S → Prop} (h : ∀ z v b z', r z v b z' → r' z v b z') {n : Nd W S} {k : Nat} (g : Goes s G sp r n k) : Goes s G sp r' n k := by
  induction g with
  | here e => exact .here e
  | @step n n' v b k e _ ih => exact .step ⟨h _ _ _ _ e.rule, e.wd, e.op, e.to⟩ ih
section
variable {N s : Int} {D : Words} {sp : Str → List Int} {o : Option Tab}
theorem goes_far (B : BF N D s sp) (hL : ∀ Tb, o = some Tb → LetF N D Tb) {fs : List Rul} {St : Tab} {ns : List Node} {L : List (Node × Nat)} (C : CutG N D s sp o fs St ns L) : ∀ (d : Nat) (n : Node), n ∈ ns → farOf L n = some d → Goes s (liftW N D) sp (rulesOf St) n d := by
  have G := stG C.stok hL
  intro d
  induction d using Nat.strongRecOn with
  | ind d ih =>
    intro n hn hd
    rcases C.fo.down n d hd with ⟨rfl, e⟩ | ⟨⟨⟨v, b⟩, n'⟩, hm, d', hd', rfl⟩
    · exact .here e
    · exact .step ((edge_iff G (C.good n hn) (v := v) (b := b) (n' := n')).mpr hm) (ih d' (Nat.lt_succ_self _) n' (C.next n hn _ hm) hd')
theorem rules_same (hL : ∀ Tb, o = some Tb → LetF N D Tb) {fs fs' : List Rul} {St St' : Tab} {ns ns' : List Node} {L L' : List (Node × Nat)} (C : CutG N D s sp o fs St ns L) (C' : CutG N D s sp o fs' St' ns' L') : (∀ z v b z', rulesOf St z v b z' → rulesOf St' z v b z') ∧ ∀ r ∈ fs, r ∈ fs' := by
  have a1 := C.stok
  have a2 := C'.stok
  have b1 := C.fsok
  have b2 := C'.fsok
  cases o with
  | none =>
    obtain ⟨rs, rfl, _, h1, _⟩ := a1
    obtain ⟨rs', rfl, _, h2, _⟩ := a2
    refine ⟨?_, fun r hr => (b2.2.1 r).mpr ((b1.2.1 r).mp hr)⟩
    rintro z v b z' ⟨q, hq, e, hr⟩
    rw [List.mem_singleton.mp hq] at e hr
    exact ⟨_, List.mem_cons_self, e, (h2 _).mpr ((h1 _).mp hr)⟩
  | some Tb =>
    obtain rfl : St = Tb := a1
    obtain rfl : St' = St := a2
    obtain ⟨q, hq, e, rfl⟩ := b1
    obtain ⟨q', hq', e', rfl⟩ := b2
    cases tab_uniq (hL _ rfl).nd hq hq' (e.trans e'.symm)
    exact ⟨fun _ _ _ _ h => h, fun _ h => h⟩
theorem cnts_le (B : BF N D s sp) (hL : ∀ Tb, o = some Tb → LetF N D Tb) {fs fs' : List Rul} {St St' : Tab} {ns ns' : List Node} {L L' : List (Node × Nat)} (C : CutG N D s sp o fs St ns L) (C' : CutG N D s sp o fs' St' ns' L') : ∀ c ∈ cntsOf L (stsOf sp fs), ∃ c' ∈ cntsOf L' (stsOf sp fs'), c' ≤ c := by
  intro c hc
  obtain ⟨⟨w, t, n⟩, hs, e⟩ := List.mem_filterMap.mp hc
  obtain ⟨d, hd, rfl⟩ := Option.map_eq_some_iff.mp e
  have st : startOf sp fs w t n := hs
  have hd : farOf L n = some d := hd
  obtain ⟨k1, k2⟩ := rules_same hL C C'
  have st' : startOf sp fs' w t n := by
    obtain ⟨r, hr, h⟩ := start_iff.mp st
    exact start_iff.mpr ⟨r, k2 r hr, h⟩
  have g := goes_congr k1 (goes_far B hL C d n (C.start _ hs) hd)
  obtain ⟨d', h1, h2⟩ := (far_ok B hL C').goes g (start_in B hL C' _ _ _ st')
  exact ⟨d' + 1, List.mem_filterMap.mpr ⟨(w, t, n), st', by show (farOf L' n).map _ = _; rw [h1]; rfl⟩, by omega⟩
theorem cnts_nil (B : BF N D s sp) (hL : ∀ Tb, o = some Tb → LetF N D Tb) {fs fs' : List Rul} {St St' : Tab} {ns ns' : List Node} {L L' : List (Node × Nat)} (C : CutG N D s sp o fs St ns L) (C' : CutG N D s sp o fs' St' ns' L') (h : cntsOf L (stsOf sp fs) = []) : cntsOf L' (stsOf sp fs') = [] := by
  rw [List.eq_nil_iff_forall_not_mem]
  intro c hc
  obtain ⟨c', hc', _⟩ := cnts_le B hL C' C c hc
  rw [h] at hc'
  cases hc'
theorem cnts_min (B : BF N D s sp) (hL : ∀ Tb, o = some Tb → LetF N D Tb) {fs fs' : List Rul} {St St' : Tab} {ns ns' : List Node} {L L' : List (Node × Nat)} (C : CutG N D s sp o fs St ns L) (C' : CutG N D s sp o fs' St' ns' L') {m m' : Nat}
    (h : m ∈ cntsOf L (stsOf sp fs)) (hm : ∀ y ∈ cntsOf L (stsOf sp fs), m ≤ y) (h' : m' ∈ cntsOf L' (stsOf sp fs')) (hm' : ∀ y ∈ cntsOf L' (stsOf sp fs'), m' ≤ y) : m = m' := by
  obtain ⟨c, hc, e⟩ := cnts_le B hL C C' m h
  obtain ⟨c', hc', e'⟩ := cnts_le B hL C' C m' h'
  have := hm' c hc
  have := hm c' hc'
  omega
end
/-- the machine that is made of the law's rules -/
theorem letf_of {N : Int} {D : Words} {In Tb : Tab} (F : InF N In) (hW : ∀ q ∈ In, ∀ r ∈ q.2, r.1 ∈ D.map (·.1)) (M : Made N In Tb) : LetF N D Tb ∧ LetN (some Tb) := by
  have lo := F.lo
  have row : ∀ q ∈ Tb, ∃ q0 ∈ In, q0.1 = q.1 ∧ q.2.Perm (q0.2.map (red N)) := M.2
  refine ⟨⟨M.1.nodup_iff.mpr F.nd, M.1.mem_iff.mpr F.st, ?_, fun q hq => ?_⟩, fun Tb' e q hq => ?_⟩
  · have := M.1.length_eq
    rw [List.length_map, List.length_map] at this
    rw [this]
    exact F.len
  · obtain ⟨q0, h0, e0, pm⟩ := row q hq
    obtain ⟨g1, g2, _⟩ := F.rl q0 h0
    refine ⟨by rw [pm.length_eq, List.length_map]; exact g1, fun r hr => ?_⟩
    obtain ⟨r0, hr0, rfl⟩ := List.mem_map.mp (pm.mem_iff.mp hr)
    exact ⟨hW q0 h0 r0 hr0, ⟨Int.emod_nonneg _ (by omega), Int.emod_lt_of_pos _ (by omega)⟩, M.1.mem_iff.mpr (g2 r0 hr0).2⟩
  · cases e
    obtain ⟨q0, h0, e0, pm⟩ := row q hq
    have nd := (F.rl q0 h0).2.2
    have h1 := pm.map fun r : Rul => ((r.1, r.2.1) : Deed)
    rw [List.map_map] at h1
    exact h1.nodup_iff.mpr nd
theorem runs_in {N : Int} {In Tb : Tab} (M : Made N In Tb) {z0 z : Str} {ds : List Deed} (h : Runs (rulesOf Tb) N z0 ds z) : Runs (rulesIn N In) N z0 ds z := by
  obtain ⟨f, f0, f1, f2⟩ := h
  refine ⟨f, f0, f1, fun k d hd => ?_⟩
  obtain ⟨q, hq, e, hr⟩ := f2 k d hd
  obtain ⟨q0, h0, e0, pm⟩ := M.2 q hq
  exact ⟨q0, h0, e0.trans e, pm.mem_iff.mp hr⟩
/-- what the law finds of the plan that is told -/
structure Told (N s : Int) (D : Words) (b : Bool) (o : Option Tab) (ds : List Deed) (m : Nat) : Prop where
  len : ds.length = m
  few : m ≤ 400
  one : AllOne s (liftW N D) ds
  notyet : 0 < m → ¬ AllOne s (liftW N D) (ds.take (m - 1))
  wd : ∀ d ∈ ds, d.1 ∈ D.map (·.1)
  rng : ∀ d ∈ ds, 0 ≤ d.2 ∧ d.2 < N
  run : b = true → ∃ In, o = some In ∧ ∃ z, Runs (rulesIn N In) N "start" ds z
  free : b = false → (m : Int) ≤ s ∧ (∀ d ∈ ds, d.2 < s) ∧ ∀ d, ds[0]? = some d → d.2 = 0
theorem told_zero {N : Int} {D : Words} {b : Bool} {o : Option Tab} (hb : b = true → ∃ In, o = some In) : Told N 1 D b o [] 0 := by
  refine ⟨rfl, by decide, fun x y => by rw [Int.emod_one, Int.emod_one], fun h => absurd h (by decide), fun d hd => (by cases hd), fun d hd => (by cases hd), fun h => ?_, fun _ => ⟨by decide, fun d hd => (by cases hd), fun d hd => (by simp at hd)⟩⟩
  obtain ⟨In, e⟩ := hb h
  exact ⟨In, e, "start", fun _ => "start", rfl, rfl, fun k d hd => (by simp at hd)⟩
theorem told_of {N s : Int} {D : Words} {sp : Str → List Int} {b : Bool} {o oL : Option Tab} {ds : List Deed} {m : Nat} (B : BF N D s sp) (P : PlanF N s D oL ds m) (few : m ≤ 400) (hM : MadeO N o oL) (hb : b = o.isSome) (hf : o = none → (m : Int) ≤ s) : Told N s D b o ds m ∧ (ds.map fun x => ((x.1, x.2 % N) : Deed)) = ds := by
  have lo := B.part.lo
  have sN := B.span.le (show 0 < N by omega)
  have r1 : ∀ d ∈ ds, 0 ≤ d.2 ∧ d.2 < N := fun d hd => by
    have := P.rng d hd
    cases oL with
    | none =>
      have h2 : d.2 < s := this.2
      exact ⟨this.1, by omega⟩
    | some Tb => exact this
  refine ⟨⟨P.len, few, P.one, fun _ => P.notyet, P.wd, r1, fun h => ?_, fun h => ?_⟩, ?_⟩
  · cases o with
    | none => rw [h] at hb; cases hb
    | some In =>
      cases oL with
      | none => cases hM
      | some Tb =>
        obtain ⟨z, hz⟩ := P.run Tb rfl
        exact ⟨In, rfl, z, runs_in hM hz⟩
  · cases o with
    | some In => rw [h] at hb; cases hb
    | none =>
      cases oL with
      | some Tb => cases hM
      | none => exact ⟨hf rfl, fun d hd => (P.rng d hd).2, P.free rfl⟩
  · conv => rhs; rw [← List.map_id ds]
    refine List.map_congr_left fun d hd => ?_
    have := r1 d hd
    show (d.1, d.2 % N) = d
    rw [Int.emod_eq_of_lt this.1 this.2]
end JD
end Part_JGlue2
section Part_JD33
set_option Elab.async false
set_option linter.all false
set_option maxRecDepth 100000
set_option maxHeartbeats 4000000
namespace JD
open PySem PySem.Spec PyProof.Rows L2 JR JX JT LamX
open Evl (Ex)
section
variable {P : Program} {w : World} {K : PySem.W.Frag} {mg : Str → Option Value} {base : Heap}
/-- x in a tuple of data -/
def rInTD (K : PySem.W.Frag) : V → V → Hp → VK → Prop := fun x y H Q => ∃ d ds, Dp K H x d ∧ Dp K H y (.tuple ds) ∧ SeqAt.shaped d = true ∧ SeqAt.shaped (.tuple ds) = true ∧ Q (.bl (ds.any fun z => PyData.eqv z d)) H
theorem op_inTD {X : Cx} (K : PySem.W.Frag) (hu : X.A.units + 65 < cLine) (hK : X.K = K := by rfl) : OpR X (compareOp .In) (rInTD K) := by
  subst hK
  intro pins s σ H x y v u Q I rx ry h
  obtain ⟨d, ds, hd, he, sd, se, q⟩ := h
  obtain ⟨as, r1⟩ := Dp.reads I d x v hd rx
  obtain ⟨bs, r2⟩ := Dp.reads I (.tuple ds) y u he ry
  exact SeqAt.in_tuple_reads r2 r1 (SeqAt.canLay_of_shaped se) (SeqAt.canLay_of_shaped sd) (room_in_shaped sd hu) ⟨.bl _, H, I, rfl, q⟩
theorem sql_move {H H' : Hp} {a : Addr} {xs : List V} (h : SqL K H a xs) (e : Ex H H') : SqL K H' a xs := by
  rcases h with (h | ⟨o, h⟩) | h
  · exact .inl (.inl (e _ _ h))
  · exact .inl (.inr ⟨o, e _ _ h⟩)
  · exact .inr h
/-- what was there before the pool stays -/
theorem wx_old {p : Addr} {H H1 F : Hp} (hp : H p = none) (e : Ex H H1) (x : Wx p PoolOk H1 F) : Ex H F := fun a u h => x.1 a u (ne_of_none h hp) (e a u h)
theorem pairs_wx {p : Addr} {o : HO} {H F : Hp} {d : Addr} {W : Pairs} (h : PairsAt H d W) (hp : H p = some o) (ok : PoolOk o) (e : Wx p PoolOk H F) : PairsAt F d W := by
  obtain ⟨kvs, hd, hP⟩ := h
  obtain ⟨x, y, z, rfl⟩ := ok
  have tu := e.tups hp fun _ z => nomatch z
  refine ⟨kvs, e.1 _ _ (ne_of hd hp fun z => nomatch z) hd, pair_map hP fun a b ⟨g1, r, xs, g2, g3, g4⟩ => ⟨g1, r, xs, g2, e.1 _ _ (fun ez => ?_) g3, g4.keep tu⟩⟩
  rw [ez, hp] at g3
  have e1 := HO.lst.inj (Option.some.inj g3)
  rw [← e1] at g4
  obtain ⟨b0, _, im⟩ := g4.get (i := 0) (x := .int x) rfl
  obtain ⟨_, _, e2, _⟩ := im
  cases e2
theorem pairs_keep {H F : Hp} {d : Addr} {W : Pairs} (h : PairsAt H d W) (e : Ex H F) : PairsAt F d W := by
  obtain ⟨kvs, hd, hP⟩ := h
  exact ⟨kvs, e _ _ hd, pair_map hP fun a b ⟨g1, r, xs, g2, g3, g4⟩ => ⟨g1, r, xs, g2, e _ _ g3, g4.keep (Tups.of e)⟩⟩
theorem RulV.nk {H H' : Hp} {v : V} : ∀ {o : Option Tab}, RulV H v o → Nk H H' → RulV H' v o
  | none, h, _ => h
  | some _, ⟨d, e, h⟩, e2 => ⟨d, e, h.nk e2⟩
theorem ModelAt.nk {N s : Int} {H H' : Hp} {m : Addr} {W : Pairs} (h : ModelAt N s H m W) (e : Nk H H') : ModelAt N s H' m W := by
  obtain ⟨t, r, h1, kvs, h2, h3⟩ := h
  exact ⟨t, r, e _ _ h1 True.intro, kvs, e _ _ h2 True.intro, pair_map h3 fun a b ⟨g1, r, g2, g3⟩ => ⟨g1, r, g2, e _ _ g3 True.intro⟩⟩
theorem PlanAt.keep {H H' : Hp} {p : Addr} {N : Int} {ds : List Deed} (h : PlanAt K H p N ds) (e : Ex H H') : PlanAt K H' p N ds := by
  obtain ⟨dx, q, ys, h1, h2, h3⟩ := h
  exact ⟨dx, q, ys, e _ _ h1, e _ _ h2, h3.keep (Tups.of e)⟩
/-- behind the draws -/
def Mid1 (K : PySem.W.Frag) (a : Addr) (σ : L2.St) (F : Hp) : Prop := ∃ (p0 d wl : Addr) (N : Int) (b : Bool) (W : Pairs) (v : V) (o : Option Tab),
  σ = [some (.ref a), some (.ref p0), some (.bl b), some (.int N), some (.ref d), some (.ref wl), some v, none, none, none, none, none, none, none, none, none] ∧ 2 ≤ N ∧ N ≤ 360 ∧ (b = false → N ≤ 64) ∧ PairsAt F d W ∧ WorldF N W ∧ F wl = some (.lst ((W.map (·.1)).map V.str)) ∧
  RulV F v o ∧ b = o.isSome ∧ (∀ In, o = some In → InF N In ∧ ∀ q ∈ In, ∀ r ∈ q.2, r.1 ∈ W.map (·.1)) ∧ Tabs (tabsJ K) F
/-- what is told -/
inductive Ans (K : PySem.W.Frag) (F : Hp) (N s : Int) (D : Words) (b : Bool) (o : Option Tab) (l : Addr) : V → Prop
  | non (hb : b = true) (h : F l = some (.lst [.str "none", .bl true])) : Ans K F N s D b o l .non
  | many {m : Nat} (hb : b = true) (hm : 400 < m) (h : F l = some (.lst [.str "many", .int 400])) : Ans K F N s D b o l (.int (m : Int))
  | plan {m : Nat} {p : Addr} {ds : List Deed} (h : F l = some (.lst [.str "plan", .ref p])) (pl : PlanAt K F p N ds) (t : Told N s D b o ds m) : Ans K F N s D b o l (.int (m : Int))
def Mid2 (K : PySem.W.Frag) (a : Addr) (σ : L2.St) (F : Hp) : Prop := ∃ (p0 d wl pa mo l : Addr) (N s : Int) (b : Bool) (W : Pairs) (D : Words) (sp : Str → List Int) (v v' lv : V) (o : Option Tab),
  σ = [some (.ref a), some (.ref p0), some (.bl b), some (.int N), some (.ref d), some (.ref wl), some v, some (.ref pa), some v', some (.ref mo), some lv, some (.ref l), none, none, none, none] ∧ 2 ≤ N ∧ N ≤ 360 ∧ WorldF N W ∧ F wl = some (.lst ((W.map (·.1)).map V.str)) ∧
  RulV F v o ∧ (∀ In, o = some In → InF N In) ∧ (b = false → o = none) ∧ (D.map fun q => (q.1, q.2.rows)) = W ∧ BF N D s sp ∧ ModelAt N s F mo W ∧ Ans K F N s D b o l lv
/-- behind the least length -/
def LeastV (N : Int) (D : Words) (s : Int) (sp : Str → List Int) (oL : Option Tab) (lv : V) : Prop := (s = 1 ∧ lv = .int 0) ∨ (s ≠ 1 ∧ ∃ fs St ns L, CutG N D s sp oL fs St ns L ∧ ((cntsOf L (stsOf sp fs) = [] ∧ lv = .non) ∨ ∃ m ∈ cntsOf L (stsOf sp fs), (∀ y ∈ cntsOf L (stsOf sp fs), m ≤ y) ∧ lv = .int (m : Int)))
def MidL (K : PySem.W.Frag) (a : Addr) (σ : L2.St) (F : Hp) : Prop := ∃ (p0 d wl pa mo : Addr) (N s : Int) (b : Bool) (W : Pairs) (D : Words) (sp : Str → List Int) (v v' lv : V) (o oL : Option Tab),
  σ = [some (.ref a), some (.ref p0), some (.bl b), some (.int N), some (.ref d), some (.ref wl), some v, some (.ref pa), some v', some (.ref mo), some lv, none, none, none, none, none] ∧ 2 ≤ N ∧ N ≤ 360 ∧ (b = false → N ≤ 64) ∧ WorldF N W ∧ F wl = some (.lst ((W.map (·.1)).map V.str)) ∧
  RulV F v o ∧ b = o.isSome ∧ (∀ In, o = some In → InF N In) ∧ MadeO N o oL ∧ (D.map fun q => (q.1, q.2.rows)) = W ∧ Ask K F pa v' N D s sp oL ∧ ModelAt N s F mo W ∧ LeastV N D s sp oL lv
def sp_law (K : PySem.W.Frag) : Sp := fun vs H Q _ => ∃ (a : Addr) (ns : List Int), vs = [.ref a] ∧ SqL K H a (ns.map V.int) ∧ Tabs (tabsJ K) H ∧ ∀ H', Q (.bl true) H'
abbrev N_law : List Str := ["_law_script", "_law_sizes", "_law_limited", "_law_around", "_law_pairs", "_law_words", "_law_rules_here", "_law_part_here", "_law_let_here", "_law_model_here", "_law_least", "_law_told", "_law_deeds", "_law_counts_here", "_law_turns", "_law_deed"]
theorem sc_law : FnScope N_law ["_law_script"] (defScope s_law) := ⟨rfl, rfl, rfl, by decide +kernel, rfl, by decide +kernel, by decide +kernel⟩
theorem ok_law {fd : FuncData} (TB : TabB base mg (He.cT K lamAt).1 (He.cT K lamAt).2) (T : Txt K mg) (F : FnD K "law" "law" s_law [] (He.ga K "law") fd) : FnOk P w K mg base CX0 13 (He.ga K "law") fd ["_law_script"] (sp_law K) := by
  obtain ⟨fd_law_pool, G_law_pool, kp_law_pool, b_law_pool⟩ := ok_law_pool (P := P) (w := w) (base := base) T
  obtain ⟨fd_law_draw, G_law_draw, kp_law_draw, b_law_draw⟩ := ok_law_draw (P := P) (w := w) (base := base) T
  obtain ⟨fd_law_world, G_law_world, kp_law_world, b_law_world⟩ := ok_law_world (P := P) (w := w) (base := base) T
  obtain ⟨fd_law_rules, G_law_rules, kp_law_rules, b_law_rules⟩ := ok_law_rules (P := P) (w := w) (base := base) T
  obtain ⟨fd_law_part, G_law_part, kp_law_part, b_law_part⟩ := ok_law_part (P := P) (w := w) (base := base) T
  obtain ⟨fd_law_let, G_law_let, kp_law_let, b_law_let⟩ := ok_law_let (P := P) (w := w) (base := base) T
  obtain ⟨fd_law_model, G_law_model, kp_law_model, b_law_model⟩ := ok_law_model (P := P) (w := w) (base := base) T
  obtain ⟨fd_least_length, G_least_length, kp_least_length, b_least_length⟩ := ok_least_length (P := P) (w := w) (base := base) TB T
  obtain ⟨fd_law_asked, G_law_asked, kp_law_asked, b_law_asked⟩ := ok_law_asked (P := P) (w := w) (base := base) TB T
  obtain ⟨fd_law_is_plan, G_law_is_plan, kp_law_is_plan, b_law_is_plan⟩ := ok_law_is_plan (P := P) (w := w) (base := base) T
  obtain ⟨fd_law_counts, G_law_counts, kp_law_counts, b_law_counts⟩ := ok_law_counts (P := P) (w := w) (base := base) T
  obtain ⟨fd_law_is_let, G_law_is_let, kp_law_is_let, b_law_is_let⟩ := ok_law_is_let (P := P) (w := w) (base := base) T
  refine F.ok sc_law (fun vs H Q E h => ?_) (fun cdv A outer s H vs Q E hr h => ?_)
  · obtain ⟨a, ns, rfl, hS, hT, k⟩ := h
    rfl
  have hu := hu_of hr
  have nd := sc_law.nd
  obtain ⟨a, ns, rfl, hS, hT, k⟩ := h
  refine ⟨_, (PSs.nox (pss_cons (ps_set (i := 1) nd rfl (by first | exact Or.inl rfl | exact Or.inr rfl) (pe_call G_law_pool (hr.mono (by decide)) rfl T.g_law_pool kp_law_pool b_law_pool .nil pass0 (pa_cons (pv 0) (pa_cons pe_int pa_nil))))
  (pss_cons (ps_set (i := 2) nd rfl (by first | exact Or.inl rfl | exact Or.inr rfl) (pe_cmpR op_gt (pe_call G_law_draw (hr.mono (by decide)) rfl T.g_law_draw kp_law_draw b_law_draw .nil pass0 (pa_cons (pv 1) (pa_cons pe_int pa_nil))) pe_int (nomark _)))
  (pss_cons (ps_set (i := 3) nd rfl (by first | exact Or.inl rfl | exact Or.inr rfl) (pe_op op_add pe_int (pe_call G_law_draw (hr.mono (by decide)) rfl T.g_law_draw kp_law_draw b_law_draw .nil pass0 (pa_cons (pv 1) (pa_cons (pe_op op_add pe_int (pe_op op_mul pe_int (pe_callTy call_int1 (by rfl) T.b_int rfl (pa_cons (pv 2) pa_nil)))) pa_nil)))))
  (pss_cons (ps_set (i := 4) nd rfl (by first | exact Or.inl rfl | exact Or.inr rfl) (pe_call G_law_world (hr.mono (by decide)) rfl T.g_law_world kp_law_world b_law_world .nil pass0 (pa_cons (pe_call G_law_pool (hr.mono (by decide)) rfl T.g_law_pool kp_law_pool b_law_pool .nil pass0 (pa_cons (pv 0) (pa_cons pe_int pa_nil))) (pa_cons (pv 3) (pa_cons pe_int pa_nil)))))
  (pss_cons (ps_set (i := 5) nd rfl (by first | exact Or.inl rfl | exact Or.inr rfl) (pe_callB (cr_sortedE shape_str hr.units) (by rfl) T.b_sorted rfl (pa_cons (pe_callTy (call_list_dK rfl) (by rfl) T.b_list rfl (pa_cons (pv 4) pa_nil)) pa_nil)))
  (pss_cons (ps_set (i := 6) nd rfl (by first | exact Or.inl rfl | exact Or.inr rfl) (pe_call G_law_rules (hr.mono (by decide)) rfl T.g_law_rules kp_law_rules b_law_rules .nil pass0 (pa_cons (pe_call G_law_pool (hr.mono (by decide)) rfl T.g_law_pool kp_law_pool b_law_pool .nil pass0 (pa_cons (pv 0) (pa_cons pe_int pa_nil))) (pa_cons (pv 3) (pa_cons (pv 5) (pa_cons (pe_op op_add pe_int (pe_call G_law_draw (hr.mono (by decide)) rfl T.g_law_draw kp_law_draw b_law_draw .nil pass0 (pa_cons (pv 1) (pa_cons pe_int pa_nil)))) (pa_cons pe_int pa_nil)))))))
  (Evl.pss_cut (ps_if (pt_not (pt_val (pv 2))) (pss_one (ps_set (i := 6) nd rfl (by first | exact Or.inl rfl | exact Or.inr rfl) pe_non)) pss_nil)
  (pss_cons (ps_set (i := 7) nd rfl (by first | exact Or.inl rfl | exact Or.inr rfl) (pe_call G_law_part (hr.mono (by decide)) rfl T.g_law_part kp_law_part b_law_part .nil pass0 (pa_cons (pv 4) (pa_cons (pv 3) pa_nil))))
  (pss_cons (ps_set (i := 8) nd rfl (by first | exact Or.inl rfl | exact Or.inr rfl) (pe_call G_law_let (hr.mono (by decide)) rfl T.g_law_let kp_law_let b_law_let .nil pass0 (pa_cons (pv 6) (pa_cons (pv 3) pa_nil))))
  (pss_cons (ps_set (i := 9) nd rfl (by first | exact Or.inl rfl | exact Or.inr rfl) (pe_call G_law_model (hr.mono (by decide)) rfl T.g_law_model kp_law_model b_law_model .nil pass0 (pa_cons (pv 4) (pa_cons (pv 3) pa_nil))))
  (Evl.pss_cut (ps_set (i := 10) nd rfl (by first | exact Or.inl rfl | exact Or.inr rfl) (pe_call G_least_length (hr.mono (by decide)) rfl T.g_least_length kp_least_length b_least_length .nil pass0 (pa_cons (pv 7) (pa_cons (pv 8) pa_nil))))
  (Evl.pss_cut (ps_set (i := 11) nd rfl (by first | exact Or.inl rfl | exact Or.inr rfl) (pe_call G_law_asked (hr.mono (by decide)) rfl T.g_law_asked kp_law_asked b_law_asked .nil pass0 (pa_cons (pv 7) (pa_cons (pv 8) pa_nil))))
  (pss_cons (ps_if (pt_cmpR op_isN (pv 10) pe_non (nomark _)) (pss_one (ps_ret (pe_and (pv 2) (pe_one (pe_cmpR (op_eqDK K hr.units) (pv 11) (pe_lst (pa_cons pe_str (pa_cons pe_bl pa_nil))) (nomark _)))))) pss_nil)
  (pss_cons (ps_if (PW.pt (pw_or (pt_not (pt_val (pe_callB call_isi (by rfl) T.b_isinstance rfl (pa_cons (pv 10) (pa_cons (pe_bltn (v := .ty "int") rfl T.b_int rfl rfl) pa_nil))))) (pw_or1 (pt_val (pe_callB call_isi (by rfl) T.b_isinstance rfl (pa_cons (pv 10) (pa_cons (pe_bltn (v := .ty "bool") rfl T.b_bool rfl rfl) pa_nil))))))) (pss_one (ps_ret pe_bl)) pss_nil)
  (pss_cons (ps_if (pt_cmpR op_gt (pv 10) pe_int (nomark _)) (pss_one (ps_ret (pe_and (pv 2) (pe_one (pe_cmpR (op_eqDK K hr.units) (pv 11) (pe_lst (pa_cons pe_str (pa_cons pe_int pa_nil))) (nomark _)))))) pss_nil)
  (pss_cons (ps_if (PW.pt (pw_or (pt_cmpR op_ne (pe_ix (ix_listK K) (pv 11) pe_int (fun _ _ => rfl)) pe_str (nomark _)) (pw_or1 (pt_not (pt_val (pe_call G_law_is_plan (hr.mono (by decide)) rfl T.g_law_is_plan kp_law_is_plan b_law_is_plan .nil pass0 (pa_cons (pe_ix (ix_listK K) (pv 11) pe_int (fun _ _ => rfl)) (pa_cons (pv 3) (pa_cons (pv 5) pa_nil))))))))) (pss_one (ps_ret pe_bl)) pss_nil)
  (pss_cons (ps_set (i := 12) nd rfl (by first | exact Or.inl rfl | exact Or.inr rfl) (pe_callTy call_list_of (by rfl) T.b_list rfl (pa_cons (pe_fldK K (pe_ix (ix_listK K) (pv 11) pe_int (fun _ _ => rfl)) rfl) pa_nil)))
  (pss_cons (ps_set (i := 13) nd rfl (by first | exact Or.inl rfl | exact Or.inr rfl) (pe_call G_law_counts (hr.mono (by decide)) rfl T.g_law_counts kp_law_counts b_law_counts .nil pass0 (pa_cons (pv 9) (pa_cons (pv 12) pa_nil))))
  (pss_cons (ps_if (PW.pt (pw_or (pt_cmpR op_ne (pe_callB call_len_seq (by rfl) T.b_len rfl (pa_cons (pv 12) pa_nil)) (pv 10) (nomark _)) (pw_or (pt_cmpR op_ne (pe_ix (ix_listK K) (pv 13) (pv 10) (fun _ _ => rfl)) pe_int (nomark _)) (pw_or1 (PW.pt (pw_and (pt_cmpR op_gt (pv 10) pe_int (nomark _)) (pw_and1 (pt_cmpR op_eq (pe_ix (ix_listK K) (pv 13) (pe_op op_sub (pv 10) pe_int) (fun _ _ => rfl)) pe_int (nomark _))))))))) (pss_one (ps_ret pe_bl)) pss_nil)
  (Evl.pss_cut (ps_if (pt_not (pt_val (pv 2))) (pss_cons (ps_setLc (i := 14) (own := [("_law_deed", 15)]) (g := (gName 15)) (tt := tYes) rfl nd rfl rfl (sw_true rfl rfl rfl (by decide +kernel)) (pi_listK K (pv 12)) (blkOk_by (N := N_law) (sc := defScope s_law) (by decide +kernel)) (fun _ _ _ _ _ => (pg_name (i := 15) nd rfl (by first | exact Or.inl rfl | exact Or.inr rfl))) (fun _ _ _ _ _ => pts_nil) (fun _ _ _ _ _ => (pe_ix (ix_tupK K) (pv 15) pe_int (fun _ _ => rfl))))
  (pss_one (ps_ret (pe_and (pe_cmpR op_le (pv 10) (pe_dget hu (pv 9) pe_str (fun _ _ => rfl)) (nomark _)) (pe_and (pe_cmpR op_lt (pe_callB (cr_max rfl) (by rfl) T.b_max rfl (pa_cons (pe_op op_cat (pe_lst (pa_cons pe_int pa_nil)) (pv 14)) pa_nil)) (pe_dget hu (pv 9) pe_str (fun _ _ => rfl)) (nomark _)) (pe_one (pe_cmpR (op_inTD K (units65 hr)) (pe_slice sl_list (pv 14) po_none (po_some pe_int)) (pe_tup (pa_cons (pe_lst pa_nil) (pa_cons (pe_lst (pa_cons pe_int pa_nil)) pa_nil))) rfl))))))) pss_nil)
  (pss_one (ps_ret (pe_call G_law_is_let (hr.mono (by decide)) rfl T.g_law_is_let kp_law_is_let b_law_is_let .nil pass0 (pa_cons (pv 6) (pa_cons (pv 3) (pa_cons (pv 12) pa_nil))))))))))))))))))))))))))), ?_⟩
  refine ⟨_, rfl, a, 0, ns, rfl, hS, fun p0 o0 ok0 hp0 => ?_⟩
  obtain ⟨H1, eH1⟩ : ∃ H1, H1 = upd H p0 o0 := ⟨_, rfl⟩
  have e1 : Ex H H1 := by rw [eH1]; exact ex_new hp0
  have h1p : H1 p0 = some o0 := by rw [eH1]; exact upd_same
  rw [← eH1]
  refine ⟨_, rfl, p0, 4, o0, rfl, by decide, by decide, h1p, ok0, fun c H2 c0 c1 w2 => ?_⟩
  refine ⟨_, _, rfl, rfl, ?_⟩
  obtain ⟨b, eb⟩ : ∃ b, b = decide (c > 0) := ⟨_, rfl⟩
  show gName 2 (V.bl (decide (c > 0))) _ _ _
  rw [← eb]
  -- around
  obtain ⟨oa, hpa, oka⟩ := w2.2 ⟨o0, h1p, ok0⟩
  refine ⟨_, rfl, _, rfl, .inr ⟨b, rfl, _, _, rfl, rfl, .inl ⟨by decide, by decide⟩, _, _, rfl, rfl, p0, 63 + 296 * (if b = true then 1 else 0), oa, rfl, ?_, ?_, hpa, oka, fun z H3 z0 z1 w3 => ?_⟩⟩
  · split <;> decide
  · split <;> decide
  refine ⟨_, _, rfl, rfl, ?_⟩
  obtain ⟨N, eN⟩ : ∃ N, N = 2 + z := ⟨_, rfl⟩
  show gName 3 (V.int (2 + z)) _ _ _
  rw [← eN]
  have n2 : 2 ≤ N := by omega
  have n3 : N ≤ 360 := by
    split at z1 <;> omega
  have n4 : b = false → N ≤ 64 := fun h => by
    rw [h] at z1
    rw [if_neg Bool.false_ne_true] at z1
    omega
  have w13 := w2.trans w3
  have eH3 : Ex H H3 := wx_old hp0 e1 w13
  obtain ⟨ob, h3p, okb⟩ := w13.2 ⟨o0, h1p, ok0⟩
  -- the world
  refine ⟨_, rfl, a, 1, ns, rfl, sql_move hS eH3, fun p1 o1 ok1 hp1 => ⟨_, rfl, p1, N, o1, rfl, upd_same, ok1, n2, n3, fun H5 d W w5 ndp PW WF => ?_⟩⟩
  have e35 : Ex H3 H5 := wx_old hp1 (ex_new hp1) w5
  -- the words
  obtain ⟨kvs, hd, hP⟩ := id PW
  refine ⟨_, rfl, d, kvs, rfl, hd, fun q hq => ?_⟩
  rw [keys_kV (pair_keys (R := PrR H5) (fun _ _ h => h.1) hP)]
  refine ⟨q, _, W.map (·.1), rfl, SqL.of upd_same, Ls.strs _, fun zs nw wl pm so hns hwl0 => ?_⟩
  obtain rfl := ws_sorted WF.ws pm so
  have zz := Ls.strs_eq hns
  rw [zz]
  obtain ⟨H7, eH7⟩ : ∃ H7, H7 = upd (upd H5 q (.lst ((W.map (·.1)).map V.str))) wl (.lst ((W.map (·.1)).map V.str)) := ⟨_, rfl⟩
  have e57 : Ex H5 H7 := by rw [eH7]; exact (ex_new hq).trans (ex_new hwl0)
  have h7w : H7 wl = some (.lst ((W.map (·.1)).map V.str)) := by rw [eH7]; exact upd_same
  have e37 := e35.trans e57
  have nwp : wl ≠ p0 := fun z => by
    rw [z, upd_ne (ne_of_none (e35 _ _ h3p) hq), e35 _ _ h3p] at hwl0
    cases hwl0
  rw [← eH7]
  -- the rules
  have h7p := e37 _ _ h3p
  refine ⟨_, rfl, a, 2, ns, rfl, sql_move hS (eH3.trans e37), fun p2 o2 ok2 hp2 => ⟨_, rfl, _, rfl, _, rfl, p0, 5, ob, rfl, by decide, by decide, (ex_new hp2) _ _ h7p, okb, fun t H9 t0 t1 w9 => ⟨_, _, rfl, rfl, ?_⟩⟩⟩
  obtain ⟨ti, rfl⟩ := Int.eq_ofNat_of_zero_le t0
  have e78 : Ex H7 (upd H7 p2 o2) := ex_new hp2
  have n2p : p2 ≠ p0 := fun z => by rw [z, h7p] at hp2; cases hp2
  have h92 := w9.1 _ _ n2p upd_same
  have h9w := w9.1 _ _ nwp (e78 _ _ h7w)
  have hp20 : H p2 = none := Evl.fresh_back (eH3.trans e37) hp2
  have e09 : Ex H H9 := wx_old hp0 ((eH3.trans e37).trans e78) w9
  have P9 : PairsAt H9 d W := pairs_wx (pairs_keep PW (e57.trans e78)) (e78 _ _ h7p) okb w9
  have wsf : W.map (·.1) ≠ [] ∧ (W.map (·.1)).length ≤ 2 ∧ ∀ x ∈ W.map (·.1), IsW x := by
    rcases WF.ws with e | e | e <;> rw [e]
    · exact ⟨(fun z => nomatch z), by decide, fun x hx => by rw [List.mem_singleton.mp hx]; exact .inl rfl⟩
    · exact ⟨(fun z => nomatch z), by decide, fun x hx => by rw [List.mem_singleton.mp hx]; exact .inr rfl⟩
    · refine ⟨(fun z => nomatch z), by decide, fun x hx => ?_⟩
      rcases List.mem_cons.mp hx with rfl | hx
      · exact .inl rfl
      · rw [List.mem_singleton.mp hx]; exact .inr rfl
  refine ⟨p2, wl, N, W.map (·.1), o2, 1 + ti, (by show [_, _, _, V.int (1 + (ti : Int)), _] = _; rw [show (1 : Int) + (ti : Int) = ((1 + ti : Nat) : Int) by omega]), h92, ok2, n2, n3, h9w, wsf.1, wsf.2.1, wsf.2.2, by omega, by omega, fun H10 dr In w10 TA IF iw => ?_⟩
  have nw2 : wl ≠ p2 := fun z => by rw [z] at h7w; rw [h7w] at hp2; cases hp2
  have P10 : PairsAt H10 d W := pairs_wx P9 h92 ok2 w10
  have T10 : Tabs (tabsJ K) H10 := hT.ext (wx_old hp20 e09 w10)
  have h10w := w10.1 _ _ nw2 h9w
  refine ⟨Mid1 K a, ?_, ?_⟩
  · refine ⟨_, rfl, b, rfl, ?_⟩
    cases b with
    | false => exact iteT ⟨p0, d, wl, N, false, W, .non, none, rfl, n2, n3, n4, P10, WF, h10w, rfl, rfl, (fun In e => (by cases e)), T10⟩
    | true => exact iteF ⟨p0, d, wl, N, true, W, .ref dr, some In, rfl, n2, n3, n4, P10, WF, h10w, ⟨dr, rfl, TA⟩, rfl, (fun In' e => (by cases e; exact ⟨IF, iw⟩)), T10⟩
  clear hS hT
  rintro σ F ⟨p0, d, wl, N, b, W, v, o, rfl, n2, n3, n4, PW, WF, hwl, RV, eb, hIn, TF⟩
  -- part, machine
  refine ⟨_, rfl, _, rfl, d, N, W, rfl, PW, WF, n2, n3, fun F1 pa D e1 PA PF eD => ?_⟩
  refine ⟨_, rfl, _, rfl, v, N, o, rfl, RV.keep e1, fun In e => (hIn In e).1, fun F2 v' oL e2 LV MO => ?_⟩
  obtain ⟨s, sp, B, few⟩ := bf_of PF
  have eW : D.map (·.1) = W.map (·.1) := by rw [← eD, List.map_map]; rfl
  have S : IsSpan N (W.map (·.2)) s := by
    have : W.map (·.2) = D.map (·.2.rows) := by rw [← eD, List.map_map]; rfl
    rw [this]
    exact B.span
  refine ⟨_, rfl, _, rfl, d, N, s, W, rfl, pairs_keep PW (e1.trans e2), WF, n2, n3, S, fun F3 mo e3 MA => ?_⟩
  have e123 := (e1.trans e2).trans e3
  have hLF : (∀ Tb, oL = some Tb → LetF N D Tb) ∧ LetN oL := by
    cases oL with
    | none => exact ⟨fun Tb e => (by cases e), fun Tb e => (by cases e)⟩
    | some Tb =>
      cases o with
      | none => cases MO
      | some In =>
        have h := letf_of (D := D) (hIn In rfl).1 (by rw [eW]; exact (hIn In rfl).2) MO
        exact ⟨fun Tb' e => (by cases e; exact h.1), h.2⟩
  have A0 : Ask K F3 pa v' N D s sp oL := ⟨PA.keep (e2.trans e3), B, few, LV.keep e3, hLF.1, hLF.2, TF.ext e123⟩
  have hwl3 := e123 _ _ hwl
  have RV3 := RV.keep e123
  refine ⟨MidL K a, ?_, ?_⟩
  · have fin : ∀ {F4 : Hp} {lv : V}, ExtT K F3 F4 → LeastV N D s sp oL lv → MidL K a [some (.ref a), some (.ref p0), some (.bl b), some (.int N), some (.ref d), some (.ref wl), some v, some (.ref pa), some v', some (.ref mo), some lv, none, none, none, none, none] F4 := fun {F4 lv} x lf => by
      have nk := Nk.extN x.1
      exact ⟨p0, d, wl, pa, mo, N, s, b, W, D, sp, v, v', lv, o, oL, rfl, n2, n3, n4, WF, nk _ _ hwl3 True.intro, RV3.nk nk, eb, fun In e => (hIn In e).1, MO, eD, ⟨A0.part.nk nk, B, few, A0.letv.nk nk, hLF.1, hLF.2, x.2⟩, MA.nk nk, lf⟩
    exact ⟨_, rfl, _, rfl, pa, v', N, D, s, sp, oL, rfl, A0, fun h1 F4 x4 => fin x4 (.inl ⟨h1, rfl⟩), fun h1 fs St ns L C => ⟨fun h0 F4 x4 => fin x4 (.inr ⟨h1, fs, St, ns, L, C, .inl ⟨h0, rfl⟩⟩), fun m hm hle F4 x4 => fin x4 (.inr ⟨h1, fs, St, ns, L, C, .inr ⟨m, hm, hle, rfl⟩⟩)⟩⟩
  clear A0 hwl3 RV3 hLF MA e123 e3 S eW few B LV MO e2 PF PA e1 TF hIn RV hwl PW n4 eD WF eb
  rintro σ F ⟨p0, d, wl, pa, mo, N, s, b, W, D, sp, v, v', lv, o, oL, rfl, n2, n3, n4, WF, hwl, RV, eb, hIn, MO, eD, A0, MA, LE⟩
  have B := A0.bf
  have sN := B.span.le (show 0 < N by omega)
  have bo : b = false → o = none ∧ oL = none := fun h => by
    cases o with
    | some In => rw [h] at eb; cases eb
    | none =>
      cases oL with
      | none => exact ⟨rfl, rfl⟩
      | some Tb => cases MO
  have bs : b = true → ∃ In, o = some In := fun h => by
    cases o with
    | none => rw [h] at eb; cases eb
    | some In => exact ⟨In, rfl⟩
  refine ⟨Mid2 K a, ?_, ?_⟩
  · have fin : ∀ {F4 : Hp} {l : Addr}, ExtT K F F4 → Ans K F4 N s D b o l lv → Mid2 K a [some (.ref a), some (.ref p0), some (.bl b), some (.int N), some (.ref d), some (.ref wl), some v, some (.ref pa), some v', some (.ref mo), some lv, some (.ref l), none, none, none, none] F4 := fun {F4 l} x an => by
      have nk := Nk.extN x.1
      exact ⟨p0, d, wl, pa, mo, l, N, s, b, W, D, sp, v, v', lv, o, rfl, n2, n3, WF, nk _ _ hwl True.intro, RV.nk nk, hIn, fun h => (bo h).1, eD, B, MA.nk nk, an⟩
    refine ⟨_, rfl, _, rfl, pa, v', N, D, s, sp, oL, rfl, A0, fun h1 F4 p l x4 pl hl => ?_, fun h1 fs' St' ns' L' C' => ⟨fun h0' F4 l x4 hl => ?_, fun m' hm' hle' => ⟨fun g F4 l x4 hl => ?_, fun g F4 p l ds n x4 a1 a2 a3 a4 pl hl => ?_⟩⟩⟩
    · rcases LE with ⟨_, rfl⟩ | ⟨h2, _⟩
      · refine fin x4 (.plan (m := 0) hl pl ?_)
        rw [h1]
        exact told_zero bs
      · exact absurd h1 h2
    · rcases LE with ⟨h2, _⟩ | ⟨_, fs, St, ns, L, C, ⟨h0, rfl⟩ | ⟨m, hm, _⟩⟩
      · exact absurd h2 h1
      · refine fin x4 (.non ?_ hl)
        cases b with
        | true => rfl
        | false =>
          obtain ⟨c, hc, _⟩ := free_least B A0.letf C (bo rfl).2
          rw [h0] at hc
          cases hc
      · have := cnts_nil B A0.letf C' C h0'
        rw [this] at hm
        cases hm
    · rcases LE with ⟨h2, _⟩ | ⟨_, fs, St, ns, L, C, ⟨h0, rfl⟩ | ⟨m, hm, hle, rfl⟩⟩
      · exact absurd h2 h1
      · have := cnts_nil B A0.letf C C' h0
        rw [this] at hm'
        cases hm'
      · obtain rfl := cnts_min B A0.letf C C' hm hle hm' hle'
        refine fin x4 (.many ?_ g hl)
        cases b with
        | true => rfl
        | false =>
          obtain ⟨c, hc, hcs⟩ := free_least B A0.letf C (bo rfl).2
          have := hle c hc
          have := n4 rfl
          omega
    · rcases LE with ⟨h2, _⟩ | ⟨_, fs, St, ns, L, C, ⟨h0, rfl⟩ | ⟨m, hm, hle, rfl⟩⟩
      · exact absurd h2 h1
      · have := cnts_nil B A0.letf C C' h0
        rw [this] at hm'
        cases hm'
      · obtain rfl := cnts_min B A0.letf C C' hm hle hm' hle'
        have PFa := plan_ok B A0.letf C' h1 hm' hle' a1 a2 a3
        obtain ⟨TD, em⟩ := told_of (b := b) B PFa g MO eb fun e => by
          have h := (bo (by rw [eb, e]; rfl)).2
          obtain ⟨c, hc, hcs⟩ := free_least B A0.letf C h
          have := hle c hc
          omega
        rw [em] at pl
        exact fin x4 (.plan hl pl TD)
  clear LE A0 MA RV hwl hIn MO eD n4 eb bo bs WF sN B
  rintro σ F ⟨p0, d, wl, pa, mo, l, N, s, b, W, D, sp, v, v', lv, o, rfl, n2, n3, WF, hwl, RV, hIn, hbo, eD, B, MA, AN⟩
  have sN := B.span.le (show 0 < N by omega)
  have s0 := B.span.pos
  cases AN with
  | non hb h =>
    subst hb
    refine ⟨_, rfl, rfl, _, rfl, iteT ⟨_, rfl, true, rfl, _, rfl, (by show 2 ≤ sizeLine; decide), fun q hq => ?_⟩⟩
    have e := ex_new (o := .lst [.str "none", .bl true]) hq
    refine ⟨.list [.str "none", .bool true], .list [.str "none", .bool true], .lst (SqL.of (e _ _ h)) (.cons (.str _) (.cons (.bl _) .nil)), .lst (SqL.of upd_same) (.cons (.str _) (.cons (.bl _) .nil)), by decide +kernel, by decide +kernel, ?_⟩
    rw [show PyData.eqv (.list [.str "none", .bool true]) (.list [.str "none", .bool true]) = true by decide +kernel]
    exact k _
  | @many m hb hm h =>
    subst hb
    refine ⟨_, rfl, rfl, _, rfl, iteF ?_⟩
    refine ⟨_, rfl, .int (m : Int), .ty "int", _, _, true, rfl, .ty _, .base (.int _), kit_ty (by decide +kernel), true, rfl, iteF ⟨_, rfl, .int (m : Int), .ty "bool", _, _, false, rfl, .ty _, .base (.int _), kit_ty (by decide +kernel), false, rfl, iteF ?_⟩⟩
    refine ⟨_, rfl, _, _, rfl, rfl, _, rfl, ?_⟩
    rw [decide_eq_true (show (400 : Int) < (m : Int) by omega)]
    refine iteT ⟨_, rfl, true, rfl, _, rfl, (by show 2 ≤ sizeLine; decide), fun q hq => ?_⟩
    have e := ex_new (o := .lst [.str "many", .int 400]) hq
    refine ⟨.list [.str "many", .int 400], .list [.str "many", .int 400], .lst (SqL.of (e _ _ h)) (.cons (.str _) (.cons (.int _) .nil)), .lst (SqL.of upd_same) (.cons (.str _) (.cons (.int _) .nil)), by decide +kernel, by decide +kernel, ?_⟩
    rw [show PyData.eqv (.list [.str "many", .int 400]) (.list [.str "many", .int 400]) = true by decide +kernel]
    exact k _
  | @plan m p ds h pl t =>
    have few := t.few
    refine ⟨_, rfl, rfl, _, rfl, iteF ?_⟩
    refine ⟨_, rfl, .int (m : Int), .ty "int", _, _, true, rfl, .ty _, .base (.int _), kit_ty (by decide +kernel), true, rfl, iteF ⟨_, rfl, .int (m : Int), .ty "bool", _, _, false, rfl, .ty _, .base (.int _), kit_ty (by decide +kernel), false, rfl, iteF ?_⟩⟩
    refine ⟨_, rfl, _, _, rfl, rfl, _, rfl, ?_⟩
    rw [decide_eq_false (show ¬ (400 : Int) < (m : Int) by omega)]
    have eW : D.map (·.1) = W.map (·.1) := by rw [← eD, List.map_map]; rfl
    have wd : ∀ d ∈ ds, d.1 ∈ W.map (·.1) := fun d hd => by rw [← eW]; exact t.wd d hd
    have hsq : SqL K F l [.str "plan", .ref p] := SqL.of h
    refine iteF ?_
    refine ⟨_, rfl, l, _, _, _, rfl, rfl, hsq, atI_nat (j := 0) rfl, rfl, false, (by decide +kernel), iteF ?_⟩
    refine ⟨_, rfl, l, _, _, _, rfl, rfl, hsq, atI_nat (j := 1) rfl, _, rfl, _, rfl, p, wl, N, W.map (·.1), ds, rfl, pl, hwl, wd, t.rng, true, rfl, iteF ?_⟩
    obtain ⟨dx, q, ys, hp, hq, hl⟩ := id pl
    refine ⟨_, rfl, l, _, _, _, rfl, rfl, hsq, atI_nat (j := 1) rfl, p, _, dx, _, _, rfl, hp, T.c_Plan, T.n_Plan_deeds, plf_d _ _, q, ys, rfl, .inr (SqT.of hq), fun dl hdl => ?_⟩
    have e1 : Ex F (upd F dl (.lst ys)) := ex_new hdl
    obtain ⟨F1, eF1⟩ : ∃ F1, F1 = upd F dl (.lst ys) := ⟨_, rfl⟩
    have h1d : F1 dl = some (.lst ys) := by rw [eF1]; exact upd_same
    rw [← eF1] at e1 ⊢
    have hl1 : Ls F1 encDeed ys ds := hl.keep (Tups.of e1)
    have ly := hl.len
    have nd0 : (D.map (·.1)).Nodup := by rcases B.part.ws with e | e | e <;> rw [e] <;> decide
    have hG : ∀ q ∈ W, liftW N D q.1 = lifted N q.2 := fun q hq => by
      rw [← eD] at hq
      obtain ⟨q', hq', rfl⟩ := List.mem_map.mp hq
      show lifted N (rowsOfW D q'.1) = lifted N q'.2.rows
      rw [rowsOfW_mem nd0 hq']
    refine ⟨_, rfl, _, rfl, mo, dl, N, s, W, ys, ds, liftW N D, sp, rfl, MA.keep e1, WF, n2, n3, sN, h1d, hl1, by rw [t.len]; exact few, wd, hG, by rw [← eW]; exact B.bd, fun F2 cl cs e2 hcl lcs hc => ?_⟩
    have e12 := e1.trans e2
    have h2d := e2 _ _ h1d
    obtain ⟨cm, hcm, ecm⟩ := hc m (by rw [t.len]; exact Nat.le_refl _)
    have ecm1 : cm = 1 := ecm.mpr (by rw [← t.len, List.take_length]; exact t.one)
    subst ecm1
    have gm : (cs.map V.int)[m]? = some (.int 1) := by rw [List.getElem?_map, hcm]; rfl
    have ely : (((ys.length : Nat) : Int)) = (m : Int) := by rw [ly, t.len]
    refine ⟨_, rfl, dl, _, rfl, .inl (SqL.of h2d), _, rfl, rfl, false, congrArg V.bl (by rw [ely]; simp), iteF ?_⟩
    refine ⟨_, rfl, _, rfl, cl, _, _, _, rfl, rfl, SqL.of hcl, atI_nat (j := m) gm, rfl, false, (by decide +kernel), iteF ?_⟩
    refine ⟨_, rfl, _, _, rfl, rfl, _, rfl, ?_⟩
    have dS : ∀ {G : Hp}, Ex F G → DGet G mo (.str "span") (some (.int s)) := fun {G} e => by
      obtain ⟨tt, rr, hm, _⟩ := id MA
      rw [← modK_s N s tt rr]
      exact DGet.k (k := Sum.inr "span") (e _ _ hm)
    have two : m = 0 ∨ 0 < m := by omega
    rcases two with hm0 | hm0
    case' inl =>
      rw [decide_eq_false (show ¬ (0 : Int) < (m : Int) by omega)]
      refine iteF (iteF ?_)
    case' inr =>
      rw [decide_eq_true (show (0 : Int) < (m : Int) by omega)]
      obtain ⟨c1, hc1, ec1⟩ := hc (m - 1) (by rw [t.len]; omega)
      have ne1 : ¬ c1 = 1 := fun z => t.notyet hm0 (ec1.mp z)
      have g1 : (cs.map V.int)[m - 1]? = some (.int c1) := by rw [List.getElem?_map, hc1]; rfl
      refine iteT ⟨_, rfl, _, rfl, _, _, rfl, rfl, cl, _, _, _, rfl, rfl, SqL.of hcl, (by show atI _ ((m : Int) - 1) = some _; rw [show (m : Int) - 1 = ((m - 1 : Nat) : Int) by omega]; exact atI_nat (j := m - 1) g1), rfl, false, congrArg V.bl (decide_eq_false fun z => ne1 (V.int.inj z)), iteF ?_⟩
    all_goals
      cases b with
      | true =>
        refine ⟨fun σ' H' => σ' = [some (.ref a), some (.ref p0), some (.bl true), some (.int N), some (.ref d), some (.ref wl), some v, some (.ref pa), some v', some (.ref mo), some (.int (m : Int)), some (.ref l), some (.ref dl), some (.ref cl), none, none] ∧ H' = F2, ⟨_, rfl, true, rfl, iteF ⟨rfl, rfl⟩⟩, ?_⟩
        rintro _ _ ⟨rfl, rfl⟩
        refine ⟨_, rfl, _, rfl, _, rfl, v, N, dl, ys, ds, o, rfl, RV.keep e12, by omega, fun In e => ⟨hIn In e, ?_⟩, h2d, hl1.keep (Tups.of e2), fun d hd => ?_, fun H' _ => k H'⟩
        · obtain ⟨In', e', hz⟩ := t.run rfl
          rw [e] at e'
          cases e'
          exact hz
        · exact isW_of B (t.wd d hd)
      | false =>
        obtain ⟨ft1, ft2, ft3⟩ := t.free rfl
        have hl2 := hl1.keep (Tups.of e2)
        refine ⟨fun _ _ => False, ⟨_, rfl, false, rfl, iteT ⟨_, rfl, dl, rfl, ⟨_, SqL.of h2d⟩, fun D2 hD2 => ?_⟩⟩, fun _ _ z => z.elim⟩
        refine lc_ls (enc := PyData.int) relEx walk_list (fun j => (ds[j]?).map (·.2)) hD2 True.intro (Evl.sz_lt (by rw [ly, t.len]; omega)) (fun H2 e2 _ => SqL.of (e2 _ _ h2d)) ?_ ?_
        · rintro j y G G' hj e3 t3 ⟨rfl, hy⟩ Go Sk go sk
          obtain ⟨dd, hdd, im⟩ := (hl2.keep t3).get hy
          obtain ⟨aa, rfl, haa⟩ := deed_get im
          exact ⟨rfl, yes_go ⟨_, rfl, aa, _, _, _, rfl, rfl, SqT.of haa, atI_nat (j := 1) rfl, go dd.2 _ _ (by rw [hdd]; rfl) (Ex.refl _) (Tups.refl _) rfl⟩⟩
        intro F3 ts e3 t3 hD3 hts
        rw [fm_map _ ly] at hts
        have ets := Ls.ints_eq hts
        rw [ets] at hD3
        obtain ⟨tn, etn⟩ : ∃ tn, tn = ds.map (·.2) := ⟨_, rfl⟩
        rw [← etn] at hD3
        have ltn : tn.length = m := by rw [etn, List.length_map, t.len]
        have e13 := e12.trans e3
        refine ⟨_, rfl, _, rfl, mo, _, rfl, dS e13, _, _, rfl, rfl, true, congrArg V.bl (decide_eq_true ft1), ?_⟩
        refine ⟨(by show 1 ≤ sizeLine; decide), fun q0 hq0 => ⟨_, rfl, q0, D2, _, _, rfl, rfl, upd_same, (ex_new hq0) _ _ hD3, (by rw [List.length_map]; show 1 + tn.length ≤ sizeLine; rw [ltn, sizeLine_eq]; omega), fun q1 hq1 => ?_⟩⟩
        have e4 := (ex_new (o := .lst [.int 0]) hq0).trans (ex_new (o := .lst ([V.int 0] ++ tn.map V.int)) hq1)
        refine ⟨q1, 0 :: tn, rfl, SqL.of (by rw [upd_same]; rfl), Nat.succ_pos _, fun mx hmx hall => ⟨_, rfl, mo, _, rfl, dS (e13.trans e4), _, _, rfl, rfl, true, congrArg V.bl (decide_eq_true ?_), ?_⟩⟩
        · rcases List.mem_cons.mp hmx with rfl | hmx
          · exact s0
          · rw [etn] at hmx
            obtain ⟨dd, hdd, rfl⟩ := List.mem_map.mp hmx
            exact ft2 dd hdd
        obtain ⟨F4, eF4⟩ : ∃ F4, F4 = upd (upd F3 q0 (.lst [.int 0])) q1 (.lst ([V.int 0] ++ tn.map V.int)) := ⟨_, rfl⟩
        have h4D : F4 D2 = some (.lst (tn.map V.int)) := by rw [eF4]; exact e4 _ _ hD3
        rw [← eF4]
        refine ⟨_, rfl, 1, rfl, D2, _, rfl, SqL.of h4D, fun q2 hq2 => ⟨Nat.zero_le _, fun r1 hr1 => ⟨(by show 1 ≤ sizeLine; decide), fun r2 hr2 => ⟨(by show 2 ≤ sizeLine; decide), fun tp htp => ?_⟩⟩⟩⟩
        have cases1 : cutV (tn.map V.int) none (some 1) = [] ∨ cutV (tn.map V.int) none (some 1) = [V.int 0] := by
          unfold cutV
          rw [HT.sIx_none, show (some (1 : Int)) = some (((1 : Nat) : Int)) from rfl, HT.sIx_nat, List.drop_zero, Nat.sub_zero]
          cases ds with
          | nil => rw [etn]; exact .inl rfl
          | cons d0 dr =>
            have h0 := ft3 d0 rfl
            right
            rw [etn, List.map_cons, List.map_cons, h0, List.length_cons, show min 1 ((List.map V.int (List.map (fun x => x.2) dr)).length + 1) = 1 by omega]
            rfl
        have e5 := ((ex_new (o := .lst []) hr1).trans (ex_new (o := .lst [.int 0]) hr2)).trans (ex_new (o := .tup [.ref r1, .ref r2]) htp)
        have e6 := (ex_new (o := .lst [.int 0]) hr2).trans (ex_new (o := .tup [.ref r1, .ref r2]) htp)
        have dp1 : Dp K (upd (upd (upd (upd F4 q2 (.lst (cutV (tn.map V.int) none (some 1)))) r1 (.lst [])) r2 (.lst [.int 0])) tp (.tup [.ref r1, .ref r2])) (.ref tp) (.tuple [.list [], .list [.int 0]]) :=
          .tup (SqT.of upd_same) (.cons (.lst (SqL.of (e6 _ _ upd_same)) .nil) (.cons (.lst (SqL.of ((ex_new (o := .tup [.ref r1, .ref r2]) htp) _ _ upd_same)) (.cons (.int _) .nil)) .nil))
        rcases cases1 with ec | ec
        · rw [ec] at dp1 e5 ⊢
          refine ⟨.list [], [.list [], .list [.int 0]], .lst (SqL.of (e5 _ _ upd_same)) .nil, dp1, by decide +kernel, by decide +kernel, ?_⟩
          rw [show ([PyData.list [], .list [.int 0]].any fun z => PyData.eqv z (.list [])) = true by decide +kernel]
          exact k _
        · rw [ec] at dp1 e5 ⊢
          refine ⟨.list [.int 0], [.list [], .list [.int 0]], .lst (SqL.of (e5 _ _ upd_same)) (.cons (.int _) .nil), dp1, by decide +kernel, by decide +kernel, ?_⟩
          rw [show ([PyData.list [], .list [.int 0]].any fun z => PyData.eqv z (.list [.int 0])) = true by decide +kernel]
          exact k _
end
end JD
end Part_JD33
section Part_JEnd
set_option Elab.async false
set_option linter.all false
set_option maxRecDepth 100000
set_option maxHeartbeats 4000000
/-! The law's end: from the head's facts to the row. -/
namespace JD
open PySem PySem.Spec PyProof.Rows L2 LamX
theorem law_at {w : World} {K : PySem.W.Frag} {mg : Str → Option Value} {h : Heap} {fa : Addr} (X : K.In h) (G : h.Ns mainGlobals mg) (c : JX.Says h K) (hfa : mg ("law" : Str) = some (.ref fa)) :
    LawAtS PySem.Challenge.rw_jawturns_k52_whole_shortest_plan_does w K CX0 13 63 "_law_script" mg fa h := by
  have T : JX.Txt K mg := JX.txt_of X G c
  have e := hfa.symm.trans T.g_law
  cases e
  obtain ⟨fd, F⟩ := T.d_law
  have b := FunD.bindsA (ps := ["_law_script"]) F fun _ _ _ _ _ _ us hl => match us, hl with | [_], _ => rfl
  refine ⟨fd, [He.cT K JX.lamAt], sp_law K, ?_, ?_, ?_, fun s u => b s [u] rfl, ?_, fun base _ _ TB => ok_law (TB _ List.mem_cons_self) T F⟩
  · intro p hp
    obtain rfl := List.mem_singleton.mp hp
    exact c.empty
  · intro p hp
    obtain rfl := List.mem_singleton.mp hp
    exact c.out
  · intro p hp
    obtain rfl := List.mem_singleton.mp hp
    exact PySem.W.codeHd_of_K X c.hd
  · intro H a ns _ _ hH hS
    refine ⟨a, ns, rfl, hS, fun p hp => ?_, fun _ => rfl⟩
    obtain rfl := List.mem_singleton.mp hp
    exact TabS.nil (hH _ List.mem_cons_self)
end JD
open PySem PySem.W PySem.Calls PyProof.Rows
theorem PySem.Challenge.cw_jawturns_k52_whole_shortest_plan_does_holds : PySem.Challenge.rw_jawturns_k52_whole_shortest_plan_does.Holds := by
  w_on; o_law
  refine HandSHeadRun.head_imp (r := OpenLaw.row PySem.Challenge.rw_jawturns_k52_whole_shortest_plan_does) (q := JX.qv) (H := JX.hookJ) (ob := JX.ob) (M := 20000) (loose := JX.names) (d := HandSHeadRun.topDef (OpenLaw.row PySem.Challenge.rw_jawturns_k52_whole_shortest_plan_does).prog 86) (kwd := []) JX.ob_eq
    JX.run (by kernel_rfl) (by kernel_rfl) (by kernel_rfl) (by rfl) (by first | assumption | decide +kernel) (by decide +kernel) ⟨rfl, rfl, rfl, rfl, rfl, by decide +kernel⟩ ?hw ?hc
  case hw => w_witness2
  case hc =>
    refine LamX.walk_ofTsE (l := PySem.Challenge.rw_jawturns_k52_whole_shortest_plan_does) (n := 63) (k := 13) (x := "_law_script") (CX := fun _ => L2.CX0) rfl (by decide) (by kernel_rfl) ⟨rfl, by decide, by decide⟩ ?F (fun _ _ _ _ _ z => z)
    intro w mg fa h Y G hmg0
    obtain ⟨K, KX, c⟩ := Y
    have hmg : mg ("law" : PySem.Str) = some (.ref fa) := by
      have e : (HandSHeadRun.topDef (OpenLaw.row PySem.Challenge.rw_jawturns_k52_whole_shortest_plan_does).prog 86).name = ("law" : PySem.Str) := by kernel_rfl
      rw [← e]
      exact hmg0
    exact ⟨K, KX, JD.law_at KX G c hmg⟩
end Part_JEnd
