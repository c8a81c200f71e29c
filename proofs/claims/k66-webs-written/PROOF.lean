import PyProof.Rows.All
import Wide.All
import OpenK.AllK
import Wide.FinOn
import HandS.EndBits
import HandS.Words
import HandS.FStr
import PyProof.EqAt
import HandS.Conv
import HandS.StrMore
import HandS.Flow
import HandS.Zip
import HandS.Walk
import HandS.TupLen
import HandS.WordsDict
import HandS.Deep
import PyProof.P3In
import HandS.TupLe
import HandS.ForMost
import PyProof.Rows.RuleB_bool
import PyProof.TwoTypesSub
import HandS.TupAny
import HandS.SortInts
import HandS.IsInst
import HandS.Style
import HandS.Wide
import PyProof.ReprRoads
import KE.SortData
import PyProof.TupleOfSeq
import HandS.SetFor
import HandS.SetKeys
import KE.DataFind
import KE.KIndexOf
import KE.DataMinMax
import KE.Datum
import PyProof.WalkInts
import KE.KDictPairs
import KE.KDictKeyed
import KE.KDictCopyH
import PyProof.DictUpdate
import HandS.Small
import HandS.Codes
import PySem.Challenge.RW_ringcover_k66_webs_written
set_option Elab.async false
set_option linter.all false
set_option maxRecDepth 100000
/-! truths among whole numbers -/
namespace L2
open PySem PySem.Spec PyProof.Rows
section
variable {prog : Program} {w : World} {A : Around} {E : Value → Shared → Prop} {s : Shared}
theorem gives_add_bi (p : Bool) (b : Int) (u : Tok) : Gives (Builtin.«int.__add__» ⟨[.bool p, .int b u], []⟩) (.int ((if p = true then (1 : Int) else 0) + b)) :=
  .of_wp fun M A E s Q h => by obtain ⟨hp, g, d, tk, os⟩ := s; wp_walk; exact ⟨_, rfl, h⟩
theorem gives_sub_bi (p : Bool) (b : Int) (u : Tok) : Gives (Builtin.«int.__sub__» ⟨[.bool p, .int b u], []⟩) (.int ((if p = true then (1 : Int) else 0) - b)) :=
  .of_wp fun M A E s Q h => by obtain ⟨hp, g, d, tk, os⟩ := s; wp_walk; exact ⟨_, rfl, h⟩
theorem gives_neg_b (p : Bool) : Gives (Builtin.«int.__neg__» ⟨[.bool p], []⟩) (.int (-(if p = true then (1 : Int) else 0))) :=
  .of_wp fun M A E s Q h => by obtain ⟨hp, g, d, tk, os⟩ := s; wp_walk; exact ⟨_, rfl, h⟩
theorem add_bool_int {p : Bool} {b : Int} {u : Tok} {Q : Value → Shared → Prop} (h : Q (.int ((if p = true then (1 : Int) else 0) + b) s.toks) { s with toks := s.toks + 1 }) : wpAny (model prog w) A (binaryOp .Add (.bool p) (.int b u)) Q E s :=
  binaryOp_left_gives (op := .Add) (T := "bool") (U := "int") (by decide) (typeIs_bool' s p) (fun s' => typeIs_int s' b u) F.fills_bool_add F.fills_int_add (by rw [isSubtype_type]; kernel_rfl) F.slot_bool_add F.slot_int_radd F.entry_int_add (F.args_int_add_2 _ _)
    (gives_add_bi p b u) trivial h
theorem sub_bool_int {p : Bool} {b : Int} {u : Tok} {Q : Value → Shared → Prop} (h : Q (.int ((if p = true then (1 : Int) else 0) - b) s.toks) { s with toks := s.toks + 1 }) : wpAny (model prog w) A (binaryOp .Sub (.bool p) (.int b u)) Q E s :=
  binaryOp_left_gives (op := .Sub) (T := "bool") (U := "int") (by decide) (typeIs_bool' s p) (fun s' => typeIs_int s' b u) F.fills_bool_sub F.fills_int_sub (by rw [isSubtype_type]; kernel_rfl) F.slot_bool_sub F.slot_int_rsub F.entry_int_sub (F.args_int_sub_2 _ _)
    (gives_sub_bi p b u) trivial h
theorem neg_bool {p : Bool} {Q : Value → Shared → Prop} (h : Q (.int (-(if p = true then (1 : Int) else 0)) s.toks) { s with toks := s.toks + 1 }) : wpAny (model prog w) A (unaryOp .USub (.bool p)) Q E s :=
  unaryOp_gives (op := .USub) (typeIs_bool' s p) rfl F.slot_bool_neg F.entry_int_neg (F.args_int_neg_1 _) (gives_neg_b p) h
end
section
variable {X : Cx}
theorem op_add_bi : OpR X (binaryOp .Add) (fun x y H Q => ∃ k i, x = .bl k ∧ y = .int i ∧ Q (.int ((if k = true then (1 : Int) else 0) + i)) H) := by
  intro pins s σ H x y v u Q I rx ry h
  obtain ⟨k, i, rfl, rfl, q⟩ := h
  obtain ⟨t, rfl⟩ := ry
  cases rx
  exact add_bool_int ⟨.int _, H, I.tok _, ⟨_, rfl⟩, q⟩
theorem op_sub_bi : OpR X (binaryOp .Sub) (fun x y H Q => ∃ k i, x = .bl k ∧ y = .int i ∧ Q (.int ((if k = true then (1 : Int) else 0) - i)) H) := by
  intro pins s σ H x y v u Q I rx ry h
  obtain ⟨k, i, rfl, rfl, q⟩ := h
  obtain ⟨t, rfl⟩ := ry
  cases rx
  exact sub_bool_int ⟨.int _, H, I.tok _, ⟨_, rfl⟩, q⟩
theorem un_neg_b : UnR X (unaryOp .USub) (fun x H Q => ∃ k, x = .bl k ∧ Q (.int (-(if k = true then (1 : Int) else 0))) H) := by
  intro pins s σ H x v Q I rx h
  obtain ⟨k, rfl, q⟩ := h
  cases rx
  exact neg_bool ⟨.int _, H, I.tok _, ⟨_, rfl⟩, q⟩
theorem call_str_bl : CallR X (.type "str") (fun xs H Q => ∃ k, xs = [.bl k] ∧ Q (.str (if k then "True" else "False")) H) := by
  intro pins s σ H xs us Q I r h
  obtain ⟨k, rfl, q⟩ := h
  obtain ⟨u, rfl, r1⟩ := vals1 r
  cases r1
  exact PySem.P.str_of_bool ⟨.str _, H, I.tok _, ⟨_, rfl⟩, q⟩
end
end L2
namespace DLS
open PySem PySem.W PySem.Calls PyProof.Rows
section
variable {β : Type} {prog : Program} {w : World} {A : Around} {E : Value → Shared → Prop} {s : Shared} {vs : List Value} {bs : List β} {enc : β → PyData} {R : Value → β → Prop}
/-- the heap behind the gathering of items -/
def gathered (h : Heap) (vs : List Value) : Heap := (h.push { cls := .type "list", data := .seq #[] 0 }).update h.objs.size (Obj.mapSeq (· ++ vs.toArray))
theorem gathered_size (h : Heap) (vs : List Value) : (gathered h vs).objs.size = h.objs.size + 1 := by
  unfold gathered; rw [Heap.size_update, size_push']
theorem gathered_old {h : Heap} {vs : List Value} {b : Addr} {o : Obj} (e : h.get? b = some o) : (gathered h vs).get? b = some o := by
  unfold gathered
  rw [Heap.get?_update_ne _ _ _ _ (Nat.ne_of_lt (Heap.lt_size e))]
  exact Heap.get?_push_of_some _ e
theorem gathered_at (h : Heap) (vs : List Value) : ∃ ep, (gathered h vs).get? h.objs.size = some { cls := .type "list", data := .seq vs.toArray ep } := by
  unfold gathered
  have h1 : (h.push { cls := .type "list", data := .seq #[] 0 }).get? h.objs.size = some { cls := .type "list", data := .seq #[] 0 } := Heap.get?_push_size _ rfl
  rw [Heap.get?_update_self (Obj.mapSeq (· ++ vs.toArray)) h1 rfl]
  unfold Obj.mapSeq
  dsimp only
  rw [Array.empty_append]
  exact ⟨_, rfl⟩
/-- the items of a list or a tuple gathered -/
theorem gather_seq {T : String} {l : Addr} {o : Obj} {n : Nat} {Q : List Value → Shared → Prop} (hT : T = "list" ∨ T = "tuple") (ho : s.heap.get? l = some o) (hc : o.cls = .type T) (hd : o.data = .seq vs.toArray n) (hL : vs.length ≤ sizeLine)
    (h : Q vs { s with heap := gathered s.heap vs }) : wpAny (model prog w) A (collect (.ref l)) Q E s := by
  have hz : vs.toArray.size ≤ sizeLine := by simpa using hL
  have made : (s.heap.push { cls := .type "list", data := .seq #[] 0 }).get? s.heap.objs.size = some { cls := .type "list", data := .seq #[] 0 } := Heap.get?_push_size _ rfl
  obtain ⟨ep, at_⟩ := gathered_at s.heap vs
  have fin : ∀ r, r = Value.ref s.heap.objs.size → wpAny (model prog w) A (match r with
      | .ref a => do match (← load a).data with
        | .seq xs _ => pure xs.toList
        | _ => unsupported "internal:collect"
      | _ => unsupported "internal:collect") Q E { s with heap := gathered s.heap vs } := fun r hr => by
    subst hr
    refine wpAny_bind (wpAny_load at_ ?_)
    exact wpAny_pure (by simpa using h)
  unfold collect
  refine wpAny_bind (wpAny_runValue (codeAny_builtin F.entry_proto_collect ?_))
  rw [Around.under_plainId F.plain_proto_collect]
  show wpAny _ A.in1 (newList [] >>= fun y => again (.builtin "list.__iadd__" ⟨[y, .ref l], []⟩)) _ _ s
  refine wpAny_bind (wpAny_newObj_type (wpAny_pure ⟨plainId_quiet F.plain_list_iadd _, codeAny_builtin F.entry_list_iadd ?_⟩))
  rw [Around.under_plainId F.plain_list_iadd]
  refine wpAny_mono (wpAny_extend_seq (A := A) (R := fun r t => r = .ok (.ret (.ref s.heap.objs.size)) ∧ t = { s with heap := gathered s.heap vs }) (s := { s with heap := s.heap.push { cls := .type "list", data := .seq #[] 0 } })
    s.heap.objs.size l (.ref s.heap.objs.size) 0 hT made (Heap.get?_push_of_some _ ho) hc hd ⟨rfl, rfl⟩ hz) (fun f t q => ?_) fun e t q => ?_
  · cases f with
    | done g =>
      obtain ⟨e1, e2⟩ := q
      subst e2
      cases e1
      exact fin _ rfl
    | again c =>
      refine ⟨q.1, codeAny_mono q.2 fun r t2 q2 => ?_⟩
      obtain ⟨e1, e2⟩ := q2
      subst e1; subst e2
      exact fin _ rfl
  · exact absurd q.1 (by simp)
/-- sorted of what gives its items -/
theorem sorted_coll {r : Value} {Q : Value → Shared → Prop}
    (col : ∀ R' : List Value → Shared → Prop, (∀ (h' : Heap) (tk : Nat) (vs : List Value), (∀ b o, s.heap.get? b = some o → h'.get? b = some o) → EachIs R vs bs → EachIs (fun v b => ∃ as, Reads s.heap v (enc b) as) vs bs → vs.length ≤ sizeLine → R' vs { s with heap := h', toks := tk }) → wpAny (model prog w) A.in1 (collect r) R' E s)
    (hal : AllAlike (bs.map enc)) (hk : Sortable (bs.map enc)) (hu : ∀ b, b ∈ bs → A.units + 2 + (enc b).depth < cLine)
    (h : ∀ (h0 h' : Heap) (tk : Nat) (p : Addr) (out : List Value) (ep : Nat), (∀ b o, s.heap.get? b = some o → h0.get? b = some o) → (∀ b o, h0.get? b = some o → h'.get? b = some o) → h0.objs.size ≤ p → h'.get? p = some (seqObj "list" out.toArray ep) → EachIs R out (bs.mergeSort (dataLe false enc)) → Q (.ref p) { s with heap := h', toks := tk }) :
    wpAny (model prog w) A (call (.builtin "sorted") [r]) Q E s := by
  refine call_function_entry_kw kind_sorted plain_sorted entry_sorted (args_sorted1 _) ?_
  unfold Builtin.«sorted»
  refine wpAny_bind (m := checkCount "sorted" 1 1 _) (wpAny_pure ?_)
  refine wpAny_bind (col _ fun h' tk vs kp e er hL => ?_)
  refine wpAny_bind (wpAny_newList ?_ hL)
  have er' : EachIs (fun v b => ∃ as, Reads (sortingHeap (h'.push (seqObj "list" vs.toArray 0)) h'.objs.size vs) v (enc b) as) vs bs := er.mono fun v b ⟨as, r⟩ => ⟨as, PyProof.Rows.Reads.keeps (fun b o hb => sortingHeap_old (Nat.ne_of_lt (Heap.lt_size (kp b o hb))) (Heap.get?_push_of_some _ (kp b o hb))) r⟩
  have hat : (h'.push (seqObj "list" vs.toArray 0)).get? h'.objs.size = some (seqObj "list" vs.toArray 0) := Heap.get?_push_size _ rfl
  have S : SortsAt prog w A.in1.in1 { s with heap := sortingHeap (h'.push (seqObj "list" vs.toArray 0)) h'.objs.size vs, toks := tk } (dataKind (sortingHeap (h'.push (seqObj "list" vs.toArray 0)) h'.objs.size vs) (bs.map enc)) vs :=
    SortsAt.data (s := { s with heap := sortingHeap (h'.push (seqObj "list" vs.toArray 0)) h'.objs.size vs, toks := tk }) (each_map (R := fun v d => ∃ as, Reads (sortingHeap (h'.push (seqObj "list" vs.toArray 0)) h'.objs.size vs) v d as) enc er') hal hk (bound_map hu)
  refine wpAny_bind (wpAny_holding (wpAny_call_entry_kw slot_list_sort ⟨_, hat, rfl⟩ entry_list_sort ?body (args_list_sort _)))
  show wpAny (model prog w) A.in1.in1 (Builtin.«list.sort» ⟨[.ref h'.objs.size], []⟩) _ _ _
  refine wpAny_mono (list_sort_vals (P := fun f s' => f = .done (.ret .none) ∧ Q (.ref h'.objs.size) s') (s := { s with heap := h'.push (seqObj "list" vs.toArray 0), toks := tk }) hat S hL ⟨rfl, ?_⟩) (fun f s' hf => ?_) fun _ _ e => e
  · obtain ⟨ep, he⟩ := PyProof.Rows.sortedHeap_at (vs := vs) (out := (sortVals (dataKind (sortingHeap (h'.push (seqObj "list" vs.toArray 0)) h'.objs.size vs) (bs.map enc)) false vs vs).toArray) hat
    refine h h' _ tk _ _ ep kp (fun b o hb => ?_) (Nat.le_refl _) he (sortVals_data false e er' hal)
    rw [PyProof.Rows.sortedHeap_old (Nat.ne_of_lt (Heap.lt_size hb)) (Heap.lt_size (Heap.get?_push_of_some _ hb))]
    exact Heap.get?_push_of_some _ hb
  · obtain ⟨rfl, hq⟩ := hf
    exact ⟨_, rfl, wpAny_pure ⟨_, rfl, hq⟩⟩
/-- sorted of a list or a tuple -/
theorem sorted_seq {T : String} {l : Addr} {o : Obj} {n : Nat} {Q : Value → Shared → Prop} (hT : T = "list" ∨ T = "tuple") (ho : s.heap.get? l = some o) (hc : o.cls = .type T) (hd : o.data = .seq vs.toArray n)
    (e : EachIs R vs bs) (er : EachIs (fun v b => ∃ as, Reads s.heap v (enc b) as) vs bs) (hal : AllAlike (bs.map enc)) (hk : Sortable (bs.map enc)) (hL : vs.length ≤ sizeLine) (hu : ∀ b, b ∈ bs → A.units + 2 + (enc b).depth < cLine)
    (h : ∀ (h' : Heap) (p : Addr) (out : List Value) (ep : Nat), (∀ b o, s.heap.get? b = some o → h'.get? b = some o) → s.heap.objs.size ≤ p → s.heap.objs.size ≤ h'.objs.size → h'.get? p = some (seqObj "list" out.toArray ep) → EachIs R out (bs.mergeSort (dataLe false enc)) → Q (.ref p) { s with heap := h' }) :
    wpAny (model prog w) A (call (.builtin "sorted") [.ref l]) Q E s := by
  refine call_function_entry_kw kind_sorted plain_sorted entry_sorted (args_sorted1 _) ?_
  unfold Builtin.«sorted»
  refine wpAny_bind (m := checkCount "sorted" 1 1 _) (wpAny_pure ?_)
  refine wpAny_bind (gather_seq hT ho hc hd hL ?_)
  have kp : ∀ b o, s.heap.get? b = some o → (gathered s.heap vs).get? b = some o := fun b o hb => gathered_old hb
  have hsz : s.heap.objs.size ≤ (gathered s.heap vs).objs.size := by rw [gathered_size]; exact Nat.le_succ _
  generalize gathered s.heap vs = h' at kp hsz ⊢
  refine wpAny_bind (wpAny_newList ?_ hL)
  have er' : EachIs (fun v b => ∃ as, Reads (sortingHeap (h'.push (seqObj "list" vs.toArray 0)) h'.objs.size vs) v (enc b) as) vs bs := er.mono fun v b ⟨as, r⟩ => ⟨as, PyProof.Rows.Reads.keeps (fun b o hb => sortingHeap_old (Nat.ne_of_lt (Nat.lt_of_lt_of_le (Heap.lt_size hb) hsz)) (Heap.get?_push_of_some _ (kp b o hb))) r⟩
  have hat : (h'.push (seqObj "list" vs.toArray 0)).get? h'.objs.size = some (seqObj "list" vs.toArray 0) := Heap.get?_push_size _ rfl
  have S : SortsAt prog w A.in1.in1 { s with heap := sortingHeap (h'.push (seqObj "list" vs.toArray 0)) h'.objs.size vs } (dataKind (sortingHeap (h'.push (seqObj "list" vs.toArray 0)) h'.objs.size vs) (bs.map enc)) vs :=
    SortsAt.data (s := { s with heap := sortingHeap (h'.push (seqObj "list" vs.toArray 0)) h'.objs.size vs }) (each_map (R := fun v d => ∃ as, Reads (sortingHeap (h'.push (seqObj "list" vs.toArray 0)) h'.objs.size vs) v d as) enc er') hal hk (bound_map hu)
  refine wpAny_bind (wpAny_holding (wpAny_call_entry_kw slot_list_sort ⟨_, hat, rfl⟩ entry_list_sort ?body (args_list_sort _)))
  show wpAny (model prog w) A.in1.in1 (Builtin.«list.sort» ⟨[.ref h'.objs.size], []⟩) _ _ _
  refine wpAny_mono (list_sort_vals (P := fun f s' => f = .done (.ret .none) ∧ Q (.ref h'.objs.size) s') (s := { s with heap := h'.push (seqObj "list" vs.toArray 0) }) hat S hL ⟨rfl, ?_⟩) (fun f s' hf => ?_) fun _ _ e => e
  · obtain ⟨ep, he⟩ := PyProof.Rows.sortedHeap_at (vs := vs) (out := (sortVals (dataKind (sortingHeap (h'.push (seqObj "list" vs.toArray 0)) h'.objs.size vs) (bs.map enc)) false vs vs).toArray) hat
    refine h _ _ _ ep (fun b o hb => ?_) hsz ?_ he (sortVals_data false e er' hal)
    · rw [PyProof.Rows.sortedHeap_old (Nat.ne_of_lt (Nat.lt_of_lt_of_le (Heap.lt_size hb) hsz)) (Heap.lt_size (Heap.get?_push_of_some _ (kp b o hb)))]
      exact Heap.get?_push_of_some _ (kp b o hb)
    · exact Nat.le_trans hsz (Nat.le_of_lt (Heap.lt_size he))
  · obtain ⟨rfl, hq⟩ := hf
    exact ⟨_, rfl, wpAny_pure ⟨_, rfl, hq⟩⟩
end
end DLS
set_option Elab.async false
set_option linter.all false
namespace DL
/-! ### rows and rings, plainly -/
def lx : List Int → List Int → Bool
  | [], [] => false
  | [], _ :: _ => true
  | _ :: _, [] => false
  | x :: r, y :: t => if x = y then lx r t else decide (x < y)
theorem lx_irr : ∀ a : List Int, lx a a = false
  | [] => rfl
  | x :: r => by rw [lx, if_pos rfl, lx_irr r]
theorem lx_tr : ∀ a b c : List Int, lx a b = true → lx b c = true → lx a c = true
  | [], [], _, h, _ => by cases h
  | [], _ :: _, [], _, h => by cases h
  | [], _ :: _, _ :: _, _, _ => rfl
  | _ :: _, [], _, h, _ => by cases h
  | _ :: _, _ :: _, [], _, h => by cases h
  | x :: r, y :: t, z :: u, h1, h2 => by
    rw [lx] at *
    split at h1
    · rename_i e; subst e
      split at h2
      · rename_i e; subst e
        rw [if_pos rfl]; exact lx_tr r t u h1 h2
      · rename_i e; rw [if_neg e]; exact h2
    · rename_i e
      split at h2
      · rename_i e2; subst e2; rw [if_neg e]; exact h1
      · rw [decide_eq_true_eq] at h1 h2
        rw [if_neg (by omega), decide_eq_true_eq]; omega
theorem lx_tot : ∀ a b : List Int, a ≠ b → lx a b = false → lx b a = true
  | [], [], h, _ => absurd rfl h
  | [], _ :: _, _, h => by cases h
  | _ :: _, [], _, _ => rfl
  | x :: r, y :: t, h1, h2 => by
    rw [lx] at *
    split at h2
    · rename_i e; subst e
      rw [if_pos rfl]
      exact lx_tot r t (fun q => h1 (by rw [q])) h2
    · rename_i e
      rw [decide_eq_false_iff_not] at h2
      rw [if_neg (by omega), decide_eq_true_eq]; omega
theorem lx_asym {a b : List Int} (h : lx a b = true) : lx b a = false := by
  cases e : lx b a with
  | false => rfl
  | true => have := lx_tr a b a h e; rw [lx_irr] at this; cases this

/-- neighbours along a row -/
def adj {α : Type} (xs : List α) : List (α × α) := xs.zip (xs.drop 1)
/-- neighbours round a ring -/
def cyc {α : Type} (xs : List α) : List (α × α) := xs.zip (xs.drop 1 ++ xs.take 1)
theorem adj_cons2 {α : Type} (x y : α) (r : List α) : adj (x :: y :: r) = (x, y) :: adj (y :: r) := rfl
theorem adj_one {α : Type} (x : α) : adj [x] = [] := rfl
theorem adj_app {α : Type} : ∀ (xs : List α) (y : α) (zs : List α), adj (xs ++ y :: zs) = adj (xs ++ [y]) ++ adj (y :: zs)
  | [], y, zs => by rw [List.nil_append, List.nil_append, adj_one, List.nil_append]
  | [x], y, zs => rfl
  | x :: x2 :: r, y, zs => by
    have := adj_app (x2 :: r) y zs
    rw [List.cons_append, List.cons_append, adj_cons2]
    rw [List.cons_append] at this
    rw [this]; rfl
theorem zip_lastZ {α : Type} : ∀ (r : List α) (x y : α), (x :: r).zip (r ++ [y]) = adj (x :: r ++ [y])
  | [], x, y => rfl
  | z :: r, x, y => by
    have := zip_lastZ r z y
    rw [List.cons_append, List.zip_cons_cons, this]; rfl
theorem cyc_cons {α : Type} (x : α) (r : List α) : cyc (x :: r) = adj (x :: r ++ [x]) := zip_lastZ r x x
theorem cyc_len {α : Type} (xs : List α) : (cyc xs).length = xs.length := by
  unfold cyc
  rw [List.length_zip, List.length_append, List.length_drop, List.length_take]; omega
theorem cyc_rot {α : Type} (xs ys : List α) : (cyc (ys ++ xs)).Perm (cyc (xs ++ ys)) := by
  cases xs with
  | nil => rw [List.nil_append, List.append_nil]
  | cons a p =>
    cases ys with
    | nil => rw [List.nil_append, List.append_nil]
    | cons b q =>
      rw [List.cons_append, List.cons_append, cyc_cons, cyc_cons]
      have e1 : b :: (q ++ a :: p) ++ [b] = (b :: q) ++ a :: (p ++ [b]) := by simp
      have e2 : a :: (p ++ b :: q) ++ [a] = (a :: p) ++ b :: (q ++ [a]) := by simp
      rw [e1, e2, adj_app, adj_app (a :: p)]
      exact List.perm_append_comm
theorem adj_rev {α : Type} : ∀ xs : List α, adj xs.reverse = ((adj xs).map Prod.swap).reverse
  | [] => rfl
  | [x] => rfl
  | x :: y :: r => by
    have := adj_rev (y :: r)
    have e : ((x, y).swap :: (adj (y :: r)).map Prod.swap).reverse = adj (y :: r).reverse ++ [(y, x)] := by rw [List.reverse_cons, this]; rfl
    rw [adj_cons2, List.map_cons, e, List.reverse_cons, List.reverse_cons, List.append_assoc, List.singleton_append, adj_app]
    rfl
theorem cyc_rev {α : Type} (x : α) (r : List α) : cyc (x :: r.reverse) = ((cyc (x :: r)).map Prod.swap).reverse := by
  rw [cyc_cons, cyc_cons, ← adj_rev]
  congr 1
  simp

/-- steps as the program tells them -/
def stepsL (row : List Int) : List (Int × Int) := (List.range row.length).map fun i => (row.getD (if i = 0 then row.length - 1 else i - 1) 0, row.getD i 0)
theorem stepsL_perm (row : List Int) : (stepsL row).Perm (cyc row) := by
  cases h : row.reverse with
  | nil => rw [List.reverse_eq_nil_iff] at h; subst h; exact .refl _
  | cons z r =>
    have e : row = r.reverse ++ [z] := by
      have := congrArg List.reverse h
      rw [List.reverse_reverse, List.reverse_cons] at this; exact this
    have e2 : stepsL row = cyc (z :: r.reverse) := by
      apply List.ext_getElem
      · rw [cyc_len]; unfold stepsL; rw [e]; simp
      · intro i h1 h2
        have hi : i < row.length := by unfold stepsL at h1; simpa using h1
        have b1 : (stepsL row)[i] = (row.getD (if i = 0 then row.length - 1 else i - 1) 0, row.getD i 0) := by simp [stepsL]
        have b2 : (cyc (z :: r.reverse))[i] = ((z :: r.reverse)[i]'(by rw [cyc_len] at h2; exact h2), ((z :: r.reverse).drop 1 ++ (z :: r.reverse).take 1)[i]'(by rw [cyc_len] at h2; simp at h2 ⊢; omega)) := by simp [cyc]
        rw [b1, b2]
        have hl : row.length = r.length + 1 := by rw [e]; simp
        have a2 : row.getD i 0 = row[i] := by rw [List.getD_eq_getElem?_getD, List.getElem?_eq_getElem hi]; rfl
        have a3 : ((z :: r.reverse).drop 1 ++ (z :: r.reverse).take 1) = row := by rw [e]; rfl
        congr 1
        · cases i with
          | zero =>
            rw [if_pos rfl, List.getD_eq_getElem?_getD, e]
            simp
          | succ j =>
            have : j < r.length := by omega
            rw [if_neg (by omega), List.getD_eq_getElem?_getD, e]
            simp [List.getElem?_append_left, this]
        · rw [a2]
          simp only [a3]
    rw [e2, e]
    exact cyc_rot (r.reverse) [z]

def minL (row : List Int) : Int := row.min?.getD 0
theorem minL_eq {row : List Int} {m : Int} (h : m ∈ row) (k : ∀ y ∈ row, m ≤ y) : minL row = m := by
  unfold minL
  rw [(List.min?_eq_some_iff).mpr ⟨h, k⟩]; rfl
theorem minL_mem {row : List Int} (h : row ≠ []) : minL row ∈ row ∧ ∀ y ∈ row, minL row ≤ y := by
  cases e : row.min? with
  | none => rw [List.min?_eq_none_iff] at e; exact absurd e h
  | some m =>
    have := (List.min?_eq_some_iff).mp e
    unfold minL; rw [e]; exact this
def atL (row : List Int) : Nat := row.idxOf (minL row)
def turnedL (row : List Int) : List Int := row.drop (atL row) ++ row.take (atL row)
def backL (row : List Int) : List Int := (turnedL row).take 1 ++ ((turnedL row).drop 1).reverse
def writtenL (row : List Int) : List Int := if lx (backL row) (turnedL row) = true then backL row else turnedL row
/-- begun at the least place, the lesser neighbour next -/
def firstL (row : List Int) : Bool := decide (row.headD 0 = minL row) && (decide (row.length ≤ 2) || decide (row.getD 1 0 ≤ row.getLastD 0))
theorem atL_lt {row : List Int} (h : row ≠ []) : atL row < row.length := List.idxOf_lt_length_iff.mpr (minL_mem h).1
theorem turned_cons {row : List Int} (h : row ≠ []) : turnedL row = minL row :: (row.drop (atL row + 1) ++ row.take (atL row)) := by
  have hl := atL_lt h
  unfold turnedL
  rw [List.drop_eq_getElem_cons hl]
  have : row[atL row] = minL row := by
    have := List.getElem_idxOf (List.idxOf_lt_length_iff.mpr (minL_mem h).1)
    exact this
  rw [this]; rfl
theorem turned_perm (row : List Int) : (turnedL row).Perm row := by
  unfold turnedL
  refine List.perm_append_comm.trans ?_
  rw [List.take_append_drop]
theorem back_cons {row : List Int} (h : row ≠ []) : backL row = minL row :: (row.drop (atL row + 1) ++ row.take (atL row)).reverse := by
  unfold backL
  rw [turned_cons h]; rfl
theorem back_perm {row : List Int} (h : row ≠ []) : (backL row).Perm row := by
  rw [back_cons h]
  refine ((List.reverse_perm _).cons _).trans ?_
  rw [← turned_cons h]
  exact turned_perm row
theorem written_perm {row : List Int} (h : row ≠ []) : (writtenL row).Perm row := by
  unfold writtenL
  split
  · exact back_perm h
  · exact turned_perm row
theorem minL_perm {a b : List Int} (p : a.Perm b) (h : a ≠ []) : minL a = minL b := by
  have h1 := minL_mem h
  exact (minL_eq (p.mem_iff.mp h1.1) fun y hy => h1.2 y (p.mem_iff.mpr hy)).symm
theorem lx_revtail : ∀ (t : List Int), t.Nodup → 2 ≤ t.length → lx t.reverse t = decide (t.getLastD 0 < t.headD 0)
  | [], _, h => absurd h (by decide)
  | [_], _, h => absurd h (by simp)
  | x :: y :: r, nd, _ => by
    have e : ∃ z u, (y :: r).reverse = z :: u := by
      cases q : (y :: r).reverse with
      | nil => rw [List.reverse_eq_nil_iff] at q; cases q
      | cons z u => exact ⟨z, u, rfl⟩
    obtain ⟨z, u, e⟩ := e
    have hz : z ∈ y :: r := by rw [← List.mem_reverse, e]; exact List.mem_cons_self
    have hx : x ≠ z := fun q => by subst q; exact (List.nodup_cons.mp nd).1 hz
    rw [List.reverse_cons, e, List.cons_append, lx, if_neg (fun q => hx q.symm)]
    have : (x :: y :: r).getLastD 0 = z := by
      have e2 : y :: r = u.reverse ++ [z] := by
        have := congrArg List.reverse e
        rw [List.reverse_reverse, List.reverse_cons] at this; exact this
      rw [e2, ← List.cons_append, List.getLastD_concat]
    rw [this]; rfl
theorem first_written {row : List Int} (nd : row.Nodup) (h : 1 < row.length) : decide (writtenL row = row) = firstL row := by
  have hne : row ≠ [] := fun e => by subst e; exact absurd h (by decide)
  cases row with
  | nil => exact absurd rfl hne
  | cons x t =>
    by_cases hx : x = minL (x :: t)
    · have ha : atL (x :: t) = 0 := by unfold atL; rw [← hx, List.idxOf_cons_self]
      have e1 : turnedL (x :: t) = x :: t := by unfold turnedL; rw [ha]; simp
      have e2 : backL (x :: t) = x :: t.reverse := by unfold backL; rw [e1]; rfl
      have hf : firstL (x :: t) = (decide ((x :: t).length ≤ 2) || decide ((x :: t).getD 1 0 ≤ (x :: t).getLastD 0)) := by
        unfold firstL
        rw [decide_eq_true (show (x :: t).headD 0 = minL (x :: t) from hx)]; rfl
      rw [hf]
      unfold writtenL
      rw [e1, e2, lx, if_pos rfl]
      have ht : t.Nodup := (List.nodup_cons.mp nd).2
      by_cases h2 : 2 ≤ t.length
      · rw [lx_revtail t ht h2]
        have d1 : decide ((x :: t).length ≤ 2) = false := decide_eq_false (by rw [List.length_cons]; omega)
        rw [d1, Bool.false_or]
        cases t with
        | nil => exact absurd h2 (by decide)
        | cons y r =>
          have g1 : (x :: y :: r).getD 1 0 = y := rfl
          have g2 : (x :: y :: r).getLastD 0 = (y :: r).getLastD 0 := rfl
          have g3 : (y :: r).headD 0 = y := rfl
          rw [g1, g2, g3]
          by_cases c : (y :: r).getLastD 0 < y
          · rw [if_pos (decide_eq_true c), decide_eq_false (show ¬ y ≤ _ by omega)]
            apply decide_eq_false
            intro q
            have q2 : (y :: r).reverse = y :: r := List.cons.inj q |>.2
            have := lx_revtail (y :: r) ht h2
            rw [q2, lx_irr, g3, decide_eq_true c] at this; cases this
          · rw [if_neg (by rw [decide_eq_false c]; decide), decide_eq_true (show y ≤ _ by omega)]
            exact decide_eq_true rfl
      · have hl : t.length = 1 := by rw [List.length_cons] at h; omega
        obtain ⟨y, rfl⟩ := List.length_eq_one_iff.mp hl
        have : lx [y].reverse [y] = false := lx_irr _
        rw [this]
        simp
    · have hf : firstL (x :: t) = false := by
        unfold firstL
        rw [decide_eq_false (show ¬ (x :: t).headD 0 = minL (x :: t) from hx)]; rfl
      rw [hf]
      apply decide_eq_false
      intro q
      apply hx
      unfold writtenL at q
      split at q
      · rw [back_cons hne] at q; exact (List.cons.inj q).1.symm
      · rw [turned_cons hne] at q; exact (List.cons.inj q).1.symm
/-- a row as it is written is begun at its least place -/
theorem written_first {row : List Int} (nd : row.Nodup) (h : 1 < row.length) : firstL (writtenL row) = true := by
  have hne : row ≠ [] := fun e => by subst e; exact absurd h (by decide)
  have pw := written_perm hne
  have hm : minL (writtenL row) = minL row := minL_perm pw fun e => by
    have := pw.length_eq; rw [e] at this; simp at this; omega
  have tl : (turnedL row).length = row.length := (turned_perm row).length_eq
  have nt : (turnedL row).Nodup := (turned_perm row).nodup_iff.mpr nd
  unfold firstL
  rw [hm]
  have ht := turned_cons hne
  have hb := back_cons hne
  generalize hu : row.drop (atL row + 1) ++ row.take (atL row) = u at ht hb
  rw [ht] at tl nt
  have nu : u.Nodup := (List.nodup_cons.mp nt).2
  rw [List.length_cons] at tl
  have hh : (writtenL row).headD 0 = minL row := by
    unfold writtenL
    split
    · rw [hb]; rfl
    · rw [ht]; rfl
  rw [decide_eq_true hh, Bool.true_and]
  by_cases h2 : 2 ≤ u.length
  · have key := lx_revtail u nu h2
    have ne : u ≠ [] := fun e => by subst e; exact absurd h2 (by decide)
    have k2 : (minL row :: u).getD 1 0 = u.headD 0 ∧ (minL row :: u).getLastD 0 = u.getLastD 0 := by
      cases u with
      | nil => exact absurd rfl ne
      | cons y r => exact ⟨rfl, rfl⟩
    have k3 : (minL row :: u.reverse).getD 1 0 = u.getLastD 0 ∧ (minL row :: u.reverse).getLastD 0 = u.headD 0 := by
      cases u with
      | nil => exact absurd rfl ne
      | cons y r =>
        refine ⟨?_, ?_⟩
        · cases q : (y :: r).reverse with
          | nil => rw [List.reverse_eq_nil_iff] at q; cases q
          | cons z v =>
            have e2 : y :: r = v.reverse ++ [z] := by
              have := congrArg List.reverse q
              rw [List.reverse_reverse, List.reverse_cons] at this; exact this
            rw [e2, List.getLastD_concat]; rfl
        · rw [List.reverse_cons, ← List.cons_append, List.getLastD_concat]; rfl
    unfold writtenL
    rw [ht, hb, lx, if_pos rfl, key]
    by_cases c : u.getLastD 0 < u.headD 0
    · rw [if_pos (decide_eq_true c), k3.1, k3.2, decide_eq_true (show u.getLastD 0 ≤ u.headD 0 by omega), Bool.or_true]
    · rw [if_neg (by rw [decide_eq_false c]; decide), k2.1, k2.2, decide_eq_true (show u.headD 0 ≤ u.getLastD 0 by omega), Bool.or_true]
  · have : (writtenL row).length ≤ 2 := by rw [pw.length_eq]; omega
    rw [decide_eq_true this]; rfl
/-- what does not see the way about is the same round the written row -/
theorem written_cyc {β : Type} (g : Int × Int → β) (hg : ∀ p, g p.swap = g p) (row : List Int) (h : row ≠ []) : ((cyc (writtenL row)).map g).Perm ((cyc row).map g) := by
  have a : ((cyc (turnedL row)).map g).Perm ((cyc row).map g) := by
    unfold turnedL
    have := cyc_rot (row.take (atL row)) (row.drop (atL row))
    rw [List.take_append_drop] at this
    exact this.map g
  unfold writtenL
  split
  · rw [back_cons h, cyc_rev]
    have e : ∀ l : List (Int × Int), ((l.map Prod.swap).reverse.map g).Perm (l.map g) := fun l => by
      rw [List.map_reverse, List.map_map]
      refine (List.reverse_perm _).trans ?_
      rw [List.map_congr_left fun p _ => (show (g ∘ Prod.swap) p = g p from hg p)]
    refine (e _).trans ?_
    rw [← turned_cons h]
    exact a
  · exact a
end DL
namespace DL
open PySem PySem.Spec PyProof.Rows L2
/-- plain data; o: owned (may be changed here), else fixed for ever -/
inductive D where
  | un | non | bl (b : Bool) | int (i : Int) | str (s : Str)
  | tup (ds : List D)
  | ptp (ds : List D)
  | lst (o : Bool) (ds : List D)
  | scr (ds : List D)
  | raw (v : V)
  | dct (o t : Bool) (ks : List (List Key)) (ds : List D)
  | ins (o : Bool) (c : Str) (fs : List Str) (ds : List D)

instance : Inhabited D := ⟨.un⟩

/-- a fixed list that is read -/
def FzL (K : PySem.W.Frag) (Z : Addr → Prop) (H : Hp) (a : Addr) (vs : List V) : Prop :=
  (H a = some (.lst vs) ∧ Z a) ∨ (∃ o, H a = some (.frz o (.lst vs))) ∨
  (∃ (o : Obj) (its : Array Value) (n : Nat), K.lookup a = some o ∧ o.cls = .type "list" ∧ o.dict = none ∧ o.data = .seq its n ∧ its.size ≤ sizeLine ∧ Vals vs its.toList)
theorem FzL.sq {K : PySem.W.Frag} {Z : Addr → Prop} {H : Hp} {a : Addr} {vs : List V} (h : FzL K Z H a vs) : SqL K H a vs := by
  rcases h with ⟨h, _⟩ | h | h
  · exact .inl (.inl h)
  · exact .inl (.inr h)
  · exact .inr h

/-- a dict's keys: t: tuples of ints and texts, else ints and texts (each alone in a list) -/
def headK (k : List Key) : Key := k.headD (.inl 0)
def dHO (t : Bool) (ks : List (List Key)) (vs : List V) : HO := match t with
  | true => .dT (ks.zip vs)
  | false => .dK ((ks.map headK).zip vs)
structure KsOk (t : Bool) (ks : List (List Key)) : Prop where
  nd : ks.Nodup
  one : t = false → ∀ k ∈ ks, ∃ x, k = [x]
/-- the class of a name -/
def clsA (K : PySem.W.Frag) (c : Str) (C : Addr) : Prop := PySem.W.nsIn K mainGlobals c = some (some (.ref C))
/-- a tuple that is known to its object -/
def TupX (K : PySem.W.Frag) (H : Hp) (a : Addr) (vs : List V) : Prop :=
  (∃ o : Obj, o.dict = none ∧ H a = some (.frz o (.tup vs))) ∨
  (∃ (o : Obj) (its : Array Value) (n : Nat), K.lookup a = some o ∧ o.cls = .type "tuple" ∧ o.dict = none ∧ o.data = .seq its n ∧ its.size ≤ sizeLine ∧ Vals vs its.toList)
mutual
def Rep (K : PySem.W.Frag) (Z : Addr → Prop) (H : Hp) : D → V → List Addr → Prop
  | .un, _, _ => False
  | .non, v, S => v = .non ∧ S = []
  | .bl b, v, S => v = .bl b ∧ S = []
  | .int i, v, S => v = .int i ∧ S = []
  | .str s, v, S => v = .str s ∧ S = []
  | .raw w, v, S => v = w ∧ S = []
  | .tup ds, v, S => ∃ a vs, v = .ref a ∧ TupX K H a vs ∧ Reps K Z H ds vs S
  | .ptp ds, v, S => ∃ a vs, v = .ref a ∧ H a = some (.tup vs) ∧ Reps K Z H ds vs S
  | .lst true ds, v, S => ∃ a vs T, v = .ref a ∧ H a = some (.lst vs) ∧ S = a :: T ∧ Reps K Z H ds vs T
  | .lst false ds, v, S => ∃ a vs, v = .ref a ∧ H a = some (.lst vs) ∧ Z a ∧ S = [] ∧ Reps K Z H ds vs []
  | .scr ds, v, S => ∃ a vs, v = .ref a ∧ FzL K Z H a vs ∧ S = [] ∧ Reps K Z H ds vs []
  | .dct true t ks ds, v, S => ∃ a vs T, v = .ref a ∧ H a = some (dHO t ks vs) ∧ (KsOk t ks ∧ ks.length = vs.length) ∧ S = a :: T ∧ Reps K Z H ds vs T
  | .dct false t ks ds, v, S => ∃ a vs, v = .ref a ∧ H a = some (dHO t ks vs) ∧ Z a ∧ (KsOk t ks ∧ ks.length = vs.length) ∧ S = [] ∧ Reps K Z H ds vs []
  | .ins true c fs ds, v, S => ∃ a dx C vs T, v = .ref a ∧ clsA K c C ∧ H a = some (.ins C dx (fs.zip vs)) ∧ H dx = some (.own a) ∧ (fs.Nodup ∧ fs.length = vs.length) ∧ S = a :: dx :: T ∧ Reps K Z H ds vs T
  | .ins false c fs ds, v, S => ∃ a dx C vs, v = .ref a ∧ clsA K c C ∧ H a = some (.ins C dx (fs.zip vs)) ∧ H dx = some (.own a) ∧ Z a ∧ Z dx ∧ (fs.Nodup ∧ fs.length = vs.length) ∧ S = [] ∧ Reps K Z H ds vs []
def Reps (K : PySem.W.Frag) (Z : Addr → Prop) (H : Hp) : List D → List V → List Addr → Prop
  | [], vs, S => vs = [] ∧ S = []
  | d :: ds, vs, S => ∃ v ws T U, vs = v :: ws ∧ S = T ++ U ∧ Rep K Z H d v T ∧ Reps K Z H ds ws U
end

mutual
def fz : D → D
  | .tup ds => .tup (fzs ds)
  | .ptp ds => .ptp (fzs ds)
  | .lst _ ds => .lst false (fzs ds)
  | .scr ds => .scr (fzs ds)
  | .dct _ t ks ds => .dct false t ks (fzs ds)
  | .ins _ c fs ds => .ins false c fs (fzs ds)
  | .un => .un | .non => .non | .bl b => .bl b | .int i => .int i | .str s => .str s | .raw v => .raw v
def fzs : List D → List D
  | [] => []
  | d :: ds => fz d :: fzs ds
end
mutual
/-- nothing in it may be changed -/
def pu : D → Bool
  | .tup ds => pus ds
  | .ptp ds => pus ds
  | .lst o ds => !o && pus ds
  | .scr ds => pus ds
  | .dct o _ _ ds => !o && pus ds
  | .ins o _ _ ds => !o && pus ds
  | .un => true | .non => true | .bl _ => true | .int _ => true | .str _ => true | .raw _ => true
def pus : List D → Bool
  | [] => true
  | d :: ds => pu d && pus ds
end
theorem pus_all : ∀ ds : List D, pus ds = ds.all pu
  | [] => rfl
  | d :: ds => by rw [pus, List.all_cons, pus_all ds]
theorem fzs_map : ∀ ds : List D, fzs ds = ds.map fz
  | [] => rfl
  | d :: ds => by rw [fzs, List.map_cons, fzs_map ds]
mutual
theorem pu_fz : ∀ d : D, pu (fz d) = true
  | .tup ds => by rw [fz, pu]; exact pus_fzs ds
  | .ptp ds => by rw [fz, pu]; exact pus_fzs ds
  | .lst o ds => by rw [fz, pu]; simp [pus_fzs ds]
  | .scr ds => by rw [fz, pu]; exact pus_fzs ds
  | .dct o t ks ds => by rw [fz, pu]; simp [pus_fzs ds]
  | .ins o c fs ds => by rw [fz, pu]; simp [pus_fzs ds]
  | .un => rfl | .non => rfl | .bl _ => rfl | .int _ => rfl | .str _ => rfl | .raw _ => rfl
theorem pus_fzs : ∀ ds : List D, pus (fzs ds) = true
  | [] => rfl
  | d :: ds => by rw [fzs, pus, pu_fz d, pus_fzs ds]; rfl
end
mutual
theorem fz_pu : ∀ d : D, pu d = true → fz d = d
  | .tup ds, h => by rw [fz, fzs_pus ds (by rw [pu] at h; exact h)]
  | .ptp ds, h => by rw [fz, fzs_pus ds (by rw [pu] at h; exact h)]
  | .lst o ds, h => by
    rw [pu] at h
    simp only [Bool.and_eq_true, Bool.not_eq_true'] at h
    rw [fz, fzs_pus ds h.2, h.1]
  | .scr ds, h => by rw [fz, fzs_pus ds (by rw [pu] at h; exact h)]
  | .dct o t ks ds, h => by
    rw [pu] at h
    simp only [Bool.and_eq_true, Bool.not_eq_true'] at h
    rw [fz, fzs_pus ds h.2, h.1]
  | .ins o c fs ds, h => by
    rw [pu] at h
    simp only [Bool.and_eq_true, Bool.not_eq_true'] at h
    rw [fz, fzs_pus ds h.2, h.1]
  | .un, _ => rfl | .non, _ => rfl | .bl _, _ => rfl | .int _, _ => rfl | .str _, _ => rfl | .raw _, _ => rfl
theorem fzs_pus : ∀ ds : List D, pus ds = true → fzs ds = ds
  | [], _ => rfl
  | d :: ds, h => by
    rw [pus, Bool.and_eq_true] at h
    rw [fzs, fz_pu d h.1, fzs_pus ds h.2]
end

structure Stab (Z : Addr → Prop) (H : Hp) (Z2 : Addr → Prop) (H2 : Hp) (kp : Addr → Prop) : Prop where
  tup : ∀ b xs, H b = some (.tup xs) → H2 b = some (.tup xs)
  frz : ∀ b o u, H b = some (.frz o u) → H2 b = some (.frz o u)
  z : ∀ b, Z b → Z2 b
  zo : ∀ b o, Z b → H b = some o → H2 b = some o
  kp : ∀ b o, kp b → H b = some o → H2 b = some o

section
variable {K : PySem.W.Frag} {Z Z2 Z3 : Addr → Prop} {H H2 H3 : Hp} {kp kp' : Addr → Prop}
theorem Stab.refl : Stab Z H Z H kp := ⟨fun _ _ h => h, fun _ _ _ h => h, fun _ h => h, fun _ _ _ h => h, fun _ _ _ h => h⟩
theorem Stab.mono (s : Stab Z H Z2 H2 kp) (h : ∀ b, kp' b → kp b) : Stab Z H Z2 H2 kp' := ⟨s.tup, s.frz, s.z, s.zo, fun b o k e => s.kp b o (h b k) e⟩
theorem Stab.trans (s : Stab Z H Z2 H2 kp) (t : Stab Z2 H2 Z3 H3 kp) : Stab Z H Z3 H3 kp :=
  ⟨fun b xs h => t.tup b xs (s.tup b xs h), fun b o u h => t.frz b o u (s.frz b o u h), fun b h => t.z b (s.z b h), fun b o z h => t.zo b o (s.z b z) (s.zo b o z h), fun b o k h => t.kp b o k (s.kp b o k h)⟩
theorem Stab.sqT (s : Stab Z H Z2 H2 kp) {a : Addr} {vs : List V} (h : SqT K H a vs) : SqT K H2 a vs := by
  rcases h with (h | ⟨o, h⟩) | h
  · exact .inl (.inl (s.tup a vs h))
  · exact .inl (.inr ⟨o, s.frz a o _ h⟩)
  · exact .inr h
theorem Stab.fzL (s : Stab Z H Z2 H2 kp) {a : Addr} {vs : List V} (h : FzL K Z H a vs) : FzL K Z2 H2 a vs := by
  rcases h with ⟨h, z⟩ | ⟨o, h⟩ | h
  · exact .inl ⟨s.zo a _ z h, s.z a z⟩
  · exact .inr (.inl ⟨o, s.frz a o _ h⟩)
  · exact .inr (.inr h)
theorem TupX.stab (s : Stab Z H Z2 H2 kp) {a : Addr} {vs : List V} (h : TupX K H a vs) : TupX K H2 a vs := by
  rcases h with ⟨o, n, h⟩ | h
  · exact .inl ⟨o, n, s.frz a o _ h⟩
  · exact .inr h
theorem TupX.sq {a : Addr} {vs : List V} (h : TupX K H a vs) : SqT K H a vs := by
  rcases h with ⟨o, _, h⟩ | ⟨o, its, n, h1, h2, h3, h4, h5, h6⟩
  · exact .inl (.inr ⟨o, h⟩)
  · exact .inr ⟨o, its, n, h1, h2, h4, h5, h6⟩
mutual
theorem Rep.stab (s : Stab Z H Z2 H2 kp) : ∀ (d : D) (v : V) (S : List Addr), Rep K Z H d v S → (∀ b ∈ S, kp b) → Rep K Z2 H2 d v S
  | .un, _, _, h, _ => by rw [Rep] at h; exact h.elim
  | .non, _, _, h, _ => by rw [Rep] at h ⊢; exact h
  | .bl _, _, _, h, _ => by rw [Rep] at h ⊢; exact h
  | .int _, _, _, h, _ => by rw [Rep] at h ⊢; exact h
  | .str _, _, _, h, _ => by rw [Rep] at h ⊢; exact h
  | .raw _, _, _, h, _ => by rw [Rep] at h ⊢; exact h
  | .tup ds, v, S, h, hk => by
    rw [Rep] at h ⊢
    obtain ⟨a, vs, e, hs, hr⟩ := h
    exact ⟨a, vs, e, hs.stab s, Reps.stab s ds vs S hr hk⟩
  | .ptp ds, v, S, h, hk => by
    rw [Rep] at h ⊢
    obtain ⟨a, vs, e, hs, hr⟩ := h
    exact ⟨a, vs, e, s.tup a vs hs, Reps.stab s ds vs S hr hk⟩
  | .dct true t ks ds, v, S, h, hk => by
    rw [Rep] at h ⊢
    obtain ⟨a, vs, T, e, ha, ok, eS, hr⟩ := h
    subst eS
    exact ⟨a, vs, T, e, s.kp a _ (hk a List.mem_cons_self) ha, ok, rfl, Reps.stab s ds vs T hr fun b hb => hk b (List.mem_cons_of_mem _ hb)⟩
  | .dct false t ks ds, v, S, h, hk => by
    rw [Rep] at h ⊢
    obtain ⟨a, vs, e, ha, hz, ok, eS, hr⟩ := h
    exact ⟨a, vs, e, s.zo a _ hz ha, s.z a hz, ok, eS, Reps.stab s ds vs [] hr fun b hb => (nomatch hb)⟩
  | .ins true c fs ds, v, S, h, hk => by
    rw [Rep] at h ⊢
    obtain ⟨a, dx, C, vs, T, e, hc, ha, hd, ok, eS, hr⟩ := h
    subst eS
    exact ⟨a, dx, C, vs, T, e, hc, s.kp a _ (hk a List.mem_cons_self) ha, s.kp dx _ (hk dx (List.mem_cons_of_mem _ List.mem_cons_self)) hd, ok, rfl, Reps.stab s ds vs T hr fun b hb => hk b (List.mem_cons_of_mem _ (List.mem_cons_of_mem _ hb))⟩
  | .ins false c fs ds, v, S, h, hk => by
    rw [Rep] at h ⊢
    obtain ⟨a, dx, C, vs, e, hc, ha, hd, hz, hz2, ok, eS, hr⟩ := h
    exact ⟨a, dx, C, vs, e, hc, s.zo a _ hz ha, s.zo dx _ hz2 hd, s.z a hz, s.z dx hz2, ok, eS, Reps.stab s ds vs [] hr fun b hb => (nomatch hb)⟩
  | .lst true ds, v, S, h, hk => by
    rw [Rep] at h ⊢
    obtain ⟨a, vs, T, e, ha, eS, hr⟩ := h
    subst eS
    exact ⟨a, vs, T, e, s.kp a _ (hk a List.mem_cons_self) ha, rfl, Reps.stab s ds vs T hr fun b hb => hk b (List.mem_cons_of_mem _ hb)⟩
  | .lst false ds, v, S, h, hk => by
    rw [Rep] at h ⊢
    obtain ⟨a, vs, e, ha, hz, eS, hr⟩ := h
    exact ⟨a, vs, e, s.zo a _ hz ha, s.z a hz, eS, Reps.stab s ds vs [] hr fun b hb => (nomatch hb)⟩
  | .scr ds, v, S, h, hk => by
    rw [Rep] at h ⊢
    obtain ⟨a, vs, e, ha, eS, hr⟩ := h
    exact ⟨a, vs, e, s.fzL ha, eS, Reps.stab s ds vs [] hr fun b hb => (nomatch hb)⟩
theorem Reps.stab (s : Stab Z H Z2 H2 kp) : ∀ (ds : List D) (vs : List V) (S : List Addr), Reps K Z H ds vs S → (∀ b ∈ S, kp b) → Reps K Z2 H2 ds vs S
  | [], _, _, h, _ => by rw [Reps] at h ⊢; exact h
  | d :: ds, vs, S, h, hk => by
    rw [Reps] at h ⊢
    obtain ⟨v, ws, T, U, e1, e2, h1, h2⟩ := h
    subst e2
    exact ⟨v, ws, T, U, e1, rfl, Rep.stab s d v T h1 fun b hb => hk b (List.mem_append_left _ hb), Reps.stab s ds ws U h2 fun b hb => hk b (List.mem_append_right _ hb)⟩
end
mutual
theorem Rep.pure : ∀ (d : D) (v : V) (S : List Addr), Rep K Z H d v S → pu d = true → S = []
  | .un, _, _, h, _ => by rw [Rep] at h; exact h.elim
  | .non, _, _, h, _ => by rw [Rep] at h; exact h.2
  | .bl _, _, _, h, _ => by rw [Rep] at h; exact h.2
  | .int _, _, _, h, _ => by rw [Rep] at h; exact h.2
  | .str _, _, _, h, _ => by rw [Rep] at h; exact h.2
  | .raw _, _, _, h, _ => by rw [Rep] at h; exact h.2
  | .tup ds, v, S, h, p => by
    rw [Rep] at h; rw [pu] at p
    obtain ⟨a, vs, e, hs, hr⟩ := h
    exact Reps.pure ds vs S hr p
  | .ptp ds, v, S, h, p => by
    rw [Rep] at h; rw [pu] at p
    obtain ⟨a, vs, e, hs, hr⟩ := h
    exact Reps.pure ds vs S hr p
  | .lst true ds, v, S, h, p => by
    rw [pu] at p; simp at p
  | .lst false ds, v, S, h, p => by
    rw [Rep] at h
    obtain ⟨_, _, _, _, _, e, _⟩ := h
    exact e
  | .scr ds, v, S, h, p => by
    rw [Rep] at h
    obtain ⟨_, _, _, _, e, _⟩ := h
    exact e
  | .dct true t ks ds, v, S, h, p => by
    rw [pu] at p; simp at p
  | .dct false t ks ds, v, S, h, p => by
    rw [Rep] at h
    obtain ⟨_, _, _, _, _, _, e, _⟩ := h
    exact e
  | .ins true c fs ds, v, S, h, p => by
    rw [pu] at p; simp at p
  | .ins false c fs ds, v, S, h, p => by
    rw [Rep] at h
    obtain ⟨_, _, _, _, _, _, _, _, _, _, _, e, _⟩ := h
    exact e
theorem Reps.pure : ∀ (ds : List D) (vs : List V) (S : List Addr), Reps K Z H ds vs S → pus ds = true → S = []
  | [], _, _, h, _ => by rw [Reps] at h; exact h.2
  | d :: ds, vs, S, h, p => by
    rw [Reps] at h; rw [pus, Bool.and_eq_true] at p
    obtain ⟨v, ws, T, U, e1, e2, h1, h2⟩ := h
    rw [e2, Rep.pure d v T h1 p.1, Reps.pure ds ws U h2 p.2]; rfl
end
mutual
theorem Rep.freeze (hz : ∀ b, Z b → Z2 b) : ∀ (d : D) (v : V) (S : List Addr), Rep K Z H d v S → (∀ b ∈ S, Z2 b) → Rep K Z2 H (fz d) v []
  | .un, _, _, h, _ => by rw [Rep] at h; exact h.elim
  | .non, _, _, h, _ => by rw [Rep] at h; rw [fz, Rep]; exact ⟨h.1, rfl⟩
  | .bl _, _, _, h, _ => by rw [Rep] at h; rw [fz, Rep]; exact ⟨h.1, rfl⟩
  | .int _, _, _, h, _ => by rw [Rep] at h; rw [fz, Rep]; exact ⟨h.1, rfl⟩
  | .str _, _, _, h, _ => by rw [Rep] at h; rw [fz, Rep]; exact ⟨h.1, rfl⟩
  | .raw _, _, _, h, _ => by rw [Rep] at h; rw [fz, Rep]; exact ⟨h.1, rfl⟩
  | .tup ds, v, S, h, hS => by
    rw [Rep] at h; rw [fz, Rep]
    obtain ⟨a, vs, e, hs, hr⟩ := h
    exact ⟨a, vs, e, hs, Reps.freeze hz ds vs S hr hS⟩
  | .ptp ds, v, S, h, hS => by
    rw [Rep] at h; rw [fz, Rep]
    obtain ⟨a, vs, e, hs, hr⟩ := h
    exact ⟨a, vs, e, hs, Reps.freeze hz ds vs S hr hS⟩
  | .lst true ds, v, S, h, hS => by
    rw [Rep] at h; rw [fz, Rep]
    obtain ⟨a, vs, T, e, ha, eS, hr⟩ := h
    subst eS
    exact ⟨a, vs, e, ha, hS a List.mem_cons_self, rfl, Reps.freeze hz ds vs T hr fun b hb => hS b (List.mem_cons_of_mem _ hb)⟩
  | .lst false ds, v, S, h, hS => by
    rw [Rep] at h; rw [fz, Rep]
    obtain ⟨a, vs, e, ha, hza, eS, hr⟩ := h
    exact ⟨a, vs, e, ha, hz a hza, rfl, Reps.freeze hz ds vs [] hr fun b hb => (nomatch hb)⟩
  | .scr ds, v, S, h, hS => by
    rw [Rep] at h; rw [fz, Rep]
    obtain ⟨a, vs, e, ha, eS, hr⟩ := h
    refine ⟨a, vs, e, ?_, rfl, Reps.freeze hz ds vs [] hr fun b hb => (nomatch hb)⟩
    rcases ha with ⟨h1, h2⟩ | h1 | h1
    · exact .inl ⟨h1, hz a h2⟩
    · exact .inr (.inl h1)
    · exact .inr (.inr h1)
  | .dct true t ks ds, v, S, h, hS => by
    rw [Rep] at h; rw [fz, Rep]
    obtain ⟨a, vs, T, e, ha, ok, eS, hr⟩ := h
    subst eS
    exact ⟨a, vs, e, ha, hS a List.mem_cons_self, ok, rfl, Reps.freeze hz ds vs T hr fun b hb => hS b (List.mem_cons_of_mem _ hb)⟩
  | .dct false t ks ds, v, S, h, hS => by
    rw [Rep] at h; rw [fz, Rep]
    obtain ⟨a, vs, e, ha, hza, ok, eS, hr⟩ := h
    exact ⟨a, vs, e, ha, hz a hza, ok, rfl, Reps.freeze hz ds vs [] hr fun b hb => (nomatch hb)⟩
  | .ins true c fs ds, v, S, h, hS => by
    rw [Rep] at h; rw [fz, Rep]
    obtain ⟨a, dx, C, vs, T, e, hc, ha, hd, ok, eS, hr⟩ := h
    subst eS
    exact ⟨a, dx, C, vs, e, hc, ha, hd, hS a List.mem_cons_self, hS dx (List.mem_cons_of_mem _ List.mem_cons_self), ok, rfl, Reps.freeze hz ds vs T hr fun b hb => hS b (List.mem_cons_of_mem _ (List.mem_cons_of_mem _ hb))⟩
  | .ins false c fs ds, v, S, h, hS => by
    rw [Rep] at h; rw [fz, Rep]
    obtain ⟨a, dx, C, vs, e, hc, ha, hd, h1, h2, ok, eS, hr⟩ := h
    exact ⟨a, dx, C, vs, e, hc, ha, hd, hz a h1, hz dx h2, ok, rfl, Reps.freeze hz ds vs [] hr fun b hb => (nomatch hb)⟩
theorem Reps.freeze (hz : ∀ b, Z b → Z2 b) : ∀ (ds : List D) (vs : List V) (S : List Addr), Reps K Z H ds vs S → (∀ b ∈ S, Z2 b) → Reps K Z2 H (fzs ds) vs []
  | [], _, _, h, _ => by rw [Reps] at h; rw [fzs, Reps]; exact ⟨h.1, rfl⟩
  | d :: ds, vs, S, h, hS => by
    rw [Reps] at h; rw [fzs, Reps]
    obtain ⟨v, ws, T, U, e1, e2, h1, h2⟩ := h
    subst e2
    exact ⟨v, ws, [], [], e1, rfl, Rep.freeze hz d v T h1 fun b hb => hS b (List.mem_append_left _ hb), Reps.freeze hz ds ws U h2 fun b hb => hS b (List.mem_append_right _ hb)⟩
end
mutual
/-- what is owned stands there -/
theorem Rep.own : ∀ (d : D) (v : V) (S : List Addr), Rep K Z H d v S → ∀ b ∈ S, ∃ xs, H b = some xs
  | .un, _, _, h, _, _ => by rw [Rep] at h; exact h.elim
  | .non, _, _, h, _, hb => by rw [Rep] at h; rw [h.2] at hb; exact (nomatch hb)
  | .bl _, _, _, h, _, hb => by rw [Rep] at h; rw [h.2] at hb; exact (nomatch hb)
  | .int _, _, _, h, _, hb => by rw [Rep] at h; rw [h.2] at hb; exact (nomatch hb)
  | .str _, _, _, h, _, hb => by rw [Rep] at h; rw [h.2] at hb; exact (nomatch hb)
  | .raw _, _, _, h, _, hb => by rw [Rep] at h; rw [h.2] at hb; exact (nomatch hb)
  | .tup ds, v, S, h, b, hb => by
    rw [Rep] at h
    obtain ⟨a, vs, e, hs, hr⟩ := h
    exact Reps.own ds vs S hr b hb
  | .ptp ds, v, S, h, b, hb => by
    rw [Rep] at h
    obtain ⟨a, vs, e, hs, hr⟩ := h
    exact Reps.own ds vs S hr b hb
  | .lst true ds, v, S, h, b, hb => by
    rw [Rep] at h
    obtain ⟨a, vs, T, e, ha, eS, hr⟩ := h
    subst eS
    rcases List.mem_cons.mp hb with rfl | hb
    · exact ⟨_, ha⟩
    · exact Reps.own ds vs T hr b hb
  | .lst false ds, v, S, h, b, hb => by
    rw [Rep] at h
    obtain ⟨_, _, _, _, _, e, _⟩ := h
    rw [e] at hb; exact (nomatch hb)
  | .scr ds, v, S, h, b, hb => by
    rw [Rep] at h
    obtain ⟨_, _, _, _, e, _⟩ := h
    rw [e] at hb; exact (nomatch hb)
  | .dct true t ks ds, v, S, h, b, hb => by
    rw [Rep] at h
    obtain ⟨a, vs, T, e, ha, ok, eS, hr⟩ := h
    subst eS
    rcases List.mem_cons.mp hb with rfl | hb
    · exact ⟨_, ha⟩
    · exact Reps.own ds vs T hr b hb
  | .dct false t ks ds, v, S, h, b, hb => by
    rw [Rep] at h
    obtain ⟨_, _, _, _, _, _, e, _⟩ := h
    rw [e] at hb; exact (nomatch hb)
  | .ins true c fs ds, v, S, h, b, hb => by
    rw [Rep] at h
    obtain ⟨a, dx, C, vs, T, e, hc, ha, hd, ok, eS, hr⟩ := h
    subst eS
    rcases List.mem_cons.mp hb with rfl | hb
    · exact ⟨_, ha⟩
    rcases List.mem_cons.mp hb with rfl | hb
    · exact ⟨_, hd⟩
    · exact Reps.own ds vs T hr b hb
  | .ins false c fs ds, v, S, h, b, hb => by
    rw [Rep] at h
    obtain ⟨_, _, _, _, _, _, _, _, _, _, _, e, _⟩ := h
    rw [e] at hb; exact (nomatch hb)
theorem Reps.own : ∀ (ds : List D) (vs : List V) (S : List Addr), Reps K Z H ds vs S → ∀ b ∈ S, ∃ xs, H b = some xs
  | [], _, _, h, _, hb => by rw [Reps] at h; rw [h.2] at hb; exact (nomatch hb)
  | d :: ds, vs, S, h, b, hb => by
    rw [Reps] at h
    obtain ⟨v, ws, T, U, e1, e2, h1, h2⟩ := h
    subst e2
    rcases List.mem_append.mp hb with hb | hb
    · exact Rep.own d v T h1 b hb
    · exact Reps.own ds ws U h2 b hb
end
theorem Reps.length : ∀ {ds : List D} {vs : List V} {S : List Addr}, Reps K Z H ds vs S → vs.length = ds.length
  | [], vs, _, h => by rw [Reps] at h; rw [h.1]; rfl
  | d :: ds, vs, _, h => by
    rw [Reps] at h
    obtain ⟨v, ws, T, U, e1, e2, h1, h2⟩ := h
    subst e1
    rw [List.length_cons, List.length_cons, h2.length]
/-- one item of several -/
theorem Reps.split : ∀ {ds : List D} {vs : List V} {S : List Addr} (j : Nat) (d : D), Reps K Z H ds vs S → ds[j]? = some d →
    ∃ v A B C, vs[j]? = some v ∧ S = A ++ (B ++ C) ∧ Rep K Z H d v B ∧
      ∀ (Z2 : Addr → Prop) (H2 : Hp) (e : D) (B' : List Addr), Stab Z H Z2 H2 (fun b => b ∈ A ∨ b ∈ C) → Rep K Z2 H2 e v B' → Reps K Z2 H2 (ds.set j e) vs (A ++ (B' ++ C))
  | [], _, _, _, _, _, h => by simp at h
  | d :: ds, vs, S, 0, d', h, hj => by
    rw [Reps] at h
    obtain ⟨v, ws, T, U, e1, e2, h1, h2⟩ := h
    subst e1; subst e2
    simp at hj; subst hj
    refine ⟨v, [], T, U, rfl, rfl, h1, fun Z2 H2 e B' s r => ?_⟩
    show Reps K Z2 H2 (e :: ds) (v :: ws) (B' ++ U)
    rw [Reps]
    exact ⟨v, ws, B', U, rfl, rfl, r, Reps.stab s ds ws U h2 fun b hb => .inr hb⟩
  | d :: ds, vs, S, j + 1, d', h, hj => by
    rw [Reps] at h
    obtain ⟨v, ws, T, U, e1, e2, h1, h2⟩ := h
    subst e1; subst e2
    obtain ⟨v', A, B, C, g1, g2, g3, g4⟩ := Reps.split j d' h2 (by simpa using hj)
    subst g2
    refine ⟨v', T ++ A, B, C, by simpa using g1, by simp, g3, fun Z2 H2 e B' s r => ?_⟩
    show Reps K Z2 H2 (d :: ds.set j e) (v :: ws) _
    rw [Reps]
    exact ⟨v, ws, T, A ++ (B' ++ C), rfl, by simp, Rep.stab s d v T h1 fun b hb => .inl (List.mem_append_left _ hb), g4 Z2 H2 e B' (s.mono fun b hb => by
      rcases hb with hb | hb
      · exact .inl (List.mem_append_right _ hb)
      · exact .inr hb) r⟩
theorem Reps.append : ∀ {ds es : List D} {vs ws : List V} {S T : List Addr}, Reps K Z H ds vs S → Reps K Z H es ws T → Reps K Z H (ds ++ es) (vs ++ ws) (S ++ T)
  | [], _, _, _, _, _, h, g => by
    rw [Reps] at h; rw [h.1, h.2]; exact g
  | d :: ds, es, vs, ws, S, T, h, g => by
    rw [Reps] at h
    obtain ⟨v, ws', T', U, e1, e2, h1, h2⟩ := h
    subst e1; subst e2
    show Reps K Z H (d :: (ds ++ es)) (v :: (ws' ++ ws)) _
    rw [Reps]
    exact ⟨v, ws' ++ ws, T', U ++ T, rfl, by simp, h1, h2.append g⟩
theorem Reps.one {d : D} {v : V} {S : List Addr} (h : Rep K Z H d v S) : Reps K Z H [d] [v] S := by
  rw [Reps]
  exact ⟨v, [], S, [], rfl, by simp, h, by rw [Reps]; exact ⟨rfl, rfl⟩⟩
theorem Reps.nil : Reps K Z H [] [] [] := by rw [Reps]; exact ⟨rfl, rfl⟩
theorem Reps.cons {d : D} {ds : List D} {v : V} {vs : List V} {S T : List Addr} (h : Rep K Z H d v S) (t : Reps K Z H ds vs T) : Reps K Z H (d :: ds) (v :: vs) (S ++ T) := by
  rw [Reps]
  exact ⟨v, vs, S, T, rfl, rfl, h, t⟩
theorem Reps.get {ds : List D} {vs : List V} (h : Reps K Z H ds vs []) {j : Nat} {d : D} (hj : ds[j]? = some d) : ∃ v, vs[j]? = some v ∧ Rep K Z H d v [] := by
  obtain ⟨v, A, B, C, g1, g2, g3, _⟩ := Reps.split j d h hj
  have : A = [] ∧ B = [] ∧ C = [] := by simpa using g2.symm
  rw [this.2.1] at g3
  exact ⟨v, g1, g3⟩
end

/-! ### places within data -/
def getP : D → List Nat → D
  | d, [] => d
  | .tup ds, j :: p => getP (ds.getD j .un) p
  | .lst _ ds, j :: p => getP (ds.getD j .un) p
  | .dct _ _ _ ds, j :: p => getP (ds.getD j .un) p
  | .ins _ _ _ ds, j :: p => getP (ds.getD j .un) p
  | _, _ :: _ => .un
def setP : D → List Nat → D → D
  | _, [], e => e
  | .tup ds, j :: p, e => .tup (ds.set j (setP (ds.getD j .un) p e))
  | .lst true ds, j :: p, e => .lst true (ds.set j (setP (ds.getD j .un) p e))
  | .dct true t ks ds, j :: p, e => .dct true t ks (ds.set j (setP (ds.getD j .un) p e))
  | .ins true c fs ds, j :: p, e => .ins true c fs (ds.set j (setP (ds.getD j .un) p e))
  | d, _ :: _, _ => d
theorem getP_append : ∀ (p : List Nat) (d : D) (q : List Nat), getP d (p ++ q) = getP (getP d p) q
  | [], d, q => by simp [getP]
  | j :: p, d, q => by
    cases d <;> try (show getP _ _ = getP _ _; cases q <;> rfl)
    case tup ds => exact getP_append p _ q
    case lst o ds => exact getP_append p _ q
    case dct o t ks ds => exact getP_append p _ q
    case ins o c fs ds => exact getP_append p _ q
theorem getP_un : ∀ p, getP .un p = .un
  | [] => rfl
  | _ :: _ => rfl
theorem setP_append : ∀ (p : List Nat) (d : D) (q : List Nat) (e : D), setP d (p ++ q) e = setP d p (setP (getP d p) q e)
  | [], d, q, e => by simp [getP, setP]
  | j :: p, d, q, e => by
    cases d <;> try rfl
    case tup ds =>
      show D.tup (ds.set j (setP (ds.getD j .un) (p ++ q) e)) = D.tup (ds.set j (setP (ds.getD j .un) p (setP (getP (ds.getD j .un) p) q e)))
      rw [setP_append p _ q e]
    case lst o ds =>
      cases o
      · rfl
      · show D.lst true (ds.set j (setP (ds.getD j .un) (p ++ q) e)) = D.lst true (ds.set j (setP (ds.getD j .un) p (setP (getP (ds.getD j .un) p) q e)))
        rw [setP_append p _ q e]
    case dct o t ks ds =>
      cases o
      · rfl
      · show D.dct true t ks (ds.set j (setP (ds.getD j .un) (p ++ q) e)) = D.dct true t ks (ds.set j (setP (ds.getD j .un) p (setP (getP (ds.getD j .un) p) q e)))
        rw [setP_append p _ q e]
    case ins o c fs ds =>
      cases o
      · rfl
      · show D.ins true c fs (ds.set j (setP (ds.getD j .un) (p ++ q) e)) = D.ins true c fs (ds.set j (setP (ds.getD j .un) p (setP (getP (ds.getD j .un) p) q e)))
        rw [setP_append p _ q e]

/-- the part at p of what stands at v0: v, owning S' -/
def Lens (K : PySem.W.Frag) (Z : Addr → Prop) (H : Hp) (d : D) (v0 : V) (S : List Addr) (p : List Nat) (v : V) (S' : List Addr) : Prop :=
  Rep K Z H (getP d p) v S' ∧ S'.Nodup ∧ (∀ b ∈ S', b ∈ S) ∧
  ∀ (Z2 : Addr → Prop) (H2 : Hp) (e : D) (T : List Addr), Stab Z H Z2 H2 (fun b => b ∈ S ∧ b ∉ S') → Rep K Z2 H2 e v T → T.Nodup → (∀ b ∈ T, b ∈ S' ∨ b ∉ S) →
    ∃ S2, Rep K Z2 H2 (setP d p e) v0 S2 ∧ S2.Nodup ∧ ∀ b ∈ S2, b ∈ T ∨ (b ∈ S ∧ b ∉ S')
section
variable {K : PySem.W.Frag} {Z Z2 : Addr → Prop} {H H2 : Hp} {d : D} {v0 v : V} {S S' : List Addr} {p : List Nat}
theorem Lens.nil (h : Rep K Z H d v0 S) (hn : S.Nodup) : Lens K Z H d v0 S [] v0 S :=
  ⟨by rw [getP]; exact h, hn, fun _ hb => hb, fun Z2 H2 e T s r ht hT => ⟨T, by rw [setP]; exact r, ht, fun b hb => .inl hb⟩⟩
theorem Lens.stab (l : Lens K Z H d v0 S p v S') (s : Stab Z H Z2 H2 (fun b => b ∈ S)) : Lens K Z2 H2 d v0 S p v S' := by
  obtain ⟨h1, h2, h3, h4⟩ := l
  refine ⟨Rep.stab s _ _ _ h1 h3, h2, h3, fun Z3 H3 e T t r ht hT => ?_⟩
  exact h4 Z3 H3 e T ((s.mono fun b hb => hb.1).trans t) r ht hT
theorem nodup_mid {A B C B' : List Addr} (h : (A ++ (B ++ C)).Nodup) (hb : B'.Nodup) (hd : ∀ b ∈ B', b ∈ B ∨ (b ∉ A ∧ b ∉ C)) : (A ++ (B' ++ C)).Nodup := by
  rw [List.nodup_append] at h ⊢
  obtain ⟨hA, hBC, hd1⟩ := h
  rw [List.nodup_append] at hBC
  obtain ⟨hB, hC, hd2⟩ := hBC
  refine ⟨hA, ?_, fun a ha b hb' e => ?_⟩
  · rw [List.nodup_append]
    refine ⟨hb, hC, fun a ha c hc e => ?_⟩
    subst e
    rcases hd a ha with h1 | h1
    · exact hd2 a h1 a hc rfl
    · exact h1.2 hc
  · subst e
    rcases List.mem_append.mp hb' with h1 | h1
    · rcases hd a h1 with h2 | h2
      · exact hd1 a ha a (List.mem_append_left _ h2) rfl
      · exact h2.1 ha
    · exact hd1 a ha a (List.mem_append_right _ h1) rfl
/-- one step further, into a tuple -/
theorem Lens.stepT (l : Lens K Z H d v0 S p v S') {ds : List D} {j : Nat} {e : D} (hd : getP d p = .tup ds) (hj : ds[j]? = some e) :
    ∃ a vs w B, v = .ref a ∧ SqT K H a vs ∧ vs.length = ds.length ∧ vs[j]? = some w ∧ Lens K Z H d v0 S (p ++ [j]) w B := by
  obtain ⟨h1, h2, h3, h4⟩ := l
  rw [hd, Rep] at h1
  obtain ⟨a, vs, rfl, hs, hr⟩ := h1
  obtain ⟨w, A, B, C, g1, g2, g3, g4⟩ := Reps.split j e hr hj
  subst g2
  have hnd := h2
  rw [List.nodup_append] at hnd
  obtain ⟨nA, nBC, dA⟩ := hnd
  rw [List.nodup_append] at nBC
  obtain ⟨nB, nC, dC⟩ := nBC
  have aA : ∀ b ∈ A, b ∉ B := fun b hb hb' => dA b hb b (List.mem_append_left _ hb') rfl
  have aC : ∀ b ∈ C, b ∉ B := fun b hb hb' => dC b hb' b hb rfl
  have sA : ∀ b ∈ A, b ∈ S := fun b hb => h3 b (List.mem_append_left _ hb)
  have sB : ∀ b ∈ B, b ∈ S := fun b hb => h3 b (List.mem_append_right _ (List.mem_append_left _ hb))
  have sC : ∀ b ∈ C, b ∈ S := fun b hb => h3 b (List.mem_append_right _ (List.mem_append_right _ hb))
  have eg : getP d (p ++ [j]) = e := by
    rw [getP_append, hd]
    show getP (ds.getD j .un) [] = e
    rw [getP, List.getD_eq_getElem?_getD, hj]; rfl
  refine ⟨a, vs, w, B, rfl, hs.sq, hr.length, g1, by rw [eg]; exact g3, nB, sB, fun Z2 H2 e2 T st r ht hT => ?_⟩
  have r2 : Rep K Z2 H2 (.tup (ds.set j e2)) (.ref a) (A ++ (T ++ C)) := by
    rw [Rep]
    refine ⟨a, vs, rfl, hs.stab st, g4 Z2 H2 e2 T (st.mono fun b hb => ?_) r⟩
    rcases hb with hb | hb
    · exact ⟨sA b hb, aA b hb⟩
    · exact ⟨sC b hb, aC b hb⟩
  have n2 : (A ++ (T ++ C)).Nodup := nodup_mid h2 ht fun b hb => (hT b hb).imp id fun z => ⟨fun q => z (sA b q), fun q => z (sC b q)⟩
  obtain ⟨S2, q1, q2, q3⟩ := h4 Z2 H2 _ _ (st.mono fun b hb => ⟨hb.1, fun q => hb.2 (List.mem_append_right _ (List.mem_append_left _ q))⟩) r2 n2 (fun b hb => by
    rcases List.mem_append.mp hb with hb | hb
    · exact .inl (List.mem_append_left _ hb)
    · rcases List.mem_append.mp hb with hb | hb
      · exact (hT b hb).imp (fun z => List.mem_append_right _ (List.mem_append_left _ z)) id
      · exact .inl (List.mem_append_right _ (List.mem_append_right _ hb)))
  refine ⟨S2, ?_, q2, fun b hb => ?_⟩
  · rw [setP_append, hd]; exact q1
  · rcases q3 b hb with z | z
    · rcases List.mem_append.mp z with z | z
      · exact .inr ⟨sA b z, aA b z⟩
      · rcases List.mem_append.mp z with z | z
        · exact .inl z
        · exact .inr ⟨sC b z, aC b z⟩
    · exact .inr ⟨z.1, fun q => z.2 (List.mem_append_right _ (List.mem_append_left _ q))⟩
/-- .. into a list -/
theorem Lens.stepL (l : Lens K Z H d v0 S p v S') {o : Bool} {ds : List D} {j : Nat} {e : D} (hd : getP d p = .lst o ds) (hj : ds[j]? = some e) :
    ∃ a vs w B, v = .ref a ∧ SqL K H a vs ∧ vs.length = ds.length ∧ vs[j]? = some w ∧ Lens K Z H d v0 S (p ++ [j]) w B := by
  obtain ⟨h1, h2, h3, h4⟩ := l
  have eg : getP d (p ++ [j]) = e := by
    rw [getP_append, hd]
    show getP (ds.getD j .un) [] = e
    rw [getP, List.getD_eq_getElem?_getD, hj]; rfl
  cases o with
  | false =>
    have h1' := h1
    rw [hd, Rep] at h1
    obtain ⟨a, vs, rfl, hs, hz, rfl, hr⟩ := h1
    obtain ⟨w, g1, g3⟩ := Reps.get hr hj
    refine ⟨a, vs, w, [], rfl, .inl (.inl hs), hr.length, g1, by rw [eg]; exact g3, List.nodup_nil, fun b hb => (nomatch hb), fun Z2 H2 e2 T st r ht hT => ?_⟩
    obtain ⟨S2, q1, q2, q3⟩ := h4 Z2 H2 (.lst false ds) [] (st.mono fun b hb => hb) (by rw [hd] at h1'; exact Rep.stab st _ _ _ h1' fun b hb => (nomatch hb)) List.nodup_nil (fun b hb => (nomatch hb))
    refine ⟨S2, ?_, q2, fun b hb => ?_⟩
    · rw [setP_append, hd]; exact q1
    · rcases q3 b hb with z | z
      · exact (nomatch z)
      · exact .inr z
  | true =>
    rw [hd, Rep] at h1
    obtain ⟨a, vs, T0, rfl, ha, rfl, hr⟩ := h1
    obtain ⟨w, A, B, C, g1, g2, g3, g4⟩ := Reps.split j e hr hj
    subst g2
    have hnd := h2
    rw [List.nodup_cons] at hnd
    obtain ⟨na, n0⟩ := hnd
    have n0' := n0
    rw [List.nodup_append] at n0
    obtain ⟨nA, nBC, dA⟩ := n0
    rw [List.nodup_append] at nBC
    obtain ⟨nB, nC, dC⟩ := nBC
    have aA : ∀ b ∈ A, b ∉ B := fun b hb hb' => dA b hb b (List.mem_append_left _ hb') rfl
    have aC : ∀ b ∈ C, b ∉ B := fun b hb hb' => dC b hb' b hb rfl
    have aa : a ∉ B := fun q => na (List.mem_append_right _ (List.mem_append_left _ q))
    have sa : a ∈ S := h3 a List.mem_cons_self
    have sA : ∀ b ∈ A, b ∈ S := fun b hb => h3 b (List.mem_cons_of_mem _ (List.mem_append_left _ hb))
    have sB : ∀ b ∈ B, b ∈ S := fun b hb => h3 b (List.mem_cons_of_mem _ (List.mem_append_right _ (List.mem_append_left _ hb)))
    have sC : ∀ b ∈ C, b ∈ S := fun b hb => h3 b (List.mem_cons_of_mem _ (List.mem_append_right _ (List.mem_append_right _ hb)))
    refine ⟨a, vs, w, B, rfl, .inl (.inl ha), hr.length, g1, by rw [eg]; exact g3, nB, sB, fun Z2 H2 e2 T st r ht hT => ?_⟩
    have r2 : Rep K Z2 H2 (.lst true (ds.set j e2)) (.ref a) (a :: (A ++ (T ++ C))) := by
      rw [Rep]
      refine ⟨a, vs, _, rfl, st.kp a _ ⟨sa, aa⟩ ha, rfl, g4 Z2 H2 e2 T (st.mono fun b hb => ?_) r⟩
      rcases hb with hb | hb
      · exact ⟨sA b hb, aA b hb⟩
      · exact ⟨sC b hb, aC b hb⟩
    have n2 : (a :: (A ++ (T ++ C))).Nodup := by
      rw [List.nodup_cons]
      refine ⟨fun q => ?_, nodup_mid n0' ht fun b hb => ?_⟩
      · rcases List.mem_append.mp q with q | q
        · exact na (List.mem_append_left _ q)
        · rcases List.mem_append.mp q with q | q
          · rcases hT a q with z | z
            · exact aa z
            · exact z sa
          · exact na (List.mem_append_right _ (List.mem_append_right _ q))
      · exact (hT b hb).imp id fun z => ⟨fun q => z (sA b q), fun q => z (sC b q)⟩
    obtain ⟨S2, q1, q2, q3⟩ := h4 Z2 H2 _ _ (st.mono fun b hb => ⟨hb.1, fun q => hb.2 (List.mem_cons_of_mem _ (List.mem_append_right _ (List.mem_append_left _ q)))⟩) r2 n2 (fun b hb => by
      rcases List.mem_cons.mp hb with rfl | hb
      · exact .inl List.mem_cons_self
      rcases List.mem_append.mp hb with hb | hb
      · exact .inl (List.mem_cons_of_mem _ (List.mem_append_left _ hb))
      · rcases List.mem_append.mp hb with hb | hb
        · exact (hT b hb).imp (fun z => List.mem_cons_of_mem _ (List.mem_append_right _ (List.mem_append_left _ z))) id
        · exact .inl (List.mem_cons_of_mem _ (List.mem_append_right _ (List.mem_append_right _ hb))))
    refine ⟨S2, ?_, q2, fun b hb => ?_⟩
    · rw [setP_append, hd]; exact q1
    · rcases q3 b hb with z | z
      · rcases List.mem_cons.mp z with rfl | z
        · exact .inr ⟨sa, aa⟩
        rcases List.mem_append.mp z with z | z
        · exact .inr ⟨sA b z, aA b z⟩
        · rcases List.mem_append.mp z with z | z
          · exact .inl z
          · exact .inr ⟨sC b z, aC b z⟩
      · exact .inr ⟨z.1, fun q => z.2 (List.mem_cons_of_mem _ (List.mem_append_right _ (List.mem_append_left _ q)))⟩
/-- .. into a box of any kind that is owned: X its own addresses, G what stands there -/
theorem Lens.stepG (l : Lens K Z H d v0 S p v S') {mk : List D → D} {G : Hp → V → List V → List Addr → Prop} {ds : List D} {j : Nat} {e : D} (hd : getP d p = mk ds) (hj : ds[j]? = some e)
    (hg : getP (mk ds) [j] = ds.getD j .un) (hs : ∀ e2, setP (mk ds) [j] e2 = mk (ds.set j e2))
    (op : ∀ v S, Rep K Z H (mk ds) v S → ∃ vs X T, G H v vs X ∧ S = X ++ T ∧ Reps K Z H ds vs T)
    (cl : ∀ (Z2 : Addr → Prop) (H2 : Hp) (v : V) (vs : List V) (X T : List Addr) (es : List D), G H2 v vs X → Reps K Z2 H2 es vs T → Rep K Z2 H2 (mk es) v (X ++ T))
    (sb : ∀ (Z2 : Addr → Prop) (H2 : Hp) (v : V) (vs : List V) (X : List Addr) (kp : Addr → Prop), G H v vs X → Stab Z H Z2 H2 kp → (∀ b ∈ X, kp b) → G H2 v vs X) :
    ∃ vs w B X, G H v vs X ∧ vs.length = ds.length ∧ vs[j]? = some w ∧ Lens K Z H d v0 S (p ++ [j]) w B := by
  obtain ⟨h1, h2, h3, h4⟩ := l
  rw [hd] at h1
  obtain ⟨vs, X, T0, hG, eS, hr⟩ := op _ _ h1
  obtain ⟨w, A, B, C, g1, g2, g3, g4⟩ := Reps.split j e hr hj
  subst g2
  subst eS
  have hnd := h2
  rw [List.nodup_append] at hnd
  obtain ⟨nX, nABC, dX⟩ := hnd
  have n0 := nABC
  rw [List.nodup_append] at nABC
  obtain ⟨nA, nBC, dA⟩ := nABC
  rw [List.nodup_append] at nBC
  obtain ⟨nB, nC, dC⟩ := nBC
  have aX : ∀ b ∈ X, b ∉ B := fun b hb hb' => dX b hb b (List.mem_append_right _ (List.mem_append_left _ hb')) rfl
  have aA : ∀ b ∈ A, b ∉ B := fun b hb hb' => dA b hb b (List.mem_append_left _ hb') rfl
  have aC : ∀ b ∈ C, b ∉ B := fun b hb hb' => dC b hb' b hb rfl
  have sX : ∀ b ∈ X, b ∈ S := fun b hb => h3 b (List.mem_append_left _ hb)
  have sA : ∀ b ∈ A, b ∈ S := fun b hb => h3 b (List.mem_append_right _ (List.mem_append_left _ hb))
  have sB : ∀ b ∈ B, b ∈ S := fun b hb => h3 b (List.mem_append_right _ (List.mem_append_right _ (List.mem_append_left _ hb)))
  have sC : ∀ b ∈ C, b ∈ S := fun b hb => h3 b (List.mem_append_right _ (List.mem_append_right _ (List.mem_append_right _ hb)))
  have eg : getP d (p ++ [j]) = e := by
    rw [getP_append, hd, hg, List.getD_eq_getElem?_getD, hj]; rfl
  refine ⟨vs, w, B, X, hG, hr.length, g1, by rw [eg]; exact g3, nB, sB, fun Z2 H2 e2 T st r ht hT => ?_⟩
  have r2 : Rep K Z2 H2 (mk (ds.set j e2)) v (X ++ (A ++ (T ++ C))) := by
    refine cl Z2 H2 v vs X _ _ (sb Z2 H2 v vs X _ hG st fun b hb => ⟨sX b hb, aX b hb⟩) (g4 Z2 H2 e2 T (st.mono fun b hb => ?_) r)
    rcases hb with hb | hb
    · exact ⟨sA b hb, aA b hb⟩
    · exact ⟨sC b hb, aC b hb⟩
  have n2 : (X ++ (A ++ (T ++ C))).Nodup := by
    have h2' : ((X ++ A) ++ (B ++ C)).Nodup := by rw [List.append_assoc]; exact h2
    have := nodup_mid h2' ht fun b hb => (hT b hb).imp id fun z => ⟨fun q => z (by rcases List.mem_append.mp q with q | q; exact sX b q; exact sA b q), fun q => z (sC b q)⟩
    rwa [List.append_assoc] at this
  obtain ⟨S2, q1, q2, q3⟩ := h4 Z2 H2 _ _ (st.mono fun b hb => ⟨hb.1, fun q => hb.2 (List.mem_append_right _ (List.mem_append_right _ (List.mem_append_left _ q)))⟩) r2 n2 (fun b hb => by
    rcases List.mem_append.mp hb with hb | hb
    · exact .inl (List.mem_append_left _ hb)
    rcases List.mem_append.mp hb with hb | hb
    · exact .inl (List.mem_append_right _ (List.mem_append_left _ hb))
    · rcases List.mem_append.mp hb with hb | hb
      · exact (hT b hb).imp (fun z => List.mem_append_right _ (List.mem_append_right _ (List.mem_append_left _ z))) id
      · exact .inl (List.mem_append_right _ (List.mem_append_right _ (List.mem_append_right _ hb))))
  refine ⟨S2, ?_, q2, fun b hb => ?_⟩
  · rw [setP_append, hd, hs]; exact q1
  · rcases q3 b hb with z | z
    · rcases List.mem_append.mp z with z | z
      · exact .inr ⟨sX b z, aX b z⟩
      rcases List.mem_append.mp z with z | z
      · exact .inr ⟨sA b z, aA b z⟩
      · rcases List.mem_append.mp z with z | z
        · exact .inl z
        · exact .inr ⟨sC b z, aC b z⟩
    · exact .inr ⟨z.1, fun q => z.2 (List.mem_append_right _ (List.mem_append_right _ (List.mem_append_left _ q)))⟩
/-- .. into a dict -/
theorem Lens.stepD (l : Lens K Z H d v0 S p v S') {t : Bool} {ks : List (List Key)} {ds : List D} {j : Nat} {e : D} (hd : getP d p = .dct true t ks ds) (hj : ds[j]? = some e) :
    ∃ a vs w B, v = .ref a ∧ H a = some (dHO t ks vs) ∧ (KsOk t ks ∧ ks.length = vs.length) ∧ vs.length = ds.length ∧ vs[j]? = some w ∧ Lens K Z H d v0 S (p ++ [j]) w B := by
  obtain ⟨vs, w, B, X, ⟨a, h1, h2, h3, h4⟩, h5, h6, h7⟩ := l.stepG (mk := D.dct true t ks) (G := fun H v vs X => ∃ a, v = .ref a ∧ X = [a] ∧ H a = some (dHO t ks vs) ∧ (KsOk t ks ∧ ks.length = vs.length)) hd hj
    (by simp [getP]) (fun e2 => by simp [setP])
    (fun v S h => by
      rw [Rep] at h
      obtain ⟨a, vs, T, e, ha, ok, eS, hr⟩ := h
      exact ⟨vs, [a], T, ⟨a, e, rfl, ha, ok⟩, eS, hr⟩)
    (fun Z2 H2 v vs X T es h r => by
      obtain ⟨a, e, rfl, ha, ok⟩ := h
      rw [Rep]
      exact ⟨a, vs, T, e, ha, ok, rfl, r⟩)
    (fun Z2 H2 v vs X kp h s k => by
      obtain ⟨a, e, rfl, ha, ok⟩ := h
      exact ⟨a, e, rfl, s.kp a _ (k a List.mem_cons_self) ha, ok⟩)
  exact ⟨a, vs, w, B, h1, h3, h4, h5, h6, h7⟩
/-- .. into an instance -/
theorem Lens.stepI (l : Lens K Z H d v0 S p v S') {c : Str} {fs : List Str} {ds : List D} {j : Nat} {e : D} (hd : getP d p = .ins true c fs ds) (hj : ds[j]? = some e) :
    ∃ a dx C vs w B, v = .ref a ∧ clsA K c C ∧ H a = some (.ins C dx (fs.zip vs)) ∧ H dx = some (.own a) ∧ (fs.Nodup ∧ fs.length = vs.length) ∧ vs.length = ds.length ∧ vs[j]? = some w ∧ Lens K Z H d v0 S (p ++ [j]) w B := by
  obtain ⟨vs, w, B, X, ⟨a, dx, C, h1, h2, h3, h4, h8, h9⟩, h5, h6, h7⟩ := l.stepG (mk := D.ins true c fs) (G := fun H v vs X => ∃ a dx C, v = .ref a ∧ X = [a, dx] ∧ clsA K c C ∧ H a = some (.ins C dx (fs.zip vs)) ∧ H dx = some (.own a) ∧ (fs.Nodup ∧ fs.length = vs.length)) hd hj
    (by simp [getP]) (fun e2 => by simp [setP])
    (fun v S h => by
      rw [Rep] at h
      obtain ⟨a, dx, C, vs, T, e, hc, ha, hd, ok, eS, hr⟩ := h
      exact ⟨vs, [a, dx], T, ⟨a, dx, C, e, rfl, hc, ha, hd, ok⟩, eS, hr⟩)
    (fun Z2 H2 v vs X T es h r => by
      obtain ⟨a, dx, C, e, rfl, hc, ha, hd, ok⟩ := h
      rw [Rep]
      exact ⟨a, dx, C, vs, T, e, hc, ha, hd, ok, rfl, r⟩)
    (fun Z2 H2 v vs X kp h s k => by
      obtain ⟨a, dx, C, e, rfl, hc, ha, hd, ok⟩ := h
      exact ⟨a, dx, C, e, rfl, hc, s.kp a _ (k a List.mem_cons_self) ha, s.kp dx _ (k dx (List.mem_cons_of_mem _ List.mem_cons_self)) hd, ok⟩)
  exact ⟨a, dx, C, vs, w, B, h1, h3, h4, h8, h9, h5, h6, h7⟩
end
/-! ### what changes -/
structure Ext (M : Addr → Prop) (Z : Addr → Prop) (H : Hp) (Z' : Addr → Prop) (H' : Hp) : Prop where
  keep : ∀ b o, H b = some o → ¬ M b → H' b = some o
  there : ∀ b o, H b = some o → ∃ o', H' b = some o'
  tup : ∀ b xs, H b = some (.tup xs) → H' b = some (.tup xs)
  frz : ∀ b o u, H b = some (.frz o u) → H' b = some (.frz o u)
  zm : ∀ b, Z b → Z' b
  zn : ∀ b, Z' b → Z b ∨ M b ∨ H b = none
theorem Ext.refl {M : Addr → Prop} {Z : Addr → Prop} {H : Hp} : Ext M Z H Z H := ⟨fun _ _ h _ => h, fun _ o h => ⟨o, h⟩, fun _ _ h => h, fun _ _ _ h => h, fun _ h => h, fun _ h => .inl h⟩
theorem Ext.fresh {M : Addr → Prop} {Z Z' : Addr → Prop} {H H' : Hp} (e : Ext M Z H Z' H') {b : Addr} (h : H' b = none) : H b = none := by
  cases q : H b with
  | none => rfl
  | some o =>
    obtain ⟨o', h'⟩ := e.there b o q
    rw [h] at h'; cases h'
theorem Ext.trans {M M2 : Addr → Prop} {Z Z1 Z2 : Addr → Prop} {H H1 H2 : Hp} (e : Ext M Z H Z1 H1) (f : Ext M2 Z1 H1 Z2 H2) (hM : ∀ b, M2 b → M b ∨ H b = none) : Ext M Z H Z2 H2 where
  keep := fun b o h n => f.keep b o (e.keep b o h n) fun m => by
    rcases hM b m with q | q
    · exact n q
    · rw [h] at q; cases q
  there := fun b o h => let ⟨o', h'⟩ := e.there b o h; f.there b o' h'
  tup := fun b xs h => f.tup b xs (e.tup b xs h)
  frz := fun b o u h => f.frz b o u (e.frz b o u h)
  zm := fun b h => f.zm b (e.zm b h)
  zn := fun b h => by
    rcases f.zn b h with q | q | q
    · exact e.zn b q
    · rcases hM b q with q | q
      · exact .inr (.inl q)
      · exact .inr (.inr q)
    · exact .inr (.inr (e.fresh q))
theorem Ext.mono {M M2 : Addr → Prop} {Z Z1 : Addr → Prop} {H H1 : Hp} (e : Ext M Z H Z1 H1) (h : ∀ b, M b → M2 b ∨ H b = none) : Ext M2 Z H Z1 H1 :=
  ⟨fun b o q n => e.keep b o q (fun m => (h b m).elim (fun z => n z) (fun z => by rw [q] at z; cases z)), e.there, e.tup, e.frz, e.zm, fun b z => by
    rcases e.zn b z with q | q | q
    · exact .inl q
    · rcases h b q with q | q
      · exact .inr (.inl q)
      · exact .inr (.inr q)
    · exact .inr (.inr q)⟩
theorem Ext.laid {M : Addr → Prop} {Z : Addr → Prop} {H : Hp} {p : Addr} {o : HO} (h : H p = none) : Ext M Z H Z (upd H p o) where
  keep := fun b u e _ => by rw [upd_ne (ne_of_none e h)]; exact e
  there := fun b u e => ⟨u, by rw [upd_ne (ne_of_none e h)]; exact e⟩
  tup := fun b u e => by rw [upd_ne (ne_of_none e h)]; exact e
  frz := fun b u w e => by rw [upd_ne (ne_of_none e h)]; exact e
  zm := fun _ h => h
  zn := fun _ h => .inl h
theorem Ext.stab {M : Addr → Prop} {Z Z' : Addr → Prop} {H H' : Hp} (e : Ext M Z H Z' H') (hz : ∀ b, Z b → ¬ M b) : Stab Z H Z' H' (fun b => ¬ M b) :=
  ⟨e.tup, e.frz, e.zm, fun b o z h => e.keep b o h (hz b z), fun b o k h => e.keep b o h k⟩

/-! ### a state: N names and, behind them, what is being reckoned -/
abbrev Env := List D
def gt (ρ : Env) (i : Nat) : D := ρ.getD i .un

structure St0 (K : PySem.W.Frag) (N : Nat) (ρ : Env) (σ : L2.St) (H : Hp) (Z : Addr → Prop) (E : Nat → D) (W : Nat → Option V) (F : Nat → List Addr) (h : Nat) : Prop where
  hN : N ≤ h
  lρ : ρ.length = N
  lσ : σ.length = N
  env : ∀ i, i < N → E i = gt ρ i
  val : ∀ i, i < N → σ[i]? = some (W i)
  top : ∀ i, h ≤ i → E i = .un
  rep : ∀ i, (E i = .un ∧ F i = []) ∨ ∃ v, W i = some v ∧ Rep K Z H (E i) v (F i)
  nd : ∀ i, (F i).Nodup
  dj : ∀ i j a, a ∈ F i → a ∈ F j → i = j
  nz : ∀ i a, a ∈ F i → ¬ Z a
  al : ∀ b, Z b → ∃ o, H b = some o

structure Out (T : Nat → Prop) (H : Hp) (Z : Addr → Prop) (E : Nat → D) (W : Nat → Option V) (F : Nat → List Addr) (h : Nat)
    (H' : Hp) (Z' : Addr → Prop) (E' : Nat → D) (W' : Nat → Option V) (F' : Nat → List Addr) : Prop where
  ext : Ext (fun a => ∃ i, i < h ∧ T i ∧ a ∈ F i) Z H Z' H'
  same : ∀ i, i < h → ¬ T i → E' i = E i ∧ F' i = F i
  w : ∀ i, i < h → ¬ T i → W' i = W i
  new : ∀ i a, a ∈ F' i → (∃ j, j < h ∧ T j ∧ a ∈ F j) ∨ H a = none ∨ (i < h ∧ ¬ T i ∧ a ∈ F i)

section
variable {K : PySem.W.Frag} {N : Nat} {ρ ρ' : Env} {σ : L2.St} {H H1 H2 : Hp} {Z Z1 Z2 : Addr → Prop} {E E1 E2 : Nat → D} {W W1 W2 : Nat → Option V} {F F1 F2 : Nat → List Addr} {h h1 h2 : Nat} {T T1 T2 : Nat → Prop}
theorem St0.nil (S : St0 K N ρ σ H Z E W F h) {i : Nat} (hi : h ≤ i) : F i = [] := by
  rcases S.rep i with q | ⟨v, _, q⟩
  · exact q.2
  · rw [S.top i hi, Rep] at q; exact q.elim
theorem St0.owned (S : St0 K N ρ σ H Z E W F h) {i : Nat} {a : Addr} (ha : a ∈ F i) : ∃ xs, H a = some xs := by
  rcases S.rep i with q | ⟨v, _, q⟩
  · rw [q.2] at ha; exact (nomatch ha)
  · exact Rep.own _ _ _ q a ha
theorem St0.get (S : St0 K N ρ σ H Z E W F h) {i : Nat} (hi : E i ≠ .un) : ∃ v, W i = some v ∧ Rep K Z H (E i) v (F i) := by
  rcases S.rep i with q | q
  · exact absurd q.1 hi
  · exact q
theorem Out.refl (S : St0 K N ρ σ H Z E W F h) : Out T H Z E W F h H Z E W F := ⟨Ext.refl, fun _ _ _ => ⟨rfl, rfl⟩, fun _ _ _ => rfl, fun i a ha => by
  by_cases hi : i < h
  · by_cases t : T i
    · exact .inl ⟨i, hi, t, ha⟩
    · exact .inr (.inr ⟨hi, t, ha⟩)
  · rw [S.nil (Nat.le_of_not_lt hi)] at ha; exact (nomatch ha)⟩
theorem Out.mono (o : Out T H Z E W F h H1 Z1 E1 W1 F1) (ht : ∀ i, i < h → T i → T2 i) : Out T2 H Z E W F h H1 Z1 E1 W1 F1 where
  ext := o.ext.mono fun b ⟨i, h1, h2, h3⟩ => .inl ⟨i, h1, ht i h1 h2, h3⟩
  same := fun i hi t => o.same i hi fun q => t (ht i hi q)
  w := fun i hi t => o.w i hi fun q => t (ht i hi q)
  new := fun i a ha => by
    rcases o.new i a ha with ⟨j, h1, h2, h3⟩ | q | ⟨h1, h2, h3⟩
    · exact .inl ⟨j, h1, ht j h1 h2, h3⟩
    · exact .inr (.inl q)
    · by_cases t : T2 i
      · exact .inl ⟨i, h1, t, h3⟩
      · exact .inr (.inr ⟨h1, t, h3⟩)
theorem Out.trans (o : Out T H Z E W F h H1 Z1 E1 W1 F1) (p : Out T H1 Z1 E1 W1 F1 h1 H2 Z2 E2 W2 F2) (hh : h ≤ h1) : Out T H Z E W F h H2 Z2 E2 W2 F2 := by
  have old : ∀ i a, a ∈ F1 i → T i → (∃ j, j < h ∧ T j ∧ a ∈ F j) ∨ H a = none := fun i a ha t => by
    rcases o.new i a ha with q | q | ⟨h1, h2, h3⟩
    · exact .inl q
    · exact .inr q
    · exact absurd t h2
  refine ⟨o.ext.trans p.ext fun b ⟨i, _, h2, h3⟩ => old i b h3 h2, fun i hi t => ?_, fun i hi t => ?_, fun i a ha => ?_⟩
  · obtain ⟨a1, a2⟩ := o.same i hi t
    obtain ⟨b1, b2⟩ := p.same i (Nat.lt_of_lt_of_le hi hh) t
    exact ⟨b1.trans a1, b2.trans a2⟩
  · rw [p.w i (Nat.lt_of_lt_of_le hi hh) t, o.w i hi t]
  · rcases p.new i a ha with ⟨j, _, h2, h3⟩ | q | ⟨h1, h2, h3⟩
    · exact (old j a h3 h2).imp id .inl
    · exact .inr (.inl (o.ext.fresh q))
    · rcases o.new i a h3 with q | q | q
      · exact .inl q
      · exact .inr (.inl q)
      · exact .inr (.inr q)
/-- what the state says of the untouched -/
theorem St0.stab (S : St0 K N ρ σ H Z E W F h) (o : Out T H Z E W F h H1 Z1 E1 W1 F1) : Stab Z H Z1 H1 (fun b => ∃ i, i < h ∧ ¬ T i ∧ b ∈ F i) :=
  (o.ext.stab fun b z ⟨i, _, _, q⟩ => S.nz i b q z).mono fun b ⟨i, _, t, q⟩ ⟨j, _, t', q'⟩ => t (S.dj i j b q q' ▸ t')
end

/-! ### the language of bodies -/
inductive Arg where
  | val (d : D) | loan (i : Nat) (p : List Nat)
/-- what a def promises: of its arguments, for every wish about its answer and the arguments behind it -/
abbrev Spec := List D → (D → List D → Prop) → Prop

/-- built-in functions and types; methods -/
inductive BF where
  | len | abs | int | min | max | tuple | list | sorted | all | any | sum | repr | dictK | dictT | str | min1 | max1
inductive TY where
  | int | bool | str | tuple | list
inductive ME where
  | append | pop | extend | index | insert | remove | count | get | update | tindex | tcount | join | split | part | find
def BF.name : BF → Str
  | .len => "len" | .abs => "abs" | .int => "int" | .min => "min" | .max => "max" | .tuple => "tuple" | .list => "list" | .sorted => "sorted" | .all => "all" | .any => "any" | .sum => "sum" | .repr => "repr" | .dictK => "dict" | .dictT => "dict" | .str => "str" | .min1 => "min" | .max1 => "max"
def TY.name : TY → Str
  | .int => "int" | .bool => "bool" | .str => "str" | .tuple => "tuple" | .list => "list"
def ME.name : ME → Str
  | .append => "append" | .pop => "pop" | .extend => "extend" | .index => "index" | .insert => "insert" | .remove => "remove" | .count => "count" | .get => "get" | .update => "update" | .tindex => "index" | .tcount => "count" | .join => "join" | .split => "split" | .part => "partition" | .find => "find"

/-- kinds of what is reckoned of values, changing none -/
inductive PK where
  | bin (op : Operator) | cmp (op : CmpOp) | una (op : UnaryOp) | idx | tup | lst
  | slc (lo hi : Bool)
  | bif (f : BF) | isi (t : TY) | dctE (t : Bool) | rng (tp : Bool) | rev (z : Bool) | lenset | ptp | kslc
  | isE | dctD | stp (lo : Option Int) | fstr | signs
inductive IR where
  | cst (c : D) | glb (x : Str) (d : D)
  | rd (i : Nat) | mv (i : Nat) | fr (i : Nat) | fzv (a : IR)
  | br (i : Nat) | plc (b x : IR)
  | slc (a lo hi : IR)
  | ap (k : PK) (as : IR) | meth (m : ME) (o as : IR)
  | call (x : Str) (sp : Spec) (as : IR)
  | land (a b : IR) | lor (a b : IR) | lnot (a : IR) | ite (c a b : IR)
  | chn (a : IR) (ops : List CmpOp) (r : IR)
  | lc (own : List Nat) (tg it cond elt : IR)
  | itS (a : IR) | itR (as : IR) | itE (a : IR) | itZ (a b : IR)
  | tn (i : Nat) | tt (is : List Nat)
  | nil | cons (a r : IR)
  | sE (e : IR) | sA (tg e : IR) | sP (is : List Nat) (as : IR) | sI (as : IR) | sU (i : Nat) (op : Operator) (e : IR) | sUI (a i : IR) (op : Operator) (e : IR)
  | sIf (c t e : IR) | sFor (tg it body : IR) | sWh (c body : IR) | sRet (e : IR) | sRetN | sPass | sBrk | sCnt | sW (b : Nat) (i j : IR)
def tru : D → Option Bool
  | .non => some false | .bl b => some b | .int i => some (i != 0)
  | .tup ds => some (!ds.isEmpty) | .lst _ ds => some (!ds.isEmpty) | .scr ds => some (!ds.isEmpty)
  | .un => none | .raw _ => none | .str _ => none | .dct _ _ _ _ => none | .ins _ _ _ _ => none | .ptp ds => some (!ds.isEmpty)

mutual
def toP : D → PyData
  | .un => .none | .non => .none | .bl b => .bool b | .int i => .int i | .str s => .str s
  | .tup ds => .tuple (toPs ds) | .lst _ ds => .list (toPs ds) | .scr ds => .list (toPs ds) | .raw _ => .none | .dct _ _ _ _ => .none | .ins _ _ _ _ => .none | .ptp ds => .tuple (toPs ds)
def toPs : List D → List PyData
  | [] => []
  | d :: ds => toP d :: toPs ds
end
mutual
/-- data that == and repr read -/
def isP : D → Bool
  | .un => false | .raw _ => false | .non => true | .bl _ => true | .int _ => true | .str _ => true
  | .tup ds => isPs ds | .lst _ ds => isPs ds | .scr ds => isPs ds | .dct _ _ _ _ => false | .ins _ _ _ _ => false | .ptp ds => isPs ds
def isPs : List D → Bool
  | [] => true
  | d :: ds => isP d && isPs ds
end
def eqD (a b : D) : Bool := PyData.eqv (toP a) (toP b)
def eqOk (a : D) : Prop := isP a = true ∧ SeqAt.shaped (toP a) = true
def shownD (a : D) : Str := PyData.shown (toP a)

def isNone : D → Bool
  | .non => true | _ => false
def isRaw : D → Bool
  | .raw _ => true | _ => false

/-! ### dicts: ints and texts as keys, or tuples of these; their values are pure -/
def leafK : D → Option Key
  | .int i => some (.inl i) | .str s => some (.inr s) | _ => none
def leavesK : List D → Option (List Key)
  | [] => some []
  | d :: r => match leafK d, leavesK r with
    | some k, some ks => some (k :: ks)
    | _, _ => none
def keyD : Bool → D → Option (List Key)
  | true, .ptp ds => leavesK ds
  | false, .int i => some [.inl i]
  | false, .str s => some [.inr s]
  | _, _ => none
def kIx : List (List Key) → List Key → Option Nat
  | [], _ => none
  | k :: ks, x => if k = x then some 0 else (kIx ks x).map (· + 1)
def dGet (ks : List (List Key)) (ds : List D) (k : List Key) : Option D := (kIx ks k).bind fun j => ds[j]?
def dPutK (ks : List (List Key)) (k : List Key) : List (List Key) := match kIx ks k with
  | some _ => ks | none => ks ++ [k]
def dPutV (ks : List (List Key)) (ds : List D) (k : List Key) (v : D) : List D := match kIx ks k with
  | some j => ds.set j v | none => ds ++ [v]
def pairsD (t : Bool) : List D → Option (List (List Key × D))
  | [] => some []
  | .ptp [x, v] :: r => match keyD t x, pairsD t r with
    | some k, some ps => some ((k, v) :: ps)
    | _, _ => none
  | _ :: _ => none
/-- a dict of pairs, one after the other -/
def mkDct (t : Bool) : List (List Key × D) → List (List Key) → List D → D
  | [], ks, ds => .dct true t ks ds
  | (k, v) :: ps, ks, ds => mkDct t ps (dPutK ks k) (dPutV ks ds k v)

def MulOk (i j : Int) : Prop := i.natAbs.log2 + j.natAbs.log2 < 1000000 ∨ (-(2 ^ 64) < j ∧ j < 2 ^ 64)

def binS : Operator → D → D → (D → Prop) → Prop
  | .Add, .int i, .int j, q => q (.int (i + j))
  | .Add, .str a, .str b, q => a.length + b.length ≤ sizeLine ∧ q (.str (a ++ b))
  | .Add, .tup a, .tup b, q => pus a = true ∧ pus b = true ∧ a.length + b.length ≤ sizeLine ∧ q (.tup (a ++ b))
  | .Add, .lst _ a, .lst _ b, q => pus a = true ∧ pus b = true ∧ a.length + b.length ≤ sizeLine ∧ q (.lst true (a ++ b))
  | .Sub, .int i, .int j, q => q (.int (i - j))
  | .Mult, .int i, .int j, q => MulOk i j ∧ q (.int (i * j))
  | .Mult, .lst _ a, .int k, q => pus a = true ∧ -(2 ^ 63) ≤ k ∧ k < 2 ^ 63 ∧ a.length * k.toNat ≤ sizeLine ∧ q (.lst true (List.replicate k.toNat a).flatten)
  | .FloorDiv, .int i, .int j, q => 0 < j ∧ j.natAbs.log2 < 9000 ∧ q (.int (i / j))
  | .Mod, .int i, .int j, q => 0 < j ∧ q (.int (i % j))
  | .Pow, .int i, .int j, q => 0 ≤ j ∧ j ≤ 1000000 ∧ i.natAbs < 2 ^ 64 ∧ q (.int (i ^ j.toNat))
  | .Add, .bl b, .int j, q => q (.int ((if b = true then 1 else 0) + j))
  | .Sub, .bl b, .int j, q => q (.int ((if b = true then 1 else 0) - j))
  | .LShift, .int i, .int j, q => 0 ≤ j ∧ j ≤ 1000000 ∧ i.natAbs < 2 ^ 64 ∧ q (.int (i * 2 ^ j.toNat))
  | .RShift, .int i, .int j, q => 0 ≤ j ∧ q (.int (i / 2 ^ j.toNat))
  | .BitAnd, .int i, .int j, q => q (.int (Builtin.bitAnd i j))
  | .BitOr, .int i, .int j, q => q (.int (Builtin.bitOr i j))
  | .BitXor, .int i, .int j, q => q (.int (Builtin.bitXor i j))
  | .Mult, .str s, .int k, q => (k = 0 ∨ k = 1) ∧ q (.str (if k = 0 then Str.empty else s))
  | _, _, _, _ => False

/-- the ints of data, if all are -/
def intsOf : List D → Option (List Int)
  | [] => some []
  | .int i :: ds => (intsOf ds).map (i :: ·)
  | _ :: _ => none
def flatD : D → Bool
  | .non => true | .bl _ => false | .int _ => true | .str _ => true | _ => false

/-- the sign of a text of one -/
def signOf (x : Str) : Option Nat := match x.cps.toList with
  | [c] => some c | _ => none
def cmpS : CmpOp → D → D → (Bool → Prop) → Prop
  | .Lt, .int i, .int j, q => q (decide (i < j))
  | .LtE, .int i, .int j, q => q (decide (i ≤ j))
  | .Gt, .int i, .int j, q => q (decide (j < i))
  | .GtE, .int i, .int j, q => q (decide (j ≤ i))
  | .Lt, .tup a, .tup b, q => ∃ ns ms : List Int, a = ns.map D.int ∧ b = ms.map D.int ∧ q (HT.lexLt ns ms)
  | .Eq, .int i, .int j, q => q (decide (i = j))
  | .Eq, .str i, .str j, q => q (decide (i = j))
  | .NotEq, .int i, .int j, q => q (!decide (i = j))
  | .NotEq, .str i, .str j, q => q (!decide (i = j))
  | .Eq, a, b, q => eqOk a ∧ eqOk b ∧ q (eqD a b)
  | .NotEq, a, b, q => eqOk a ∧ eqOk b ∧ q (!eqD a b)
  | .In, x, .lst o ds, q => eqOk x ∧ eqOk (.lst o ds) ∧ q (ds.any fun z => eqD z x)
  | .In, x, .tup ds, q => eqOk x ∧ eqOk (.tup ds) ∧ q (ds.any fun z => eqD z x)
  | .In, x, .dct _ t ks _, q => ∃ k, keyD t x = some k ∧ q (kIx ks k).isSome
  | .NotIn, x, .lst o ds, q => eqOk x ∧ eqOk (.lst o ds) ∧ q (!ds.any fun z => eqD z x)
  | .NotIn, x, .tup ds, q => eqOk x ∧ eqOk (.tup ds) ∧ q (!ds.any fun z => eqD z x)
  | .NotIn, x, .dct _ t ks _, q => ∃ k, keyD t x = some k ∧ q (!(kIx ks k).isSome)
  | .Is, .bl a, .bl b, q => q (decide (a = b))
  | .IsNot, .bl a, .bl b, q => q (!decide (a = b))
  | .Is, a, .non, q => isRaw a = false ∧ q (isNone a)
  | .IsNot, a, .non, q => isRaw a = false ∧ q (!isNone a)
  | .In, .str x, .str z, q => ∃ c, signOf x = some c ∧ q (decide (c ∈ z.cps.toList))
  | _, _, _, _ => False

def cmpI : CmpOp → Int → Int → Option Bool
  | .Lt, i, j => some (decide (i < j)) | .LtE, i, j => some (decide (i ≤ j)) | .Gt, i, j => some (decide (j < i)) | .GtE, i, j => some (decide (j ≤ i)) | _, _, _ => none
/-- the items of a place that may be gone into -/
def seqOf2 : D → Option (List D)
  | .tup ds => some ds | .lst _ ds => some ds | _ => none
def seqOf : D → Option (List D)
  | .tup ds => some ds | .lst _ ds => some ds | .scr ds => some ds | _ => none
def lenS : D → (D → Prop) → Prop
  | .tup ds, q => q (.int ds.length) | .lst _ ds, q => q (.int ds.length) | .scr ds, q => q (.int ds.length)
  | .str s, q => s.length ≤ sizeLine ∧ q (.int s.length)
  | .dct _ _ ks _, q => q (.int ks.length)
  | _, _ => False
def idxS : D → D → (D → Prop) → Prop
  | .tup ds, .int i, q => ∃ d, atI ds i = some d ∧ pu d = true ∧ q d
  | .lst _ ds, .int i, q => ∃ d, atI ds i = some d ∧ pu d = true ∧ q d
  | .scr ds, .int i, q => ∃ d, atI ds i = some d ∧ pu d = true ∧ q d
  | .dct _ t ks ds, x, q => ∃ k d, keyD t x = some k ∧ dGet ks ds k = some d ∧ pu d = true ∧ q d
  | .str z, .int i, q => z.length ≤ sizeLine ∧ ∃ c, atI z.cps.toList i = some c ∧ q (.str ⟨#[c]⟩)
  | _, _, _ => False
def cutD (ds : List D) (lo hi : Option Int) : List D := (ds.drop (HT.sIx ds.length 0 lo)).take (HT.sIx ds.length ds.length hi - HT.sIx ds.length 0 lo)
def slcS (lo hi : Option Int) : D → (D → Prop) → Prop
  | .tup ds, q => pus ds = true ∧ q (.tup (cutD ds lo hi))
  | .lst _ ds, q => pus ds = true ∧ q (.lst true (cutD ds lo hi))
  | .str z, q => z.length ≤ sizeLine ∧ q (.str (cutS z lo hi))
  | _, _ => False

def intS : D → (D → Prop) → Prop
  | .int i, q => q (.int i)
  | .bl b, q => q (.int (if b then 1 else 0))
  | .str a, q => ∃ n, PySem.intText? a = some n ∧ a.length ≤ 640 ∧ q (.int n)
  | _, _ => False

def un1 (f : D → (D → Prop) → Prop) : List D → (D → Prop) → Prop
  | [a], q => f a q
  | _, _ => False
def un2 (f : D → D → (D → Prop) → Prop) : List D → (D → Prop) → Prop
  | [a, b], q => f a b q
  | _, _ => False
def un3 (f : D → D → D → (D → Prop) → Prop) : List D → (D → Prop) → Prop
  | [a, b, c], q => f a b c q
  | _, _ => False
def absS : D → (D → Prop) → Prop
  | .int i, q => q (.int (if i < 0 then -i else i)) | _, _ => False
def minS : D → D → (D → Prop) → Prop
  | .int i, .int j, q => q (.int (if j < i then j else i))
  | .tup a, .tup b, q => ∃ ns ms : List Int, a = ns.map D.int ∧ b = ms.map D.int ∧ q (.tup (if HT.lexLt ms ns = true then b else a))
  | _, _, _ => False
def maxS : D → D → (D → Prop) → Prop
  | .int i, .int j, q => q (.int (if j > i then j else i)) | _, _, _ => False
def tupleS : D → (D → Prop) → Prop
  | .lst _ ds, q => pus ds = true ∧ q (.tup ds) | .tup ds, q => pus ds = true ∧ q (.tup ds) | _, _ => False
def listS : D → (D → Prop) → Prop
  | .lst _ ds, q => pus ds = true ∧ q (.lst true ds) | .tup ds, q => pus ds = true ∧ q (.lst true ds) | _, _ => False
/-- the items sorted -/
def sortD (ds : List D) : List D := ds.mergeSort (PySem.W.dataLe false toP)
structure SortOk (ds : List D) : Prop where
  pu : pus ds = true
  p : isPs ds = true
  al : PySem.W.AllAlike (ds.map toP)
  so : PySem.W.Sortable (ds.map toP)
  de : ∀ d ∈ ds, (toP d).depth ≤ 32
def leafD : Key → D
  | .inl i => .int i | .inr s => .str s
/-- a dict's keys as data -/
def keysD (t : Bool) (ks : List (List Key)) : List D := match t with
  | true => ks.map fun k => .ptp (k.map leafD)
  | false => ks.map fun k => leafD (headK k)
def sortedS : D → (D → Prop) → Prop
  | .dct _ t ks _, q => SortOk (keysD t ks) ∧ q (.lst true (sortD (keysD t ks)))
  | .lst _ ds, q => SortOk ds ∧ q (.lst true (sortD ds))
  | .tup ds, q => SortOk ds ∧ q (.lst true (sortD ds))
  | _, _ => False
def allS : D → (D → Prop) → Prop
  | .lst _ ds, q => ∃ bs : List Bool, ds = bs.map D.bl ∧ q (.bl (bs.all id)) | _, _ => False
def anyS : D → (D → Prop) → Prop
  | .lst _ ds, q => ∃ bs : List Bool, ds = bs.map D.bl ∧ q (.bl (bs.any id)) | _, _ => False
def sumS : D → (D → Prop) → Prop
  | .lst _ ds, q => ∃ ns : List Int, ds = ns.map D.int ∧ q (.int ns.sum) | _, _ => False
def reprS (a : D) (q : D → Prop) : Prop := isP a = true ∧ (toP a).showable = true ∧ (shownD a).length ≤ sizeLine ∧ (toP a).depth ≤ 64 ∧ q (.str (shownD a))
def dictS (t : Bool) : D → (D → Prop) → Prop
  | .lst _ ds, q => ∃ ps, pairsD t ds = some ps ∧ pus ds = true ∧ q (mkDct t ps [] [])
  | _, _ => False
def strS : D → (D → Prop) → Prop
  | .bl b, q => q (.str (if b then "True" else "False"))
  | .int i, q => i.natAbs.log2 < 1920 ∧ q (.str (toString i))
  | _, _ => False
/-- the least, the greatest of whole numbers -/
def min1S : D → (D → Prop) → Prop
  | .lst _ ds, q => ∃ ns : List Int, ds = ns.map D.int ∧ 0 < ns.length ∧ ∀ m, m ∈ ns → (∀ y ∈ ns, m ≤ y) → q (.int m)
  | .tup ds, q => ∃ ns : List Int, ds = ns.map D.int ∧ 0 < ns.length ∧ ∀ m, m ∈ ns → (∀ y ∈ ns, m ≤ y) → q (.int m)
  | _, _ => False
def max1S : D → (D → Prop) → Prop
  | .lst _ ds, q => ∃ ns : List Int, ds = ns.map D.int ∧ 0 < ns.length ∧ ∀ m, m ∈ ns → (∀ y ∈ ns, y ≤ m) → q (.int m)
  | _, _ => False
/-- what a built-in function or type answers -/
def bifS : BF → List D → (D → Prop) → Prop
  | .len => un1 lenS | .abs => un1 absS | .int => un1 intS | .min => un2 minS | .max => un2 maxS | .tuple => un1 tupleS | .list => un1 listS
  | .sorted => un1 sortedS | .all => un1 allS | .any => un1 anyS | .sum => un1 sumS | .repr => un1 reprS
  | .dictK => un1 (dictS false) | .dictT => un1 (dictS true) | .str => un1 strS | .min1 => un1 min1S | .max1 => un1 max1S

/-- the built-in types -/
def typeIs : TY → D → Option Bool
  | _, .un => none | _, .raw _ => none
  | _, .non => some false
  | t, .bl _ => some (match t with | .bool => true | .int => true | _ => false)
  | t, .int _ => some (match t with | .int => true | _ => false)
  | t, .str _ => some (match t with | .str => true | _ => false)
  | t, .tup _ => some (match t with | .tuple => true | _ => false)
  | t, .lst _ _ => some (match t with | .list => true | _ => false)
  | t, .scr _ => some (match t with | .list => true | _ => false)
  | _, .dct _ _ _ _ => some false
  | _, .ins _ _ _ _ => none
  | t, .ptp _ => some (match t with | .tuple => true | _ => false)

def cmp2 (op : CmpOp) : List D → (Bool → Prop) → Prop
  | [a, b], q => cmpS op a b q
  | _, _ => False
def negS : D → (D → Prop) → Prop
  | .bl b, q => q (.int (-(if b = true then 1 else 0)))
  | .int i, q => q (.int (-i))
  | _, _ => False
def slcL : D → D → (D → Prop) → Prop
  | a, .int i, q => slcS (some i) none a q
  | _, _, _ => False
def slcR : D → D → (D → Prop) → Prop
  | a, .int i, q => slcS none (some i) a q
  | _, _, _ => False
def slcB : D → D → D → (D → Prop) → Prop
  | a, .int i, .int j, q => slcS (some i) (some j) a q
  | _, _, _, _ => False
def isiS (t : TY) (a : D) (q : D → Prop) : Prop := ∃ b, typeIs t a = some b ∧ q (.bl b)
def rngL (lo hi : Int) : List D := (List.range (hi - lo).toNat).map fun i => .int (lo + (i : Nat))
/-- list(range(n)), tuple(range(n)) -/
def rngS1 (tp : Bool) : D → (D → Prop) → Prop
  | .int n, q => 0 ≤ n ∧ n ≤ 1000000 ∧ q (if tp = true then .tup (rngL 0 n) else .lst true (rngL 0 n))
  | _, _ => False
/-- xs[::-1]; xs[:0:-1] -/
def backK (z : Bool) : Nat := if z = true then 1 else 0
def revS (z : Bool) : D → (D → Prop) → Prop
  | .tup ds, q => pus ds = true ∧ q (.tup (ds.drop (backK z)).reverse)
  | .lst _ ds, q => pus ds = true ∧ q (.lst true (ds.drop (backK z)).reverse)
  | _, _ => False
/-- len(set(xs)): as many as xs has if none is there twice, else fewer -/
def lenSetS : D → (D → Prop) → Prop
  | .lst _ ds, q => ∃ ns : List Int, ds = ns.map D.int ∧ ns.length ≤ 4000 ∧ ∀ c : Nat, c ≤ ns.length → (c = ns.length ↔ ns.Nodup) → q (.int c)
  | .tup ds, q => ∃ ns : List Int, ds = ns.map D.int ∧ ns.length ≤ 4000 ∧ ∀ c : Nat, c ≤ ns.length → (c = ns.length ↔ ns.Nodup) → q (.int c)
  | _, _ => False
/-- a tuple's first ones, as a key -/
def kslcS : D → D → (D → Prop) → Prop
  | .tup ds, .int i, q => pus ds = true ∧ 0 ≤ i ∧ i < ds.length ∧ q (.ptp (ds.take i.toNat))
  | _, _, _ => False
/-- t == () -/
def isES : D → (D → Prop) → Prop
  | .tup ds, q => q (.bl ds.isEmpty)
  | _, _ => False
/-- a dict that is written: k, v, k, v .. -/
def pairsW : List D → Option (List (List Key × D))
  | [] => some []
  | k :: v :: r => match keyD false k, pairsW r with
    | some k, some ps => some ((k, v) :: ps)
    | _, _ => none
  | [_] => none
def dctDS (as : List D) (q : D → Prop) : Prop := ∃ ps, pairsW as = some ps ∧ ps.length ≤ 15 ∧ pus as = true ∧ q (mkDct false ps [] [])
/-- xs[lo::step], of lists -/
def stepL {α : Type} (xs : List α) (lo : Option Int) (st : Int) : List α :=
  (sliceRange (sliceBounds lo none (some st) xs.length).1 (sliceBounds lo none (some st) xs.length).2.1 (sliceBounds lo none (some st) xs.length).2.2).filterMap fun j => xs[j]?
def stpS (lo : Option Int) : D → D → (D → Prop) → Prop
  | .lst _ ds, .int st, q => pus ds = true ∧ st ≠ 0 ∧ -(2 ^ 62) < st ∧ st < 2 ^ 62 ∧ (stepL ds lo st).length ≤ sizeLine ∧ q (.lst true (stepL ds lo st))
  | _, _, _ => False
/-- f'..' of texts and whole numbers -/
def fstrG : List D → Str → (D → Prop) → Prop
  | [], acc, q => q (.str acc)
  | .str s :: r, acc, q => s.length ≤ sizeLine ∧ (acc ++ s).length ≤ sizeLine ∧ fstrG r (acc ++ s) q
  | .int i :: r, acc, q => i.natAbs.log2 < 1920 ∧ (acc ++ (toString i : Str)).length ≤ sizeLine ∧ fstrG r (acc ++ (toString i : Str)) q
  | _, _, _ => False
/-- a text, sign by sign -/
def signsL (z : Str) : List D := z.cps.toList.map fun c => .str ⟨#[c]⟩
def signsS : D → (D → Prop) → Prop
  | .str z, q => q (.tup (signsL z))
  | _, _ => False
def joinS : D → D → (D → Prop) → Prop
  | .str a, .lst _ ds, q => ∃ ys : List Str, ds = ys.map D.str ∧ (ys.map (·.length)).sum + ys.length * a.length ≤ 16777216 ∧ q (.str (Txt.join a ys))
  | .str a, .tup ds, q => ∃ ys : List Str, ds = ys.map D.str ∧ (ys.map (·.length)).sum + ys.length * a.length ≤ 16777216 ∧ q (.str (Txt.join a ys))
  | _, _, _ => False
def splitS : D → D → (D → Prop) → Prop
  | .str a, .str b, q => (b.length == 0) = false ∧ a.length + 2 ≤ sizeLine ∧ q (.lst true ((Txt.split a b).map D.str))
  | _, _, _ => False
def partS : D → D → (D → Prop) → Prop
  | .str a, .str b, q => (b.length == 0) = false ∧ a.length ≤ sizeLine ∧ q (.ptp [.str (Txt.partition a b).1, .str (Txt.partition a b).2.1, .str (Txt.partition a b).2.2])
  | _, _, _ => False
def findS : D → D → D → (D → Prop) → Prop
  | .str a, .str b, .int i, q => q (.int (Txt.find3 a b i))
  | _, _, _, _ => False
def pkS : PK → List D → (D → Prop) → Prop
  | .bin op => un2 (binS op)
  | .cmp op => fun as q => cmp2 op as fun k => q (.bl k)
  | .una .USub => un1 negS
  | .una _ => fun _ _ => False
  | .idx => un2 idxS
  | .tup => fun as q => as.length ≤ sizeLine ∧ q (.tup as)
  | .lst => fun as q => as.length ≤ sizeLine ∧ q (.lst true as)
  | .slc false false => un1 (slcS none none)
  | .slc true false => un2 slcL
  | .slc false true => un2 slcR
  | .slc true true => un3 slcB
  | .bif x => bifS x
  | .dctE t => fun as q => as.length = 0 ∧ q (.dct true t [] [])
  | .rng tp => un1 (rngS1 tp)
  | .rev z => un1 (revS z)
  | .lenset => un1 lenSetS
  | .ptp => fun as q => as.length ≤ sizeLine ∧ q (.ptp as)
  | .kslc => un2 kslcS
  | .isE => un1 isES
  | .dctD => dctDS
  | .stp lo => un2 (stpS lo)
  | .fstr => fun ds => fstrG ds Str.empty
  | .signs => un1 signsS
  | .isi x => un1 (isiS x)

def setS : List D → (D → List D → Prop) → Prop
  | [v, .lst true ds, .int i], q => ∃ j, ixN ds.length i = some j ∧ q .non [.un, .lst true (ds.set j v), .int i]
  | [v, .dct true t ks ds, x], q => pu v = true ∧ pus ds = true ∧ ks.length < sizeLine ∧ ∃ k, keyD t x = some k ∧ q .non [.un, .dct true t (dPutK ks k) (dPutV ks ds k v), x]
  | _, _ => False
def appendS : List D → (D → List D → Prop) → Prop
  | [.lst true ds, v], q => ds.length < sizeLine ∧ q .non [.lst true (ds ++ [v]), .un]
  | _, _ => False
def popS : List D → (D → List D → Prop) → Prop
  | [.lst true ds], q => ∃ d, ds.getLast? = some d ∧ q d [.lst true ds.dropLast]
  | [.lst true ds, .int i], q => ∃ j d, ixN ds.length i = some j ∧ ds[j]? = some d ∧ q d [.lst true (ds.eraseIdx j), .int i]
  | _, _ => False
def extendS : List D → (D → List D → Prop) → Prop
  | [.lst true ds, .lst o es], q => pus es = true ∧ ds.length + es.length ≤ sizeLine ∧ q .non [.lst true (ds ++ es), .lst o es]
  | [.lst true ds, .tup es], q => pus es = true ∧ ds.length + es.length ≤ sizeLine ∧ q .non [.lst true (ds ++ es), .tup es]
  | _, _ => False
/-- the first place of a whole number -/
def indexS : List D → (D → List D → Prop) → Prop
  | [.lst o ds, .int x], q => ∃ ns : List Int, ds = ns.map D.int ∧ x ∈ ns ∧ q (.int (ns.idxOf x : Nat)) [.lst o ds, .int x]
  | _, _ => False
def tindexS : List D → (D → List D → Prop) → Prop
  | [.tup ds, .int x], q => ∃ ns : List Int, ds = ns.map D.int ∧ x ∈ ns ∧ q (.int (ns.idxOf x : Nat)) [.tup ds, .int x]
  | _, _ => False
def tcountS : List D → (D → List D → Prop) → Prop
  | [.tup ds, .int x], q => ∃ ns : List Int, ds = ns.map D.int ∧ q (.int (ns.count x : Nat)) [.tup ds, .int x]
  | _, _ => False
def countS : List D → (D → List D → Prop) → Prop
  | [.lst o ds, .int x], q => ∃ ns : List Int, ds = ns.map D.int ∧ q (.int (ns.count x : Nat)) [.lst o ds, .int x]
  | _, _ => False
def insertS : List D → (D → List D → Prop) → Prop
  | [.lst true ds, .int i, v], q => 0 ≤ i ∧ i < 2 ^ 63 ∧ ds.length < sizeLine ∧ pu v = true ∧ pus ds = true ∧ q .non [.lst true (ds.take i.toNat ++ [v] ++ ds.drop i.toNat), .int i, .un]
  | _, _ => False
/-- the first x taken out -/
def removeS : List D → (D → List D → Prop) → Prop
  | [.lst true ds, .int x], q => ∃ ns : List Int, ds = ns.map D.int ∧ x ∈ ns ∧ q .non [.lst true ((ns.eraseIdx (ns.idxOf x)).map D.int), .int x]
  | _, _ => False
def getS : List D → (D → List D → Prop) → Prop
  | [.dct o t ks ds, x], q => pus ds = true ∧ ∃ k, keyD t x = some k ∧ q ((dGet ks ds k).getD .non) [.dct o t ks ds, x]
  | [.dct o t ks ds, x, e], q => pus ds = true ∧ pu e = true ∧ ∃ k, keyD t x = some k ∧ q ((dGet ks ds k).getD e) [.dct o t ks ds, x, .un]
  | _, _ => False
/-- keys that are tuples, no two of which are taken for one -/
def HashApart (ks : List (List Key)) : Prop := ∀ (P : Program) (w : World), (ks.map (tupleKind (mixKind P w)).hash).Nodup
def updateS : List D → (D → List D → Prop) → Prop
  | [.dct true t ks ds, .dct o t2 ks2 ds2], q => t = t2 ∧ (t = true → ks = [] → HashApart ks2) ∧ pus ds = true ∧ pus ds2 = true ∧ ks.length + ks2.length ≤ sizeLine ∧ q .non [mkDct t (ks2.zip ds2) ks ds, .dct o t2 ks2 ds2]
  | _, _ => False
def meS : ME → List D → (D → List D → Prop) → Prop
  | .append => appendS | .pop => popS | .extend => extendS | .index => indexS | .insert => insertS | .remove => removeS | .count => countS | .get => getS | .update => updateS | .tindex => tindexS | .tcount => tcountS
  | .join => fun ds q => un2 joinS ds fun d => q d (ds.map fun _ => .un)
  | .split => fun ds q => un2 splitS ds fun d => q d (ds.map fun _ => .un)
  | .part => fun ds q => un2 partS ds fun d => q d (ds.map fun _ => .un)
  | .find => fun ds q => un3 findS ds fun d => q d (ds.map fun _ => .un)
/-- what a method is called of -/
def recv : ME → D → Bool
  | .tindex, .tup _ => true | .tcount, .tup _ => true
  | .get, .dct _ _ _ _ => true | .update, .dct _ _ _ _ => true
  | .join, .str _ => true | .split, .str _ => true | .part, .str _ => true | .find, .str _ => true
  | .join, _ => false | .split, _ => false | .part, _ => false | .find, _ => false
  | .get, _ => false | .update, _ => false | .tindex, _ => false | .tcount, _ => false
  | _, .lst _ _ => true
  | _, _ => false
def recvL (m : ME) : List D → Bool
  | [d] => recv m d
  | _ => false

/-! ### the wishes -/
def res (ρ : Env) : List Arg → List D
  | [] => []
  | .val d :: r => d :: res ρ r
  | .loan i p :: r => getP (gt ρ i) p :: res ρ r
def isUn : D → Bool
  | .un => true | _ => false
/-- the loans written back -/
def wb : List Arg → List D → Env → Env
  | .loan i p :: r, d :: ds, ρ => wb r ds (ρ.set i (setP (gt ρ i) p d))
  | .val _ :: r, _ :: ds, ρ => wb r ds ρ
  | _, _, ρ => ρ
/-- a loan within a loan is not used up -/
def okU : List Arg → List D → Bool
  | .loan _ (_ :: _) :: r, d :: ds => !isUn d && okU r ds
  | _ :: r, _ :: ds => okU r ds
  | _, _ => true
def noUn (ds : List D) : Prop := ds.all (fun d => !isUn d) = true
def setsE : List Nat → List D → Env → Env
  | i :: is, d :: ds, ρ => setsE is ds (ρ.set i d)
  | _, _, ρ => ρ
/-- a binding of names -/
def bindT : IR → D → Env → (Env → Prop) → Prop
  | .tn i, d, ρ, q => q (ρ.set i d)
  | .tt is, d, ρ, q => (match d with | .tup ds => ds.length = is.length ∧ q (setsE is ds ρ) | .ptp ds => ds.length = is.length ∧ q (setsE is ds ρ) | _ => False)
  | _, _, _, _ => False
def wipeE (ρ : Env) : List Nat → Env
  | [] => ρ
  | i :: is => (wipeE ρ is).set i .un
/-- the names of a comprehension as they were -/
def backE (own : List Nat) (ρ0 ρ : Env) : Env := own.foldl (fun r i => r.set i (gt ρ0 i)) ρ
def puAt (own : List Nat) (ρ : Env) : Prop := own.all (fun i => pu (gt ρ i)) = true
def vals : List Arg → Option (List D)
  | [] => some []
  | .val d :: r => (vals r).map (d :: ·)
  | .loan _ _ :: _ => none
def lcL (own : List Nat) (step : D → Env → (Option D → Env → Prop) → Prop) : List D → Env → List D → (List D → Env → Prop) → Prop
  | [], ρ, acc, q => q acc ρ
  | d :: ds, ρ, acc, q => step d ρ fun e ρ1 => (match e with
    | some x => acc.length < sizeLine ∧ lcL own step ds (wipeE ρ1 own) (acc ++ [x]) q
    | none => lcL own step ds (wipeE ρ1 own) acc q)
/-- the numbers from m below n by steps of c -/
def stepN (m n c : Int) : Nat := (Builtin.Range.rangeSize m n c).toNat
def stepD (m n c : Int) : List D := (List.range (stepN m n c)).map fun i => .int (m + (i : Nat) * c)
def rngS : List D → (List D → Prop) → Prop
  | [.int m, .int n, .int c], q => 0 < c ∧ c < 1000000000 ∧ -(2 ^ 61) ≤ m ∧ m < 2 ^ 61 ∧ -(2 ^ 61) ≤ n ∧ n < 2 ^ 61 ∧ q (stepD m n c)
  | [.int n], q => n < 2 ^ 62 ∧ -(2 ^ 62) ≤ n ∧ q (rngL 0 n)
  | [.int m, .int n], q => -(2 ^ 62) ≤ m ∧ m < 2 ^ 62 ∧ -(2 ^ 62) ≤ n ∧ n < 2 ^ 62 ∧ q (rngL m n)
  | _, _ => False
def enumL (ds : List D) : List D := ds.mapIdx fun i d => .ptp [.int i, d]
def zipL (ds es : List D) : List D := List.zipWith (fun d e => .ptp [d, e]) ds es

/-- what a piece of a body means: as a value, an argument, arguments, the rest of a chain, a test, what is walked -/
structure Sm where
  E : Env → (D → Env → Prop) → Prop
  L : Env → (Arg → Env → Prop) → Prop
  A : Env → (List Arg → Env → Prop) → Prop
  C : List CmpOp → Int → Env → (Bool → Env → Prop) → Prop
  T : Env → (Bool → Env → Prop) → Prop
  I : Env → (List D → Env → Prop) → Prop
def smE (E : Env → (D → Env → Prop) → Prop) : Sm where
  E := E
  L := fun ρ q => E ρ fun d ρ1 => q (.val d) ρ1
  A := fun _ _ => False
  C := fun _ _ _ _ => False
  T := fun ρ q => E ρ fun d ρ1 => ∃ k, tru d = some k ∧ q k ρ1
  I := fun _ _ => False
def smN : Sm := smE fun _ _ => False
/-- one link of a chain -/
def linkC (rest : List CmpOp → Int → Env → (Bool → Env → Prop) → Prop) : List CmpOp → D → Int → Env → (Bool → Env → Prop) → Prop
  | [op], .int j, i, ρ, q => ∃ k, cmpI op i j = some k ∧ q k ρ
  | op :: op' :: ops, .int j, i, ρ, q => ∃ k, cmpI op i j = some k ∧ if k = true then rest (op' :: ops) j ρ q else q false ρ
  | _, _, _, _, _ => False
def andV (b : Env → (D → Env → Prop) → Prop) : D → Env → (D → Env → Prop) → Prop
  | .bl true, ρ, q => b ρ q
  | .bl false, ρ, q => q (.bl false) ρ
  | _, _, _ => False
def orV (b : Env → (D → Env → Prop) → Prop) : D → Env → (D → Env → Prop) → Prop
  | .bl true, ρ, q => q (.bl true) ρ
  | .bl false, ρ, q => b ρ q
  | _, _, _ => False
def notV : D → Env → (D → Env → Prop) → Prop
  | .bl k, ρ, q => q (.bl (!k)) ρ
  | _, _, _ => False
def chnV (r : List CmpOp → Int → Env → (Bool → Env → Prop) → Prop) (ops : List CmpOp) : D → Env → (Bool → Env → Prop) → Prop
  | .int i, ρ, q => r ops i ρ q
  | _, _, _ => False
def intV (q : Int → Prop) : D → Prop
  | .int i => q i
  | _ => False
def plcV : Arg → D → Env → (Arg → Env → Prop) → Prop
  | .loan i p, .int n, ρ, q => ∃ ds j, seqOf2 (getP (gt ρ i) p) = some ds ∧ ixN ds.length n = some j ∧ q (.loan i (p ++ [j])) ρ
  | _, _, _, _ => False
def enumV : List D → (List D → Prop) → Prop
  | [.lst _ ds], q => pus ds = true ∧ q (enumL ds)
  | _, _ => False
def zipV : List D → (List D → Prop) → Prop
  | [.lst _ ds, .lst _ es], q => pus ds = true ∧ pus es = true ∧ q (zipL ds es)
  | [.tup ds, .tup es], q => pus ds = true ∧ pus es = true ∧ q (zipL ds es)
  | _, _ => False
def walkV : List D → (List D → Prop) → Prop
  | [.tup ds], q => pus ds = true ∧ q ds
  | [.lst _ ds], q => pus ds = true ∧ q ds
  | [.scr ds], q => pus ds = true ∧ q ds
  | _, _ => False
def sm : IR → Sm
  | .cst c => smE fun ρ q => q c ρ
  | .glb _ d => smE fun ρ q => q d ρ
  | .rd i => smE fun ρ q => isUn (gt ρ i) = false ∧ pu (gt ρ i) = true ∧ q (gt ρ i) ρ
  | .mv i => smE fun ρ q => isUn (gt ρ i) = false ∧ q (gt ρ i) (ρ.set i .un)
  | .fr i => smE fun ρ q => isUn (gt ρ i) = false ∧ q (fz (gt ρ i)) (ρ.set i (fz (gt ρ i)))
  | .fzv a => smE fun ρ q => (sm a).E ρ fun d ρ1 => q (fz d) ρ1
  | .br i => { smN with
      L := fun ρ q => isUn (gt ρ i) = false ∧ q (.loan i []) ρ
      T := fun ρ q => ∃ k, tru (gt ρ i) = some k ∧ q k ρ }
  | .plc b x => { smN with L := fun ρ q => (sm b).L ρ fun a ρ1 => (sm x).E ρ1 fun k ρ2 => plcV a k ρ2 q }
  | .slc a lo hi => smE fun ρ q => (sm a).L ρ fun x ρ1 => (sm lo).E ρ1 fun l ρ2 => intV (fun i => (sm hi).E ρ2 fun u ρ3 => intV (fun j => noUn (res ρ3 [x]) ∧ un1 (slcS (some i) (some j)) (res ρ3 [x]) fun d => q d ρ3) u) l
  | .ap (.cmp op) as => { smE (fun ρ q => (sm as).A ρ fun xs ρ1 => noUn (res ρ1 xs) ∧ cmp2 op (res ρ1 xs) fun k => q (.bl k) ρ1) with
      T := fun ρ q => (sm as).A ρ fun xs ρ1 => noUn (res ρ1 xs) ∧ cmp2 op (res ρ1 xs) fun k => q k ρ1 }
  | .ap k as => smE fun ρ q => (sm as).A ρ fun xs ρ1 => noUn (res ρ1 xs) ∧ pkS k (res ρ1 xs) fun d => q d ρ1
  | .meth m o as => smE fun ρ q => (sm o).L ρ fun x ρ1 => recvL m (res ρ1 [x]) = true ∧ (sm as).A ρ1 fun xs ρ2 => noUn (res ρ2 (x :: xs)) ∧ meS m (res ρ2 (x :: xs)) fun d ds => okU (x :: xs) ds = true ∧ q d (wb (x :: xs) ds ρ2)
  | .call _ sp as => smE fun ρ q => (sm as).A ρ fun xs ρ1 => noUn (res ρ1 xs) ∧ sp (res ρ1 xs) fun d ds => okU xs ds = true ∧ q d (wb xs ds ρ1)
  | .land a b => { smE (fun ρ q => (sm a).E ρ fun x ρ1 => andV (sm b).E x ρ1 q) with
      T := fun ρ q => (sm a).T ρ fun k ρ1 => if k = true then (sm b).T ρ1 q else q false ρ1 }
  | .lor a b => { smE (fun ρ q => (sm a).E ρ fun x ρ1 => orV (sm b).E x ρ1 q) with
      T := fun ρ q => (sm a).T ρ fun k ρ1 => if k = true then q true ρ1 else (sm b).T ρ1 q }
  | .lnot a => { smE (fun ρ q => (sm a).E ρ fun x ρ1 => notV x ρ1 q) with
      T := fun ρ q => (sm a).T ρ fun k ρ1 => q (!k) ρ1 }
  | .ite c a b => smE fun ρ q => (sm c).T ρ fun k ρ1 => if k = true then (sm a).E ρ1 q else (sm b).E ρ1 q
  | .chn a ops r => { smE (fun ρ q => (sm a).E ρ fun x ρ1 => chnV (sm r).C ops x ρ1 fun k ρ2 => q (.bl k) ρ2) with
      T := fun ρ q => (sm a).E ρ fun x ρ1 => chnV (sm r).C ops x ρ1 q }
  | .lc own tg it cond elt => smE fun ρ q => (sm it).I ρ fun ds ρ1 => puAt own ρ1 ∧
      lcL own (fun d ρ2 k => bindT tg d ρ2 fun ρ3 => (sm cond).T ρ3 fun b ρ4 => if b = true then (sm elt).E ρ4 fun e ρ5 => k (some e) ρ5 else k none ρ4)
        ds (wipeE ρ1 own) [] fun acc ρ' => q (.lst true acc) (backE own ρ1 ρ')
  | .nil => { smN with A := fun ρ q => q [] ρ }
  | .cons a r => { smN with
      A := fun ρ q => (sm a).L ρ fun x ρ1 => (sm r).A ρ1 fun xs ρ2 => q (x :: xs) ρ2
      C := fun ops i ρ q => (sm a).E ρ fun y ρ1 => linkC (sm r).C ops y i ρ1 q }
  | .itS a => { smN with I := fun ρ q => (sm a).L ρ fun x ρ1 => walkV (res ρ1 [x]) fun ds => q ds ρ1 }
  | .itR as => { smN with I := fun ρ q => (sm as).A ρ fun xs ρ1 => rngS (res ρ1 xs) fun ds => q ds ρ1 }
  | .itE a => { smN with I := fun ρ q => (sm a).L ρ fun x ρ1 => enumV (res ρ1 [x]) fun ds => q ds ρ1 }
  | .itZ a b => { smN with I := fun ρ q => (sm a).L ρ fun x ρ1 => (sm b).L ρ1 fun y ρ2 => zipV (res ρ2 [x, y]) fun ds => q ds ρ2 }
  | _ => smN
def wpE (e : IR) : Env → (D → Env → Prop) → Prop := (sm e).E
def wpL (e : IR) : Env → (Arg → Env → Prop) → Prop := (sm e).L
def wpA (e : IR) : Env → (List Arg → Env → Prop) → Prop := (sm e).A
def wpC (e : IR) : List CmpOp → Int → Env → (Bool → Env → Prop) → Prop := (sm e).C
def wpT (e : IR) : Env → (Bool → Env → Prop) → Prop := (sm e).T
def wpI (e : IR) : Env → (List D → Env → Prop) → Prop := (sm e).I

structure Post where
  nx : Env → Prop
  rt : D → Env → Prop
  bk : Env → Prop := fun _ => False
  ct : Env → Prop := fun _ => False
def forL (step : D → Env → Post → Prop) : List D → Env → Post → Prop
  | [], ρ, P => P.nx ρ
  | d :: ds, ρ, P => step d ρ { P with nx := fun ρ1 => forL step ds ρ1 P, ct := fun ρ1 => forL step ds ρ1 P, bk := P.nx }
def whL (c : Env → (Bool → Env → Prop) → Prop) (b : Env → Post → Prop) : Nat → Env → Post → Prop
  | 0, _, _ => False
  | n + 1, ρ, P => c ρ fun k ρ1 => if k = true then b ρ1 { P with nx := fun ρ2 => whL c b n ρ2 P, ct := fun ρ2 => whL c b n ρ2 P, bk := P.nx } else P.nx ρ1
def iopS (op : Operator) (x y : D) (q : D → Prop) : Prop := (match op, x, y with
  | .Add, .int i, .int j => q (.int (i + j))
  | .Sub, .int i, .int j => q (.int (i - j))
  | _, _, _ => False)
/-- where an exchange goes: a name, a number -/
def swI (ρ : Env) : IR → Option Int
  | .rd j => (match gt ρ j with | .int i => some i | _ => none)
  | .cst (.int i) => some i
  | _ => none
def wpS : IR → Env → Post → Prop
  | .nil, ρ, P => P.nx ρ
  | .cons s r, ρ, P => wpS s ρ { P with nx := fun ρ1 => wpS r ρ1 P }
  | .sE e, ρ, P => wpE e ρ fun _ ρ1 => P.nx ρ1
  | .sA tg e, ρ, P => wpE e ρ fun d ρ1 => bindT tg d ρ1 P.nx
  | .sP is as, ρ, P => wpA as ρ fun xs ρ1 => ∃ ds, vals xs = some ds ∧ ds.length = is.length ∧ P.nx (setsE is ds ρ1)
  | .sI as, ρ, P => wpA as ρ fun xs ρ1 => noUn (res ρ1 xs) ∧ setS (res ρ1 xs) fun _ ds => okU xs ds = true ∧ P.nx (wb xs ds ρ1)
  | .sU i op e, ρ, P => isUn (gt ρ i) = false ∧ pu (gt ρ i) = true ∧ wpE e ρ fun y ρ1 => iopS op (gt ρ i) y fun z => P.nx (ρ1.set i z)
  | .sIf c t e, ρ, P => wpT c ρ fun k ρ1 => if k = true then wpS t ρ1 P else wpS e ρ1 P
  | .sFor tg it body, ρ, P => wpI it ρ fun ds ρ1 => forL (fun d ρ2 P' => bindT tg d ρ2 fun ρ3 => wpS body ρ3 P') ds ρ1 P
  | .sWh c body, ρ, P => ∃ n, whL (wpT c) (wpS body) n ρ P
  | .sRet e, ρ, P => wpE e ρ P.rt
  | .sRetN, ρ, P => P.rt .non ρ
  | .sPass, ρ, P => P.nx ρ
  | .sBrk, ρ, P => P.bk ρ
  | .sCnt, ρ, P => P.ct ρ
  | .sW b i j, ρ, P => ∃ ds ii jj a c x y, gt ρ b = .lst true ds ∧ pus ds = true ∧ swI ρ i = some ii ∧ swI ρ j = some jj ∧ ixN ds.length ii = some a ∧ ixN ds.length jj = some c ∧ ds[a]? = some x ∧ ds[c]? = some y ∧ P.nx (ρ.set b (.lst true ((ds.set a y).set c x)))
  | _, _, _ => False
theorem gt_set_ne {ρ : Env} {i j : Nat} {d : D} (h : i ≠ j) : gt (ρ.set i d) j = gt ρ j := by
  unfold gt
  rw [List.getD_eq_getElem?_getD, List.getD_eq_getElem?_getD, List.getElem?_set_ne h]
theorem gt_set_self {ρ : Env} {i : Nat} {d : D} (h : i < ρ.length) : gt (ρ.set i d) i = d := by
  unfold gt
  rw [List.getD_eq_getElem?_getD, List.getElem?_set_self h]; rfl

def slots : List Arg → List Nat
  | [] => []
  | .val _ :: r => slots r
  | .loan i _ :: r => i :: slots r

section
variable {K : PySem.W.Frag} {N : Nat} {ρ : Env} {σ : L2.St} {H H1 : Hp} {Z Z1 : Addr → Prop} {E E1 : Nat → D} {W W1 : Nat → Option V} {F F1 : Nat → List Addr} {h : Nat}
/-- an argument that has been reckoned, at place j -/
def ArgAt (K : PySem.W.Frag) (N : Nat) (H : Hp) (Z : Addr → Prop) (E : Nat → D) (W : Nat → Option V) (F : Nat → List Addr) (j : Nat) : Arg → V → Prop
  | .val d, v => E j = d ∧ W j = some v ∧ d ≠ .un
  | .loan i [], v => E j = .un ∧ i < N ∧ W i = some v
  | .loan i (k :: p), v => E j = .un ∧ i < N ∧ ∃ v0 S', W i = some v0 ∧ Lens K Z H (E i) v0 (F i) (k :: p) v S'
def ArgsAt (K : PySem.W.Frag) (N : Nat) (H : Hp) (Z : Addr → Prop) (E : Nat → D) (W : Nat → Option V) (F : Nat → List Addr) : Nat → List Arg → List V → Prop
  | _, [], vs => vs = []
  | j, x :: xs, vs => ∃ v ws, vs = v :: ws ∧ ArgAt K N H Z E W F j x v ∧ ArgsAt K N H Z E W F (j + 1) xs ws
/-- with what each owns -/
def AL (K : PySem.W.Frag) (N : Nat) (H : Hp) (Z : Addr → Prop) (E : Nat → D) (W : Nat → Option V) (F : Nat → List Addr) : Nat → List Arg → List V → List (List Addr) → Prop
  | _, [], vs, Ss => vs = [] ∧ Ss = []
  | j, .val d :: xs, vs, Ss => ∃ v ws Us, vs = v :: ws ∧ Ss = F j :: Us ∧ Rep K Z H d v (F j) ∧ AL K N H Z E W F (j + 1) xs ws Us
  | j, .loan i p :: xs, vs, Ss => ∃ v ws S Us v0, vs = v :: ws ∧ Ss = S :: Us ∧ i < N ∧ W i = some v0 ∧ Lens K Z H (E i) v0 (F i) p v S ∧ AL K N H Z E W F (j + 1) xs ws Us
def RepL (K : PySem.W.Frag) (Z : Addr → Prop) (H : Hp) : List D → List V → List (List Addr) → Prop
  | [], vs, Ss => vs = [] ∧ Ss = []
  | d :: ds, vs, Ss => ∃ v ws S Us, vs = v :: ws ∧ Ss = S :: Us ∧ Rep K Z H d v S ∧ RepL K Z H ds ws Us
def RepU (K : PySem.W.Frag) (Z : Addr → Prop) (H : Hp) (d : D) (v : V) (S : List Addr) : Prop := (d = .un ∧ S = []) ∨ Rep K Z H d v S
def RepUL (K : PySem.W.Frag) (Z : Addr → Prop) (H : Hp) : List D → List V → List (List Addr) → Prop
  | [], vs, Ss => vs = [] ∧ Ss = []
  | d :: ds, vs, Ss => ∃ v ws S Us, vs = v :: ws ∧ Ss = S :: Us ∧ RepU K Z H d v S ∧ RepUL K Z H ds ws Us
theorem RepL.u : ∀ {ds : List D} {vs : List V} {Ss : List (List Addr)}, RepL K Z H ds vs Ss → RepUL K Z H ds vs Ss
  | [], _, _, h => h
  | d :: ds, _, _, ⟨v, ws, S, Us, e1, e2, r, t⟩ => ⟨v, ws, S, Us, e1, e2, .inr r, RepL.u t⟩

theorem AL.of (S : St0 K N ρ σ H Z E W F h) : ∀ {xs : List Arg} {vs : List V} (j : Nat), ArgsAt K N H Z E W F j xs vs → noUn (res ρ xs) → ∃ Ss, AL K N H Z E W F j xs vs Ss
  | [], vs, j, a, _ => ⟨[], a, rfl⟩
  | .val d :: xs, vs, j, a, u => by
    obtain ⟨v, ws, rfl, ⟨e1, e2, e3⟩, t⟩ := a
    have u' : noUn (res ρ xs) := by
      unfold noUn at u ⊢
      rw [res, List.all_cons, Bool.and_eq_true] at u
      exact u.2
    obtain ⟨Us, hU⟩ := AL.of S (j + 1) t u'
    refine ⟨F j :: Us, v, ws, Us, rfl, rfl, ?_, hU⟩
    rcases S.rep j with q | ⟨v', q1, q2⟩
    · exact absurd (e1.symm.trans q.1) e3
    · rw [e2] at q1; cases q1
      rw [e1] at q2; exact q2
  | .loan i p :: xs, vs, j, a, u => by
    obtain ⟨v, ws, rfl, a1, t⟩ := a
    have u2 := u
    unfold noUn at u2
    rw [res, List.all_cons, Bool.and_eq_true] at u2
    obtain ⟨Us, hU⟩ := AL.of S (j + 1) t (by unfold noUn; exact u2.2)
    cases p with
    | nil =>
      obtain ⟨_, hi, w⟩ := a1
      have nu : E i ≠ .un := fun q => by
        have q1 := u2.1
        rw [getP, ← S.env i hi, q] at q1
        cases q1
      obtain ⟨v', w', r⟩ := S.get nu
      rw [w] at w'; cases w'
      exact ⟨F i :: Us, v, ws, F i, Us, v, rfl, rfl, hi, w, Lens.nil r (S.nd i), hU⟩
    | cons k p =>
      obtain ⟨_, hi, v0, S', w, l⟩ := a1
      exact ⟨S' :: Us, v, ws, S', Us, v0, rfl, rfl, hi, w, l, hU⟩
theorem AL.repL (S : St0 K N ρ σ H Z E W F h) : ∀ {xs : List Arg} {vs : List V} {Ss : List (List Addr)} {j : Nat}, AL K N H Z E W F j xs vs Ss → RepL K Z H (res ρ xs) vs Ss
  | [], _, _, _, a => a
  | .val d :: xs, _, _, _, ⟨v, ws, Us, e1, e2, r, t⟩ => ⟨v, ws, _, Us, e1, e2, r, AL.repL S t⟩
  | .loan i p :: xs, _, _, _, ⟨v, ws, S', Us, v0, e1, e2, hi, w, l, t⟩ => ⟨v, ws, S', Us, e1, e2, by rw [← S.env i hi]; exact l.1, AL.repL S t⟩
theorem AL.mem : ∀ {xs : List Arg} {vs : List V} {Ss : List (List Addr)} {j : Nat}, AL K N H Z E W F j xs vs Ss → ∀ b ∈ Ss.flatten, (∃ k, j ≤ k ∧ k < j + xs.length ∧ b ∈ F k) ∨ ∃ i, i ∈ slots xs ∧ b ∈ F i
  | [], _, _, _, ⟨_, e⟩, b, hb => by subst e; exact (nomatch hb)
  | .val d :: xs, _, _, j, ⟨v, ws, Us, e1, e2, r, t⟩, b, hb => by
    subst e2
    rw [List.flatten_cons] at hb
    rcases List.mem_append.mp hb with hb | hb
    · exact .inl ⟨j, Nat.le_refl _, by simp, hb⟩
    · rcases AL.mem t b hb with ⟨k, h1, h2, h3⟩ | q
      · exact .inl ⟨k, by omega, by rw [List.length_cons]; omega, h3⟩
      · exact .inr q
  | .loan i p :: xs, _, _, j, ⟨v, ws, S', Us, v0, e1, e2, hi, w, l, t⟩, b, hb => by
    subst e2
    rw [List.flatten_cons] at hb
    rcases List.mem_append.mp hb with hb | hb
    · exact .inr ⟨i, List.mem_cons_self, l.2.2.1 b hb⟩
    · rcases AL.mem t b hb with ⟨k, h1, h2, h3⟩ | ⟨i', q1, q2⟩
      · exact .inl ⟨k, by omega, by rw [List.length_cons]; omega, h3⟩
      · exact .inr ⟨i', List.mem_cons_of_mem _ q1, q2⟩
theorem AL.slotsN : ∀ {xs : List Arg} {vs : List V} {Ss : List (List Addr)} {j : Nat}, AL K N H Z E W F j xs vs Ss → ∀ i ∈ slots xs, i < N
  | [], _, _, _, _, i, hi => by exact (nomatch hi)
  | .val d :: xs, _, _, _, ⟨v, ws, Us, e1, e2, r, t⟩, i, hi => AL.slotsN t i hi
  | .loan i' p :: xs, _, _, _, ⟨v, ws, S', Us, v0, e1, e2, h', w, l, t⟩, i, hi => by
    rcases List.mem_cons.mp hi with rfl | hi
    · exact h'
    · exact AL.slotsN t i hi
theorem AL.nodup (S : St0 K N ρ σ H Z E W F h) : ∀ {xs : List Arg} {vs : List V} {Ss : List (List Addr)} {j : Nat}, AL K N H Z E W F j xs vs Ss → N ≤ j → (slots xs).Nodup → Ss.flatten.Nodup
  | [], _, _, _, ⟨_, e⟩, _, _ => by subst e; exact List.nodup_nil
  | .val d :: xs, _, _, j, ⟨v, ws, Us, e1, e2, r, t⟩, hj, nd => by
    subst e2
    rw [List.flatten_cons, List.nodup_append]
    refine ⟨S.nd j, AL.nodup S t (by omega) nd, fun a ha b hb e => ?_⟩
    subst e
    rcases AL.mem t a hb with ⟨k, h1, h2, h3⟩ | ⟨i', q1, q2⟩
    · have := S.dj j k a ha h3; omega
    · have := S.dj j i' a ha q2
      have := AL.slotsN t i' q1
      omega
  | .loan i p :: xs, _, _, j, ⟨v, ws, S', Us, v0, e1, e2, hi, w, l, t⟩, hj, nd => by
    subst e2
    rw [slots, List.nodup_cons] at nd
    rw [List.flatten_cons, List.nodup_append]
    refine ⟨l.2.1, AL.nodup S t (by omega) nd.2, fun a ha b hb e => ?_⟩
    subst e
    have ha' := l.2.2.1 a ha
    rcases AL.mem t a hb with ⟨k, h1, h2, h3⟩ | ⟨i', q1, q2⟩
    · have := S.dj i k a ha' h3; omega
    · have := S.dj i i' a ha' q2
      subst this
      exact nd.1 q1
theorem gt_wb_ne : ∀ {xs : List Arg} {ds : List D} {ρ : Env} {i : Nat}, i ∉ slots xs → gt (wb xs ds ρ) i = gt ρ i
  | [], ds, ρ, i, _ => by cases ds <;> rfl
  | .val d :: xs, [], ρ, i, _ => rfl
  | .val d :: xs, e :: ds, ρ, i, hi => gt_wb_ne (xs := xs) (ds := ds) (ρ := ρ) hi
  | .loan i' p :: xs, [], ρ, i, _ => rfl
  | .loan i' p :: xs, e :: ds, ρ, i, hi => by
    rw [slots, List.mem_cons, not_or] at hi
    show gt (wb xs ds (ρ.set i' (setP (gt ρ i') p e))) i = _
    rw [gt_wb_ne hi.2, gt_set_ne (Ne.symm hi.1)]
theorem wb_length : ∀ {xs : List Arg} {ds : List D} {ρ : Env}, (wb xs ds ρ).length = ρ.length
  | [], ds, ρ => by cases ds <;> rfl
  | .val d :: xs, [], ρ => rfl
  | .val d :: xs, e :: ds, ρ => wb_length (xs := xs) (ds := ds) (ρ := ρ)
  | .loan i' p :: xs, [], ρ => rfl
  | .loan i' p :: xs, e :: ds, ρ => by
    show (wb xs ds (ρ.set i' (setP (gt ρ i') p e))).length = _
    rw [wb_length, List.length_set]
/-- what the loan of slot i owns -/
def lsS : List Arg → List (List Addr) → Nat → List Addr
  | .loan i' _ :: xs, S :: Ss, i => if i' = i then S else lsS xs Ss i
  | .val _ :: xs, _ :: Ss, i => lsS xs Ss i
  | _, _, _ => []
theorem lsS_mem : ∀ {xs : List Arg} {Ss : List (List Addr)} {i : Nat} {b : Addr}, b ∈ lsS xs Ss i → b ∈ Ss.flatten
  | [], _, _, _, h => by simp [lsS] at h
  | .val _ :: xs, [], _, _, h => by simp [lsS] at h
  | .loan _ _ :: xs, [], _, _, h => by simp [lsS] at h
  | .val _ :: xs, S :: Ss, i, b, h => by
    rw [List.flatten_cons]
    exact List.mem_append_right _ (lsS_mem (xs := xs) h)
  | .loan i' _ :: xs, S :: Ss, i, b, h => by
    rw [List.flatten_cons]
    rw [lsS] at h
    split at h
    · exact List.mem_append_left _ h
    · exact List.mem_append_right _ (lsS_mem (xs := xs) h)
theorem lsS_nodup : ∀ {xs : List Arg} {Ss : List (List Addr)} {i : Nat}, Ss.flatten.Nodup → (lsS xs Ss i).Nodup
  | [], _, _, _ => List.nodup_nil
  | .val _ :: xs, [], _, _ => List.nodup_nil
  | .loan _ _ :: xs, [], _, _ => List.nodup_nil
  | .val _ :: xs, S :: Ss, i, h => by
    rw [List.flatten_cons, List.nodup_append] at h
    exact lsS_nodup (xs := xs) h.2.1
  | .loan i' _ :: xs, S :: Ss, i, h => by
    rw [List.flatten_cons, List.nodup_append] at h
    rw [lsS]
    split
    · exact h.1
    · exact lsS_nodup (xs := xs) h.2.1
theorem lsS_disj : ∀ {xs : List Arg} {Ss : List (List Addr)} {i i2 : Nat} {b : Addr}, Ss.flatten.Nodup → b ∈ lsS xs Ss i → b ∈ lsS xs Ss i2 → i = i2
  | [], _, _, _, _, _, h, _ => by simp [lsS] at h
  | .val _ :: xs, [], _, _, _, _, h, _ => by simp [lsS] at h
  | .loan _ _ :: xs, [], _, _, _, _, h, _ => by simp [lsS] at h
  | .val _ :: xs, S :: Ss, i, i2, b, n, h, g => by
    rw [List.flatten_cons, List.nodup_append] at n
    exact lsS_disj (xs := xs) n.2.1 h g
  | .loan i' _ :: xs, S :: Ss, i, i2, b, n, h, g => by
    rw [List.flatten_cons, List.nodup_append] at n
    rw [lsS] at h g
    split at h
    · rename_i e1
      split at g
      · rename_i e2
        exact e1.symm.trans e2
      · exact absurd rfl (n.2.2 b h b (lsS_mem g))
    · split at g
      · exact absurd rfl (n.2.2 b g b (lsS_mem h))
      · exact lsS_disj (xs := xs) n.2.1 h g
/-- one of the loans, ahead and behind -/
theorem AL.slot : ∀ {xs : List Arg} {vs : List V} {Ss Ss' : List (List Addr)} {ds : List D} {j : Nat} {ρ : Env} {i : Nat}, AL K N H Z E W F j xs vs Ss → RepUL K Z1 H1 ds vs Ss' → (slots xs).Nodup → okU xs ds = true → N ≤ ρ.length → N ≤ j →
    (∀ i j a, a ∈ F i → a ∈ F j → i = j) → i ∈ slots xs →
    ∃ p d v v0, W i = some v0 ∧ Lens K Z H (E i) v0 (F i) p v (lsS xs Ss i) ∧ RepU K Z1 H1 d v (lsS xs Ss' i) ∧ (p ≠ [] → d ≠ .un) ∧ gt (wb xs ds ρ) i = setP (gt ρ i) p d ∧
      (∀ b ∈ F i, b ∉ lsS xs Ss i → b ∉ Ss.flatten)
  | [], _, _, _, _, _, _, i, _, _, _, _, _, _, _, hi => (nomatch hi)
  | .val d :: xs, vs, Ss, Ss', ds, j, ρ, i, a, r, nd, ok, hN, hj, dj, hi => by
    obtain ⟨v, ws, Us, e1, e2, r0, t⟩ := a
    subst e1; subst e2
    cases ds with
    | nil => obtain ⟨e, _⟩ := r; cases e
    | cons e ds =>
      obtain ⟨v', ws', S2, Us', e3, e4, r2, t2⟩ := r
      cases e3; subst e4
      obtain ⟨p, d', w, v0, h1, h2, h3, h4, h5, h8⟩ := AL.slot (i := i) t t2 nd (by simpa [okU] using ok) hN (by omega) dj hi
      refine ⟨p, d', w, v0, h1, h2, h3, h4, h5, fun b hb nb => ?_⟩
      rw [List.flatten_cons, List.mem_append, not_or]
      refine ⟨fun q => ?_, h8 b hb nb⟩
      have := dj j i b q hb
      have := AL.slotsN t i hi
      omega
  | .loan i' p :: xs, vs, Ss, Ss', ds, j, ρ, i, a, r, nd, ok, hN, hj, dj, hi => by
    obtain ⟨v, ws, S, Us, v0, e1, e2, hi', w, l, t⟩ := a
    subst e1; subst e2
    rw [slots, List.nodup_cons] at nd
    cases ds with
    | nil => obtain ⟨e, _⟩ := r; cases e
    | cons e ds =>
      obtain ⟨v', ws', S2, Us', e3, e4, r2, t2⟩ := r
      cases e3; subst e4
      by_cases hii : i' = i
      · subst hii
        refine ⟨p, e, v, v0, w, ?_, ?_, fun hp q => ?_, ?_, fun b hb nb => ?_⟩
        · rw [lsS, if_pos rfl]; exact l
        · rw [lsS, if_pos rfl]; exact r2
        · cases p with
          | nil => exact hp rfl
          | cons k p => subst q; simp [okU, isUn] at ok
        · show gt (wb xs ds (ρ.set i' (setP (gt ρ i') p e))) i' = _
          rw [gt_wb_ne nd.1, gt_set_self (by omega)]
        · rw [lsS, if_pos rfl] at nb
          rw [List.flatten_cons, List.mem_append, not_or]
          refine ⟨nb, fun q => ?_⟩
          rcases AL.mem t b q with ⟨k, h1, h2, h3⟩ | ⟨i2, q1, q2⟩
          · have := dj k i' b h3 hb; omega
          · have := dj i2 i' b q2 hb
            subst this
            exact nd.1 q1
      · have hi2 : i ∈ slots xs := by
          rcases List.mem_cons.mp hi with q | q
          · exact absurd q.symm hii
          · exact q
        have ok' : okU xs ds = true := by
          cases p with
          | nil => simpa [okU] using ok
          | cons k p =>
            rw [okU, Bool.and_eq_true] at ok
            exact ok.2
        obtain ⟨p', d', w', v0', h1, h2, h3, h4, h5, h8⟩ := AL.slot (i := i) (ρ := ρ.set i' (setP (gt ρ i') p e)) t t2 nd.2 ok' (by rw [List.length_set]; exact hN) (by omega) dj hi2
        refine ⟨p', d', w', v0', h1, by rw [lsS, if_neg hii]; exact h2, by rw [lsS, if_neg hii]; exact h3, h4, ?_, fun b hb nb => ?_⟩
        · show gt (wb xs ds (ρ.set i' (setP (gt ρ i') p e))) i = _
          rw [h5, gt_set_ne hii]
        · rw [lsS, if_neg hii] at nb
          rw [List.flatten_cons, List.mem_append, not_or]
          refine ⟨fun q => ?_, h8 b hb nb⟩
          exact hii (dj i' i b (l.2.2.1 b q) hb)

/-- what a rule by values tells: the answer, the arguments behind it -/
structure OutC (K : PySem.W.Frag) (Z : Addr → Prop) (H : Hp) (vs : List V) (Ss : List (List Addr)) (rd : D) (ds' : List D) (v : V) (H' : Hp) (Z' : Addr → Prop) (S' : List Addr) (Ss' : List (List Addr)) : Prop where
  reps : RepUL K Z' H' ds' vs Ss'
  rep : Rep K Z' H' rd v S'
  nd : (S' ++ Ss'.flatten).Nodup
  nz : ∀ b ∈ S' ++ Ss'.flatten, ¬ Z' b
  new : ∀ b ∈ S' ++ Ss'.flatten, b ∈ Ss.flatten ∨ H b = none
  ext : Ext (· ∈ Ss.flatten) Z H Z' H'
  al : ∀ b, Z' b → ∃ o, H' b = some o

/-- THE CORE: arguments reckoned, a rule by values used, the loans written back -/
theorem app_core {xs : List Arg} {vs : List V} (S : St0 K N ρ σ H Z E W F (h + xs.length)) (hN : N ≤ h) (A : ArgsAt K N H Z E W F h xs vs) (nu : noUn (res ρ xs)) (nd : (slots xs).Nodup) :
    ∃ Ss, RepL K Z H (res ρ xs) vs Ss ∧ Ss.flatten.Nodup ∧ (∀ b ∈ Ss.flatten, ¬ Z b) ∧ ∀ rd ds' v H' Z' S' Ss', OutC K Z H vs Ss rd ds' v H' Z' S' Ss' → okU xs ds' = true →
      ∃ E' W' F', St0 K N (wb xs ds' ρ) σ H' Z' E' W' F' (h + 1) ∧ E' h = rd ∧ W' h = some v ∧ Out (fun i => i ∈ slots xs ∨ h ≤ i) H Z E W F (h + xs.length) H' Z' E' W' F' := by
  obtain ⟨Ss, a⟩ := AL.of S h A nu
  have sN := AL.slotsN a
  have fl := AL.mem a
  have nz : ∀ b ∈ Ss.flatten, ¬ Z b := fun b hb => by
    rcases fl b hb with ⟨k, _, _, q⟩ | ⟨i, _, q⟩
    · exact S.nz k b q
    · exact S.nz i b q
  refine ⟨Ss, AL.repL S a, AL.nodup S a hN nd, nz, fun rd ds' v H' Z' S' Ss' O ok => ?_⟩
  have alloc : ∀ b i, b ∈ F i → H b ≠ none := fun b i hb q => by
    obtain ⟨xs, e⟩ := S.owned hb
    rw [q] at e; cases e
  have nd2 := O.nd
  rw [List.nodup_append] at nd2
  have st : Stab Z H Z' H' (fun b => b ∉ Ss.flatten) := O.ext.stab fun b z q => nz b q z
  -- the slots' new parts
  have ex : ∀ i, ∃ Fi : List Addr, i < N → RepU K Z' H' (gt (wb xs ds' ρ) i) ((W i).getD .non) Fi ∧ (gt (wb xs ds' ρ) i ≠ .un → ∃ v, W i = some v) ∧ Fi.Nodup ∧
      (∀ b ∈ Fi, (b ∈ F i ∧ b ∉ Ss.flatten) ∨ (i ∈ slots xs ∧ b ∈ lsS xs Ss' i)) ∧ (i ∉ slots xs → Fi = F i) := by
    intro i
    by_cases hi : i < N
    case neg => exact ⟨[], fun q => absurd q hi⟩
    by_cases hs : i ∈ slots xs
    · obtain ⟨p, d, w, v0, w0, l, r, hp, e, nf⟩ := AL.slot (K := K) (Z1 := Z') (H1 := H') (ρ := ρ) (i := i) a O.reps nd ok (by rw [S.lρ]; exact Nat.le_refl _) hN S.dj hs
      have stl : Stab Z H Z' H' (fun b => b ∈ F i ∧ b ∉ lsS xs Ss i) := st.mono fun b hb => nf b hb.1 hb.2
      have ndl : (lsS xs Ss' i).Nodup := lsS_nodup nd2.2.1
      rcases r with ⟨rfl, e0⟩ | r
      · -- used up
        have p0 : p = [] := by
          cases p with
          | nil => rfl
          | cons k p => exact absurd rfl (hp (List.cons_ne_nil _ _))
        subst p0
        rw [setP] at e
        exact ⟨[], fun _ => ⟨.inl ⟨e, rfl⟩, fun q => absurd e q, List.nodup_nil, fun b hb => (nomatch hb), fun q => absurd hs q⟩⟩
      · obtain ⟨S2, q1, q2, q3⟩ := l.2.2.2 Z' H' d _ stl r ndl fun b hb => by
          rcases O.new b (List.mem_append_right _ (lsS_mem hb)) with z | z
          · by_cases hF : b ∈ F i
            · exact .inl (Classical.byContradiction fun nb => nf b hF nb z)
            · exact .inr hF
          · exact .inr fun q => alloc b i q z
        refine ⟨S2, fun _ => ⟨.inr ?_, fun _ => ⟨v0, w0⟩, q2, fun b hb => ?_, fun q => absurd hs q⟩⟩
        · rw [e, w0, ← S.env i hi]; exact q1
        · rcases q3 b hb with z | z
          · exact .inr ⟨hs, z⟩
          · exact .inl ⟨z.1, nf b z.1 z.2⟩
    · have e : gt (wb xs ds' ρ) i = E i := by rw [gt_wb_ne hs, S.env i hi]
      have nf : ∀ b ∈ F i, b ∉ Ss.flatten := fun b hb q => by
        rcases fl b q with ⟨k, h1, h2, h3⟩ | ⟨i2, q1, q2⟩
        · have := S.dj k i b h3 hb; omega
        · have := S.dj i2 i b q2 hb
          subst this
          exact hs q1
      refine ⟨F i, fun _ => ⟨?_, fun q => ?_, S.nd i, fun b hb => .inl ⟨hb, nf b hb⟩, fun _ => rfl⟩⟩
      · rcases S.rep i with q | ⟨v, w, r⟩
        · exact .inl ⟨e.trans q.1, q.2⟩
        · rw [e, w]
          exact .inr (Rep.stab st _ _ _ r fun b hb => nf b hb)
      · obtain ⟨v, w, _⟩ := S.get (i := i) (by rw [← e]; exact q)
        exact ⟨v, w⟩
  obtain ⟨G, hG⟩ := Classical.axiomOfChoice ex
  have keepT : ∀ i, N ≤ i → i < h → ∀ b ∈ F i, b ∉ Ss.flatten := fun i h1 h2 b hb q => by
    rcases fl b q with ⟨k, k1, k2, k3⟩ | ⟨i2, q1, q2⟩
    · have := S.dj k i b k3 hb; omega
    · have := S.dj i2 i b q2 hb
      have := sN i2 q1
      omega
  have fresh : ∀ b, b ∈ S' ++ Ss'.flatten → ∀ i, b ∈ F i → b ∈ Ss.flatten := fun b hb i hF => by
    rcases O.new b hb with z | z
    · exact z
    · exact absurd z (alloc b i hF)
  let E' : Nat → D := fun i => if i < N then gt (wb xs ds' ρ) i else if i < h then E i else if i = h then rd else .un
  let W' : Nat → Option V := fun i => if i = h then some v else W i
  let F' : Nat → List Addr := fun i => if i < N then G i else if i < h then F i else if i = h then S' else []
  have e1 : ∀ i, i < N → E' i = gt (wb xs ds' ρ) i ∧ F' i = G i ∧ W' i = W i := fun i hi => ⟨if_pos hi, if_pos hi, if_neg (by omega)⟩
  have e2 : ∀ i, N ≤ i → i < h → E' i = E i ∧ F' i = F i ∧ W' i = W i := fun i h1 h2 => ⟨by simp only [E']; rw [if_neg (by omega), if_pos h2], by simp only [F']; rw [if_neg (by omega), if_pos h2], if_neg (by omega)⟩
  have e3 : E' h = rd ∧ F' h = S' ∧ W' h = some v := ⟨by show (if h < N then _ else if h < h then _ else if h = h then _ else _) = _; rw [if_neg (by omega), if_neg (by omega), if_pos rfl], by show (if h < N then _ else if h < h then _ else if h = h then _ else _) = _; rw [if_neg (by omega), if_neg (by omega), if_pos rfl], if_pos rfl⟩
  have e4 : ∀ i, h < i → E' i = .un ∧ F' i = [] := fun i hi => ⟨by simp only [E']; rw [if_neg (by omega), if_neg (by omega), if_neg (by omega)], by simp only [F']; rw [if_neg (by omega), if_neg (by omega), if_neg (by omega)]⟩
  -- where an address of the new state comes from
  have from' : ∀ i b, b ∈ F' i → (b ∈ F i ∧ b ∉ Ss.flatten ∧ i < h) ∨ (i < N ∧ i ∈ slots xs ∧ b ∈ lsS xs Ss' i) ∨ (i = h ∧ b ∈ S') := fun i b hb => by
    by_cases h1 : i < N
    · rw [(e1 i h1).2.1] at hb
      rcases (hG i h1).2.2.2.1 b hb with q | q
      · exact .inl ⟨q.1, q.2, by omega⟩
      · exact .inr (.inl ⟨h1, q⟩)
    · by_cases h2 : i < h
      · rw [(e2 i (by omega) h2).2.1] at hb
        exact .inl ⟨hb, keepT i (by omega) h2 b hb, h2⟩
      · by_cases h3 : i = h
        · rw [h3, e3.2.1] at hb
          exact .inr (.inr ⟨h3, hb⟩)
        · rw [(e4 i (by omega)).2] at hb
          exact (nomatch hb)
  refine ⟨E', W', F', ⟨by omega, by rw [wb_length]; exact S.lρ, S.lσ, fun i hi => (e1 i hi).1, fun i hi => by rw [(e1 i hi).2.2]; exact S.val i hi, fun i hi => (e4 i (by omega)).1, fun i => ?_, fun i => ?_, fun i j b hi hj => ?_, fun i b hb => ?_, O.al⟩, e3.1, e3.2.2, ⟨?_, fun i hi ht => ?_, fun i hi ht => ?_, fun i b hb => ?_⟩⟩
  · by_cases h1 : i < N
    · obtain ⟨a1, a2, a3⟩ := e1 i h1
      rw [a1, a2, a3]
      rcases (hG i h1).1 with q | q
      · exact .inl q
      · by_cases hu : gt (wb xs ds' ρ) i = .un
        · rw [hu, Rep] at q; exact q.elim
        · obtain ⟨v', w'⟩ := (hG i h1).2.1 hu
          rw [w'] at q
          exact .inr ⟨v', w', q⟩
    · by_cases h2 : i < h
      · obtain ⟨a1, a2, a3⟩ := e2 i (by omega) h2
        rw [a1, a2, a3]
        rcases S.rep i with q | ⟨v', w', r⟩
        · exact .inl q
        · exact .inr ⟨v', w', Rep.stab st _ _ _ r fun b hb => keepT i (by omega) h2 b hb⟩
      · by_cases h3 : i = h
        · subst h3
          rw [e3.1, e3.2.1, e3.2.2]
          exact .inr ⟨v, rfl, O.rep⟩
        · exact .inl (e4 i (by omega))
  · by_cases h1 : i < N
    · rw [(e1 i h1).2.1]; exact (hG i h1).2.2.1
    · by_cases h2 : i < h
      · rw [(e2 i (by omega) h2).2.1]; exact S.nd i
      · by_cases h3 : i = h
        · rw [h3, e3.2.1]; exact nd2.1
        · rw [(e4 i (by omega)).2]; exact List.nodup_nil
  · rcases from' i b hi with ⟨p1, p2, _⟩ | ⟨p0, p1, p2⟩ | ⟨p1, p2⟩ <;> rcases from' j b hj with ⟨q1, q2, _⟩ | ⟨q0, q1, q2⟩ | ⟨q1, q2⟩
    · exact S.dj i j b p1 q1
    · exact absurd (fresh b (List.mem_append_right _ (lsS_mem q2)) i p1) p2
    · exact absurd (fresh b (List.mem_append_left _ q2) i p1) p2
    · exact absurd (fresh b (List.mem_append_right _ (lsS_mem p2)) j q1) q2
    · exact lsS_disj nd2.2.1 p2 q2
    · exact absurd rfl (nd2.2.2 b q2 b (lsS_mem p2))
    · exact absurd (fresh b (List.mem_append_left _ p2) j q1) q2
    · exact absurd rfl (nd2.2.2 b p2 b (lsS_mem q2))
    · rw [p1, q1]
  · rcases from' i b hb with ⟨p1, p2, _⟩ | ⟨_, _, p2⟩ | ⟨_, p2⟩
    · intro z
      rcases O.ext.zn b z with q | q | q
      · exact S.nz i b p1 q
      · exact p2 q
      · exact alloc b i p1 q
    · exact O.nz b (List.mem_append_right _ (lsS_mem p2))
    · exact O.nz b (List.mem_append_left _ p2)
  · refine O.ext.mono fun b hb => .inl ?_
    rcases fl b hb with ⟨k, k1, k2, k3⟩ | ⟨i, q1, q2⟩
    · exact ⟨k, k2, .inr k1, k3⟩
    · have := sN i q1
      exact ⟨i, by omega, .inl q1, q2⟩
  · rw [not_or] at ht
    by_cases h1 : i < N
    · obtain ⟨a1, a2, a3⟩ := e1 i h1
      rw [a1, a2, gt_wb_ne ht.1, ← S.env i h1]
      exact ⟨rfl, (hG i h1).2.2.2.2 ht.1⟩
    · obtain ⟨a1, a2, a3⟩ := e2 i (by omega) (by omega)
      exact ⟨a1, a2⟩
  · rw [not_or] at ht
    exact if_neg (by omega)
  · rcases from' i b hb with ⟨p1, p2, p3⟩ | ⟨p0, p1, p2⟩ | ⟨p1, p2⟩
    · by_cases hs : i ∈ slots xs
      · exact .inl ⟨i, by omega, .inl hs, p1⟩
      · exact .inr (.inr ⟨by omega, by rw [not_or]; exact ⟨hs, by omega⟩, p1⟩)
    · rcases O.new b (List.mem_append_right _ (lsS_mem p2)) with z | z
      · refine .inl ?_
        rcases fl b z with ⟨k, k1, k2, k3⟩ | ⟨i2, q1, q2⟩
        · exact ⟨k, k2, .inr k1, k3⟩
        · have := sN i2 q1
          exact ⟨i2, by omega, .inl q1, q2⟩
      · exact .inr (.inl z)
    · rcases O.new b (List.mem_append_left _ p2) with z | z
      · refine .inl ?_
        rcases fl b z with ⟨k, k1, k2, k3⟩ | ⟨i2, q1, q2⟩
        · exact ⟨k, k2, .inr k1, k3⟩
        · have := sN i2 q1
          exact ⟨i2, by omega, .inl q1, q2⟩
      · exact .inr (.inl z)
end
/-! ### what a body may change -/
def bslot : IR → Option Nat
  | .br i => some i
  | .plc b _ => bslot b
  | _ => none
def lentL : IR → List Nat
  | .cons a r => (bslot a).toList ++ lentL r
  | _ => []
def lent (as : IR) (j : Nat) : Bool := (lentL as).contains j
def tch : IR → Nat → Bool
  | .mv i, j => i == j
  | .fr i, j => i == j
  | .fzv a, j => tch a j
  | .plc b x, j => tch b j || tch x j
  | .slc a lo hi, j => tch a j || (tch lo j || tch hi j)
  | .ap _ as, j => tch as j
  | .meth _ o as, j => tch o j || (tch as j || lent (.cons o as) j)
  | .call _ _ as, j => tch as j || lent as j
  | .land a b, j => tch a j || tch b j
  | .lor a b, j => tch a j || tch b j
  | .lnot a, j => tch a j
  | .ite c a b, j => tch c j || (tch a j || tch b j)
  | .chn a _ r, j => tch a j || tch r j
  | .lc own tg it cond elt, j => own.contains j || (tch it j || (tch cond j || tch elt j))
  | .itS a, j => tch a j
  | .itR as, j => tch as j
  | .itE a, j => tch a j
  | .itZ a b, j => tch a j || tch b j
  | .tn i, j => i == j
  | .tt is, j => is.contains j
  | .cons a r, j => tch a j || tch r j
  | .sE e, j => tch e j
  | .sA tg e, j => tch tg j || tch e j
  | .sP is as, j => is.contains j || tch as j
  | .sI as, j => tch as j || lent as j
  | .sU i _ e, j => i == j || tch e j
  | .sUI a i _ e, j => (bslot a == some j) || (tch a j || (tch i j || tch e j))
  | .sIf c t e, j => tch c j || (tch t j || tch e j)
  | .sFor tg it body, j => tch tg j || (tch it j || tch body j)
  | .sWh c body, j => tch c j || tch body j
  | .sRet e, j => tch e j
  | .sW b _ _, j => b == j
  | _, _ => false

section
variable {K : PySem.W.Frag} {N : Nat} {ρ ρ1 ρ2 : Env} {σ : L2.St} {H H1 H2 : Hp} {Z Z1 Z2 : Addr → Prop} {E E1 E2 : Nat → D} {W W1 W2 : Nat → Option V} {F F1 F2 : Nat → List Addr} {h h1 : Nat} {T T1 T2 : Nat → Prop}

/-- what is behind h is dropped -/
theorem St0.pop (S : St0 K N ρ σ H Z E W F h1) (hN : N ≤ h) (hh : h ≤ h1) : ∃ E2 F2, St0 K N ρ σ H Z E2 W F2 h ∧ Out (fun i => h ≤ i) H Z E W F h1 H Z E2 W F2 := by
  refine ⟨fun i => if i < h then E i else .un, fun i => if i < h then F i else [], ⟨hN, S.lρ, S.lσ, fun i hi => ?_, S.val, fun i hi => if_neg (by omega), fun i => ?_, fun i => ?_, fun i j a ha hb => ?_, fun i a ha => ?_, S.al⟩, Ext.refl, fun i hi t => ?_, fun _ _ _ => rfl, fun i a ha => ?_⟩
  · show (if i < h then E i else _) = _
    rw [if_pos (by omega)]; exact S.env i hi
  · by_cases hi : i < h
    · simp only [if_pos hi]; exact S.rep i
    · exact .inl ⟨if_neg hi, if_neg hi⟩
  · by_cases hi : i < h
    · simp only [if_pos hi]; exact S.nd i
    · simp only [if_neg hi]; exact List.nodup_nil
  · by_cases hi : i < h
    · by_cases hj : j < h
      · simp only [if_pos hi] at ha; simp only [if_pos hj] at hb; exact S.dj i j a ha hb
      · simp only [if_neg hj] at hb; exact (nomatch hb)
    · simp only [if_neg hi] at ha; exact (nomatch ha)
  · by_cases hi : i < h
    · simp only [if_pos hi] at ha; exact S.nz i a ha
    · simp only [if_neg hi] at ha; exact (nomatch ha)
  · have : i < h := by omega
    simp only [if_pos this]
    exact ⟨trivial, trivial⟩
  · by_cases hi : i < h
    · simp only [if_pos hi] at ha
      exact .inr (.inr ⟨by omega, by omega, ha⟩)
    · simp only [if_neg hi] at ha; exact (nomatch ha)
/-- a value that owns nothing is laid on -/
theorem St0.push (S : St0 K N ρ σ H Z E W F h) {d : D} {v : V} (r : Rep K Z H d v []) : ∃ E2 W2 F2, St0 K N ρ σ H Z E2 W2 F2 (h + 1) ∧ E2 h = d ∧ W2 h = some v ∧ Out T H Z E W F h H Z E2 W2 F2 := by
  have hn := S.hN
  have e0 := S.nil (Nat.le_refl h)
  refine ⟨fun i => if i = h then d else E i, fun i => if i = h then some v else W i, F, ⟨by omega, S.lρ, S.lσ, fun i hi => ?_, fun i hi => ?_, fun i hi => ?_, fun i => ?_, S.nd, S.dj, S.nz, S.al⟩, if_pos rfl, if_pos rfl, Ext.refl, fun i hi t => ?_, fun i hi t => ?_, fun i a ha => ?_⟩
  · show (if i = h then d else E i) = _
    rw [if_neg (by omega)]; exact S.env i hi
  · show _ = some (if i = h then some v else W i)
    rw [if_neg (by omega)]; exact S.val i hi
  · show (if i = h then d else E i) = _
    rw [if_neg (by omega)]; exact S.top i (by omega)
  · by_cases hi : i = h
    · subst hi
      simp only [if_pos]
      rw [e0]
      exact .inr ⟨v, rfl, r⟩
    · simp only [if_neg hi]; exact S.rep i
  · have : i ≠ h := by omega
    simp only [if_neg this]
    exact ⟨trivial, trivial⟩
  · show (if i = h then some v else W i) = _
    rw [if_neg (by omega)]
  · by_cases hi : i < h
    · by_cases t : T i
      · exact .inl ⟨i, hi, t, ha⟩
      · exact .inr (.inr ⟨hi, t, ha⟩)
    · rw [S.nil (by omega)] at ha; exact (nomatch ha)
/-- a place held for a loan -/
theorem St0.hold (S : St0 K N ρ σ H Z E W F h) : St0 K N ρ σ H Z E W F (h + 1) :=
  ⟨Nat.le_succ_of_le S.hN, S.lρ, S.lσ, S.env, S.val, fun i hi => S.top i (by omega), S.rep, S.nd, S.dj, S.nz, S.al⟩

/-- an argument stays what it is while what is reckoned next changes other things -/
theorem ArgAt.stay {x : Arg} {v : V} {j : Nat} (a : ArgAt K N H Z E W F j x v) (S : St0 K N ρ σ H Z E W F h) (S1 : St0 K N ρ1 σ H1 Z1 E1 W1 F1 h1) (o : Out T H Z E W F h H1 Z1 E1 W1 F1) (hj : j < h) (hT : ∀ i, T i → i < N)
    (jN : N ≤ j) (safe : ∀ i k p, x = .loan i (k :: p) → ¬ T i) : ArgAt K N H1 Z1 E1 W1 F1 j x v := by
  have nj : ¬ T j := fun t => by have := hT j t; omega
  have ww : ∀ i, i < N → W1 i = W i := fun i hi => by
    have a1 := S.val i hi
    have a2 := S1.val i hi
    rw [a1] at a2
    exact (Option.some.inj a2).symm
  cases x with
  | val d =>
    obtain ⟨e1, e2, e3⟩ := a
    exact ⟨(o.same j hj nj).1.trans e1, (o.w j hj nj).trans e2, e3⟩
  | loan i p =>
    cases p with
    | nil =>
      obtain ⟨e1, e2, e3⟩ := a
      exact ⟨(o.same j hj nj).1.trans e1, e2, (ww i e2).trans e3⟩
    | cons k p =>
      obtain ⟨e1, e2, v0, S', e3, l⟩ := a
      have ni := safe i k p rfl
      have hi : i < h := Nat.lt_of_lt_of_le e2 S.hN
      obtain ⟨q1, q2⟩ := o.same i hi ni
      refine ⟨(o.same j hj nj).1.trans e1, e2, v0, S', (ww i e2).trans e3, ?_⟩
      rw [q1, q2]
      exact l.stab ((S.stab o).mono fun b hb => ⟨i, hi, ni, hb⟩)
theorem ArgsAt.stay {xs : List Arg} : ∀ {vs : List V} {j : Nat}, ArgsAt K N H Z E W F j xs vs → St0 K N ρ σ H Z E W F h → St0 K N ρ1 σ H1 Z1 E1 W1 F1 h1 → Out T H Z E W F h H1 Z1 E1 W1 F1 → j + xs.length ≤ h → (∀ i, T i → i < N) →
    N ≤ j → (∀ x ∈ xs, ∀ i k p, x = .loan i (k :: p) → ¬ T i) → ArgsAt K N H1 Z1 E1 W1 F1 j xs vs := by
  induction xs with
  | nil => intro vs j a _ _ _ _ _ _ _; exact a
  | cons x xs ih =>
    intro vs j a S S1 o hj hT jN safe
    obtain ⟨v, ws, e, a1, a2⟩ := a
    rw [List.length_cons] at hj
    exact ⟨v, ws, e, a1.stay S S1 o (by omega) hT jN (safe x List.mem_cons_self), ih a2 S S1 o (by omega) hT (by omega) fun y hy => safe y (List.mem_cons_of_mem _ hy)⟩
end

/-! ### readings -/
section
variable (K : PySem.W.Frag) (N : Nat)
def Tc (e : IR) : Nat → Prop := fun i => i < N ∧ tch e i = true
def Shape (a : IR) (x : Arg) : Prop := match bslot a with
  | some i => ∃ p, x = .loan i p ∧ (∀ j, a = .br j → p = [])
  | none => ∃ d, x = .val d
def tE (e : IR) : TE := fun σ H Q => ∃ ρ Z E W F h q, St0 K N ρ σ H Z E W F h ∧ wpE e ρ q ∧
  ∀ v d ρ' H' Z' E' W' F', St0 K N ρ' σ H' Z' E' W' F' (h + 1) → Out (Tc N e) H Z E W F h H' Z' E' W' F' → E' h = d → W' h = some v → d ≠ .un → q d ρ' → Q v H'
def tL (a : IR) : TE := fun σ H Q => ∃ ρ Z E W F h q, St0 K N ρ σ H Z E W F h ∧ wpL a ρ q ∧
  ∀ v x ρ' H' Z' E' W' F', St0 K N ρ' σ H' Z' E' W' F' (h + 1) → Out (Tc N a) H Z E W F h H' Z' E' W' F' → ArgAt K N H' Z' E' W' F' h x v → Shape a x → q x ρ' → Q v H'
def tA (as : IR) : TA := fun σ H Q => ∃ ρ Z E W F h q, St0 K N ρ σ H Z E W F h ∧ wpA as ρ q ∧
  ∀ vs xs ρ' H' Z' E' W' F', St0 K N ρ' σ H' Z' E' W' F' (h + xs.length) → Out (Tc N as) H Z E W F h H' Z' E' W' F' → ArgsAt K N H' Z' E' W' F' h xs vs → slots xs = lentL as → q xs ρ' → Q vs H'
def tT (e : IR) : TT := fun σ H Q => ∃ ρ Z E W F h q, St0 K N ρ σ H Z E W F h ∧ wpT e ρ q ∧
  ∀ k ρ' H' Z' E' W' F', St0 K N ρ' σ H' Z' E' W' F' h → Out (Tc N e) H Z E W F h H' Z' E' W' F' → q k ρ' → Q k H'
end

section
variable {K : PySem.W.Frag} {N : Nat} {σ : L2.St} {H : Hp} {a b r e as : IR}
theorem Tc.lt {i : Nat} (h : Tc N e i) : i < N := h.1
theorem tL.mono {Q Q' : VK} (h : tL K N a σ H Q) (hq : ∀ v H', Q v H' → Q' v H') : tL K N a σ H Q' := by
  obtain ⟨ρ, Z, E, W, F, h, q, S, w, k⟩ := h
  exact ⟨ρ, Z, E, W, F, h, q, S, w, fun v x ρ' H' Z' E' W' F' s o a sh qq => hq _ _ (k v x ρ' H' Z' E' W' F' s o a sh qq)⟩
theorem tA.nil {Q : List V → Hp → Prop} (h : tA K N .nil σ H Q) : Q [] H := by
  obtain ⟨ρ, Z, E, W, F, h, q, S, w, k⟩ := h
  exact k [] [] ρ H Z E W F S (Out.refl S) rfl rfl w
theorem tA.cons {Q : List V → Hp → Prop} (h : tA K N (.cons a r) σ H Q) (safe : ∀ i, bslot a = some i → (∃ j, a = .br j) ∨ tch r i = false) :
    tL K N a σ H fun v H1 => tA K N r σ H1 fun vs H2 => Q (v :: vs) H2 := by
  obtain ⟨ρ, Z, E, W, F, h, q, S, w, k⟩ := h
  refine ⟨ρ, Z, E, W, F, h, _, S, w, fun v x ρ1 H1 Z1 E1 W1 F1 S1 o1 a1 sh w1 => ?_⟩
  refine ⟨ρ1, Z1, E1, W1, F1, h + 1, _, S1, w1, fun vs xs ρ2 H2 Z2 E2 W2 F2 S2 o2 a2 ls w2 => ?_⟩
  have hN := S.hN
  refine k (v :: vs) (x :: xs) ρ2 H2 Z2 E2 W2 F2 (by rw [List.length_cons, show h + (xs.length + 1) = h + 1 + xs.length by omega]; exact S2) ?_ ⟨v, vs, rfl, ?_, a2⟩ ?_ w2
  · refine Out.trans (o1.mono fun i _ t => ?_) (o2.mono fun i _ t => ?_) (Nat.le_succ h)
    · exact ⟨t.1, by rw [tch, t.2]; rfl⟩
    · exact ⟨t.1, by rw [tch, t.2, Bool.or_true]⟩
  · refine a1.stay S1 S2 o2 (Nat.lt_succ_self h) (fun i t => t.1) hN fun i kk p e t => ?_
    subst e
    unfold Shape at sh
    cases hb : bslot a with
    | none => rw [hb] at sh; obtain ⟨d, e⟩ := sh; cases e
    | some j =>
      rw [hb] at sh
      obtain ⟨p', e, hp⟩ := sh
      cases e
      rcases safe i hb with ⟨j, e⟩ | q
      · have := hp j e; cases this
      · rw [t.2] at q; cases q
  · rw [lentL]
    unfold Shape at sh
    cases hb : bslot a with
    | none =>
      rw [hb] at sh
      obtain ⟨d, e⟩ := sh
      subst e
      exact ls
    | some j =>
      rw [hb] at sh
      obtain ⟨p, e, _⟩ := sh
      subst e
      show j :: slots xs = _
      rw [ls]; rfl
end

/-! ### rules by values -/
theorem RepL_one {K : PySem.W.Frag} {Z : Addr → Prop} {H : Hp} {d : D} {vs : List V} {Ss : List (List Addr)} (h : RepL K Z H [d] vs Ss) : ∃ v S, vs = [v] ∧ Ss = [S] ∧ Rep K Z H d v S := by
  obtain ⟨v, ws, S, Us, e1, e2, r, e3, e4⟩ := h
  subst e3; subst e4
  exact ⟨v, S, e1, e2, r⟩
theorem rep_lst' {K : PySem.W.Frag} {Z : Addr → Prop} {H : Hp} {o : Bool} {ds : List D} {v : V} {S : List Addr} (h : Rep K Z H (.lst o ds) v S) : ∃ a vs, v = .ref a ∧ H a = some (.lst vs) := by
  cases o with
  | true =>
    rw [Rep] at h
    obtain ⟨a, vs, T, e, ha, _, r⟩ := h
    exact ⟨a, vs, e, ha⟩
  | false =>
    rw [Rep] at h
    obtain ⟨a, vs, e, ha, _, _, r⟩ := h
    exact ⟨a, vs, e, ha⟩
def Impl (K : PySem.W.Frag) (r : List V → Hp → VK → Prop) (sem : List D → (D → List D → Prop) → Prop) : Prop :=
  ∀ (ds : List D) (vs : List V) (Ss : List (List Addr)) (H : Hp) (Z : Addr → Prop) (post : D → List D → Prop) (Q : VK), RepL K Z H ds vs Ss → Ss.flatten.Nodup → (∀ b ∈ Ss.flatten, ¬ Z b) → (∀ b, Z b → ∃ o, H b = some o) →
    sem ds post → (∀ rd ds' v H' Z' S' Ss', OutC K Z H vs Ss rd ds' v H' Z' S' Ss' → post rd ds' → Q v H') → r vs H Q
section
variable {K : PySem.W.Frag} {N : Nat} {σ : L2.St} {H : Hp} {as : IR} {rr : List V → Hp → VK → Prop}
/-- the state behind a rule by values -/
theorem app_end {sem : List D → (D → List D → Prop) → Prop} (im : Impl K rr sem) {ρ ρ1 : Env} {H1 : Hp} {Z Z1 : Addr → Prop} {E E1 : Nat → D} {W W1 : Nat → Option V} {F F1 : Nat → List Addr} {h : Nat} {xs : List Arg} {vs : List V} {Q : VK} {T : Nat → Prop} {q : D → Env → Prop}
    (S : St0 K N ρ σ H Z E W F h) (S1 : St0 K N ρ1 σ H1 Z1 E1 W1 F1 (h + xs.length)) (o1 : Out T H Z E W F h H1 Z1 E1 W1 F1) (A : ArgsAt K N H1 Z1 E1 W1 F1 h xs vs) (nd : (slots xs).Nodup)
    (w : noUn (res ρ1 xs) ∧ sem (res ρ1 xs) fun d ds => okU xs ds = true ∧ q d (wb xs ds ρ1))
    (k : ∀ v d ρ' H' Z' E' W' F', St0 K N ρ' σ H' Z' E' W' F' (h + 1) → Out (fun i => T i ∨ i ∈ slots xs) H Z E W F h H' Z' E' W' F' → E' h = d → W' h = some v → d ≠ .un → q d ρ' → Q v H') : rr vs H1 Q := by
  obtain ⟨Ss, rl, nf, nz, nx⟩ := app_core S1 S.hN A w.1 nd
  refine im _ _ Ss H1 Z1 _ Q rl nf nz S1.al w.2 fun rd ds' v H' Z' S' Ss' O ⟨ok, qq⟩ => ?_
  obtain ⟨E', W', F', S2, e1, e2, o2⟩ := nx rd ds' v H' Z' S' Ss' O ok
  refine k v rd _ H' Z' E' W' F' S2 ?_ e1 e2 (fun z => ?_) qq
  · refine ((o1.mono (T2 := fun i => T i ∨ i ∈ slots xs ∨ h ≤ i) fun i _ t => .inl t).trans (o2.mono fun i _ t => .inr t) (Nat.le_add_right h _)).mono fun i hi t => ?_
    rcases t with t | t | t
    · exact .inl t
    · exact .inr t
    · omega
  · have := O.rep
    rw [z, Rep] at this
    exact this
end
/-- .. that only looks: what it answers owns new things alone -/
def PImpl (K : PySem.W.Frag) (r : List V → Hp → VK → Prop) (sem : List D → (D → Prop) → Prop) : Prop :=
  ∀ (ds : List D) (vs : List V) (Ss : List (List Addr)) (H : Hp) (Z : Addr → Prop) (post : D → Prop) (Q : VK), RepL K Z H ds vs Ss →
    sem ds post → (∀ rd v H' S', (∀ b o, H b = some o → H' b = some o) → Rep K Z H' rd v S' → S'.Nodup → (∀ b ∈ S', H b = none) → post rd → Q v H') → r vs H Q
section
variable {K : PySem.W.Frag} {N : Nat} {ρ : Env} {σ : L2.St} {H H1 : Hp} {Z Z1 : Addr → Prop} {E E1 : Nat → D} {W W1 : Nat → Option V} {F F1 : Nat → List Addr} {h : Nat} {T : Nat → Prop} {as : IR} {rr : List V → Hp → VK → Prop}
theorem Ext.same {M : Addr → Prop} {H' : Hp} (s : ∀ b o, H b = some o → H' b = some o) : Ext M Z H Z H' := ⟨fun b o e _ => s b o e, fun b o e => ⟨o, s b o e⟩, fun b xs e => s b _ e, fun b o u e => s b _ e, fun _ z => z, fun _ z => .inl z⟩
/-- a value that owns new things is laid on -/
theorem St0.pushNew (S : St0 K N ρ σ H Z E W F h) {d : D} {v : V} {H' : Hp} {S' : List Addr} (s : ∀ b o, H b = some o → H' b = some o) (r : Rep K Z H' d v S') (nd : S'.Nodup) (fr : ∀ b ∈ S', H b = none) :
    ∃ E2 W2 F2, St0 K N ρ σ H' Z E2 W2 F2 (h + 1) ∧ E2 h = d ∧ W2 h = some v ∧ Out T H Z E W F h H' Z E2 W2 F2 := by
  have hn := S.hN
  have e0 := S.nil (Nat.le_refl h)
  have al : ∀ b i, b ∈ F i → H b ≠ none := fun b i hb q => by
    obtain ⟨xs, e⟩ := S.owned hb
    rw [q] at e; cases e
  have st : Stab Z H Z H' (fun _ => True) := ⟨fun b xs e => s b _ e, fun b o u e => s b _ e, fun _ z => z, fun b o _ e => s b o e, fun b o _ e => s b o e⟩
  have fh : ∀ i b, b ∈ (if i = h then S' else F i) → (i = h ∧ b ∈ S') ∨ (i < h ∧ b ∈ F i) := fun i b hb => by
    by_cases hi : i = h
    · rw [if_pos hi] at hb; exact .inl ⟨hi, hb⟩
    · rw [if_neg hi] at hb
      by_cases hl : i < h
      · exact .inr ⟨hl, hb⟩
      · rw [S.nil (by omega)] at hb; exact (nomatch hb)
  refine ⟨fun i => if i = h then d else E i, fun i => if i = h then some v else W i, fun i => if i = h then S' else F i, ⟨by omega, S.lρ, S.lσ, fun i hi => ?_, fun i hi => ?_, fun i hi => ?_, fun i => ?_, fun i => ?_, fun i j b hi hj => ?_, fun i b hi => ?_, fun b z => ?_⟩, if_pos rfl, if_pos rfl, Ext.same s, fun i hi t => ?_, fun i hi t => ?_, fun i a ha => ?_⟩
  · show (if i = h then d else E i) = _
    rw [if_neg (by omega)]; exact S.env i hi
  · show _ = some (if i = h then some v else W i)
    rw [if_neg (by omega)]; exact S.val i hi
  · show (if i = h then d else E i) = _
    rw [if_neg (by omega)]; exact S.top i (by omega)
  · by_cases hi : i = h
    · subst hi
      simp only [if_pos]
      exact .inr ⟨v, rfl, r⟩
    · simp only [if_neg hi]
      rcases S.rep i with q | ⟨v', w, q⟩
      · exact .inl q
      · exact .inr ⟨v', w, Rep.stab st _ _ _ q fun _ _ => trivial⟩
  · by_cases hi : i = h
    · simp only [if_pos hi]; exact nd
    · simp only [if_neg hi]; exact S.nd i
  · rcases fh i b hi with ⟨p1, p2⟩ | ⟨p1, p2⟩ <;> rcases fh j b hj with ⟨q1, q2⟩ | ⟨q1, q2⟩
    · rw [p1, q1]
    · exact absurd (fr b p2) (al b j q2)
    · exact absurd (fr b q2) (al b i p2)
    · exact S.dj i j b p2 q2
  · intro z
    rcases fh i b hi with ⟨p1, p2⟩ | ⟨p1, p2⟩
    · obtain ⟨o, e⟩ := S.al b z
      rw [fr b p2] at e; cases e
    · exact S.nz i b p2 z
  · obtain ⟨o, e⟩ := S.al b z
    exact ⟨o, s b o e⟩
  · have : i ≠ h := by omega
    simp only [if_neg this]
    exact ⟨trivial, trivial⟩
  · show (if i = h then some v else W i) = _
    rw [if_neg (by omega)]
  · rcases fh i a ha with ⟨p1, p2⟩ | ⟨p1, p2⟩
    · exact .inr (.inl (fr a p2))
    · by_cases t : T i
      · exact .inl ⟨i, p1, t, p2⟩
      · exact .inr (.inr ⟨p1, t, p2⟩)
/-- the state behind a rule that only looks -/
theorem app_look {sem : List D → (D → Prop) → Prop} (im : PImpl K rr sem) {ρ1 : Env} {xs : List Arg} {vs : List V} {Q : VK} {q : D → Env → Prop}
    (S : St0 K N ρ σ H Z E W F h) (S1 : St0 K N ρ1 σ H1 Z1 E1 W1 F1 (h + xs.length)) (o1 : Out T H Z E W F h H1 Z1 E1 W1 F1) (A : ArgsAt K N H1 Z1 E1 W1 F1 h xs vs)
    (w : noUn (res ρ1 xs) ∧ sem (res ρ1 xs) fun d => q d ρ1)
    (k : ∀ v d ρ' H' Z' E' W' F', St0 K N ρ' σ H' Z' E' W' F' (h + 1) → Out T H Z E W F h H' Z' E' W' F' → E' h = d → W' h = some v → d ≠ .un → q d ρ' → Q v H') : rr vs H1 Q := by
  obtain ⟨Ss, a⟩ := AL.of S1 h A w.1
  refine im _ _ Ss H1 Z1 _ Q (AL.repL S1 a) w.2 fun rd v H' S' s r nd fr qq => ?_
  obtain ⟨E2, F2, S2, o2⟩ := S1.pop S.hN (Nat.le_add_right h _)
  obtain ⟨E3, W3, F3, S3, e1, e2, o3⟩ := S2.pushNew (T := fun i => T i ∨ h ≤ i) s r nd fr
  refine k v rd ρ1 H' Z1 E3 W3 F3 S3 ?_ e1 e2 (fun z => ?_) qq
  · refine (((o1.mono (T2 := fun i => T i ∨ h ≤ i) fun i _ t => .inl t).trans (o2.mono fun i _ t => .inr t) (Nat.le_add_right h _)).trans o3 (Nat.le_refl h)).mono fun i hi t => ?_
    rcases t with t | t
    · exact t
    · omega
  · rw [z, Rep] at r
    exact r
/-- a rule that only looks, of arguments -/
theorem wpE_ap (k : PK) (as : IR) (ρ : Env) (q : D → Env → Prop) : wpE (.ap k as) ρ q = wpA as ρ fun xs ρ1 => noUn (res ρ1 xs) ∧ pkS k (res ρ1 xs) fun d => q d ρ1 := by
  cases k <;> rfl
theorem ap_look {k : PK} (im : PImpl K rr (pkS k)) {Q : VK} (w : tE K N (.ap k as) σ H Q) : tA K N as σ H fun vs H1 => rr vs H1 Q := by
  obtain ⟨ρ, Z, E, W, F, h, q, S, w, kk⟩ := w
  rw [wpE_ap] at w
  refine ⟨ρ, Z, E, W, F, h, _, S, w, fun vs xs ρ1 H1 Z1 E1 W1 F1 S1 o1 a1 _ w1 => ?_⟩
  exact app_look im S S1 o1 a1 w1 kk
/-- a display -/
theorem ap_disp {k : PK} (im : Impl K rr fun ds post => pkS k ds fun d => post d (ds.map fun _ => .un)) (nl : lentL as = []) {Q : VK} (w : tE K N (.ap k as) σ H Q) : tA K N as σ H fun vs H1 => rr vs H1 Q := by
  obtain ⟨ρ, Z, E, W, F, h, q, S, w, kk⟩ := w
  rw [wpE_ap] at w
  refine ⟨ρ, Z, E, W, F, h, _, S, w, fun vs xs ρ1 H1 Z1 E1 W1 F1 S1 o1 a1 ls w1 => ?_⟩
  have sl : slots xs = [] := ls.trans nl
  have wbn : ∀ (xs : List Arg) (ds : List D), slots xs = [] → wb xs ds ρ1 = ρ1 ∧ okU xs ds = true := by
    intro xs
    induction xs with
    | nil => intro ds _; cases ds <;> exact ⟨rfl, rfl⟩
    | cons x xs ih =>
      intro ds e
      cases x with
      | val d => cases ds with
        | nil => exact ⟨rfl, rfl⟩
        | cons d' ds =>
          obtain ⟨i1, i2⟩ := ih ds e
          exact ⟨i1, i2⟩
      | loan i p => cases e
  refine app_end im S S1 o1 a1 (by rw [sl]; exact List.nodup_nil) (q := q) ⟨w1.1, ?_⟩ fun v d ρ' H' Z' E' W' F' S' o' => ?_
  · have := wbn xs ((res ρ1 xs).map fun _ => .un) sl
    simp only [this.1, this.2, true_and]
    exact w1.2
  · exact kk v d ρ' H' Z' E' W' F' S' (o'.mono fun i _ t => by
      rcases t with t | t
      · exact t
      · rw [sl] at t; exact (nomatch t))
/-- a method of a list -/
theorem meth_tA {m : ME} {o : IR} (im : Impl K rr (meS m)) (nd : (lentL (.cons o as)).Nodup) (safe : ∀ i, bslot o = some i → (∃ j, o = .br j) ∨ tch as i = false) {Q : VK} (w : tE K N (.meth m o as) σ H Q) :
    tL K N o σ H fun v H1 => (∃ dd S Z, recv m dd = true ∧ Rep K Z H1 dd v S) ∧ tA K N as σ H1 fun vs H2 => rr (v :: vs) H2 Q := by
  obtain ⟨ρ, Z, E, W, F, h, q, S, w, kk⟩ := w
  refine ⟨ρ, Z, E, W, F, h, _, S, w, fun v x ρ1 H1 Z1 E1 W1 F1 S1 o1 a1 sh ⟨w1, w2⟩ => ⟨?_, ?_⟩⟩
  · -- what stands there
    have nu : noUn (res ρ1 [x]) := by
      unfold noUn
      generalize res ρ1 [x] = l at w1
      unfold recvL at w1
      split at w1
      · rename_i d
        cases d <;> first | rfl | (cases m <;> cases w1)
      · cases w1
    obtain ⟨Ss, a⟩ := AL.of (xs := [x]) (vs := [v]) S1 h ⟨v, [], rfl, a1, rfl⟩ nu
    have rl := AL.repL S1 a
    generalize res ρ1 [x] = l at w1 rl
    unfold recvL at w1
    split at w1
    · obtain ⟨v', S', e1, _, r⟩ := RepL_one rl
      cases e1
      exact ⟨_, S', Z1, w1, r⟩
    · cases w1
  · refine ⟨ρ1, Z1, E1, W1, F1, h + 1, _, S1, w2, fun vs xs ρ2 H2 Z2 E2 W2 F2 S2 o2 a2 ls w3 => ?_⟩
    have hN := S.hN
    have ao : ArgsAt K N H2 Z2 E2 W2 F2 h (x :: xs) (v :: vs) := by
      refine ⟨v, vs, rfl, a1.stay S1 S2 o2 (Nat.lt_succ_self h) (fun i t => t.1) hN fun i kk p e t => ?_, a2⟩
      subst e
      unfold Shape at sh
      cases hb : bslot o with
      | none => rw [hb] at sh; obtain ⟨d, e⟩ := sh; cases e
      | some j =>
        rw [hb] at sh
        obtain ⟨p', e, hp⟩ := sh
        cases e
        rcases safe i hb with ⟨j, e⟩ | q
        · have := hp j e; cases this
        · rw [t.2] at q; cases q
    have sl : slots (x :: xs) = lentL (.cons o as) := by
      rw [lentL]
      unfold Shape at sh
      cases hb : bslot o with
      | none =>
        rw [hb] at sh
        obtain ⟨d, e⟩ := sh
        subst e
        exact ls
      | some j =>
        rw [hb] at sh
        obtain ⟨p, e, _⟩ := sh
        subst e
        show j :: slots xs = _
        rw [ls]; rfl
    have sN : ∀ i ∈ slots (x :: xs), i < N := by
      obtain ⟨Ss, a⟩ := AL.of (h := h + 1 + xs.length) (xs := x :: xs) S2 h ao w3.1
      exact AL.slotsN a
    have o12 : Out (Tc N (.meth m o as)) H Z E W F h H2 Z2 E2 W2 F2 := Out.trans (o1.mono fun i _ t => ⟨t.1, by rw [tch, t.2]; rfl⟩) (o2.mono fun i _ t => ⟨t.1, by rw [tch, t.2, Bool.true_or, Bool.or_true]⟩) (Nat.le_succ h)
    refine app_end im S (by rw [List.length_cons, show h + (xs.length + 1) = h + 1 + xs.length by omega]; exact S2) o12 ao (by rw [sl]; exact nd) (q := q) w3 fun v d ρ' H' Z' E' W' F' S' o' => ?_
    exact kk v d ρ' H' Z' E' W' F' S' (o'.mono fun i _ t => by
      rcases t with t | t
      · exact t
      · exact ⟨sN i t, by rw [tch, lent, ← sl, List.contains_iff_mem.mpr t, Bool.or_true, Bool.or_true]⟩)
theorem call_tA {x : Str} {sp : Spec} (im : Impl K rr sp) (nd : (lentL as).Nodup) {Q : VK} (w : tE K N (.call x sp as) σ H Q) : tA K N as σ H fun vs H1 => rr vs H1 Q := by
  obtain ⟨ρ, Z, E, W, F, h, q, S, w, kk⟩ := w
  refine ⟨ρ, Z, E, W, F, h, _, S, w, fun vs xs ρ1 H1 Z1 E1 W1 F1 S1 o1 a1 ls w1 => ?_⟩
  have sN : ∀ i ∈ slots xs, i < N := by
    obtain ⟨Ss, a⟩ := AL.of S1 h a1 w1.1
    exact AL.slotsN a
  refine app_end im S S1 (o1.mono (T2 := Tc N (.call x sp as)) fun i _ t => ⟨t.1, by rw [tch, t.2]; rfl⟩) a1 (by rw [ls]; exact nd) (q := q) w1 fun v d ρ' H' Z' E' W' F' S' o' => ?_
  exact kk v d ρ' H' Z' E' W' F' S' (o'.mono fun i _ t => by
    rcases t with t | t
    · exact t
    · exact ⟨sN i t, by rw [tch, lent, ← ls, List.contains_iff_mem.mpr t, Bool.or_true]⟩)
end
end DL
/-! tuples that are known to their object; methods of lists and tuples; least and greatest -/
namespace L2
open PySem PySem.Spec PyProof.Rows
section
variable {X : Cx} {pins : List (Addr × Obj)} {σ : St} {H : Hp} {s : Shared}
/-- a new tuple is laid, known to its object -/
theorem Inv.laidT {xs : List V} {its : List Value} {n : Nat} {Q : VK} (I : Inv X pins σ H s) (r : Vals xs its) (hz : xs.length ≤ sizeLine) (q : ∀ p (o : Obj), o.dict = none → H p = none → Q (.ref p) (upd H p (.frz o (.tup xs)))) :
    EP X pins σ Q (.ref s.heap.objs.size) { s with heap := s.heap.push { cls := .type "tuple", data := .seq its.toArray n } } := by
  refine ⟨.ref s.heap.objs.size, _, I.laid (t' := s.toks) (o := .frz { cls := .type "tuple", data := .seq its.toArray n } (.tup xs)) (fun b ob q => Heap.get?_push_of_some _ q) (Nat.le_refl _) ?_, rfl, q _ _ rfl (I.hok.fresh (Nat.le_refl _))⟩
  exact ⟨Heap.get?_push_size _ rfl, hz, its, r, ⟨_, Heap.get?_push_size _ rfl, rfl, n, rfl⟩⟩
def NewT (H : Hp) (xs : List V) (Q : VK) : Prop := ∀ p (o : Obj), o.dict = none → H p = none → Q (.ref p) (upd H p (.frz o (.tup xs)))
def tTupX (t : TA) : TE := fun σ H Q => t σ H fun xs H1 => xs.length ≤ sizeLine ∧ NewT H1 xs Q
theorem pe_tupX {es : List Expr} {t : TA} {pos : Pos} {x1} (h : PA X es t) : PE X (.Tuple es x1 pos) (tTupX t) := by
  refine ⟨fun pins s σ H Q I hq => ?_⟩
  exact wpAny_Tuple_spliced (thn (h.run pos pins s σ H _ I hq) fun us s1 ⟨xs, H1, I1, r, z, q⟩ => ⟨by rw [← r.length]; exact z, I1.laidT r z q⟩)
theorem call_tuple_ofX : CallR X (.type "tuple") (fun xs H Q => ∃ p ys, xs = [.ref p] ∧ ((SqL X.K H p ys ∧ NewT H ys Q) ∨ (SqT X.K H p ys ∧ Q (.ref p) H))) := by
  intro pins s σ H xs us Q I r h
  obtain ⟨p, ys, rfl, h⟩ := h
  obtain ⟨u, rfl, rx⟩ := vals1 r
  cases rx
  rcases h with ⟨hq, q⟩ | ⟨hq, q⟩
  · obtain ⟨its, r', pl, hz⟩ := I.list hq
    have hlen := r'.length
    refine call_tuple_list pl.isList (fun h' kp => ?_) (by simp only [List.size_toArray] <;> omega)
    have I1 : Inv X pins σ H { s with heap := h' } := I.kept (t' := s.toks) kp
    exact I1.laidT r' hz q
  · obtain ⟨its, r', pl, hz⟩ := I.tuple hq
    exact call_tuple_same pl ⟨.ref p, H, I, rfl, q⟩
theorem op_catX : OpR X (binaryOp .Add) (fun x y H Q => ∃ a b xs ys, x = .ref a ∧ y = .ref b ∧ SqT X.K H a xs ∧ SqT X.K H b ys ∧ xs.length + ys.length ≤ sizeLine ∧
    (xs = [] → Q (.ref b) H) ∧ (xs ≠ [] → ys = [] → Q (.ref a) H) ∧ (xs ≠ [] → ys ≠ [] → NewT H (xs ++ ys) Q)) := by
  intro pins s σ H x y v u Q I rx ry h
  obtain ⟨a, b, xs, ys, rfl, rfl, ha, hb, hz, q0, q1, q2⟩ := h
  cases rx
  cases ry
  obtain ⟨its, r1, p1, _⟩ := I.tuple ha
  obtain ⟨its2, r2, p2, _⟩ := I.tuple hb
  by_cases hx : xs = []
  · subst hx
    cases r1
    exact cat_tup0 p1 p2 ⟨.ref b, H, I, rfl, q0 rfl⟩
  · refine HT.cat_tup p1 p2 (fun z => hx (r1.nil_iff.mp z)) (fun z => ⟨.ref a, H, I, rfl, q1 hx (r2.nil_iff.mp z)⟩) (fun z => ?_) (by rw [← r1.length, ← r2.length]; exact hz)
    exact I.laidT (r1.append r2) (by rw [List.length_append]; exact hz) (q2 hx fun w => z (r2.nil_iff.mpr w))
theorem sl_tupX : SlR X (fun x lo hi H Q => ∃ a xs, x = .ref a ∧ SqT X.K H a xs ∧
    (HT.sIx xs.length 0 lo = 0 ∧ HT.sIx xs.length xs.length hi = xs.length → Q (.ref a) H) ∧ (¬ (HT.sIx xs.length 0 lo = 0 ∧ HT.sIx xs.length xs.length hi = xs.length) → NewT H (cutV xs lo hi) Q)) := by
  intro pins s σ H x v vl vu lo hi sl Q I rx hs pl pu h
  obtain ⟨a, xs, rfl, hx, q1, q2⟩ := h
  cases rx
  obtain ⟨its, r, ht, hz⟩ := I.tuple hx
  have hlen : its.toArray.size = xs.length := by rw [List.size_toArray]; exact r.length.symm
  refine ⟨"tuple", _, PyProof.Rows.slot_tuple_getitem.lookup, ht.typeIs, ?_⟩
  by_cases hw : HT.sIx xs.length 0 lo = 0 ∧ HT.sIx xs.length xs.length hi = xs.length
  · exact getItem_tuple_whole ht hs pl pu (by rw [hlen]; exact hw) ⟨.ref a, H, I, rfl, q1 hw⟩
  · refine HT.getItem_tuple_cut ht hs pl pu (by rw [hlen]; exact hw) ?_ (by rw [hlen]; exact hz)
    rw [hlen]
    exact I.laidT ((r.drop (HT.sIx xs.length 0 lo)).take (HT.sIx xs.length xs.length hi - HT.sIx xs.length 0 lo)) (Nat.le_trans (cutV_length xs lo hi) hz) (q2 hw)
def tTupRgX (tr : St → Hp → (Int → Int → Hp → Prop) → Prop) : TE := fun σ H Q => tr σ H fun a b H1 => RgOk a b ∧ NewT H1 (rgV a b) Q
theorem pe_tupRgX {e : Expr} {te : St → Hp → (Int → Int → Hp → Prop) → Prop} {p pos : Pos} (hc : X.calm = true) (hg : Gl X "tuple") (hm : X.mg "tuple" = none) (he : PRg X e te) (na : starEach [e] X.env = (false, eval e X.env) :: starEach [] X.env := by rfl) : PE X (.Call (.Name "tuple" p) [e] [] pos) (tTupRgX te) := by
  refine ⟨fun pins s σ H Q I h => ?_⟩
  refine Call_ (ld_blt I hg hm boot_tuple (PyProof.Rows.callWith_type1 (args_cons (thn (he pins s σ H _ I h) fun x s1 ⟨r, a, b, t, u, v, H1, ex, hr, I1, ok, q⟩ => args_nil ?_) na) na))
  subst ex
  obtain ⟨b1, b2, b3, b4, b5⟩ := ok
  refine call_tuple_range (n := (b - a).toNat) (I1.ok.hd hc) hr (small_one b1 b2 b3 b4) (rangeSize_nat a b) b5 fun h' tk acc hk hi => ?_
  have I2 : Inv X pins σ H1 { s1 with heap := h', toks := tk } := I1.kept hk
  have e : acc = acc.toList.toArray := by simp
  rw [e]
  exact I2.laidT (its := acc.toList) (vals_rg hi) (by rw [rgV_length, sizeLine_eq]; omega) q

/-! ### methods of built-in types, the type known when the receiver is -/
/-- a list, a tuple that is known to its object, a text, a dict -/
def tyX (K : PySem.W.Frag) (T : String) (x : V) (H : Hp) : Prop := tyV K T x H ∨ (T = "tuple" ∧ ∃ a vs, x = .ref a ∧ DL.TupX K H a vs)
theorem tyX_is {T : String} {x : V} {v : Value} (I : Inv X pins σ H s) (r : RelV x v) (ty : tyX X.K T x H) : s.TypeIs v T ∧ ∀ a, v = .ref a → ∃ ob, s.heap.get? a = some ob ∧ ob.dict = none := by
  rcases ty with ty | ⟨rfl, a, vs, rfl, h⟩
  · exact tyV_is I r ty
  · cases r
    rcases h with ⟨o, hd, h⟩ | ⟨o, its, n, h1, h2, h3, _⟩
    · obtain ⟨h1, _, _, _, ⟨o', h2, h3, _⟩⟩ := I.hok a _ h
      rw [h1] at h2
      cases h2
      refine ⟨⟨o, h1, h3⟩, fun b e => ?_⟩
      cases e
      exact ⟨o, h1, hd⟩
    · refine ⟨⟨o, I.kIn a o h1, h2⟩, fun b e => ?_⟩
      cases e
      exact ⟨o, I.kIn a o h1, h3⟩
def tBX (K : PySem.W.Frag) (T : String) (r : V → List V → Hp → VK → Prop) (to : TE) (t : TA) : TE := fun σ H Q => to σ H fun x H1 => tyX K T x H1 ∧ t σ H1 fun xs H2 => r x xs H2 Q
/-- of two types -/
def tBX2 (K : PySem.W.Frag) (T T' : String) (r r' : V → List V → Hp → VK → Prop) (to : TE) (t : TA) : TE := fun σ H Q => to σ H fun x H1 => (tyX K T x H1 ∧ t σ H1 fun xs H2 => r x xs H2 Q) ∨ (tyX K T' x H1 ∧ t σ H1 fun xs H2 => r' x xs H2 Q)
variable {o e : Expr} {es : List Expr} {to : TE} {t : TA} {name : Str} {apos cpos : Pos} {T id T' id' : String} {r r' : V → List V → Hp → VK → Prop}
theorem pe_bx2 (pa : PlainAttrs T) (slot : Slot T name id) (hty : typeOf (.builtin id) = pure (.type "method_descriptor")) (hm : MtM X id r) (pa' : PlainAttrs T') (slot' : Slot T' name id') (hty' : typeOf (.builtin id') = pure (.type "method_descriptor")) (hm' : MtM X id' r') (ho : PE X o to) (ha : PA X (e :: es) t)
    (hbase : attributeBase o name X.env (eval o X.env) = eval o X.env)
    (hfew : ((backTo cpos (starEach (e :: es) X.env)).all (fun x => !x.1) && (backToKw cpos (keywordEach [] X.env)).all (fun x => x.1.isSome)
      && decide ((e :: es).length + ([] : List Keyword).length + (if ([] : List Keyword).isEmpty then 0 else 1) < 30)) = true)
    (hline : (apos.endLine == cpos.line) = true) (hs : starEach (e :: es) X.env = (false, eval e X.env) :: starEach es X.env) (hplain : (backTo cpos (starEach es X.env)).any (·.1) = false) :
    PE X (.Call (.Attribute o name apos) (e :: es) [] cpos) (tBX2 X.K T T' r r' to t) := by
  refine ⟨fun pins s σ H Q I h => ?_⟩
  refine wpAny_Call_method_late hbase hfew hline rfl (thn (ho.run pins s σ H _ I h) fun v s1 ⟨x, H1, I1, r1, q1⟩ => ?_)
  have go : ∀ (T : String) (id : String) (r : V → List V → Hp → VK → Prop), PlainAttrs T → Slot T name id → typeOf (.builtin id) = pure (.type "method_descriptor") → MtM X id r → tyX X.K T x H1 → t σ H1 (fun xs H2 => r x xs H2 Q) →
      MethodOn X.prog X.w X.A name cpos v (backTo cpos (starEach (e :: es) X.env)) (EP X pins σ Q) X.xe s1 := fun T id r pa slot hty hm ty q1 => by
    obtain ⟨h1, h2⟩ := tyX_is I1 r1 ty
    refine ⟨T, id, pa, slot, hty, h1, h2, ?_⟩
    have hA := ha.run cpos pins s1 σ H1 _ I1 q1
    rw [hs] at hA ⊢
    refine Calls.callWith_builtin (by show (false || (backTo cpos (starEach es X.env)).any (·.1)) = false; rw [hplain] <;> rfl) (Calls.evalArgs_plain ?_)
    exact thn hA fun us s2 ⟨vs, H2, I2, r2, q2⟩ => hm pins s2 σ H2 x vs v us Q I2 r1 r2 q2
  rcases q1 with ⟨ty, q1⟩ | ⟨ty, q1⟩
  · exact go T id r pa slot hty hm ty q1
  · exact go T' id' r' pa' slot' hty' hm' ty q1
/-- t.index(k) -/
theorem mt_tindex : MtM X "tuple.index" (fun x vs H Q => ∃ (a : Addr) (ns : List Int) (k : Int), x = .ref a ∧ vs = [.int k] ∧ SqT X.K H a (ns.map V.int) ∧ k ∈ ns ∧ Q (.int (ns.idxOf k : Nat)) H) := by
  intro pins s σ H x xs v us Q I rx rs h
  obtain ⟨a, ns, k, rfl, rfl, ha, hk, q⟩ := h
  cases rx
  obtain ⟨u, rfl, ru⟩ := rs.one
  obtain ⟨t, rfl⟩ := ru
  obtain ⟨its, r, pl, hz⟩ := I.tuple ha
  exact SeqAt.tuple_index_ints (show s.heap.IsTuple a its.toArray from pl) (intsAre_of r) hk ⟨.int (ns.idxOf k : Nat), H, I.tok _, ⟨_, rfl⟩, q⟩
/-- t.count(k) -/
theorem mt_tcount : MtM X "tuple.count" (fun x vs H Q => ∃ (a : Addr) (ns : List Int) (k : Int), x = .ref a ∧ vs = [.int k] ∧ SqT X.K H a (ns.map V.int) ∧ Q (.int (ns.count k : Nat)) H) := by
  intro pins s σ H x xs v us Q I rx rs h
  obtain ⟨a, ns, k, rfl, rfl, ha, q⟩ := h
  cases rx
  obtain ⟨u, rfl, ru⟩ := rs.one
  obtain ⟨t, rfl⟩ := ru
  obtain ⟨its, r, ⟨⟨cls, dd, data, sl⟩, ho, hc, n, hd⟩, hz⟩ := I.tuple ha
  simp only at hc hd
  subst hc hd
  have hi := ints_of_vals r
  refine call_meets PySem.F.slot_tuple_count ⟨_, ho, rfl⟩ PySem.F.entry_tuple_count (PySem.F.args_tuple_count_2 _ _)
    (SeqAt.tuple_countAt a its.toArray n dd sl (.int k t) (eqk k)) ⟨ho, fun y hy => (eqk_gives hi y (by simpa using hy)).at _ _, ?_⟩
  have ec : its.toArray.toList.countP (eqk k) = ns.count k := eqk_count hi
  refine ⟨.int (ns.count k : Nat), H, I.tok _, ⟨s.toks, ?_⟩, q⟩
  show Value.int ((its.toArray.toList.countP (eqk k) : Nat) : Int) s.toks = Value.int ((ns.count k : Nat) : Int) s.toks
  rw [ec]
/-- xs.extend(t), t a tuple -/
theorem list_extend_tup (l : Addr) (items : Array Value) (n : Nat) (b : Addr) (items2 : Array Value) (n2 : Nat) (dd : Option Addr) (sl : Array (Option Value)) (hs0 : ¬(!items.isEmpty && Builtin.List.listTooLong (items.size + items2.size)) = true) (hs1 : items.size ≤ sizeLine) (hs2 : items.size + items2.size ≤ sizeLine + 1) :
    Meets (Builtin.«list.extend» ⟨[.ref l, .ref b], []⟩) (fun _ R s => s.heap.get? l = some { cls := .type "list", dict := none, data := .seq items n, slots := #[] } ∧ s.heap.get? b = some { cls := .type "tuple", dict := dd, data := .seq items2 n2, slots := sl } ∧ R (.ok (.ret Value.none)) { s with heap := s.heap.update l (Obj.mapSeq fun x => x ++ items2), toks := s.toks }) :=
  .of_wp fun prog w A R s h => by
    obtain ⟨hp, g, d, tk, os⟩ := s; obtain ⟨hl, hb, h⟩ := h; have f1 := AutoSeq1.idx_int; have f2 := AutoSeq1.sub_tuple_tuple; have f3 := AutoSeq1.sub_list_list; have f4 := AutoSeq1.sub_tuple_list; have f5 := AutoSeq1.sub_list_tuple
    have hz' : (items ++ items2).size ≤ sizeLine + 1 := by rw [Array.size_append]; exact hs2
    wp_walk using (wpAny_updateSeq hl rfl (hz := hs1) (_hz' := hz')), wpAny_loadPart' hl, wpAny_loadPart' hb; exact ⟨_, rfl, h⟩
theorem mt_extendT : MtM X "list.extend" (fun x vs H Q => ∃ l b xs zs, x = .ref l ∧ vs = [.ref b] ∧ H l = some (.lst xs) ∧ (H b = some (.lst zs) ∨ SqT X.K H b zs) ∧ xs.length + zs.length ≤ sizeLine ∧ Q .non (upd H l (.lst (xs ++ zs)))) := by
  intro pins s σ H x vs v us Q I rx rv h
  obtain ⟨l, b, xs, zs, rfl, rfl, hH, hB | hB, hz, q⟩ := h
  · exact mt_extend pins s σ H _ _ v us Q I rx rv ⟨l, b, xs, zs, rfl, rfl, hH, hB, hz, q⟩
  cases rx
  obtain ⟨u, rfl, ru⟩ := rv.one
  cases ru
  obtain ⟨z, its, n, r, hl, e⟩ := I.lstM hH
  obtain ⟨its2, r2, ⟨⟨cls, dd, data, sl⟩, ho, hc, n2, hd⟩, hz2⟩ := I.tuple hB
  simp only at hc hd
  subst hc hd
  have l1 : its.toArray.size = xs.length := by rw [List.size_toArray, ← r.length]
  have l2 : its2.toArray.size = zs.length := by rw [List.size_toArray, ← r2.length]
  have hsz : its.toArray.size + its2.toArray.size ≤ sizeLine := by rw [l1, l2]; exact hz
  have hlong : ¬ (!its.toArray.isEmpty && Builtin.List.listTooLong (its.toArray.size + its2.toArray.size)) = true := by
    rw [notLongL hsz, Bool.and_false]
    exact Bool.false_ne_true
  refine call_meets F.slot_list_extend ⟨_, e, rfl⟩ F.entry_list_extend (F.args_list_extend_2 _ _)
    (list_extend_tup l its.toArray n b its2.toArray n2 dd sl hlong (by omega) (by omega)) ⟨e, ho, ?_⟩
  refine ⟨.non, _, I.lset (its' := its ++ its2) hH e (by simp) (r.append r2) ?_, rfl, q⟩
  rw [List.length_append]
  omega
end
end L2
/-! the least, the greatest of a tuple of whole numbers; of two tuples -/
namespace L2
open PySem PySem.Spec PyProof.Rows
section
variable {prog : Program} {w : World} {A : Around} {E : Value → Shared → Prop} {s : Shared} {l : Addr} {xs : Array (Int × Tok)}
theorem min_intTup {Q : Value → Shared → Prop} (hh : A.handled = none) (hl : s.heap.IsTuple l (intItems xs)) (hne : 0 < xs.size)
    (h : ∀ v h' tk, (intItems xs)[argBest (fun i j => decide (numAt xs i < numAt xs j)) (xs.size - 1)]? = some v → (∀ b o, s.heap.get? b = some o → h'.get? b = some o) → Q v { s with heap := h', toks := tk }) :
    wpAny (model prog w) A (call (.builtin "min") [.ref l]) Q E s := by
  refine call_min_walk (wpAny_pyIter_tuple hl ?_)
  have hlt : l < s.heap.objs.size := by obtain ⟨o, ho, _⟩ := hl; exact Heap.lt_size ho
  refine ⟨_, [_, l], [_], _, _, _, _, rfl, Walks.tuple (A := A.in1) hh _ l (Nat.ne_of_lt hlt) (intItems xs), ⟨⟨_, Heap.get?_push_size _ rfl, rfl, rfl⟩, hl.push _⟩, fun c hc => ?_, by simpa [intItems] using hne, CmpOf.ints_lt (numAt xs) (fun _ _ => intItems_at), fun v h' tk hP hk => ?_⟩
  · show c < (s.heap.push _).objs.size
    rw [Heap.size_push]
    rcases List.mem_cons.mp hc with rfl | hc
    · exact Nat.lt_succ_self _
    · rcases List.mem_cons.mp hc with rfl | hc
      · exact Nat.lt_succ_of_lt hlt
      · cases hc
  · refine h v h' tk (by simpa [intItems] using hP) fun b o e => hk b o (fun hm => ?_) (Heap.get?_push_of_some _ e)
    rcases List.mem_cons.mp hm with e1 | hm
    · have := Heap.lt_size e; rw [e1] at this; exact Nat.lt_irrefl _ this
    · cases hm
theorem max_intTup {Q : Value → Shared → Prop} (hh : A.handled = none) (hl : s.heap.IsTuple l (intItems xs)) (hne : 0 < xs.size)
    (h : ∀ v h' tk, (intItems xs)[argBest (fun i j => decide (numAt xs i > numAt xs j)) (xs.size - 1)]? = some v → (∀ b o, s.heap.get? b = some o → h'.get? b = some o) → Q v { s with heap := h', toks := tk }) :
    wpAny (model prog w) A (call (.builtin "max") [.ref l]) Q E s := by
  refine call_max_walk (wpAny_pyIter_tuple hl ?_)
  have hlt : l < s.heap.objs.size := by obtain ⟨o, ho, _⟩ := hl; exact Heap.lt_size ho
  refine ⟨_, [_, l], [_], _, _, _, _, rfl, Walks.tuple (A := A.in1) hh _ l (Nat.ne_of_lt hlt) (intItems xs), ⟨⟨_, Heap.get?_push_size _ rfl, rfl, rfl⟩, hl.push _⟩, fun c hc => ?_, by simpa [intItems] using hne, CmpOf.ints_gt (numAt xs) (fun _ _ => intItems_at), fun v h' tk hP hk => ?_⟩
  · show c < (s.heap.push _).objs.size
    rw [Heap.size_push]
    rcases List.mem_cons.mp hc with rfl | hc
    · exact Nat.lt_succ_self _
    · rcases List.mem_cons.mp hc with rfl | hc
      · exact Nat.lt_succ_of_lt hlt
      · cases hc
  · refine h v h' tk (by simpa [intItems] using hP) fun b o e => hk b o (fun hm => ?_) (Heap.get?_push_of_some _ e)
    rcases List.mem_cons.mp hm with e1 | hm
    · have := Heap.lt_size e; rw [e1] at this; exact Nat.lt_irrefl _ this
    · cases hm
variable {its : List Value} {ns : List Int}
theorem min_rawT {Q : Value → Shared → Prop} (hh : A.handled = none) (hl : s.heap.IsTuple l its.toArray) (hi : IntsAre its ns) (hne : 0 < ns.length)
    (h : ∀ h' tk M t', (∀ b o, s.heap.get? b = some o → h'.get? b = some o) → M ∈ ns → (∀ a, a ∈ ns → M ≤ a) → Q (.int M t') { s with heap := h', toks := tk }) : wpAny (model prog w) A (call (.builtin "min") [.ref l]) Q E s := by
  obtain ⟨xs, e⟩ := hi.allInts.items
  have hn : numsOf (intItems xs).toList = ns := by rw [← e]; exact hi.numsOf
  rw [nums_intItems] at hn
  subst hn
  rw [e] at hl
  have hsz : 0 < xs.size := by simpa using hne
  refine min_intTup hh hl hsz fun v h' tk hv hk => ?_
  obtain ⟨t, rfl⟩ := intItems_at hv
  obtain ⟨h1, h2⟩ := argBest_lt (numAt xs) (xs.size - 1)
  refine h h' tk _ t hk ?_ fun a ha => ?_
  · rw [numAt_eq]; exact PySem.getD_mem (by rw [List.length_map, Array.length_toList]; omega)
  · obtain ⟨j, hj, rfl⟩ := mem_getD ha
    rw [List.length_map, Array.length_toList] at hj
    rw [← numAt_eq]; exact h2 j (by omega)
theorem max_rawT {Q : Value → Shared → Prop} (hh : A.handled = none) (hl : s.heap.IsTuple l its.toArray) (hi : IntsAre its ns) (hne : 0 < ns.length)
    (h : ∀ h' tk M t', (∀ b o, s.heap.get? b = some o → h'.get? b = some o) → M ∈ ns → (∀ a, a ∈ ns → a ≤ M) → Q (.int M t') { s with heap := h', toks := tk }) : wpAny (model prog w) A (call (.builtin "max") [.ref l]) Q E s := by
  obtain ⟨xs, e⟩ := hi.allInts.items
  have hn : numsOf (intItems xs).toList = ns := by rw [← e]; exact hi.numsOf
  rw [nums_intItems] at hn
  subst hn
  rw [e] at hl
  have hsz : 0 < xs.size := by simpa using hne
  refine max_intTup hh hl hsz fun v h' tk hv hk => ?_
  obtain ⟨t, rfl⟩ := intItems_at hv
  obtain ⟨h1, h2⟩ := argBest_gt (numAt xs) (xs.size - 1)
  refine h h' tk _ t hk ?_ fun a ha => ?_
  · rw [numAt_eq]; exact PySem.getD_mem (by rw [List.length_map, Array.length_toList]; omega)
  · obtain ⟨j, hj, rfl⟩ := mem_getD ha
    rw [List.length_map, Array.length_toList] at hj
    rw [← numAt_eq]; exact h2 j (by omega)
/-- min(a, b), whatever these are, compared where the heap stands -/
theorem call_min_twoH {a b : Value} {Q : Value → Shared → Prop} {bt : Nat → Nat → Bool} (hh : A.handled = none)
    (hc : CmpIn prog w A.in1 .Lt s.heap (fun i v => #[a, b][i]? = some v) bt)
    (h : ∀ h' tk, (∀ c o, s.heap.get? c = some o → h'.get? c = some o) → Q (if bt 1 0 = true then b else a) { s with heap := h', toks := tk }) :
    wpAny (model prog w) A (call (.builtin "min") [a, b]) Q E s := by
  have hname : (toString "min" ++ toString ".loop" : String) = "min.loop" := by decide
  refine call_function_tree F.kind_min F.plain_min F.entry_min (F.args_min2 _ _) ?_
  show wpAny _ A.in1 (Builtin.Builtins.bindParams "min" ["key", "default"] 0 ⟨[], []⟩ >>= _) _ _ s
  refine wpAny_bind (wpAny_of_eq (show Builtin.Builtins.bindParams "min" ["key", "default"] 0 ⟨[], []⟩ = pure [none, none] from rfl) ?_)
  show wpAny _ A.in1 (newTuple [a, b] >>= _) _ _ s
  refine wpAny_bind (wpAny_newObj_type ?_)
  have hT : (s.heap.push { cls := .type "tuple", data := .seq #[a, b] }).IsTuple s.heap.objs.size #[a, b] := ⟨_, Heap.get?_push_size _ rfl, rfl, 0, rfl⟩
  have k0 : ∀ c o, s.heap.get? c = some o → (s.heap.push { cls := .type "tuple", data := .seq #[a, b] }).get? c = some o := fun c o e => Heap.get?_push_of_some _ e
  have lt0 : ∀ c o, s.heap.get? c = some o → c < (s.heap.push { cls := .type "tuple", data := .seq #[a, b] }).objs.size := fun c o e => Heap.lt_size (k0 c o e)
  generalize s.heap.push { cls := .type "tuple", data := .seq #[a, b] } = h0 at hT k0 lt0 ⊢
  refine wpAny_bind (PySem.W.iter_tupleW (A := A.in1) (s := { s with heap := h0 }) hh hT fun s₂ e W hst hfp hw hk => ?_)
  refine wpAny_bind (wpAny_newObj_type ?_)
  have hSf : s₂.heap.objs.size ∉ [h0.objs.size, s.heap.objs.size] := fun hm => Nat.lt_irrefl _ (hfp _ hm)
  have hkeep : ∀ b o, s.heap.get? b = some o → s₂.heap.get? b = some o := fun b o e => hk b o (k0 b o e)
  rw [hname]
  refine wpAny_pure ⟨plainId_quiet F.plain_min_loop _, codeAny_min_loop_firstH W s.heap (fun b o e hm => ?_) bt hc s₂.heap.objs.size hSf (fresh_in hkeep) _ (by show 0 < 2; decide) (fun b o e => Heap.get?_push_of_some _ (hkeep b o e)) (W.frame 0 s₂ _ s₂.toks hst (Nat.le_refl _) fun b _ o e => Heap.get?_push_of_some _ e) (Heap.get?_push_size _ rfl) fun v s' hP hm => ?_⟩
  · have := lt0 b o e
    rw [List.mem_singleton.mp hm] at this
    exact Nat.lt_irrefl _ this
  · have hm2 := Moved.drop_new (tk := s₂.toks) hm (Nat.le_refl _)
    obtain ⟨h', tk, rfl, hk'⟩ := PySem.W.moved_old (s := { s with heap := h0 }) e rfl hm2
    have hv : v = if bt 1 0 = true then b else a := by
      have hP' : #[a, b][argBest bt 1]? = some v := hP
      cases c : bt 1 0 with
      | true =>
        have e : argBest bt 1 = 1 := by simp [argBest, c]
        rw [e] at hP'
        simpa using hP'.symm
      | false =>
        have e : argBest bt 1 = 0 := by simp [argBest, c]
        rw [e] at hP'
        simpa using hP'.symm
    rw [hv]
    exact h h' tk fun b o e => hk' b o (k0 b o e)
end
section
variable {X : Cx}
theorem cr_minT (hc : X.calm = true) : CallR X (.builtin "min") (fun vs H Q => ∃ (a : Addr) (ns : List Int), vs = [V.ref a] ∧ SqT X.K H a (ns.map V.int) ∧ 0 < ns.length ∧ ∀ m, m ∈ ns → (∀ y ∈ ns, m ≤ y) → Q (.int m) H) := by
  intro pins s σ H vs us Q I r h
  obtain ⟨a, ns, rfl, hs, hne, q⟩ := h
  obtain ⟨its, rv, hl, _⟩ := I.tuple hs
  rw [Vals.ref1 r]
  exact min_rawT (I.ok.hd hc) (show s.heap.IsTuple a its.toArray from hl) (intsAre_of rv) hne fun h' tk m t' hk h1 h2 => ⟨.int _, H, I.kept hk, ⟨_, rfl⟩, q m h1 h2⟩
theorem cr_maxT (hc : X.calm = true) : CallR X (.builtin "max") (fun vs H Q => ∃ (a : Addr) (ns : List Int), vs = [V.ref a] ∧ SqT X.K H a (ns.map V.int) ∧ 0 < ns.length ∧ ∀ m, m ∈ ns → (∀ y ∈ ns, y ≤ m) → Q (.int m) H) := by
  intro pins s σ H vs us Q I r h
  obtain ⟨a, ns, rfl, hs, hne, q⟩ := h
  obtain ⟨its, rv, hl, _⟩ := I.tuple hs
  rw [Vals.ref1 r]
  exact max_rawT (I.ok.hd hc) (show s.heap.IsTuple a its.toArray from hl) (intsAre_of rv) hne fun h' tk m t' hk h1 h2 => ⟨.int _, H, I.kept hk, ⟨_, rfl⟩, q m h1 h2⟩
/-- min of two tuples of whole numbers -/
theorem cr_min2T (hc : X.calm = true) (hu : X.A.units + 1 < cLine) : CallR X (.builtin "min") (fun vs H Q => ∃ (a b : Addr) (ns ms : List Int), vs = [V.ref a, V.ref b] ∧ SqT X.K H a (ns.map V.int) ∧ SqT X.K H b (ms.map V.int) ∧ Q (.ref (if HT.lexLt ms ns = true then b else a)) H) := by
  intro pins s σ H vs us Q I r h
  obtain ⟨a, b, ns, ms, rfl, ha, hb, q⟩ := h
  obtain ⟨u, w, rfl, ru, rw'⟩ := vals2 r
  cases ru
  cases rw'
  obtain ⟨its, r1, p1, _⟩ := I.tuple ha
  obtain ⟨its2, r2, p2, _⟩ := I.tuple hb
  refine call_min_twoH (bt := fun i j => HT.lexLt (if i = 0 then ns else ms) (if j = 0 then ns else ms)) (I.ok.hd hc) (fun i j vi vj t Q E hk hi hj hq => ?_) fun h' tk k => ?_
  · have g : ∀ (i : Nat) (v : Value), #[Value.ref a, .ref b][i]? = some v → ∃ c cs, v = .ref c ∧ IsTup t.heap c cs.toArray ∧ IntsAre cs (if i = 0 then ns else ms) := fun i v e => by
      match i, e with
      | 0, e => cases e; exact ⟨a, its, rfl, p1.keeps hk, intsAre_of r1⟩
      | 1, e => cases e; exact ⟨b, its2, rfl, p2.keeps hk, intsAre_of r2⟩
      | i + 2, e => simp at e
    obtain ⟨c, cs, rfl, c1, c2⟩ := g i vi hi
    obtain ⟨d, ds, rfl, d1, d2⟩ := g j vj hj
    exact HT.lt_tupInts c1 d1 c2 d2 hu hq
  · have e : (if HT.lexLt ms ns = true then Value.ref b else Value.ref a) = Value.ref (if HT.lexLt ms ns = true then b else a) := by split <;> rfl
    show EP X pins σ Q (if HT.lexLt ms ns = true then Value.ref b else Value.ref a) _
    rw [e]
    exact ⟨.ref _, H, I.kept k, rfl, q⟩
end
end L2
namespace DL
open PySem PySem.Spec PyProof.Rows L2
/-- a rule that looks, by values -/
def rD (K : PySem.W.Frag) (sem : List D → (D → Prop) → Prop) : List V → Hp → VK → Prop := fun vs H Q =>
  ∃ ds Ss Z post, RepL K Z H ds vs Ss ∧ sem ds post ∧ ∀ rd v H' S', (∀ b o, H b = some o → H' b = some o) → Rep K Z H' rd v S' → S'.Nodup → (∀ b ∈ S', H b = none) → post rd → Q v H'
theorem rD_impl (K : PySem.W.Frag) (sem : List D → (D → Prop) → Prop) : PImpl K (rD K sem) sem := fun ds vs Ss H Z post Q r s k => ⟨ds, Ss, Z, post, r, s, k⟩
/-- a rule that changes, by values -/
def rM (K : PySem.W.Frag) (sem : List D → (D → List D → Prop) → Prop) : List V → Hp → VK → Prop := fun vs H Q =>
  ∃ ds Ss Z post, RepL K Z H ds vs Ss ∧ Ss.flatten.Nodup ∧ (∀ b ∈ Ss.flatten, ¬ Z b) ∧ (∀ b, Z b → ∃ o, H b = some o) ∧ sem ds post ∧ ∀ rd ds' v H' Z' S' Ss', OutC K Z H vs Ss rd ds' v H' Z' S' Ss' → post rd ds' → Q v H'
theorem rM_impl (K : PySem.W.Frag) (sem : List D → (D → List D → Prop) → Prop) : Impl K (rM K sem) sem := fun ds vs Ss H Z post Q r n z a s k => ⟨ds, Ss, Z, post, r, n, z, a, s, k⟩

section
variable {K : PySem.W.Frag} {Z : Addr → Prop} {H : Hp}
theorem RepL.one {d : D} {vs : List V} {Ss : List (List Addr)} (h : RepL K Z H [d] vs Ss) : ∃ v S, vs = [v] ∧ Ss = [S] ∧ Rep K Z H d v S := by
  obtain ⟨v, ws, S, Us, e1, e2, r, e3, e4⟩ := h
  subst e3; subst e4
  exact ⟨v, S, e1, e2, r⟩
theorem RepL.two {d e : D} {vs : List V} {Ss : List (List Addr)} (h : RepL K Z H [d, e] vs Ss) : ∃ v u S T, vs = [v, u] ∧ Ss = [S, T] ∧ Rep K Z H d v S ∧ Rep K Z H e u T := by
  obtain ⟨v, ws, S, Us, e1, e2, r, t⟩ := h
  obtain ⟨u, T, e3, e4, r2⟩ := RepL.one t
  subst e3; subst e4
  exact ⟨v, u, S, T, e1, e2, r, r2⟩
theorem RepL.three {d e f : D} {vs : List V} {Ss : List (List Addr)} (h : RepL K Z H [d, e, f] vs Ss) : ∃ v u w S T U, vs = [v, u, w] ∧ Ss = [S, T, U] ∧ Rep K Z H d v S ∧ Rep K Z H e u T ∧ Rep K Z H f w U := by
  obtain ⟨v, ws, S, Us, e1, e2, r, t⟩ := h
  obtain ⟨u, w, T, U, e3, e4, r2, r3⟩ := RepL.two t
  subst e3; subst e4
  exact ⟨v, u, w, S, T, U, e1, e2, r, r2, r3⟩
theorem RepL.length {ds : List D} : ∀ {vs : List V} {Ss : List (List Addr)}, RepL K Z H ds vs Ss → vs.length = ds.length := by
  induction ds with
  | nil => intro vs Ss h; rw [h.1]; rfl
  | cons d ds ih =>
    intro vs Ss h
    obtain ⟨v, ws, S, Us, e1, e2, r, t⟩ := h
    rw [e1, List.length_cons, List.length_cons, ih t]
theorem rep_int {i : Int} {v : V} {S : List Addr} (h : Rep K Z H (.int i) v S) : v = .int i := by rw [Rep] at h; exact h.1
theorem rep_str {i : Str} {v : V} {S : List Addr} (h : Rep K Z H (.str i) v S) : v = .str i := by rw [Rep] at h; exact h.1
theorem rep_bl {i : Bool} {v : V} {S : List Addr} (h : Rep K Z H (.bl i) v S) : v = .bl i := by rw [Rep] at h; exact h.1
theorem rep_non {v : V} {S : List Addr} (h : Rep K Z H .non v S) : v = .non := by rw [Rep] at h; exact h.1
theorem int_rep {i : Int} : Rep K Z H (.int i) (.int i) [] := by rw [Rep]; exact ⟨rfl, rfl⟩
theorem bl_rep {i : Bool} : Rep K Z H (.bl i) (.bl i) [] := by rw [Rep]; exact ⟨rfl, rfl⟩
theorem str_rep {i : Str} : Rep K Z H (.str i) (.str i) [] := by rw [Rep]; exact ⟨rfl, rfl⟩
theorem non_rep : Rep K Z H .non .non [] := by rw [Rep]; exact ⟨rfl, rfl⟩
theorem rep_tup {ds : List D} {v : V} {S : List Addr} (h : Rep K Z H (.tup ds) v S) : ∃ a vs, v = .ref a ∧ SqT K H a vs ∧ Reps K Z H ds vs S := by
  rw [Rep] at h
  obtain ⟨a, vs, e, hs, r⟩ := h
  exact ⟨a, vs, e, hs.sq, r⟩
theorem rep_tup0 {ds : List D} {v : V} {S : List Addr} (h : Rep K Z H (.tup ds) v S) : ∃ a vs, v = .ref a ∧ TupX K H a vs ∧ Reps K Z H ds vs S := by rw [Rep] at h; exact h
theorem rep_ptp {ds : List D} {v : V} {S : List Addr} (h : Rep K Z H (.ptp ds) v S) : ∃ a vs, v = .ref a ∧ H a = some (.tup vs) ∧ Reps K Z H ds vs S := by rw [Rep] at h; exact h
theorem rep_dct {o t : Bool} {ks : List (List Key)} {ds : List D} {v : V} {S : List Addr} (h : Rep K Z H (.dct o t ks ds) v S) : ∃ a vs T, v = .ref a ∧ H a = some (dHO t ks vs) ∧ (KsOk t ks ∧ ks.length = vs.length) ∧ Reps K Z H ds vs T := by
  cases o with
  | true => rw [Rep] at h; obtain ⟨a, vs, T, e, ha, ok, _, r⟩ := h; exact ⟨a, vs, T, e, ha, ok, r⟩
  | false => rw [Rep] at h; obtain ⟨a, vs, e, ha, _, ok, _, r⟩ := h; exact ⟨a, vs, [], e, ha, ok, r⟩
theorem rep_ins {o : Bool} {c : Str} {fs : List Str} {ds : List D} {v : V} {S : List Addr} (h : Rep K Z H (.ins o c fs ds) v S) : ∃ a dx C vs T, v = .ref a ∧ clsA K c C ∧ H a = some (.ins C dx (fs.zip vs)) ∧ H dx = some (.own a) ∧ (fs.Nodup ∧ fs.length = vs.length) ∧ Reps K Z H ds vs T := by
  cases o with
  | true => rw [Rep] at h; obtain ⟨a, dx, C, vs, T, e, hc, ha, hd, ok, _, r⟩ := h; exact ⟨a, dx, C, vs, T, e, hc, ha, hd, ok, r⟩
  | false => rw [Rep] at h; obtain ⟨a, dx, C, vs, e, hc, ha, hd, _, _, ok, _, r⟩ := h; exact ⟨a, dx, C, vs, [], e, hc, ha, hd, ok, r⟩
/-- a list of either kind: tracked, its items pure -/
theorem rep_lst {o : Bool} {ds : List D} {v : V} {S : List Addr} (h : Rep K Z H (.lst o ds) v S) : ∃ a vs T, v = .ref a ∧ H a = some (.lst vs) ∧ Reps K Z H ds vs T := by
  cases o with
  | true =>
    rw [Rep] at h
    obtain ⟨a, vs, T, e, ha, _, r⟩ := h
    exact ⟨a, vs, T, e, ha, r⟩
  | false =>
    rw [Rep] at h
    obtain ⟨a, vs, e, ha, _, _, r⟩ := h
    exact ⟨a, vs, [], e, ha, r⟩
theorem rep_scr {ds : List D} {v : V} {S : List Addr} (h : Rep K Z H (.scr ds) v S) : ∃ a vs, v = .ref a ∧ SqL K H a vs ∧ Reps K Z H ds vs [] := by
  rw [Rep] at h
  obtain ⟨a, vs, e, ha, _, r⟩ := h
  exact ⟨a, vs, e, ha.sq, r⟩
theorem Reps.ints : ∀ {ns : List Int} {vs : List V} {S : List Addr}, Reps K Z H (ns.map D.int) vs S → vs = ns.map V.int
  | [], _, _, h => by rw [List.map_nil, Reps] at h; exact h.1
  | n :: ns, _, _, h => by
    rw [List.map_cons, Reps] at h
    obtain ⟨v, ws, T, U, e1, e2, r, t⟩ := h
    rw [e1, rep_int r, Reps.ints t]; rfl
theorem Reps.bls : ∀ {ns : List Bool} {vs : List V} {S : List Addr}, Reps K Z H (ns.map D.bl) vs S → vs = ns.map V.bl
  | [], _, _, h => by rw [List.map_nil, Reps] at h; exact h.1
  | n :: ns, _, _, h => by
    rw [List.map_cons, Reps] at h
    obtain ⟨v, ws, T, U, e1, e2, r, t⟩ := h
    rw [e1, rep_bl r, Reps.bls t]; rfl
theorem ints_reps : ∀ {ns : List Int}, Reps K Z H (ns.map D.int) (ns.map V.int) []
  | [] => by rw [List.map_nil, Reps]; exact ⟨rfl, rfl⟩
  | n :: ns => Reps.cons int_rep ints_reps
/-- what is pure stays, whatever comes -/
theorem Reps.keep {H' : Hp} {ds : List D} {vs : List V} {S : List Addr} (s : ∀ b o, H b = some o → H' b = some o) (h : Reps K Z H ds vs S) : Reps K Z H' ds vs S :=
  Reps.stab (kp := fun _ => True) ⟨fun b xs e => s b _ e, fun b o u e => s b _ e, fun _ z => z, fun b o _ e => s b o e, fun b o _ e => s b o e⟩ ds vs S h fun _ _ => trivial
theorem Rep.keep {H' : Hp} {d : D} {v : V} {S : List Addr} (s : ∀ b o, H b = some o → H' b = some o) (h : Rep K Z H d v S) : Rep K Z H' d v S :=
  Rep.stab (kp := fun _ => True) ⟨fun b xs e => s b _ e, fun b o u e => s b _ e, fun _ z => z, fun b o _ e => s b o e, fun b o _ e => s b o e⟩ d v S h fun _ _ => trivial
theorem laid_same {p : Addr} {o : HO} (h : H p = none) : ∀ b u, H b = some u → upd H p o b = some u := fun b u e => by
  rw [upd_ne (ne_of_none e h)]; exact e
theorem Reps.pure0 {ds : List D} {vs : List V} {S : List Addr} (h : Reps K Z H ds vs S) (p : pus ds = true) : Reps K Z H ds vs [] := by
  have e := Reps.pure ds vs S h p
  subst e; exact h
theorem Rep.pure0 {d : D} {v : V} {S : List Addr} (h : Rep K Z H d v S) (p : pu d = true) : Rep K Z H d v [] := by
  have e := Rep.pure d v S h p
  subst e; exact h
/-- a new tuple, a new list of pure things -/
theorem new_tup {p : Addr} {o : Obj} {ds : List D} {vs : List V} (ho : o.dict = none) (hp : H p = none) (r : Reps K Z H ds vs []) : Rep K Z (upd H p (.frz o (.tup vs))) (.tup ds) (.ref p) [] := by
  rw [Rep]
  exact ⟨p, vs, rfl, .inl ⟨o, ho, upd_same⟩, r.keep (laid_same hp)⟩
theorem new_ptp {p : Addr} {ds : List D} {vs : List V} (hp : H p = none) (r : Reps K Z H ds vs []) : Rep K Z (upd H p (.tup vs)) (.ptp ds) (.ref p) [] := by
  rw [Rep]
  exact ⟨p, vs, rfl, upd_same, r.keep (laid_same hp)⟩
theorem new_lst {p : Addr} {ds : List D} {vs : List V} (hp : H p = none) (r : Reps K Z H ds vs []) : Rep K Z (upd H p (.lst vs)) (.lst true ds) (.ref p) [p] := by
  rw [Rep]
  exact ⟨p, vs, [], rfl, upd_same, rfl, r.keep (laid_same hp)⟩
theorem Reps.drop : ∀ {ds : List D} {vs : List V} (n : Nat), Reps K Z H ds vs [] → Reps K Z H (ds.drop n) (vs.drop n) []
  | _, _, 0, h => h
  | [], vs, n + 1, h => by rw [Reps] at h; rw [h.1]; simp [Reps]
  | d :: ds, vs, n + 1, h => by
    rw [Reps] at h
    obtain ⟨v, ws, T, U, e1, e2, r, t⟩ := h
    have e3 : T = [] ∧ U = [] := by simpa using e2.symm
    rw [e3.2] at t
    rw [e1]
    exact Reps.drop n t
theorem Reps.take : ∀ {ds : List D} {vs : List V} (n : Nat), Reps K Z H ds vs [] → Reps K Z H (ds.take n) (vs.take n) []
  | ds, vs, 0, h => by simp [Reps]
  | [], vs, n + 1, h => by rw [Reps] at h; rw [h.1]; simp [Reps]
  | d :: ds, vs, n + 1, h => by
    rw [Reps] at h
    obtain ⟨v, ws, T, U, e1, e2, r, t⟩ := h
    have e3 : T = [] ∧ U = [] := by simpa using e2.symm
    rw [e3.1] at r; rw [e3.2] at t
    rw [e1]
    exact Reps.cons r (Reps.take n t)
theorem Reps.cut {ds : List D} {vs : List V} (lo hi : Option Int) (h : Reps K Z H ds vs []) : Reps K Z H (cutD ds lo hi) (cutV vs lo hi) [] := by
  unfold cutD cutV
  rw [h.length]
  exact Reps.take _ (Reps.drop _ h)
theorem Reps.rep {ds : List D} {vs : List V} (h : Reps K Z H ds vs []) : ∀ k : Nat, Reps K Z H (List.replicate k ds).flatten (List.replicate k vs).flatten []
  | 0 => by simp [Reps]
  | k + 1 => by
    rw [List.replicate_succ, List.replicate_succ, List.flatten_cons, List.flatten_cons]
    exact h.append (Reps.rep h k)
theorem atI_reps {ds : List D} {vs : List V} {S : List Addr} (h : Reps K Z H ds vs S) {i : Int} {d : D} (e : atI ds i = some d) : ∃ v T, atI vs i = some v ∧ Rep K Z H d v T := by
  unfold atI at e ⊢
  rw [h.length]
  cases q : ixN ds.length i with
  | none => rw [q] at e; cases e
  | some j =>
    rw [q] at e
    obtain ⟨v, A, B, C, g1, g2, g3, _⟩ := Reps.split j d h e
    exact ⟨v, B, g1, g3⟩
theorem isNone_rep {d : D} {v : V} {S : List Addr} (h : Rep K Z H d v S) (hr : ∀ w, d ≠ .raw w) : decide (v = .non) = isNone d := by
  cases d with
  | un => rw [Rep] at h; exact h.elim
  | non => rw [rep_non h]; rfl
  | bl b => rw [rep_bl h]; rfl
  | int b => rw [rep_int h]; rfl
  | str b => rw [rep_str h]; rfl
  | tup ds => obtain ⟨a, vs, e, _⟩ := rep_tup h; rw [e]; rfl
  | ptp ds => obtain ⟨a, vs, e, _⟩ := rep_ptp h; rw [e]; rfl
  | lst o ds => obtain ⟨a, vs, _, e, _⟩ := rep_lst h; rw [e]; rfl
  | scr ds => obtain ⟨a, vs, e, _⟩ := rep_scr h; rw [e]; rfl
  | dct o t ks ds => obtain ⟨a, vs, _, e, _⟩ := rep_dct h; rw [e]; rfl
  | ins o c fs ds => obtain ⟨a, _, _, vs, _, e, _⟩ := rep_ins h; rw [e]; rfl
  | raw w => exact absurd rfl (hr w)
mutual
theorem Rep.dp : ∀ (d : D) (v : V) (S : List Addr), Rep K Z H d v S → isP d = true → Dp K H v (toP d)
  | .un, _, _, h, _ => by rw [Rep] at h; exact h.elim
  | .non, v, _, h, _ => by rw [rep_non h, toP]; exact .non
  | .bl b, v, _, h, _ => by rw [rep_bl h, toP]; exact .bl b
  | .int b, v, _, h, _ => by rw [rep_int h, toP]; exact .int b
  | .str b, v, _, h, _ => by rw [rep_str h, toP]; exact .str b
  | .tup ds, v, S, h, p => by
    rw [isP] at p
    obtain ⟨a, vs, e, hs, r⟩ := rep_tup h
    rw [e, toP]
    exact .tup hs (Reps.dp ds vs S r p)
  | .ptp ds, v, S, h, p => by
    rw [isP] at p
    obtain ⟨a, vs, e, hs, r⟩ := rep_ptp h
    rw [e, toP]
    exact .tup (.inl (.inl hs)) (Reps.dp ds vs S r p)
  | .lst o ds, v, S, h, p => by
    rw [isP] at p
    obtain ⟨a, vs, T, e, hs, r⟩ := rep_lst h
    rw [e, toP]
    exact .lst (.inl (.inl hs)) (Reps.dp ds vs T r p)
  | .scr ds, v, S, h, p => by
    rw [isP] at p
    obtain ⟨a, vs, e, hs, r⟩ := rep_scr h
    rw [e, toP]
    exact .lst hs (Reps.dp ds vs [] r p)
  | .raw _, _, _, _, p => by rw [isP] at p; cases p
  | .dct _ _ _ _, _, _, _, p => by rw [isP] at p; cases p
  | .ins _ _ _ _, _, _, _, p => by rw [isP] at p; cases p
theorem Reps.dp : ∀ (ds : List D) (vs : List V) (S : List Addr), Reps K Z H ds vs S → isPs ds = true → DpAll K H vs (toPs ds)
  | [], _, _, h, _ => by rw [Reps] at h; rw [h.1, toPs]; exact .nil
  | d :: ds, _, _, h, p => by
    rw [Reps] at h; rw [isPs, Bool.and_eq_true] at p
    obtain ⟨v, ws, T, U, e1, e2, r, t⟩ := h
    rw [e1, toPs]
    exact .cons (Rep.dp d v T r p.1) (Reps.dp ds ws U t p.2)
end
end
/-! ### dicts -/
theorem kIx_lt : ∀ {ks : List (List Key)} {x : List Key} {j : Nat}, kIx ks x = some j → j < ks.length
  | [], x, j, h => by cases h
  | k :: ks, x, j, h => by
    unfold kIx at h
    split at h
    · cases h; simp
    · cases e : kIx ks x with
      | none => rw [e] at h; cases h
      | some i => rw [e] at h; cases h; have := kIx_lt e; simp; omega
theorem kIx_none : ∀ {ks : List (List Key)} {x : List Key}, kIx ks x = none → x ∉ ks
  | [], x, _ => List.not_mem_nil
  | k :: ks, x, h => by
    unfold kIx at h
    split at h
    · cases h
    · rename_i hk
      cases e : kIx ks x with
      | none =>
        intro hm
        rcases List.mem_cons.mp hm with q | q
        · exact hk q.symm
        · exact kIx_none e q
      | some i => rw [e] at h; cases h
theorem kIx_at : ∀ {ks : List (List Key)} {x : List Key} {j : Nat}, kIx ks x = some j → ks[j]? = some x
  | [], x, j, h => by cases h
  | k :: ks, x, j, h => by
    unfold kIx at h
    split at h
    · rename_i hk; cases h; simp [hk]
    · cases e : kIx ks x with
      | none => rw [e] at h; cases h
      | some i => rw [e] at h; cases h; simpa using kIx_at e
section
variable {κ : Type} [DecidableEq κ]
theorem valV_zip (f : List Key → κ) : ∀ (ks : List (List Key)) (vs : List V) (x : List Key), (∀ k ∈ ks, f k = f x → k = x) → valV ((ks.map f).zip vs) (f x) = (kIx ks x).bind fun j => vs[j]?
  | [], _, _, _ => rfl
  | k :: ks, [], x, _ => by
    rw [List.map_cons, List.zip_nil_right, valV_nil]
    cases kIx (k :: ks) x <;> simp
  | k :: ks, v :: vs, x, h => by
    rw [List.map_cons, List.zip_cons_cons]
    unfold kIx
    by_cases e : k = x
    · rw [if_pos e, valV_pos (by simp [e])]; rfl
    · rw [if_neg e, valV_neg (fun q => e (h k List.mem_cons_self q)), valV_zip f ks vs x fun y hy => h y (List.mem_cons_of_mem _ hy)]
      cases kIx ks x <;> simp
theorem map_id_of {f : κ × V → κ × V} : ∀ {l : List (κ × V)}, (∀ p ∈ l, f p = p) → l.map f = l
  | [], _ => rfl
  | p :: l, h => by rw [List.map_cons, h p List.mem_cons_self, map_id_of fun q hq => h q (List.mem_cons_of_mem _ hq)]
theorem putK_zip (f : List Key → κ) (ks : List (List Key)) (vs : List V) (x : List Key) (y : V) (hl : ks.length = vs.length) (hf : ∀ k ∈ ks, f k = f x → k = x) (nd : ks.Nodup) :
    putK ((ks.map f).zip vs) (f x) y = match kIx ks x with
      | some j => (ks.map f).zip (vs.set j y)
      | none => ((ks ++ [x]).map f).zip (vs ++ [y]) := by
  unfold putK
  rw [valV_any, valV_zip f ks vs x hf]
  cases e : kIx ks x with
  | none =>
    rw [if_neg (by simp), List.map_append, List.zip_append (by simpa using hl)]
    rfl
  | some j =>
    have hj := kIx_lt e
    rw [if_pos (by simp [List.getElem?_eq_getElem (show j < vs.length by omega)])]
    show ((ks.map f).zip vs).map _ = (ks.map f).zip (vs.set j y)
    clear hj
    induction ks generalizing vs j with
    | nil => cases e
    | cons k ks ih =>
      cases vs with
      | nil => simp at hl
      | cons v vs =>
        rw [List.nodup_cons] at nd
        unfold kIx at e
        by_cases hk : k = x
        · rw [if_pos hk] at e
          cases e
          rw [List.map_cons, List.zip_cons_cons, List.map_cons, List.set_cons_zero, List.zip_cons_cons]
          congr 1
          · simp [hk]
          · refine map_id_of fun p hp => if_neg fun q => ?_
            have hm := (List.of_mem_zip (a := p.1) (b := p.2) hp).1
            obtain ⟨k', hk', e'⟩ := List.mem_map.mp hm
            have := hf k' (List.mem_cons_of_mem _ hk') (e'.trans q)
            exact nd.1 (by rw [hk, ← this]; exact hk')
        · rw [if_neg hk] at e
          cases e2 : kIx ks x with
          | none => rw [e2] at e; cases e
          | some i =>
            rw [e2] at e
            cases e
            rw [List.map_cons, List.zip_cons_cons, List.map_cons, List.set_cons_succ, List.zip_cons_cons]
            rw [ih vs (by simpa using hl) (fun y hy => hf y (List.mem_cons_of_mem _ hy)) nd.2 i e2, if_neg (fun q => hk (hf k List.mem_cons_self q))]
end
section
variable {K : PySem.W.Frag} {Z : Addr → Prop} {H : Hp}
theorem leaf_rep {d : D} {k : Key} {y : V} {S : List Addr} (h : leafK d = some k) (r : Rep K Z H d y S) : y = kV k := by
  cases d <;> first | (cases h; rw [rep_int r]; rfl) | (cases h; rw [rep_str r]; rfl) | cases h
theorem leaves_rep : ∀ {ds : List D} {ks : List Key} {ys : List V} {S : List Addr}, leavesK ds = some ks → Reps K Z H ds ys S → ys = ks.map kV
  | [], ks, ys, S, h, r => by
    cases h
    rw [Reps] at r; exact r.1
  | d :: ds, ks, ys, S, h, r => by
    unfold leavesK at h
    rw [Reps] at r
    obtain ⟨v, ws, T, U, e1, e2, r1, r2⟩ := r
    cases e3 : leafK d with
    | none => rw [e3] at h; cases h
    | some k =>
      cases e4 : leavesK ds with
      | none => rw [e3, e4] at h; cases h
      | some ks' =>
        rw [e3, e4] at h
        cases h
        rw [e1, leaf_rep e3 r1, leaves_rep e4 r2]; rfl
theorem head_inj {ks : List (List Key)} (ok : KsOk false ks) {x : Key} : ∀ k ∈ ks, headK k = headK [x] → k = [x] := fun k hk e => by
  obtain ⟨y, rfl⟩ := ok.one rfl k hk
  have : y = x := e
  rw [this]
theorem keyD_false {d : D} {k : List Key} (h : keyD false d = some k) : ∃ x, k = [x] ∧ leafK d = some x := by
  cases d <;> first | (cases h; exact ⟨_, rfl, rfl⟩) | cases h
theorem keyD_true {d : D} {k : List Key} (h : keyD true d = some k) : ∃ ds, d = .ptp ds ∧ leavesK ds = some k := by
  cases d <;> first | exact ⟨_, rfl, h⟩ | cases h
/-- what a dict holds at a key -/
theorem dct_get {t : Bool} {ks : List (List Key)} {vs : List V} {a : Addr} {d : D} {y : V} {S : List Addr} {k : List Key} (ha : H a = some (dHO t ks vs)) (ok : KsOk t ks) (hk : keyD t d = some k) (r : Rep K Z H d y S) :
    DGet H a y ((kIx ks k).bind fun j => vs[j]?) := by
  cases t with
  | false =>
    obtain ⟨x, rfl, hx⟩ := keyD_false hk
    refine .inl ⟨_, x, .inl ha, leaf_rep hx r, ?_⟩
    exact (valV_zip headK ks vs [x] (head_inj ok)).symm
  | true =>
    obtain ⟨ds, rfl, hd⟩ := keyD_true hk
    obtain ⟨b, ws, rfl, hb, q⟩ := rep_ptp r
    refine .inr ⟨_, k, b, .inl ha, rfl, by rw [hb, leaves_rep hd q], ?_⟩
    have := valV_zip id ks vs k (fun y _ e => e)
    rw [List.map_id] at this
    exact this.symm
def vPut (ks : List (List Key)) (vs : List V) (k : List Key) (v : V) : List V := match kIx ks k with
  | some j => vs.set j v | none => vs ++ [v]
/-- .. behind a store -/
theorem dct_put {t : Bool} {ks : List (List Key)} {vs : List V} {a : Addr} {d : D} {y v : V} {S : List Addr} {k : List Key} (ha : H a = some (dHO t ks vs)) (ok : KsOk t ks) (hl : ks.length = vs.length) (hz : ks.length < sizeLine) (hk : keyD t d = some k) (r : Rep K Z H d y S) :
    DPut H a y v (upd H a (dHO t (dPutK ks k) (vPut ks vs k v))) := by
  cases t with
  | false =>
    obtain ⟨x, rfl, hx⟩ := keyD_false hk
    have e := putK_zip headK ks vs [x] v hl (head_inj ok) ok.nd
    refine .inl ⟨_, x, ha, leaf_rep hx r, by simp [List.length_zip]; omega, ?_⟩
    refine congrArg (upd H a) (congrArg HO.dK (Eq.trans ?_ e.symm))
    unfold dPutK vPut
    cases kIx ks [x] <;> rfl
  | true =>
    obtain ⟨ds, rfl, hd⟩ := keyD_true hk
    obtain ⟨b, ws, rfl, hb, q⟩ := rep_ptp r
    have e := putK_zip id ks vs k v hl (fun y _ e => e) ok.nd
    rw [List.map_id] at e
    refine .inr ⟨_, k, b, ha, rfl, by rw [hb, leaves_rep hd q], by simp [List.length_zip]; omega, ?_⟩
    refine congrArg (upd H a) (congrArg HO.dT (Eq.trans ?_ e.symm))
    unfold dPutK vPut
    cases kIx ks k <;> simp
theorem ksok_put {t : Bool} {ks : List (List Key)} {d : D} {k : List Key} (ok : KsOk t ks) (hk : keyD t d = some k) : KsOk t (dPutK ks k) := by
  unfold dPutK
  cases e : kIx ks k with
  | some j => exact ok
  | none =>
    refine ⟨?_, fun ht x hx => ?_⟩
    · rw [List.nodup_append]
      exact ⟨ok.nd, List.nodup_cons.mpr ⟨List.not_mem_nil, List.nodup_nil⟩, fun x hx y hy e2 => kIx_none e (by rw [List.mem_singleton] at hy; rw [← hy, ← e2]; exact hx)⟩
    · rcases List.mem_append.mp hx with hx | hx
      · exact ok.one ht x hx
      · subst ht
        obtain ⟨y, rfl, _⟩ := keyD_false hk
        exact ⟨y, List.mem_singleton.mp hx⟩
theorem len_put {ks : List (List Key)} {vs : List V} {k : List Key} {v : V} (hl : ks.length = vs.length) : (dPutK ks k).length = (vPut ks vs k v).length := by
  unfold dPutK vPut
  cases kIx ks k <;> simp [hl]
theorem Reps.set1 : ∀ {ds : List D} {vs : List V} (j : Nat) {d : D} {v : V}, Reps K Z H ds vs [] → Rep K Z H d v [] → Reps K Z H (ds.set j d) (vs.set j v) []
  | [], vs, _, _, _, h, _ => by rw [Reps] at h; rw [h.1]; exact Reps.nil
  | e :: ds, vs, j, d, v, h, r => by
    rw [Reps] at h
    obtain ⟨u, ws, T, U, e1, e2, h1, h2⟩ := h
    have e2 := List.append_eq_nil_iff.mp e2.symm
    rw [e2.1] at h1; rw [e2.2] at h2
    subst e1
    cases j with
    | zero => exact Reps.cons r h2
    | succ j => exact Reps.cons h1 (Reps.set1 j h2 r)
theorem reps_put {ks : List (List Key)} {ds : List D} {vs : List V} {k : List Key} {d : D} {v : V} (h : Reps K Z H ds vs []) (r : Rep K Z H d v []) : Reps K Z H (dPutV ks ds k d) (vPut ks vs k v) [] := by
  unfold dPutV vPut
  cases kIx ks k with
  | some j => exact Reps.set1 j h r
  | none => exact Reps.append h (Reps.one r)
end
section
variable {X : Cx}
/-- the end of a rule that looks and tells a value that owns nothing, at the heap as it was -/
theorem tell {K : PySem.W.Frag} {Z : Addr → Prop} {H : Hp} {post : D → Prop} {Q : VK} (k : ∀ rd v H' S', (∀ b o, H b = some o → H' b = some o) → Rep K Z H' rd v S' → S'.Nodup → (∀ b ∈ S', H b = none) → post rd → Q v H')
    {rd : D} {v : V} (r : Rep K Z H rd v []) (p : post rd) : Q v H := k rd v H [] (fun _ _ e => e) r List.nodup_nil (fun _ h => nomatch h) p
theorem tellT {K : PySem.W.Frag} {Z : Addr → Prop} {H : Hp} {post : D → Prop} {Q : VK} (k : ∀ rd v H' S', (∀ b o, H b = some o → H' b = some o) → Rep K Z H' rd v S' → S'.Nodup → (∀ b ∈ S', H b = none) → post rd → Q v H')
    {ds : List D} {vs : List V} (r : Reps K Z H ds vs []) (p : post (.tup ds)) : NewT H vs Q := fun a o ho ha =>
  k _ _ _ [] (laid_same ha) (new_tup ho ha r) List.nodup_nil (fun _ h => nomatch h) p
theorem tellP {K : PySem.W.Frag} {Z : Addr → Prop} {H : Hp} {post : D → Prop} {Q : VK} (k : ∀ rd v H' S', (∀ b o, H b = some o → H' b = some o) → Rep K Z H' rd v S' → S'.Nodup → (∀ b ∈ S', H b = none) → post rd → Q v H')
    {ds : List D} {vs : List V} (r : Reps K Z H ds vs []) (p : post (.ptp ds)) : ∀ a, H a = none → Q (.ref a) (upd H a (.tup vs)) := fun a ha =>
  k _ _ _ [] (laid_same ha) (new_ptp ha r) List.nodup_nil (fun _ h => nomatch h) p
theorem tellL {K : PySem.W.Frag} {Z : Addr → Prop} {H : Hp} {post : D → Prop} {Q : VK} (k : ∀ rd v H' S', (∀ b o, H b = some o → H' b = some o) → Rep K Z H' rd v S' → S'.Nodup → (∀ b ∈ S', H b = none) → post rd → Q v H')
    {ds : List D} {vs : List V} (r : Reps K Z H ds vs []) (p : post (.lst true ds)) : ∀ a, H a = none → Q (.ref a) (upd H a (.lst vs)) := fun a ha =>
  k _ _ _ [a] (laid_same ha) (new_lst ha r) (List.nodup_cons.mpr ⟨List.not_mem_nil, List.nodup_nil⟩) (fun b hb => by rw [List.mem_singleton.mp hb]; exact ha) p

/-- two operands -/
theorem two_of {K : PySem.W.Frag} {f : D → D → (D → Prop) → Prop} {H : Hp} {x y : V} {Q : VK} (h : rD K (un2 f) [x, y] H Q) :
    ∃ d e S T Z post, Rep K Z H d x S ∧ Rep K Z H e y T ∧ f d e post ∧ ∀ rd v H' S', (∀ b o, H b = some o → H' b = some o) → Rep K Z H' rd v S' → S'.Nodup → (∀ b ∈ S', H b = none) → post rd → Q v H' := by
  obtain ⟨ds, Ss, Z, post, r, s, k⟩ := h
  unfold un2 at s
  split at s
  · obtain ⟨v, u, S, T, e1, e2, r1, r2⟩ := RepL.two r
    cases e1
    exact ⟨_, _, S, T, Z, post, r1, r2, s, k⟩
  · exact s.elim
theorem one_of {K : PySem.W.Frag} {f : D → (D → Prop) → Prop} {H : Hp} {x : V} {Q : VK} (h : rD K (un1 f) [x] H Q) :
    ∃ d S Z post, Rep K Z H d x S ∧ f d post ∧ ∀ rd v H' S', (∀ b o, H b = some o → H' b = some o) → Rep K Z H' rd v S' → S'.Nodup → (∀ b ∈ S', H b = none) → post rd → Q v H' := by
  obtain ⟨ds, Ss, Z, post, r, s, k⟩ := h
  unfold un1 at s
  split at s
  · obtain ⟨v, S, e1, e2, r1⟩ := RepL.one r
    cases e1
    exact ⟨_, S, Z, post, r1, s, k⟩
  · exact s.elim

theorem bin_ok (op : Operator) : OpR X (binaryOp op) (fun x y H Q => rD X.K (pkS (.bin op)) [x, y] H Q) := by
  intro pins s σ H x y v u Q I rx ry h
  obtain ⟨d, e, S, T, Z, post, r1, r2, w, k⟩ := two_of (f := binS op) h
  unfold binS at w
  split at w
  · rw [rep_int r1] at rx; rw [rep_int r2] at ry
    exact op_add pins s σ H _ _ v u Q I rx ry ⟨_, _, rfl, rfl, tell k int_rep w⟩
  · rw [rep_str r1] at rx; rw [rep_str r2] at ry
    exact op_add_str pins s σ H _ _ v u Q I rx ry ⟨_, _, rfl, rfl, w.1, tell k str_rep w.2⟩
  · obtain ⟨p1, p2, hz, w⟩ := w
    obtain ⟨a, vs, rfl, hs, q1⟩ := rep_tup r1
    obtain ⟨b, us, rfl, ht, q2⟩ := rep_tup r2
    have l1 := q1.length
    have l2 := q2.length
    refine op_catX pins s σ H _ _ v u Q I rx ry ⟨a, b, vs, us, rfl, rfl, hs, ht, by rw [l1, l2]; exact hz, fun e => ?_, fun _ e => ?_, fun _ _ => tellT k ((q1.pure0 p1).append (q2.pure0 p2)) w⟩
    · rw [e] at l1
      rw [List.length_eq_zero_iff.mp l1.symm, List.nil_append] at w
      exact tell k (r2.pure0 (by rw [pu]; exact p2)) w
    · rw [e] at l2
      rw [List.length_eq_zero_iff.mp l2.symm, List.append_nil] at w
      exact tell k (r1.pure0 (by rw [pu]; exact p1)) w
  · obtain ⟨p1, p2, hz, w⟩ := w
    obtain ⟨a, vs, _, rfl, hs, q1⟩ := rep_lst r1
    obtain ⟨b, us, _, rfl, ht, q2⟩ := rep_lst r2
    exact op_cat pins s σ H _ _ v u Q I rx ry ⟨a, b, vs, us, rfl, rfl, hs, ht, by rw [q1.length, q2.length]; exact hz, tellL k ((q1.pure0 p1).append (q2.pure0 p2)) w⟩
  · rw [rep_int r1] at rx; rw [rep_int r2] at ry
    exact op_sub pins s σ H _ _ v u Q I rx ry ⟨_, _, rfl, rfl, tell k int_rep w⟩
  · rw [rep_int r1] at rx; rw [rep_int r2] at ry
    rcases w.1 with hc | hc
    · exact op_mulW pins s σ H _ _ v u Q I rx ry ⟨_, _, rfl, rfl, hc, tell k int_rep w.2⟩
    · exact op_mul pins s σ H _ _ v u Q I rx ry ⟨_, _, rfl, rfl, .inr hc, tell k int_rep w.2⟩
  · obtain ⟨p1, h1, h2, hz, w⟩ := w
    obtain ⟨a, vs, _, rfl, hs, q1⟩ := rep_lst r1
    rw [rep_int r2] at ry
    exact op_rep pins s σ H _ _ v u Q I rx ry ⟨a, _, vs, rfl, rfl, hs, h1, h2, by rw [q1.length]; exact hz, tellL k ((q1.pure0 p1).rep _) w⟩
  · rw [rep_int r1] at rx; rw [rep_int r2] at ry
    exact op_fdivW pins s σ H _ _ v u Q I rx ry ⟨_, _, rfl, rfl, ⟨w.1, w.2.1⟩, tell k int_rep w.2.2⟩
  · rw [rep_int r1] at rx; rw [rep_int r2] at ry
    exact op_mod pins s σ H _ _ v u Q I rx ry ⟨_, _, rfl, rfl, w.1, tell k int_rep w.2⟩
  · rw [rep_int r1] at rx; rw [rep_int r2] at ry
    exact op_pow pins s σ H _ _ v u Q I rx ry ⟨_, _, rfl, rfl, ⟨w.1, w.2.1, w.2.2.1⟩, tell k int_rep w.2.2.2⟩
  · rw [rep_bl r1] at rx; rw [rep_int r2] at ry
    exact op_add_bi pins s σ H _ _ v u Q I rx ry ⟨_, _, rfl, rfl, tell k int_rep w⟩
  · rw [rep_bl r1] at rx; rw [rep_int r2] at ry
    exact op_sub_bi pins s σ H _ _ v u Q I rx ry ⟨_, _, rfl, rfl, tell k int_rep w⟩
  · rw [rep_int r1] at rx; rw [rep_int r2] at ry
    exact op_shl pins s σ H _ _ v u Q I rx ry ⟨_, _, rfl, rfl, ⟨w.1, w.2.1, w.2.2.1⟩, tell k int_rep w.2.2.2⟩
  · rw [rep_int r1] at rx; rw [rep_int r2] at ry
    exact op_shr pins s σ H _ _ v u Q I rx ry ⟨_, _, rfl, rfl, w.1, tell k int_rep w.2⟩
  · rw [rep_int r1] at rx; rw [rep_int r2] at ry
    exact op_and pins s σ H _ _ v u Q I rx ry ⟨_, _, rfl, rfl, tell k int_rep w⟩
  · rw [rep_int r1] at rx; rw [rep_int r2] at ry
    exact op_or pins s σ H _ _ v u Q I rx ry ⟨_, _, rfl, rfl, tell k int_rep w⟩
  · rw [rep_int r1] at rx; rw [rep_int r2] at ry
    exact op_xor pins s σ H _ _ v u Q I rx ry ⟨_, _, rfl, rfl, tell k int_rep w⟩
  · rw [rep_str r1] at rx; rw [rep_int r2] at ry
    obtain ⟨t, rfl⟩ := rx
    obtain ⟨t', rfl⟩ := ry
    rcases w with ⟨rfl | rfl, w⟩
    · exact PySem.P.mul_str_none (by decide) (by decide) ⟨.str Str.empty, H, I.tok _, ⟨_, rfl⟩, tell k str_rep w⟩
    · exact PySem.P.mul_str (by decide) (fun _ e => nomatch e) (fun _ e => nomatch e) (by
        rw [if_neg (by decide), if_pos (by rfl)]
        exact ⟨.str _, H, I, ⟨_, rfl⟩, tell k str_rep w⟩)
  · exact w.elim

theorem any_toP (x : PyData) : ∀ ds : List D, ((toPs ds).any fun z => PyData.eqv z x) = ds.any fun z => PyData.eqv (toP z) x
  | [] => rfl
  | d :: ds => by rw [toPs, List.any_cons, List.any_cons, any_toP x ds]
theorem isSome_at {ks : List (List Key)} {k : List Key} {vs : List V} (hl : ks.length = vs.length) : ((kIx ks k).bind fun j => vs[j]?).isSome = (kIx ks k).isSome := by
  cases e : kIx ks k with
  | none => rfl
  | some j =>
    have := kIx_lt e
    show (vs[j]?).isSome = true
    rw [List.getElem?_eq_getElem (by omega)]; rfl
theorem sign_of {x : Str} {c : Nat} (h : signOf x = some c) : x = ⟨#[c]⟩ := by
  unfold signOf at h
  split at h
  · rename_i d e
    cases h
    exact TL.ext_tl e
  · cases h
theorem cmp_ok (hu : X.A.units + 65 < cLine) (op : CmpOp) : OpR X (compareOp op) (fun x y H Q => rD X.K (pkS (.cmp op)) [x, y] H Q) := by
  intro pins s σ H x y v u Q I rx ry h
  obtain ⟨ds, Ss, Z, post, rl, w, k⟩ := h
  change cmp2 op ds (fun k => post (.bl k)) at w
  unfold cmp2 at w
  split at w
  case h_2 => exact w.elim
  obtain ⟨v', u', S, T, e1, e2, r1, r2⟩ := RepL.two rl
  cases e1
  unfold cmpS at w
  split at w
  · rw [rep_int r1] at rx; rw [rep_int r2] at ry
    exact op_lt pins s σ H _ _ v u Q I rx ry ⟨_, _, rfl, rfl, tell k bl_rep w⟩
  · rw [rep_int r1] at rx; rw [rep_int r2] at ry
    exact op_le pins s σ H _ _ v u Q I rx ry ⟨_, _, rfl, rfl, tell k bl_rep w⟩
  · rw [rep_int r1] at rx; rw [rep_int r2] at ry
    exact op_gt pins s σ H _ _ v u Q I rx ry ⟨_, _, rfl, rfl, tell k bl_rep w⟩
  · rw [rep_int r1] at rx; rw [rep_int r2] at ry
    exact op_ge pins s σ H _ _ v u Q I rx ry ⟨_, _, rfl, rfl, tell k bl_rep w⟩
  · obtain ⟨ns, ms, rfl, rfl, w⟩ := w
    obtain ⟨a, vs, rfl, hs, q1⟩ := rep_tup r1
    obtain ⟨b, us, rfl, ht, q2⟩ := rep_tup r2
    rw [q1.ints] at hs
    rw [q2.ints] at ht
    exact op_ltT (by omega) pins s σ H _ _ v u Q I rx ry ⟨a, b, ns, ms, rfl, rfl, hs, ht, tell k bl_rep w⟩
  · rw [rep_int r1] at rx; rw [rep_int r2] at ry
    exact op_eq pins s σ H _ _ v u Q I rx ry ⟨rfl, tell k bl_rep (by rw [show decide (V.int _ = V.int _) = decide (_ = _) from decide_eq_decide.mpr ⟨fun e => V.int.inj e, fun e => by rw [e]⟩]; exact w)⟩
  · rw [rep_str r1] at rx; rw [rep_str r2] at ry
    exact op_eq pins s σ H _ _ v u Q I rx ry ⟨rfl, tell k bl_rep (by rw [show decide (V.str _ = V.str _) = decide (_ = _) from decide_eq_decide.mpr ⟨fun e => V.str.inj e, fun e => by rw [e]⟩]; exact w)⟩
  · rw [rep_int r1] at rx; rw [rep_int r2] at ry
    exact op_ne pins s σ H _ _ v u Q I rx ry ⟨rfl, tell k bl_rep (by rw [show decide (V.int _ = V.int _) = decide (_ = _) from decide_eq_decide.mpr ⟨fun e => V.int.inj e, fun e => by rw [e]⟩]; exact w)⟩
  · rw [rep_str r1] at rx; rw [rep_str r2] at ry
    exact op_ne pins s σ H _ _ v u Q I rx ry ⟨rfl, tell k bl_rep (by rw [show decide (V.str _ = V.str _) = decide (_ = _) from decide_eq_decide.mpr ⟨fun e => V.str.inj e, fun e => by rw [e]⟩]; exact w)⟩
  · obtain ⟨⟨h1, h2⟩, ⟨h3, h4⟩, w⟩ := w
    exact op_eqD (by omega) pins s σ H _ _ v u Q I rx ry ⟨_, _, Rep.dp _ _ _ r1 h1, Rep.dp _ _ _ r2 h3, h2, h4, tell k bl_rep w⟩
  · obtain ⟨⟨h1, h2⟩, ⟨h3, h4⟩, w⟩ := w
    exact op_neD (by omega) pins s σ H _ _ v u Q I rx ry ⟨_, _, Rep.dp _ _ _ r1 h1, Rep.dp _ _ _ r2 h3, h2, h4, tell k bl_rep w⟩
  · obtain ⟨⟨h1, h2⟩, ⟨h3, h4⟩, w⟩ := w
    obtain ⟨as, q1⟩ := Dp.reads I _ _ _ (Rep.dp _ _ _ r1 h1) rx
    obtain ⟨bs, q2⟩ := Dp.reads I _ _ _ (Rep.dp _ _ _ r2 h3) ry
    exact SeqAt.in_list_reads q2 q1 (SeqAt.canLay_of_shaped h4) (SeqAt.canLay_of_shaped h2) (room_in_shaped h2 (by omega)) ⟨.bl _, H, I, rfl, tell k bl_rep (by rw [any_toP]; exact w)⟩
  · obtain ⟨⟨h1, h2⟩, ⟨h3, h4⟩, w⟩ := w
    obtain ⟨as, q1⟩ := Dp.reads I _ _ _ (Rep.dp _ _ _ r1 h1) rx
    obtain ⟨bs, q2⟩ := Dp.reads I _ _ _ (Rep.dp _ _ _ r2 h3) ry
    exact SeqAt.in_tuple_reads q2 q1 (SeqAt.canLay_of_shaped h4) (SeqAt.canLay_of_shaped h2) (room_in_shaped h2 (by omega)) ⟨.bl _, H, I, rfl, tell k bl_rep (by rw [any_toP]; exact w)⟩
  · obtain ⟨kk, hk, w⟩ := w
    obtain ⟨a, vs, _, rfl, ha, ⟨ok, hl⟩, _⟩ := rep_dct r2
    obtain rfl : u = Value.ref a := ry
    refine d_in (by omega) I (dct_get ha ok hk r1) rx fun s' I' => ⟨.bl _, H, I', rfl, tell k bl_rep ?_⟩
    rw [isSome_at hl]; exact w
  · obtain ⟨⟨h1, h2⟩, ⟨h3, h4⟩, w⟩ := w
    obtain ⟨as, q1⟩ := Dp.reads I _ _ _ (Rep.dp _ _ _ r1 h1) rx
    obtain ⟨bs, q2⟩ := Dp.reads I _ _ _ (Rep.dp _ _ _ r2 h3) ry
    exact SeqAt.notIn_list_reads q2 q1 (SeqAt.canLay_of_shaped h4) (SeqAt.canLay_of_shaped h2) (room_in_shaped h2 (by omega)) ⟨.bl _, H, I, rfl, tell k bl_rep (by rw [any_toP]; exact w)⟩
  · obtain ⟨⟨h1, h2⟩, ⟨h3, h4⟩, w⟩ := w
    obtain ⟨as, q1⟩ := Dp.reads I _ _ _ (Rep.dp _ _ _ r1 h1) rx
    obtain ⟨bs, q2⟩ := Dp.reads I _ _ _ (Rep.dp _ _ _ r2 h3) ry
    exact SeqAt.notIn_tuple_reads q2 q1 (SeqAt.canLay_of_shaped h4) (SeqAt.canLay_of_shaped h2) (room_in_shaped h2 (by omega)) ⟨.bl _, H, I, rfl, tell k bl_rep (by rw [any_toP]; exact w)⟩
  · obtain ⟨kk, hk, w⟩ := w
    obtain ⟨a, vs, _, rfl, ha, ⟨ok, hl⟩, _⟩ := rep_dct r2
    obtain rfl : u = Value.ref a := ry
    refine d_notIn (by omega) I (dct_get ha ok hk r1) rx fun s' I' => ⟨.bl _, H, I', rfl, tell k bl_rep ?_⟩
    rw [isSome_at hl]; exact w
  · rw [rep_bl r1] at rx; rw [rep_bl r2] at ry
    exact op_is_bl pins s σ H _ _ v u Q I rx ry ⟨_, _, rfl, rfl, tell k bl_rep w⟩
  · rw [rep_bl r1] at rx; rw [rep_bl r2] at ry
    exact op_isnot_bl pins s σ H _ _ v u Q I rx ry ⟨_, _, rfl, rfl, tell k bl_rep w⟩
  · rw [rep_non r2] at ry
    exact op_isN pins s σ H _ _ v u Q I rx ry ⟨rfl, by rw [isNone_rep r1 (fun w' z => by subst z; exact Bool.noConfusion (show true = false from w.1))]; exact tell k bl_rep w.2⟩
  · rw [rep_non r2] at ry
    exact op_notN pins s σ H _ _ v u Q I rx ry ⟨rfl, by rw [isNone_rep r1 (fun w' z => by subst z; exact Bool.noConfusion (show true = false from w.1))]; exact tell k bl_rep w.2⟩
  · obtain ⟨c, hc, w⟩ := w
    rw [rep_str r1] at rx; rw [rep_str r2] at ry
    exact op_in_sign pins s σ H _ _ v u Q I rx ry ⟨c, _, by rw [sign_of hc], rfl, tell k bl_rep w⟩
  · exact w.elim

theorem una_ok (op : UnaryOp) : UnR X (unaryOp op) (fun x H Q => rD X.K (pkS (.una op)) [x] H Q) := by
  intro pins s σ H x v Q I rx h
  cases op with
  | USub =>
    obtain ⟨d, S, Z, post, r1, w, k⟩ := one_of (f := negS) h
    unfold negS at w
    split at w
    · rw [rep_bl r1] at rx
      exact un_neg_b pins s σ H _ v Q I rx ⟨_, rfl, tell k int_rep w⟩
    · rw [rep_int r1] at rx
      exact un_neg pins s σ H _ v Q I rx ⟨_, rfl, tell k int_rep w⟩
    · exact w.elim
  | Invert => obtain ⟨ds, Ss, Z, post, r, w, k⟩ := h; exact (show False from w).elim
  | Not => obtain ⟨ds, Ss, Z, post, r, w, k⟩ := h; exact (show False from w).elim
  | UAdd => obtain ⟨ds, Ss, Z, post, r, w, k⟩ := h; exact (show False from w).elim

theorem sub_dct {A : Around} {EE : Value → Shared → Prop} {s : Shared} {QQ : Value → Shared → Prop} {value slice : Expr} {o i : Value} (nt : s.TypeIs o "dict") (hs : subscripted slice false o i = operate [o, i] (getItem o i))
    (h : wpAny (model X.prog X.w) A (getItem o i) QQ EE s) : wpAny (model X.prog X.w) A (subscriptTail value slice o i) QQ EE s := by
  have fin : wpAny (model X.prog X.w) A (subscripted slice false o i) (fun r t => wpAny (model X.prog X.w) A (letTemporaryGo value o r >>= fun _ => pure r) QQ EE t) EE s := by
    rw [hs]
    exact wpAny_operating (wpAny_mono h (fun r t q => wpAny_bind (wpAny_letTemporaryGo (wpAny_pure q))) fun _ _ q => q)
  unfold subscriptTail
  refine wpAny_bind ?_
  rw [getitemInPython_of_ne nt.not_modules]
  refine wpAny_bind (wpAny_specialOf nt PySem.F.slot_dict_getitem.lookup ?_)
  first
    | exact wpAny_pure (wpAny_bind fin)
    | exact wpAny_bind (wpAny_pure (wpAny_pure (wpAny_bind fin)))
    | (dsimp only; exact wpAny_pure (wpAny_bind fin))
    | (simp only [pure_bind, bind_pure]; exact wpAny_bind fin)
theorem idx_ok (hu : X.A.units + 65 < cLine) : IxR X (fun x y H Q => rD X.K (pkS .idx) [x, y] H Q) := by
  intro value slice pins s σ H x y v u Q I rx ry h hs
  obtain ⟨d, e, S, T, Z, post, r1, r2, w, k⟩ := two_of (f := idxS) h
  unfold idxS at w
  split at w
  · obtain ⟨d, hd, hp, w⟩ := w
    obtain ⟨a, vs, rfl, ha, q1⟩ := rep_tup r1
    rw [rep_int r2] at ry
    obtain ⟨v', T', hv, r3⟩ := atI_reps q1 hd
    exact ix_tup value slice pins s σ H _ _ v u Q I rx ry ⟨a, vs, _, v', rfl, rfl, ha, hv, tell k (r3.pure0 hp) w⟩ hs
  · obtain ⟨d, hd, hp, w⟩ := w
    obtain ⟨a, vs, _, rfl, ha, q1⟩ := rep_lst r1
    rw [rep_int r2] at ry
    obtain ⟨v', T', hv, r3⟩ := atI_reps q1 hd
    exact ix_list value slice pins s σ H _ _ v u Q I rx ry ⟨a, vs, _, v', rfl, rfl, .inl (.inl ha), hv, tell k (r3.pure0 hp) w⟩ hs
  · obtain ⟨d, hd, hp, w⟩ := w
    obtain ⟨a, vs, rfl, ha, q1⟩ := rep_scr r1
    rw [rep_int r2] at ry
    obtain ⟨v', T', hv, r3⟩ := atI_reps q1 hd
    exact ix_list value slice pins s σ H _ _ v u Q I rx ry ⟨a, vs, _, v', rfl, rfl, ha, hv, tell k (r3.pure0 hp) w⟩ hs
  · obtain ⟨kk, d, hk, hd, hp, w⟩ := w
    obtain ⟨a, vs, _, rfl, ha, ⟨ok, hl⟩, q⟩ := rep_dct r1
    obtain rfl : v = Value.ref a := rx
    unfold dGet at hd
    cases e : kIx _ kk with
    | none => rw [e] at hd; cases hd
    | some j =>
      rw [e] at hd
      obtain ⟨v', A, B, C, g1, g2, g3, _⟩ := Reps.split j d q hd
      have g := dct_get (K := X.K) (Z := Z) ha ok hk r2
      rw [e] at g
      have g' : DGet H a y (some v') := by rw [← g1]; exact g
      have nt := dict_typeIs I g'
      exact sub_dct nt hs (d_getItem (by omega) I g' ry fun w' s' I' rw' => ⟨v', H, I', rw', tell k (g3.pure0 hp) w⟩)
  · obtain ⟨hz, c, hc, w⟩ := w
    rw [rep_str r1] at rx; rw [rep_int r2] at ry
    exact ix_str value slice pins s σ H _ _ v u Q I rx ry ⟨_, _, c, rfl, rfl, hz, hc, tell k str_rep w⟩ hs
  · exact w.elim

theorem slc_ok : SlR X (fun x lo hi H Q => rD X.K (un1 (slcS lo hi)) [x] H Q) := by
  intro pins s σ H x v vl vu lo hi sl Q I rx hs pl ph h
  obtain ⟨d, S, Z, post, r1, w, k⟩ := one_of (f := slcS lo hi) h
  unfold slcS at w
  split at w
  · obtain ⟨hp, w⟩ := w
    obtain ⟨a, vs, rfl, ha, q1⟩ := rep_tup r1
    refine sl_tupX pins s σ H _ v vl vu lo hi sl Q I rx hs pl ph ⟨a, vs, rfl, ha, fun e => ?_, fun _ => tellT k ((q1.pure0 hp).cut lo hi) w⟩
    rename_i ds
    have e2 : cutD ds lo hi = ds := by
      have hl := q1.length
      unfold cutD
      rw [← hl, e.1, e.2, hl]
      simp
    rw [e2] at w
    exact tell k (r1.pure0 (by rw [pu]; exact hp)) w
  · obtain ⟨hp, w⟩ := w
    obtain ⟨a, vs, _, rfl, ha, q1⟩ := rep_lst r1
    exact sl_list pins s σ H _ v vl vu lo hi sl Q I rx hs pl ph ⟨a, vs, rfl, .inl (.inl ha), tellL k ((q1.pure0 hp).cut lo hi) w⟩
  · rw [rep_str r1] at rx
    exact sl_str pins s σ H _ v vl vu lo hi sl Q I rx hs pl ph ⟨_, rfl, w.1, tell k str_rep w.2⟩
  · exact w.elim
end
/-! ### dict(pairs), the keys tuples -/
def mergeT (kvs more : List (List Key × V)) : List (List Key × V) := more.foldl (fun acc kv => putK acc kv.1 kv.2) kvs
section
variable {X : Cx} {pins : List (Addr × Obj)} {σ : L2.St} {H : Hp} {s : Shared}
/-- pairs that stand: a key's tuple, a value -/
def PairT (H : Hp) (p : Addr) (e : List Key × Addr × V) : Prop := H p = some (.tup [.ref e.2.1, e.2.2]) ∧ H e.2.1 = some (.tup (e.1.map kV))
def RelT (e : List Key × Addr × V) (y : List Key × Addr × Value) : Prop := e.1 = y.1 ∧ e.2.1 = y.2.1 ∧ RelV e.2.2 y.2.2
theorem pairsT_of (I : Inv X pins σ H s) : ∀ {ps : List Addr} {es : List (List Key × Addr × V)}, Paired (PairT H) ps es →
    ∃ ys : List (List Key × Addr × Value), Paired RelT es ys ∧ ys.length = ps.length ∧ ∀ (j : Nat) (y : List Key × Addr × Value), ys[j]? = some y → ∃ b, ps[j]? = some b ∧ IsTup s.heap b #[Value.ref y.2.1, y.2.2]
  | _, _, .nil => ⟨[], .nil, rfl, fun j y e => by simp at e⟩
  | _, _, .cons (a := p) (b := e) h t => by
    obtain ⟨ys, r, hl, hp⟩ := pairsT_of I t
    obtain ⟨_, its, rv, ht⟩ := I.hok p _ h.1
    obtain ⟨u, y, ei, ru, ry⟩ := vals2 rv
    subst ei
    cases ru
    refine ⟨(e.1, e.2.1, y) :: ys, .cons ⟨rfl, rfl, ry⟩ r, by rw [List.length_cons, List.length_cons, hl], fun j q e' => ?_⟩
    cases j with
    | zero =>
      have e' : (e.1, e.2.1, y) = q := Option.some.inj e'
      subst e'
      exact ⟨p, rfl, ht⟩
    | succ j =>
      obtain ⟨b, e1, e2⟩ := hp j q (by simpa using e')
      exact ⟨b, by simpa using e1, e2⟩
def RelE (H : Hp) (p : List Key × V) (q : List Key × Addr × Value) : Prop := p.1 = q.1 ∧ H q.2.1 = some (.tup (p.1.map kV)) ∧ RelV p.2 q.2.2
theorem relE_has {kvs : List (List Key × V)} {xs : List (List Key × Addr × Value)} (h : Paired (RelE H) kvs xs) (k : List Key) : (atKey xs k).isSome = (valV kvs k).isSome := by
  induction h with
  | nil => rfl
  | @cons p q _ _ h t ih =>
    unfold atKey at ih ⊢
    by_cases e : p.1 = k
    · rw [valV_pos e, List.find?_cons, h.1.symm, decide_eq_true e]; rfl
    · rw [valV_neg e, List.find?_cons, h.1.symm, decide_eq_false e]; exact ih
theorem relE_map {kvs : List (List Key × V)} {xs : List (List Key × Addr × Value)} (h : Paired (RelE H) kvs xs) (k : List Key) (v : V) (y : Value) (r : RelV v y) : Paired (RelE H) (kvs.map fun kv => if kv.1 = k then (kv.1, v) else kv) (xs.map (putAt k y)) := by
  induction h with
  | nil => exact .nil
  | @cons p q _ _ h t ih =>
    rw [List.map_cons, List.map_cons]
    refine .cons ?_ ih
    unfold putAt
    rw [← h.1]
    by_cases e : p.1 = k
    · rw [if_pos e, if_pos e]; exact ⟨rfl, h.2.1, r⟩
    · rw [if_neg e, if_neg e]; exact h
theorem relE_snoc {kvs : List (List Key × V)} {xs : List (List Key × Addr × Value)} (h : Paired (RelE H) kvs xs) {p : List Key × V} {q : List Key × Addr × Value} (r : RelE H p q) : Paired (RelE H) (kvs ++ [p]) (xs ++ [q]) := by
  induction h with
  | nil => exact .cons r .nil
  | cons h t ih => exact .cons h ih
theorem relE_put {kvs : List (List Key × V)} {xs : List (List Key × Addr × Value)} (h : Paired (RelE H) kvs xs) {k : List Key} {b : Addr} {v : V} {y : Value} (hb : H b = some (.tup (k.map kV))) (r : RelV v y) : Paired (RelE H) (putK kvs k v) (storedH xs k b y) := by
  unfold putK storedH
  rw [relE_has h, valV_any]
  split
  · exact relE_map h k v y r
  · exact relE_snoc h ⟨rfl, hb, r⟩
theorem relE_all {es : List (List Key × Addr × V)} {ys : List (List Key × Addr × Value)} (h : Paired RelT es ys) : ∀ {kvs : List (List Key × V)} {xs : List (List Key × Addr × Value)}, (∀ e ∈ es, H e.2.1 = some (.tup (e.1.map kV))) → Paired (RelE H) kvs xs →
    Paired (RelE H) (mergeT kvs (es.map fun e => (e.1, e.2.2))) (storedAllH xs ys) := by
  induction h with
  | nil => intro kvs xs _ q; exact q
  | @cons e y _ _ h t ih =>
    intro kvs xs hk q
    refine ih (kvs := putK kvs e.1 e.2.2) (xs := storedH xs y.1 y.2.1 y.2.2) (fun e' he => hk e' (List.mem_cons_of_mem _ he)) ?_
    rw [← h.1, ← h.2.1]
    exact relE_put q (hk e List.mem_cons_self) h.2.2
theorem paired_len {α β : Type} {R : α → β → Prop} {l : List α} {m : List β} (h : Paired R l m) : l.length = m.length := by
  induction h with
  | nil => rfl
  | cons _ _ ih => rw [List.length_cons, List.length_cons, ih]
theorem paired_mem {α β : Type} {R : α → β → Prop} {l : List α} {m : List β} (h : Paired R l m) : ∀ y ∈ m, ∃ x ∈ l, R x y := by
  induction h with
  | nil => intro y hy; exact (nomatch hy)
  | @cons a b _ _ r t ih =>
    intro y hy
    rcases List.mem_cons.mp hy with rfl | hy
    · exact ⟨a, List.mem_cons_self, r⟩
    · obtain ⟨x, hx, q⟩ := ih y hy
      exact ⟨x, List.mem_cons_of_mem _ hx, q⟩
theorem call_dictT (hcalm : X.calm = true) (hu : X.A.units + 65 < cLine) : CallR X (.type "dict") (fun xs H Q => ∃ (a : Addr) (ps : List Addr) (es : List (List Key × Addr × V)), xs = [.ref a] ∧ SqL X.K H a (ps.map V.ref) ∧ Paired (PairT H) ps es ∧
    ∀ p, H p = none → Q (.ref p) (upd H p (.dT (mergeT [] (es.map fun e => (e.1, e.2.2)))))) := by
  intro pins s σ H xs us Q I r q
  obtain ⟨a, ps, es, ex, hq, hp, q⟩ := q
  subst ex
  obtain ⟨u, eu, rx⟩ := vals1 r
  subst eu
  cases rx
  obtain ⟨its, rv, pl, hz⟩ := I.list hq
  have ei := refs_at rv
  subst ei
  rw [List.length_map] at hz
  obtain ⟨ys, rel, hl, hpr⟩ := pairsT_of I hp
  obtain ⟨o, n, ho, hc, hd, hdat⟩ := pl
  have hes := paired_len rel
  have hk : ∀ e ∈ es, H e.2.1 = some (.tup (e.1.map kV)) := fun e he => by
    obtain ⟨b, _, h⟩ := paired_mem hp e he
    exact h.2
  have hys : ∀ y ∈ ys, H y.2.1 = some (.tup (y.1.map kV)) := fun y hy => by
    obtain ⟨e, he, h⟩ := paired_mem rel y hy
    rw [← h.1, ← h.2.1]; exact hk e he
  let pv : List (Value × Value) := ys.map fun y => (Value.ref y.2.1, y.2.2)
  have hpv : pv.length = ys.length := List.length_map ..
  have ok : PlainSeq "list" s.heap a (ps.map Value.ref).toArray ∧ PairItems s.heap (ps.map Value.ref).toArray (fun j => ps.getD j 0) pv := by
    refine ⟨⟨o, n, ho, hc, hd, hdat⟩, by simp [hpv, hl], fun j k v hj => ?_⟩
    obtain ⟨y, hy, e⟩ : ∃ y, ys[j]? = some y ∧ (Value.ref y.2.1, y.2.2) = (k, v) := by
      have hj : (ys.map fun y => (Value.ref y.2.1, y.2.2))[j]? = some (k, v) := hj
      rw [List.getElem?_map, Option.map_eq_some_iff] at hj
      exact hj
    cases e
    obtain ⟨b, hb, ht⟩ := hpr j y hy
    have eb : ps.getD j 0 = b := by rw [List.getD_eq_getElem?_getD, hb]; rfl
    refine ⟨?_, .inl ?_⟩
    · show (ps.map Value.ref).toArray[j]? = some (Value.ref (ps.getD j 0))
      rw [eb, List.getElem?_toArray, List.getElem?_map, hb]; rfl
    · show s.heap.IsTuple (ps.getD j 0) _
      rw [eb]
      exact ht
  refine call_dict_pairsH (knd := tupleKind (mixKind X.prog X.w)) (ps := ys) (PairArg.list a (ps.map Value.ref).toArray (fun j => ps.getD j 0) pv) (I.ok.hd hcalm) (by show X.A.units + 1 + 1 < cLine; omega) ok ⟨hpv.symm, fun i key v hr => ?_⟩ (fun h' kp x hx => ?_) (by rw [hpv, hl]; exact hz) fun h' tk hd' kp => ?_
  · have hr : pv[i]? = some (key, v) := hr
    have hr : (ys.map fun y => (Value.ref y.2.1, y.2.2))[i]? = some (key, v) := hr
    rw [List.getElem?_map, Option.map_eq_some_iff] at hr
    obtain ⟨y, hy, e⟩ := hr
    cases e
    exact ⟨y.1, y.2.1, hy, rfl⟩
  · obtain ⟨_, its, rv, o', ho', hc', n', hd'⟩ := I.hok _ _ (hys x hx)
    exact ⟨o', its.toArray, n', kp _ _ (Nat.ne_of_lt (Heap.lt_size ho')) List.not_mem_nil ho', hc', hd', by simpa using items_are rv⟩
  · have keep : ∀ b o, s.heap.get? b = some o → h'.get? b = some o := fun b o e => kp b o List.not_mem_nil e
    have hm : (s.heap.objs.size == sysModules) = false := beq_eq_false_iff_ne.mpr (Nat.ne_of_gt I.big)
    have fr := I.hok.fresh (Nat.le_refl s.heap.objs.size)
    have hp2 := relE_all (H := H) rel hk .nil
    have hlen : (mergeT [] (es.map fun e => (e.1, e.2.2))).length ≤ sizeLine := by
      rw [paired_len hp2]
      refine Nat.le_trans (storedAllH_length ys []) ?_
      rw [List.length_nil, Nat.zero_add, hl]; exact hz
    obtain ⟨o2, es2, ep2, d1, d2, d3, d4, d5, d6⟩ := hd'
    refine ⟨.ref s.heap.objs.size, upd H s.heap.objs.size (.dT (mergeT [] (es.map fun e => (e.1, e.2.2)))), I.laid (t' := tk) keep (Nat.le_refl _) ⟨hlen, hm, _, L2.Paired.mapP hp2 fun p q r => ⟨r.1, by rw [upd_ne (ne_of_none r.2.1 fr)]; exact r.2.1, r.2.2⟩, o2, es2, ep2, d1, d2, d3, d4, d6⟩, rfl, q _ fr⟩
end

/-! ### a dict of pairs, as data -/
def mergeG {κ : Type} [DecidableEq κ] (kvs more : List (κ × V)) : List (κ × V) := more.foldl (fun acc kv => putK acc kv.1 kv.2) kvs
section
variable {K : PySem.W.Frag} {Z : Addr → Prop} {H : Hp}
theorem mk_dct {κ : Type} [DecidableEq κ] {t : Bool} (f : List Key → κ) (inj : ∀ (ks : List (List Key)) (x : List Key), KsOk t ks → (t = false → ∃ y, x = [y]) → ∀ k ∈ ks, f k = f x → k = x) :
    ∀ (ps : List (List Key × D)) (ws : List V) (ks : List (List Key)) (ds : List D) (xs : List V), (∀ p ∈ ps, t = false → ∃ y, p.1 = [y]) → Reps K Z H (ps.map (·.2)) ws [] → KsOk t ks → ks.length = xs.length → Reps K Z H ds xs [] →
    ∃ ks' ds' xs', mkDct t ps ks ds = .dct true t ks' ds' ∧ KsOk t ks' ∧ ks'.length = xs'.length ∧ Reps K Z H ds' xs' [] ∧ mergeG ((ks.map f).zip xs) (((ps.map (·.1)).map f).zip ws) = (ks'.map f).zip xs'
  | [], ws, ks, ds, xs, _, _, ok, hl, r => ⟨ks, ds, xs, rfl, ok, hl, r, rfl⟩
  | (k, d) :: ps, ws, ks, ds, xs, h1, rw_, ok, hl, r => by
    rw [List.map_cons, Reps] at rw_
    obtain ⟨w, ws', T, U, rfl, e2, r1, r2⟩ := rw_
    have e2 := List.append_eq_nil_iff.mp e2.symm
    rw [e2.1] at r1; rw [e2.2] at r2
    have hk := h1 (k, d) List.mem_cons_self
    have okn : KsOk t (dPutK ks k) := by
      unfold dPutK
      cases e : kIx ks k with
      | some j => exact ok
      | none =>
        refine ⟨?_, fun ht x hx => ?_⟩
        · rw [List.nodup_append]
          exact ⟨ok.nd, List.nodup_cons.mpr ⟨List.not_mem_nil, List.nodup_nil⟩, fun x hx y hy e2 => kIx_none e (by rw [List.mem_singleton] at hy; rw [← hy, ← e2]; exact hx)⟩
        · rcases List.mem_append.mp hx with hx | hx
          · exact ok.one ht x hx
          · rw [List.mem_singleton.mp hx]; exact hk ht
    obtain ⟨ks', ds', xs', a1, a2, a3, a4, a5⟩ := mk_dct f inj ps ws' (dPutK ks k) (dPutV ks ds k d) (vPut ks xs k w) (fun p hp => h1 p (List.mem_cons_of_mem _ hp)) r2 okn (len_put hl) (reps_put r r1)
    refine ⟨ks', ds', xs', a1, a2, a3, a4, ?_⟩
    rw [← a5]
    show mergeG (putK ((ks.map f).zip xs) (f k) w) _ = _
    rw [putK_zip f ks xs k w hl (inj ks k ok hk) ok.nd]
    congr 1
    unfold dPutK vPut
    cases kIx ks k <;> rfl
end
/-- a built-in as a value -/
def BF.val : BF → Value
  | .len => .builtin "len" | .abs => .builtin "abs" | .min => .builtin "min" | .max => .builtin "max" | .sorted => .builtin "sorted" | .all => .builtin "all" | .any => .builtin "any" | .sum => .builtin "sum" | .repr => .builtin "repr"
  | .int => .type "int" | .tuple => .type "tuple" | .list => .type "list" | .dictK => .type "dict" | .dictT => .type "dict" | .str => .type "str" | .min1 => .builtin "min" | .max1 => .builtin "max"

mutual
theorem hasDict_toP : ∀ d : D, (toP d).hasDict = false
  | .un => rfl | .non => rfl | .bl _ => rfl | .int _ => rfl | .str _ => rfl | .raw _ => rfl | .dct _ _ _ _ => rfl | .ins _ _ _ _ => rfl
  | .tup ds => by rw [toP, PyData.hasDict]; exact hasDict_toPs ds
  | .ptp ds => by rw [toP, PyData.hasDict]; exact hasDict_toPs ds
  | .lst _ ds => by rw [toP, PyData.hasDict]; exact hasDict_toPs ds
  | .scr ds => by rw [toP, PyData.hasDict]; exact hasDict_toPs ds
theorem hasDict_toPs : ∀ ds : List D, PyData.hasDictAll (toPs ds) = false
  | [] => rfl
  | d :: ds => by rw [toPs, PyData.hasDictAll, hasDict_toP d, hasDict_toPs ds]; rfl
end

section
variable {X : Cx}
theorem one1 {f : D → (D → Prop) → Prop} {id : Value} (h : ∀ (pins : List (Addr × Obj)) (s : Shared) (σ : L2.St) (H : Hp) (x : V) (u : Value) (Q : VK) (d : D) (S : List Addr) (Z : Addr → Prop) (post : D → Prop), Inv X pins σ H s → RelV x u → Rep X.K Z H d x S → f d post →
    (∀ rd v H' S', (∀ b o, H b = some o → H' b = some o) → Rep X.K Z H' rd v S' → S'.Nodup → (∀ b ∈ S', H b = none) → post rd → Q v H') → wpAny (model X.prog X.w) X.A (call id [u]) (EP X pins σ Q) X.xe s) :
    CallR X id (fun vs H Q => rD X.K (un1 f) vs H Q) := by
  intro pins s σ H vs us Q I rv w
  obtain ⟨ds, Ss, Z, post, rl, w, k⟩ := w
  unfold un1 at w
  split at w
  · obtain ⟨v, S, e1, e2, r⟩ := RepL.one rl
    subst e1
    obtain ⟨u, rfl, ru⟩ := vals1 rv
    exact h pins s σ H v u Q _ S Z post I ru r w k
  · exact w.elim
theorem Vals.of1 {x : V} {u : Value} (r : RelV x u) : Vals [x] [u] := .cons r .nil
theorem len_ok : CallR X (.builtin "len") (fun vs H Q => rD X.K (bifS .len) vs H Q) := one1 fun pins s σ H x u Q d S Z post I ru r w k => by
  unfold lenS at w
  split at w
  · obtain ⟨a, xs, rfl, ha, q⟩ := rep_tup r
    exact call_len_seq pins s σ H _ _ Q I (Vals.of1 ru) ⟨a, xs, rfl, .inr ha, by rw [q.length]; exact tell k int_rep w⟩
  · obtain ⟨a, xs, _, rfl, ha, q⟩ := rep_lst r
    exact call_len_seq pins s σ H _ _ Q I (Vals.of1 ru) ⟨a, xs, rfl, .inl (.inl (.inl ha)), by rw [q.length]; exact tell k int_rep w⟩
  · obtain ⟨a, xs, rfl, ha, q⟩ := rep_scr r
    exact call_len_seq pins s σ H _ _ Q I (Vals.of1 ru) ⟨a, xs, rfl, .inl ha, by rw [q.length]; exact tell k int_rep w⟩
  · rw [rep_str r] at ru
    exact call_len_str pins s σ H _ _ Q I (Vals.of1 ru) ⟨_, rfl, w.1, tell k int_rep w.2⟩
  · obtain ⟨a, xs, _, rfl, ha, ⟨ok, hl⟩, q⟩ := rep_dct r
    rename_i oo t ks ds _
    cases t with
    | false =>
      have e : ((ks.map headK).zip xs).length = ks.length := by simp [List.length_zip]; omega
      exact call_lenD pins s σ H _ _ Q I (Vals.of1 ru) ⟨a, _, rfl, ha, by rw [e]; exact tell k int_rep w⟩
    | true =>
      have e : (ks.zip xs).length = ks.length := by simp [List.length_zip]; omega
      exact call_len_dT pins s σ H _ _ Q I (Vals.of1 ru) ⟨a, _, rfl, ha, by rw [e]; exact tell k int_rep w⟩
  · exact w.elim
theorem abs_ok : CallR X (.builtin "abs") (fun vs H Q => rD X.K (bifS .abs) vs H Q) := one1 fun pins s σ H x u Q d S Z post I ru r w k => by
  unfold absS at w
  split at w
  · rw [rep_int r] at ru
    exact call_abs pins s σ H _ _ Q I (Vals.of1 ru) ⟨_, rfl, tell k int_rep w⟩
  · exact w.elim
theorem int_ok : CallR X (.type "int") (fun vs H Q => rD X.K (bifS .int) vs H Q) := one1 fun pins s σ H x u Q d S Z post I ru r w k => by
  unfold intS at w
  split at w
  · rw [rep_int r] at ru
    exact call_int1 pins s σ H _ _ Q I (Vals.of1 ru) (.inl ⟨_, rfl, tell k int_rep w⟩)
  · rw [rep_bl r] at ru
    exact call_int1 pins s σ H _ _ Q I (Vals.of1 ru) (.inr ⟨_, rfl, tell k int_rep w⟩)
  · obtain ⟨n, hn, hl, w⟩ := w
    rw [rep_str r] at ru
    exact call_int_str pins s σ H _ _ Q I (Vals.of1 ru) ⟨_, n, rfl, hn, hl, tell k int_rep w⟩
  · exact w.elim
theorem two2 {f : D → D → (D → Prop) → Prop} {id : Value} (h : ∀ (pins : List (Addr × Obj)) (s : Shared) (σ : L2.St) (H : Hp) (x y : V) (us : List Value) (Q : VK) (d e : D) (S T : List Addr) (Z : Addr → Prop) (post : D → Prop), Inv X pins σ H s → Vals [x, y] us → Rep X.K Z H d x S → Rep X.K Z H e y T → f d e post →
    (∀ rd v H' S', (∀ b o, H b = some o → H' b = some o) → Rep X.K Z H' rd v S' → S'.Nodup → (∀ b ∈ S', H b = none) → post rd → Q v H') → wpAny (model X.prog X.w) X.A (call id us) (EP X pins σ Q) X.xe s) :
    CallR X id (fun vs H Q => rD X.K (un2 f) vs H Q) := by
  intro pins s σ H vs us Q I rv w
  obtain ⟨ds, Ss, Z, post, rl, w, k⟩ := w
  unfold un2 at w
  split at w
  · obtain ⟨v, v2, S, T, e1, e2, r1, r2⟩ := RepL.two rl
    subst e1
    exact h pins s σ H v v2 us Q _ _ S T Z post I rv r1 r2 w k
  · exact w.elim
theorem pus_intsD : ∀ ns : List Int, pus (ns.map D.int) = true
  | [] => rfl
  | t :: ts => by rw [List.map_cons, pus, pus_intsD ts]; rfl
theorem min_ok (hc : X.calm = true) (hu : X.A.units + 128 < cLine) : CallR X (.builtin "min") (fun vs H Q => rD X.K (bifS .min) vs H Q) := two2 fun pins s σ H x y us Q d e S T Z post I rv r1 r2 w k => by
  unfold minS at w
  split at w
  · rw [rep_int r1, rep_int r2] at rv
    exact call_min2 hc pins s σ H _ us Q I rv ⟨_, _, rfl, tell k int_rep w⟩
  · obtain ⟨ns, ms, rfl, rfl, w⟩ := w
    obtain ⟨a, xs, rfl, ha, q1⟩ := rep_tup r1
    obtain ⟨b, ys, rfl, hb, q2⟩ := rep_tup r2
    rw [q1.ints] at ha
    rw [q2.ints] at hb
    refine cr_min2T hc (by omega) pins s σ H _ us Q I rv ⟨a, b, ns, ms, rfl, ha, hb, ?_⟩
    by_cases c : HT.lexLt ms ns = true
    · rw [if_pos c] at w ⊢
      exact tell k (r2.pure0 (by rw [pu]; exact pus_intsD ms)) w
    · rw [if_neg c] at w ⊢
      exact tell k (r1.pure0 (by rw [pu]; exact pus_intsD ns)) w
  · exact w.elim
theorem max_ok (hc : X.calm = true) : CallR X (.builtin "max") (fun vs H Q => rD X.K (bifS .max) vs H Q) := two2 fun pins s σ H x y us Q d e S T Z post I rv r1 r2 w k => by
  unfold maxS at w
  split at w
  · rw [rep_int r1, rep_int r2] at rv
    exact call_max2 hc pins s σ H _ us Q I rv ⟨_, _, rfl, tell k int_rep w⟩
  · exact w.elim
theorem tuple_ok : CallR X (.type "tuple") (fun vs H Q => rD X.K (bifS .tuple) vs H Q) := one1 fun pins s σ H x u Q d S Z post I ru r w k => by
  unfold tupleS at w
  split at w
  · obtain ⟨a, xs, _, rfl, ha, q⟩ := rep_lst r
    exact call_tuple_ofX pins s σ H _ _ Q I (Vals.of1 ru) ⟨a, xs, rfl, .inl ⟨.inl (.inl ha), tellT k (q.pure0 w.1) w.2⟩⟩
  · obtain ⟨a, xs, rfl, ha, q⟩ := rep_tup r
    exact call_tuple_ofX pins s σ H _ _ Q I (Vals.of1 ru) ⟨a, xs, rfl, .inr ⟨ha, tell k (r.pure0 (by rw [pu]; exact w.1)) w.2⟩⟩
  · exact w.elim
theorem list_ok : CallR X (.type "list") (fun vs H Q => rD X.K (bifS .list) vs H Q) := one1 fun pins s σ H x u Q d S Z post I ru r w k => by
  unfold listS at w
  split at w
  · obtain ⟨a, xs, _, rfl, ha, q⟩ := rep_lst r
    exact call_list_of pins s σ H _ _ Q I (Vals.of1 ru) ⟨a, xs, rfl, .inl (.inl (.inl ha)), tellL k (q.pure0 w.1) w.2⟩
  · obtain ⟨a, xs, rfl, ha, q⟩ := rep_tup r
    exact call_list_of pins s σ H _ _ Q I (Vals.of1 ru) ⟨a, xs, rfl, .inr ha, tellL k (q.pure0 w.1) w.2⟩
  · exact w.elim
theorem each_of {K : PySem.W.Frag} {Z : Addr → Prop} {H : Hp} : ∀ {ds : List D} {xs : List V} {its : List Value}, Vals xs its → Reps K Z H ds xs [] → PySem.W.EachIs (fun v d => ∃ y, RelV y v ∧ Rep K Z H d y []) its ds
  | [], _, _, h, r => by
    rw [Reps] at r
    rw [r.1] at h
    cases h; exact .nil
  | d :: ds, _, _, h, r => by
    rw [Reps] at r
    obtain ⟨v, ws, T, U, e1, e2, r1, r2⟩ := r
    subst e1
    have e2 := List.append_eq_nil_iff.mp e2.symm
    rw [e2.1] at r1; rw [e2.2] at r2
    cases h with
    | cons h1 h2 => exact .cons ⟨v, h1, r1⟩ (each_of h2 r2)
theorem of_each {K : PySem.W.Frag} {Z : Addr → Prop} {H : Hp} : ∀ {ds : List D} {its : List Value}, PySem.W.EachIs (fun v d => ∃ y, RelV y v ∧ Rep K Z H d y []) its ds → ∃ ys, Vals ys its ∧ Reps K Z H ds ys []
  | _, _, .nil => ⟨[], .nil, by rw [Reps]; exact ⟨rfl, rfl⟩⟩
  | _, _, .cons ⟨y, h1, r1⟩ t => by
    obtain ⟨ys, h2, r2⟩ := of_each t
    exact ⟨y :: ys, .cons h1 h2, by rw [Reps]; exact ⟨y, ys, [], [], rfl, rfl, r1, r2⟩⟩
theorem isPs_all {ds : List D} (h : isPs ds = true) : ∀ d ∈ ds, isP d = true := by
  induction ds with
  | nil => intro d hd; exact (nomatch hd)
  | cons e ds ih =>
    rw [isPs, Bool.and_eq_true] at h
    intro d hd
    rcases List.mem_cons.mp hd with rfl | hd
    · exact h.1
    · exact ih h.2 d hd
theorem each_readsD {pins : List (Addr × Obj)} {s : Shared} {σ : L2.St} {H : Hp} {Z : Addr → Prop} (I : Inv X pins σ H s) : ∀ {ds : List D} {its : List Value}, PySem.W.EachIs (fun v d => ∃ y, RelV y v ∧ Rep X.K Z H d y []) its ds → isPs ds = true → PySem.W.EachIs (fun v d => ∃ as, Reads s.heap v (toP d) as) its ds
  | _, _, .nil, _ => .nil
  | _, _, .cons ⟨y, h1, r1⟩ t, p => by
    rw [isPs, Bool.and_eq_true] at p
    obtain ⟨as, rd⟩ := Dp.reads I _ _ _ (Rep.dp _ _ _ r1 p.1) h1
    exact .cons ⟨as, rd⟩ (each_readsD I t p.2)
theorem leafR {K : PySem.W.Frag} {Z : Addr → Prop} {H : Hp} (k : Key) : Rep K Z H (leafD k) (kV k) [] := by
  cases k with
  | inl i => show Rep K Z H (.int i) (.int i) []; rw [Rep]; exact ⟨rfl, rfl⟩
  | inr i => show Rep K Z H (.str i) (.str i) []; rw [Rep]; exact ⟨rfl, rfl⟩
theorem leavesR {K : PySem.W.Frag} {Z : Addr → Prop} {H : Hp} : ∀ ks : List Key, Reps K Z H (ks.map leafD) (ks.map kV) []
  | [] => by rw [List.map_nil, Reps]; exact ⟨rfl, rfl⟩
  | k :: ks => by rw [List.map_cons, Reps]; exact ⟨_, _, [], [], rfl, rfl, leafR k, leavesR ks⟩
theorem each_at {β : Type} {R : Value → β → Prop} : ∀ {us : List Value} {bs : List β}, us.length = bs.length → (∀ (j : Nat) (u : Value) (b : β), us[j]? = some u → bs[j]? = some b → R u b) → PySem.W.EachIs R us bs
  | [], [], _, _ => .nil
  | [], _ :: _, h, _ => by simp at h
  | _ :: _, [], h, _ => by simp at h
  | u :: us, b :: bs, h, f => .cons (f 0 u b rfl rfl) (each_at (by simpa using h) fun j y w h1 h2 => f (j + 1) y w (by simpa using h1) (by simpa using h2))
theorem keysZ {H : Hp} {ks : List (List Key)} {xs : List V} {ls : List (List Key × Addr × Value)} (pr : Paired (fun (p : List Key × V) (q : List Key × Addr × Value) => p.1 = q.1 ∧ H q.2.1 = some (.tup (p.1.map kV)) ∧ RelV p.2 q.2.2) (ks.zip xs) ls) {j : Nat} {b : List Key × Addr × Value} (h : ls[j]? = some b) (hl : ks.length ≤ xs.length) {k : List Key} (hk : ks[j]? = some k) : H b.2.1 = some (.tup (k.map kV)) := by
  induction ks generalizing xs ls j with
  | nil => cases hk
  | cons k0 ks ih =>
    cases xs with
    | nil => simp at hl
    | cons x xs =>
      rw [List.zip_cons_cons] at pr
      cases pr with
      | cons r t =>
        cases j with
        | zero =>
          cases h; cases hk
          exact r.2.1
        | succ j => exact ih t (by simpa using h) (by simpa using hl) (by simpa using hk)
theorem sorted_dct (hc : X.calm = true) (hu : X.A.units + 128 < cLine) {pins : List (Addr × Obj)} {s : Shared} {σ : L2.St} {H : Hp} {Q : VK} {o t : Bool} {ks : List (List Key)} {ds : List D} {x : V} {u : Value} {S : List Addr} {Z : Addr → Prop} {post : D → Prop}
    (I : Inv X pins σ H s) (ru : RelV x u) (r : Rep X.K Z H (.dct o t ks ds) x S) (ok : SortOk (keysD t ks)) (w : post (.lst true (sortD (keysD t ks))))
    (k : ∀ rd v H' S', (∀ b o, H b = some o → H' b = some o) → Rep X.K Z H' rd v S' → S'.Nodup → (∀ b ∈ S', H b = none) → post rd → Q v H') : wpAny (model X.prog X.w) X.A (call (.builtin "sorted") [u]) (EP X pins σ Q) X.xe s := by
  obtain ⟨a, xs, T, rfl, ha, ⟨kok, hl⟩, q⟩ := rep_dct r
  obtain rfl : u = Value.ref a := ru
  have key : ∀ (bs : List D), keysD t ks = bs → ∀ (col : ∀ R' : List Value → Shared → Prop, (∀ (h' : Heap) (tk : Nat) (vs : List Value), (∀ b o, s.heap.get? b = some o → h'.get? b = some o) → PySem.W.EachIs (fun v d => ∃ y, RelV y v ∧ Rep X.K Z H d y []) vs bs → vs.length ≤ sizeLine → R' vs { s with heap := h', toks := tk }) → wpAny (model X.prog X.w) X.A.in1 (collect (.ref a)) R' X.xe s),
      wpAny (model X.prog X.w) X.A (call (.builtin "sorted") [.ref a]) (EP X pins σ Q) X.xe s := by
    intro bs eb col
    rw [eb] at ok w
    refine DLS.sorted_coll (R := fun v d => ∃ y, RelV y v ∧ Rep X.K Z H d y []) (bs := bs) (enc := toP) (fun R' kk => col R' fun h' tk vs kp e hz => kk h' tk vs kp e (each_readsD I e ok.p) hz) ok.al ok.so (fun b hb => by have := ok.de b hb; omega) fun h0 h' tk p out ep kp kp2 le at_ eo => ?_
    obtain ⟨ys, v2, r2⟩ := of_each eo
    have l2 := r2.length
    have l3 : (sortD bs).length = bs.length := List.length_mergeSort bs
    have I1 : Inv X pins σ H { s with heap := h0, toks := s.toks } := I.kept kp
    have hz : bs.length ≤ sizeLine := by
      have e1 : bs.length = ks.length := by rw [← eb]; cases t <;> exact List.length_map _
      have e2 : xs.length ≤ sizeLine := by
        cases t with
        | false =>
          have := (dk_of I.hok ha).1
          rw [List.length_zip, List.length_map] at this; omega
        | true =>
          have := (show ObjOk X.prog X.w H s.heap a (.dT (ks.zip xs)) from I.hok a _ ha).1
          rw [List.length_zip] at this; omega
      omega
    exact ⟨.ref p, upd H p (.lst ys), I1.laid (t' := tk) kp2 le ⟨by rw [l2]; unfold sortD at l3; rw [l3]; exact hz, out, ep, v2, at_⟩, rfl, tellL k r2 w p (I1.hok.fresh le)⟩
  cases t with
  | false =>
    obtain ⟨z, lo, vs, rel, dd⟩ := dk_of I.hok ha
    obtain ⟨ep, hat⟩ := dd.dictAt
    have hv : vs.length = ks.length := by
      have e := Paired.length rel
      rw [List.length_zip, List.length_map] at e; omega
    have hkeys : vs.map (·.1) = ks.map headK := by
      have e := rel.keys
      rw [List.map_fst_zip (by rw [List.length_map]; omega)] at e
      exact e.symm
    refine key (ks.map fun k => leafD (headK k)) rfl fun R' kk => ?_
    refine PySem.W.kdu_collect (A := X.A.in1) (PySem.W.kdl_dict (knd := mixKind X.prog X.w) (kvs := vs) (ep := ep) lo) (I.ok.hd hc) hat (by rw [List.length_zip, List.length_map] at z; omega) fun h' tk acc hk hacc => ?_
    have al : acc.toList.length = ks.length := by rw [Array.length_toList, hacc.1, hv]
    refine kk h' tk acc.toList hk (each_at (by rw [al, List.length_map]) fun j u b hu hb => ?_) (by rw [al]; rw [List.length_zip, List.length_map] at z; omega)
    obtain ⟨k1, y, e1, e2⟩ := hacc.2 j u (by rw [← Array.getElem?_toList]; exact hu)
    have e3 : (vs.map (·.1))[j]? = some k1 := by rw [List.getElem?_map, e1]; rfl
    rw [hkeys] at e3
    have e4 : (ks.map fun k => leafD (headK k)) = (ks.map headK).map leafD := by rw [List.map_map]; rfl
    rw [e4, List.getElem?_map, e3] at hb
    obtain rfl : leafD k1 = b := Option.some.inj hb
    exact ⟨kV k1, keyIs_rel e2, leafR k1⟩
  | true =>
    obtain ⟨z, hs, ls, pr, ob, es, ep, ho, hx, hdt, he, hn⟩ := (show ObjOk X.prog X.w H s.heap a (.dT (ks.zip xs)) from I.hok a _ ha)
    have l1 : es.size = ls.length := size_of_entries he
    have l2 : (ks.zip xs).length = ls.length := Paired.length pr
    have l3 : (ks.zip xs).length = ks.length := by rw [List.length_zip]; omega
    refine key (ks.map fun k => .ptp (k.map leafD)) rfl fun R' kk => ?_
    refine PySem.W.kdu_collect (A := X.A.in1) (kdl_raw hs hx hdt) (I.ok.hd hc) ho (by omega) fun h' tk acc hk hacc => ?_
    have al : acc.toList.length = ks.length := by rw [Array.length_toList, hacc.1]; omega
    refine kk h' tk acc.toList hk (each_at (by rw [al, List.length_map]) fun j u b hu hb => ?_) (by omega)
    obtain ⟨en, hen, hv⟩ := hacc.2 j u (by rw [← Array.getElem?_toList]; exact hu)
    have qe := entry_at he j
    rw [hen] at qe
    cases hls : ls[j]? with
    | none => rw [hls] at qe; exact nomatch (show some en = none from qe)
    | some b3 =>
      rw [hls] at qe
      have e2 : en = entryOfKey (tupleKind (mixKind X.prog X.w)) b3 := Option.some.inj qe
      have e5 := keysZ pr hls
      rw [List.getElem?_map] at hb
      cases hkj : ks[j]? with
      | none => rw [hkj] at hb; cases hb
      | some k1 =>
        rw [hkj] at hb
        obtain rfl : D.ptp (k1.map leafD) = b := Option.some.inj hb
        have e6 := e5 (by omega) hkj
        refine ⟨.ref b3.2.1, by rw [hv, e2]; rfl, ?_⟩
        rw [Rep]
        exact ⟨_, _, rfl, e6, leavesR k1⟩
theorem sorted_ok (hc : X.calm = true) (hu : X.A.units + 128 < cLine) : CallR X (.builtin "sorted") (fun vs H Q => rD X.K (bifS .sorted) vs H Q) := one1 fun pins s σ H x u Q d S Z post I ru r w k => by
  have go : ∀ (T : String) (a : Addr) (ds : List D) (xs : List V) (its : List Value) (o : Obj) (n : Nat), u = .ref a → T = "list" ∨ T = "tuple" → s.heap.get? a = some o → o.cls = .type T → o.data = .seq its.toArray n → xs.length ≤ sizeLine → Vals xs its → Reps X.K Z H ds xs [] → SortOk ds → post (.lst true (sortD ds)) →
      wpAny (model X.prog X.w) X.A (call (.builtin "sorted") [u]) (EP X pins σ Q) X.xe s := fun T a ds xs its o n eu hT ho hc hd hL rv q ok w => by
    subst eu
    have e := each_of rv q
    have hl := q.length
    have hl2 := rv.length
    refine DLS.sorted_seq hT ho hc hd e (each_readsD I e ok.p) ok.al ok.so (by omega) (fun b hb => by have := ok.de b hb; omega) fun h' p out ep kp le le2 at_ eo => ?_
    obtain ⟨ys, v2, r2⟩ := of_each eo
    have l2 := r2.length
    have l3 : (sortD ds).length = ds.length := List.length_mergeSort ds
    exact ⟨.ref p, upd H p (.lst ys), I.laid (t' := s.toks) kp le ⟨by rw [l2]; unfold sortD at l3; rw [l3]; omega, out, ep, v2, at_⟩, rfl, tellL k r2 w p (I.hok.fresh le)⟩
  change sortedS d post at w
  unfold sortedS at w
  split at w
  · exact sorted_dct hc hu I ru r w.1 w.2 k
  · obtain ⟨a, xs, _, rfl, ha, q⟩ := rep_lst r
    obtain ⟨hz, its, n, rv, ho⟩ := I.hok a _ ha
    exact go "list" a _ xs its _ n ru (.inl rfl) ho rfl rfl hz rv (q.pure0 w.1.pu) w.1 w.2
  · obtain ⟨a, xs, rfl, ha, q⟩ := rep_tup r
    obtain ⟨its, rv, ht, hz⟩ := I.tuple ha
    obtain ⟨o, ho, hc, n, hd⟩ := ht
    exact go "tuple" a _ xs its o n ru (.inr rfl) ho hc hd hz rv (q.pure0 w.1.pu) w.1 w.2
  · exact w.elim
theorem all_ok (hc : X.calm = true) : CallR X (.builtin "all") (fun vs H Q => rD X.K (bifS .all) vs H Q) := one1 fun pins s σ H x u Q d S Z post I ru r w k => by
  unfold allS at w
  split at w
  · obtain ⟨bs, rfl, w⟩ := w
    obtain ⟨a, xs, _, rfl, ha, q⟩ := rep_lst r
    rw [q.bls] at ha
    exact cr_all hc pins s σ H _ _ Q I (Vals.of1 ru) ⟨a, bs, rfl, .inl (.inl ha), tell k bl_rep w⟩
  · exact w.elim
theorem any_ok (hc : X.calm = true) : CallR X (.builtin "any") (fun vs H Q => rD X.K (bifS .any) vs H Q) := one1 fun pins s σ H x u Q d S Z post I ru r w k => by
  unfold anyS at w
  split at w
  · obtain ⟨bs, rfl, w⟩ := w
    obtain ⟨a, xs, _, rfl, ha, q⟩ := rep_lst r
    rw [q.bls] at ha
    exact cr_any hc pins s σ H _ _ Q I (Vals.of1 ru) ⟨a, bs, rfl, .inl (.inl ha), tell k bl_rep w⟩
  · exact w.elim
theorem sum_ok (hc : X.calm = true) : CallR X (.builtin "sum") (fun vs H Q => rD X.K (bifS .sum) vs H Q) := one1 fun pins s σ H x u Q d S Z post I ru r w k => by
  unfold sumS at w
  split at w
  · obtain ⟨ns, rfl, w⟩ := w
    obtain ⟨a, xs, _, rfl, ha, q⟩ := rep_lst r
    rw [q.ints] at ha
    exact cr_sum hc pins s σ H _ _ Q I (Vals.of1 ru) ⟨a, ns, rfl, .inl (.inl ha), tell k int_rep w⟩
  · exact w.elim
theorem repr_ok (hg : X.A.guards = some []) (hu : X.A.units + 128 < cLine) : CallR X (.builtin "repr") (fun vs H Q => rD X.K (bifS .repr) vs H Q) := one1 fun pins s σ H x u Q d S Z post I ru r w k => by
  obtain ⟨hp, hs, hz, hd, w⟩ := w
  have dp := Rep.dp _ _ _ r hp
  obtain ⟨as, rd⟩ := Dp.reads I _ _ _ dp ru
  have fin : ∀ (h' : Heap) (t : Tok) (tk : Nat), (∀ b o, s.heap.get? b = some o → h'.get? b = some o) → EP X pins σ Q (.str (shownD d) t) { s with heap := h', toks := tk } := fun h' t tk hk => ⟨.str _, H, I.kept hk, ⟨t, rfl⟩, tell k str_rep w⟩
  have ref : ∀ a, x = .ref a → wpAny (model X.prog X.w) X.A (call (.builtin "repr") [u]) (EP X pins σ Q) X.xe s := fun a e => by
    subst e
    cases ru
    exact repr_of_reads' rd hs (PyData.noDict_hsm (hasDict_toP _)) hg (by omega) (fun _ _ e => e) (fun h' t tk hk => fin h' t tk hk) hz
  cases d with
  | un => cases hp
  | raw w => cases hp
  | dct _ _ _ _ => cases hp
  | ins _ _ _ _ => cases hp
  | non =>
    rw [rep_non r] at ru
    cases ru
    exact PySem.P.repr_of_none (fin s.heap _ _ fun _ _ e => e)
  | bl b =>
    rw [rep_bl r] at ru
    cases ru
    exact PySem.P.repr_of_bool (fin s.heap _ _ fun _ _ e => e)
  | int i =>
    rw [rep_int r] at ru
    obtain ⟨t, rfl⟩ := ru
    exact PySem.P.repr_of_int (of_decide_eq_true hs) (fin s.heap _ _ fun _ _ e => e)
  | str i =>
    rw [rep_str r] at ru
    obtain ⟨t, rfl⟩ := ru
    exact PySem.P.repr_of_str (fin s.heap _ _ fun _ _ e => e) hz
  | tup ds =>
    obtain ⟨a, vs, e, _⟩ := rep_tup r
    exact ref a e
  | ptp ds =>
    obtain ⟨a, vs, e, _⟩ := rep_ptp r
    exact ref a e
  | lst o ds =>
    obtain ⟨a, vs, _, e, _⟩ := rep_lst r
    exact ref a e
  | scr ds =>
    obtain ⟨a, vs, e, _⟩ := rep_scr r
    exact ref a e
theorem str_ok : CallR X (.type "str") (fun vs H Q => rD X.K (bifS .str) vs H Q) := one1 fun pins s σ H x u Q d S Z post I ru r w k => by
  change strS d post at w
  unfold strS at w
  split at w
  · rw [rep_bl r] at ru
    exact call_str_bl pins s σ H _ _ Q I (Vals.of1 ru) ⟨_, rfl, tell k str_rep w⟩
  · rw [rep_int r] at ru
    exact call_str_int pins s σ H _ _ Q I (Vals.of1 ru) ⟨_, rfl, w.1, tell k str_rep w.2⟩
  · exact w.elim
theorem min1_ok (hc : X.calm = true) : CallR X (.builtin "min") (fun vs H Q => rD X.K (bifS .min1) vs H Q) := one1 fun pins s σ H x u Q d S Z post I ru r w k => by
  change min1S d post at w
  unfold min1S at w
  split at w
  · obtain ⟨ns, rfl, hne, w⟩ := w
    obtain ⟨a, xs, _, rfl, ha, q⟩ := rep_lst r
    rw [q.ints] at ha
    exact cr_min hc pins s σ H _ _ Q I (Vals.of1 ru) ⟨a, ns, rfl, .inl (.inl ha), hne, fun m h1 h2 => tell k int_rep (w m h1 h2)⟩
  · obtain ⟨ns, rfl, hne, w⟩ := w
    obtain ⟨a, xs, rfl, ha, q⟩ := rep_tup r
    rw [q.ints] at ha
    exact cr_minT hc pins s σ H _ _ Q I (Vals.of1 ru) ⟨a, ns, rfl, ha, hne, fun m h1 h2 => tell k int_rep (w m h1 h2)⟩
  · exact w.elim
theorem max1_ok (hc : X.calm = true) : CallR X (.builtin "max") (fun vs H Q => rD X.K (bifS .max1) vs H Q) := one1 fun pins s σ H x u Q d S Z post I ru r w k => by
  change max1S d post at w
  unfold max1S at w
  split at w
  · obtain ⟨ns, rfl, hne, w⟩ := w
    obtain ⟨a, xs, _, rfl, ha, q⟩ := rep_lst r
    rw [q.ints] at ha
    exact cr_max hc pins s σ H _ _ Q I (Vals.of1 ru) ⟨a, ns, rfl, .inl (.inl ha), hne, fun m h1 h2 => tell k int_rep (w m h1 h2)⟩
  · exact w.elim
/-- the pairs of a list, as they stand -/
theorem pairs_rep {K : PySem.W.Frag} {Z : Addr → Prop} {H : Hp} {t : Bool} : ∀ {ds : List D} {ps : List (List Key × D)} {xs : List V}, pairsD t ds = some ps → Reps K Z H ds xs [] →
    ∃ (bs : List Addr) (ws : List V) (ys : List V), xs = bs.map V.ref ∧ Reps K Z H (ps.map (·.2)) ws [] ∧ (∀ p ∈ ps, t = false → ∃ y, p.1 = [y]) ∧
      (t = false → Paired (fun p kv => SqT K H p [kV kv.1, kv.2]) bs (((ps.map (·.1)).map headK).zip ws)) ∧
      (t = true → ∃ es : List (List Key × Addr × V), Paired (PairT H) bs es ∧ (es.map fun e => (e.1, e.2.2)) = (ps.map (·.1)).zip ws)
  | [], ps, xs, h, r => by
    cases h
    rw [Reps] at r
    exact ⟨[], [], [], r.1, Reps.nil, fun p hp => (nomatch hp), fun _ => .nil, fun _ => ⟨[], .nil, rfl⟩⟩
  | d :: ds, ps, xs, h, r => by
    rw [Reps] at r
    obtain ⟨v, ws, T, U, rfl, e2, r1, r2⟩ := r
    have e2 := List.append_eq_nil_iff.mp e2.symm
    rw [e2.1] at r1; rw [e2.2] at r2
    unfold pairsD at h
    split at h
    · rename_i h0; cases h0
    · rename_i x vd rest h0
      cases h0
      cases e3 : keyD t x with
      | none => rw [e3] at h; cases h
      | some kk =>
        cases e4 : pairsD t ds with
        | none => rw [e3, e4] at h; cases h
        | some ps' =>
          rw [e3, e4] at h
          cases h
          obtain ⟨bs, ws2, _, rfl, q1, q2, q3, q4⟩ := pairs_rep e4 r2
          obtain ⟨b, us, rfl, hb, qq⟩ := rep_ptp r1
          rw [Reps] at qq
          obtain ⟨kv, us', T1, U1, rfl, f2, k1, qq⟩ := qq
          have f2 := List.append_eq_nil_iff.mp f2.symm
          rw [f2.1] at k1; rw [f2.2] at qq
          rw [Reps] at qq
          obtain ⟨vv, us'', T2, U2, rfl, f3, k2, qq⟩ := qq
          have f3 := List.append_eq_nil_iff.mp f3.symm
          rw [f3.1] at k2
          rw [Reps] at qq
          rw [qq.1] at hb
          refine ⟨b :: bs, vv :: ws2, [], rfl, by rw [List.map_cons]; exact Reps.cons k2 q1, fun p hp ht => ?_, fun ht => ?_, fun ht => ?_⟩
          · rcases List.mem_cons.mp hp with rfl | hp
            · subst ht
              obtain ⟨y, e, _⟩ := keyD_false e3
              exact ⟨y, e⟩
            · exact q2 p hp ht
          · subst ht
            obtain ⟨y, e, hy⟩ := keyD_false e3
            subst e
            rw [List.map_cons, List.map_cons, List.zip_cons_cons]
            refine .cons ?_ (q3 rfl)
            have : kv = kV y := leaf_rep hy k1
            rw [this] at hb
            exact .inl (.inl hb)
          · subst ht
            obtain ⟨es, e5, e6⟩ := q4 rfl
            obtain ⟨ds', rfl, hl⟩ := keyD_true e3
            obtain ⟨c, cs, rfl, hc, qc⟩ := rep_ptp k1
            refine ⟨(kk, c, vv) :: es, .cons ⟨hb, by rw [hc, leaves_rep hl qc]⟩ e5, ?_⟩
            rw [List.map_cons, List.map_cons, List.zip_cons_cons, e6]
    · cases h
theorem tellG {K : PySem.W.Frag} {Z : Addr → Prop} {H : Hp} {post : D → Prop} {Q : VK} {t : Bool} {ks : List (List Key)} {ds : List D} {xs : List V}
    (k : ∀ rd v H' S', (∀ b o, H b = some o → H' b = some o) → Rep K Z H' rd v S' → S'.Nodup → (∀ b ∈ S', H b = none) → post rd → Q v H') (ok : KsOk t ks) (hl : ks.length = xs.length) (r : Reps K Z H ds xs []) (w : post (.dct true t ks ds)) :
    ∀ p, H p = none → Q (.ref p) (upd H p (dHO t ks xs)) := fun p hp => by
  refine k _ _ _ [p] (laid_same hp) ?_ (List.nodup_cons.mpr ⟨List.not_mem_nil, List.nodup_nil⟩) (fun b hb => by rw [List.mem_singleton] at hb; rw [hb]; exact hp) w
  rw [Rep]
  exact ⟨p, xs, [], rfl, upd_same, ⟨ok, hl⟩, rfl, r.keep (laid_same hp)⟩
theorem dictK_ok (hc : X.calm = true) : CallR X (.type "dict") (fun vs H Q => rD X.K (bifS .dictK) vs H Q) := one1 fun pins s σ H x u Q d S Z post I ru r w k => by
  change dictS false d post at w
  unfold dictS at w
  split at w
  · obtain ⟨ps, hps, hp, w⟩ := w
    obtain ⟨a, xs, _, rfl, ha, q⟩ := rep_lst r
    obtain ⟨bs, ws, _, e1, q1, q2, q3, _⟩ := pairs_rep hps (q.pure0 hp)
    rw [e1] at ha
    obtain ⟨ks', ds', xs', a1, a2, a3, a4, a5⟩ := mk_dct (K := X.K) (Z := Z) (H := H) (t := false) headK (fun ks x ok hx => by obtain ⟨y, rfl⟩ := hx rfl; exact head_inj ok) ps ws [] [] [] q2 q1 ⟨List.nodup_nil, fun _ x hx => (nomatch hx)⟩ rfl Reps.nil
    rw [a1] at w
    refine call_dictP hc pins s σ H _ _ Q I (Vals.of1 ru) ⟨a, bs, _, rfl, .inl (.inl ha), q3 rfl, ?_⟩
    have a5 : mergeK [] (((ps.map (·.1)).map headK).zip ws) = (ks'.map headK).zip xs' := a5
    rw [a5]
    exact tellG (t := false) k a2 a3 a4 w
  · exact w.elim
theorem dictT_ok (hc : X.calm = true) (hu : X.A.units + 128 < cLine) : CallR X (.type "dict") (fun vs H Q => rD X.K (bifS .dictT) vs H Q) := one1 fun pins s σ H x u Q d S Z post I ru r w k => by
  change dictS true d post at w
  unfold dictS at w
  split at w
  · obtain ⟨ps, hps, hp, w⟩ := w
    obtain ⟨a, xs, _, rfl, ha, q⟩ := rep_lst r
    obtain ⟨bs, ws, _, e1, q1, q2, _, q4⟩ := pairs_rep hps (q.pure0 hp)
    rw [e1] at ha
    obtain ⟨es, e5, e6⟩ := q4 rfl
    obtain ⟨ks', ds', xs', a1, a2, a3, a4, a5⟩ := mk_dct (K := X.K) (Z := Z) (H := H) (t := true) id (fun ks x ok hx k' _ e => e) ps ws [] [] [] q2 q1 ⟨List.nodup_nil, fun _ x hx => (nomatch hx)⟩ rfl Reps.nil
    rw [a1] at w
    refine call_dictT hc (by omega) pins s σ H _ _ Q I (Vals.of1 ru) ⟨a, bs, es, rfl, .inl (.inl ha), e5, ?_⟩
    rw [e6]
    have a5 : mergeT [] ((ps.map (·.1)).zip ws) = ks'.zip xs' := by
      simp only [List.map_id] at a5
      exact a5
    rw [a5]
    exact tellG (t := true) k a2 a3 a4 w
  · exact w.elim
/-- any built-in function or type -/
theorem bif_ok (hc : X.calm = true) (hg : X.A.guards = some []) (hu : X.A.units + 128 < cLine) (f : BF) : CallR X f.val (fun vs H Q => rD X.K (bifS f) vs H Q) := by
  cases f with
  | len => exact len_ok
  | abs => exact abs_ok
  | int => exact int_ok
  | min => exact min_ok hc hu
  | max => exact max_ok hc
  | tuple => exact tuple_ok
  | list => exact list_ok
  | sorted => exact sorted_ok hc hu
  | dictK => exact dictK_ok hc
  | dictT => exact dictT_ok hc hu
  | str => exact str_ok
  | min1 => exact min1_ok hc
  | max1 => exact max1_ok hc
  | all => exact all_ok hc
  | any => exact any_ok hc
  | sum => exact sum_ok hc
  | repr => exact repr_ok hg hu

/-! ### displays -/
theorem RepL.reps {K : PySem.W.Frag} {Z : Addr → Prop} {H : Hp} : ∀ {ds : List D} {vs : List V} {Ss : List (List Addr)}, RepL K Z H ds vs Ss → Reps K Z H ds vs Ss.flatten
  | [], _, _, ⟨e1, e2⟩ => by subst e1; subst e2; rw [Reps]; exact ⟨rfl, rfl⟩
  | d :: ds, _, _, ⟨v, ws, S, Us, e1, e2, r, t⟩ => by
    subst e1; subst e2
    rw [List.flatten_cons]
    exact Reps.cons r (RepL.reps t)
theorem used_up {K : PySem.W.Frag} {Z : Addr → Prop} {H H' : Hp} : ∀ {ds : List D} {vs : List V} {Ss : List (List Addr)}, RepL K Z H ds vs Ss → RepUL K Z H' (ds.map fun _ => D.un) vs (ds.map fun _ => ([] : List Addr))
  | [], _, _, ⟨e1, e2⟩ => ⟨e1, rfl⟩
  | d :: ds, _, _, ⟨v, ws, S, Us, e1, e2, r, t⟩ => ⟨v, ws, [], _, e1, rfl, .inl ⟨rfl, rfl⟩, used_up t⟩
theorem nils (ds : List D) : (ds.map fun _ => ([] : List Addr)).flatten = [] := by
  induction ds with
  | nil => rfl
  | cons d ds ih => rw [List.map_cons, List.flatten_cons, ih]; rfl
theorem tup_impl {K : PySem.W.Frag} : Impl K (fun vs H Q => vs.length ≤ sizeLine ∧ NewT H vs Q) (fun ds post => pkS .tup ds fun d => post d (ds.map fun _ => .un)) := by
  intro ds vs Ss H Z post Q rl nd nz al w k
  obtain ⟨hz, w⟩ := w
  refine ⟨by rw [RepL.length rl]; exact hz, fun p o ho hp => k (.tup ds) _ _ _ Z Ss.flatten (ds.map fun _ => []) ⟨used_up rl, ?_, ?_, fun b hb => ?_, fun b hb => ?_, Ext.laid hp, fun b z => ?_⟩ w⟩
  · rw [Rep]
    exact ⟨p, vs, rfl, .inl ⟨o, ho, upd_same⟩, (RepL.reps rl).keep (laid_same hp)⟩
  · rw [nils, List.append_nil]; exact nd
  · rw [nils, List.append_nil] at hb; exact nz b hb
  · rw [nils, List.append_nil] at hb; exact .inl hb
  · obtain ⟨o, e⟩ := al b z
    exact ⟨o, laid_same hp b o e⟩
theorem ptp_impl {K : PySem.W.Frag} : Impl K (fun vs H Q => vs.length ≤ sizeLine ∧ ∀ p, H p = none → Q (.ref p) (upd H p (.tup vs))) (fun ds post => pkS .ptp ds fun d => post d (ds.map fun _ => .un)) := by
  intro ds vs Ss H Z post Q rl nd nz al w k
  obtain ⟨hz, w⟩ := w
  refine ⟨by rw [RepL.length rl]; exact hz, fun p hp => k (.ptp ds) _ _ _ Z Ss.flatten (ds.map fun _ => []) ⟨used_up rl, ?_, ?_, fun b hb => ?_, fun b hb => ?_, Ext.laid hp, fun b z => ?_⟩ w⟩
  · rw [Rep]
    exact ⟨p, vs, rfl, upd_same, (RepL.reps rl).keep (laid_same hp)⟩
  · rw [nils, List.append_nil]; exact nd
  · rw [nils, List.append_nil] at hb; exact nz b hb
  · rw [nils, List.append_nil] at hb; exact .inl hb
  · obtain ⟨o, e⟩ := al b z
    exact ⟨o, laid_same hp b o e⟩
theorem lst_impl {K : PySem.W.Frag} : Impl K (fun vs H Q => vs.length ≤ sizeLine ∧ ∀ p, H p = none → Q (.ref p) (upd H p (.lst vs))) (fun ds post => pkS .lst ds fun d => post d (ds.map fun _ => .un)) := by
  intro ds vs Ss H Z post Q rl nd nz al w k
  obtain ⟨hz, w⟩ := w
  have np : ∀ p, H p = none → p ∉ Ss.flatten := fun p hp q => by
    obtain ⟨xs, e⟩ := Reps.own _ _ _ (RepL.reps rl) p q
    rw [hp] at e; cases e
  refine ⟨by rw [RepL.length rl]; exact hz, fun p hp => k (.lst true ds) _ _ _ Z (p :: Ss.flatten) (ds.map fun _ => []) ⟨used_up rl, ?_, ?_, fun b hb => ?_, fun b hb => ?_, Ext.laid hp, fun b z => ?_⟩ w⟩
  · rw [Rep]
    exact ⟨p, vs, _, rfl, upd_same, rfl, (RepL.reps rl).keep (laid_same hp)⟩
  · rw [nils, List.append_nil, List.nodup_cons]; exact ⟨np p hp, nd⟩
  · rw [nils, List.append_nil] at hb
    rcases List.mem_cons.mp hb with rfl | hb
    · intro z
      obtain ⟨o, e⟩ := al b z
      rw [hp] at e; cases e
    · exact nz b hb
  · rw [nils, List.append_nil] at hb
    rcases List.mem_cons.mp hb with rfl | hb
    · exact .inr hp
    · exact .inl hb
  · obtain ⟨o, e⟩ := al b z
    exact ⟨o, laid_same hp b o e⟩
end
end DL
/-! d.update(d2) -/
namespace DL
open PySem PySem.Spec PyProof.Rows L2
def mergeKK (kvs more : List (Key × V)) : List (Key × V) := more.foldl (fun acc kv => putK acc kv.1 kv.2) kvs
section
variable {X : Cx} {pins : List (Addr × Obj)} {σ : L2.St} {H : Hp} {s : Shared}
theorem kv_merge : ∀ {more : List (Key × V)} {vs2 : List (Key × Value)}, KV more vs2 → ∀ {kvs : List (Key × V)} {vs : List (Key × Value)}, KV kvs vs → KV (mergeKK kvs more) (merged vs vs2) := by
  intro more vs2 h
  induction h with
  | nil => intro kvs vs r; exact r
  | @cons p q _ _ h t ih =>
    intro kvs vs r
    show KV (mergeKK (putK kvs p.1 p.2) _) (merged (stored vs q.1 q.2) _)
    rw [h.1]
    exact ih (r.put q.1 h.2)
theorem relE_merge : ∀ {more : List (List Key × V)} {ys : List (List Key × Addr × Value)}, Paired (RelE H) more ys → ∀ {kvs : List (List Key × V)} {xs : List (List Key × Addr × Value)}, Paired (RelE H) kvs xs → Paired (RelE H) (mergeT kvs more) (storedAllH xs ys) := by
  intro more ys h
  induction h with
  | nil => intro kvs xs r; exact r
  | @cons p q _ _ h t ih =>
    intro kvs xs r
    refine ih (kvs := putK kvs p.1 p.2) (xs := storedH xs q.1 q.2.1 q.2.2) ?_
    rw [h.1]
    exact relE_put r (by rw [← h.1]; exact h.2.1) h.2.2
theorem len_mergeKK : ∀ (more kvs : List (Key × V)), (mergeKK kvs more).length ≤ kvs.length + more.length
  | [], kvs => Nat.le_refl _
  | p :: more, kvs => by
    have := len_mergeKK more (putK kvs p.1 p.2)
    have := length_putK kvs p.1 p.2
    show (mergeKK (putK kvs p.1 p.2) more).length ≤ _
    rw [List.length_cons]; omega
theorem len_mergeT : ∀ (more kvs : List (List Key × V)), (mergeT kvs more).length ≤ kvs.length + more.length
  | [], kvs => Nat.le_refl _
  | p :: more, kvs => by
    have := len_mergeT more (putK kvs p.1 p.2)
    have := length_putK kvs p.1 p.2
    show (mergeT (putK kvs p.1 p.2) more).length ≤ _
    rw [List.length_cons]; omega
theorem relE_hash {β : Type} {f : List Key → β} {l : List (List Key × V)} {m : List (List Key × Addr × Value)} (h : Paired (RelE H) l m) : (m.map fun x => f x.1) = l.map fun p => f p.1 := by
  induction h with
  | nil => rfl
  | cons h t ih => rw [List.map_cons, List.map_cons, ih, h.1]
def rDUpd (X : Cx) : V → List V → Hp → VK → Prop := fun x vs H Q => ∃ a b, x = .ref a ∧ vs = [.ref b] ∧ a ≠ b ∧
  ((∃ kvs more, H a = some (.dK kvs) ∧ H b = some (.dK more) ∧ kvs.length + more.length ≤ sizeLine ∧ Q .non (upd H a (.dK (mergeKK kvs more)))) ∨
   (∃ kvs more, H a = some (.dT kvs) ∧ H b = some (.dT more) ∧ kvs.length + more.length ≤ sizeLine ∧ (kvs = [] → (more.map fun p => (tupleKind (mixKind X.prog X.w)).hash p.1).Nodup) ∧ Q .non (upd H a (.dT (mergeT kvs more)))))
theorem mt_dupd (hu : X.A.units + 65 < cLine) : MtM X "dict.update" (rDUpd X) := by
  intro pins s σ H x xs v us Q I rx rs h
  obtain ⟨a, b, rfl, rfl, hab, h⟩ := h
  cases rx
  obtain ⟨u, rfl, ru⟩ := rs.one
  cases ru
  rcases h with ⟨kvs, more, ha, hb, hz, q⟩ | ⟨kvs, more, ha, hb, hz, hn, q⟩
  · obtain ⟨z, hd, vs, rel, dd⟩ := dk_of I.hok ha
    obtain ⟨z2, hd2, vs2, rel2, dd2⟩ := dk_of I.hok hb
    have l1 := rel.length
    have l2 := rel2.length
    refine call_meetsIn PySem.F.slot_dict_update dd.typeIs PySem.F.entry_dict_update (PySem.F.args_dict_update_2 _ _) (meets_dict_update (mixKind X.prog X.w) a b hab hd2) ⟨vs, vs2, dd, dd2, by omega, fun h' d1 d2 hs => ?_⟩
    have hl := len_mergeKK more kvs
    have he : ∃ q, h'.get? a = some q := let ⟨q, _, _, hq, _⟩ := d1; ⟨q, hq⟩
    exact ⟨.non, _, d_write (t' := s.toks) I (by rw [ha]; trivial) hs he (dk_new (by omega) hd (kv_merge rel2 rel) d1), rfl, q⟩
  · obtain ⟨z, hd, ys, rel, dd⟩ := dt_of I.hok ha
    obtain ⟨z2, hd2, ys2, rel2, dd2⟩ := dt_of I.hok hb
    have l1 := paired_len rel
    have l2 := paired_len rel2
    refine call_update_dictH (knd := tupleKind (mixKind X.prog X.w)) (tupleKind_room_in1 (by omega)) hab hd2 dd dd2 ?_ (by omega) fun h' d1 d2 hs => ?_
    · by_cases e : kvs = []
      · refine .inr ⟨fun x hx => ?_, ?_⟩
        · obtain ⟨p, hp, r⟩ := paired_mem rel2 x hx
          obtain ⟨_, its, _, o, h1, h2, _⟩ := I.hok _ _ r.2.1
          exact ⟨o, h1, h2⟩
        · have := hn e
          rw [relE_hash rel2]; exact this
      · refine .inl fun e2 => e ?_
        rw [e2] at l1
        exact List.length_eq_zero_iff.mp l1
    · have hl := len_mergeT more kvs
      have he : ∃ q, h'.get? a = some q := let ⟨q, _, _, hq, _⟩ := d1; ⟨q, hq⟩
      obtain ⟨o, es, ep, g1, g2, g3, g4, g5, g6⟩ := d1
      have rm := relE_merge rel2 rel
      refine ⟨.non, _, d_write (t' := s.toks) I (by rw [ha]; trivial) hs he ?_, rfl, q⟩
      refine ⟨by omega, hd, _, ?_, o, es, ep, g1, g2, g3, g4, g6⟩
      have up : ∀ {l : List (List Key × V)} {m : List (List Key × Addr × Value)}, Paired (RelE H) l m → Paired (fun (p : List Key × V) (q : List Key × Addr × Value) => p.1 = q.1 ∧ upd H a (.dT (mergeT kvs more)) q.2.1 = some (.tup (p.1.map kV)) ∧ RelV p.2 q.2.2) l m := by
        intro l m h
        induction h with
        | nil => exact .nil
        | cons h t ih =>
          refine .cons ⟨h.1, ?_, h.2.2⟩ ih
          rw [upd_ne (fun e => by have := h.2.1; rw [e, ha] at this; cases this)]
          exact h.2.1
      exact up rm
end
end DL
/-! slices that go backwards: xs[::-1], xs[:0:-1], of lists and tuples -/
namespace DL
theorem fm_all {α : Type} : ∀ ys : List α, (List.range ys.length).filterMap (fun j => ys[j]?) = ys
  | [] => rfl
  | y :: ys => by
    rw [List.length_cons, List.range_succ_eq_map, List.filterMap_cons, List.filterMap_map]
    show y :: (List.range ys.length).filterMap (fun j => ys[j]?) = _
    rw [fm_all ys]
theorem fm_congr {α β : Type} {f g : α → Option β} : ∀ {l : List α}, (∀ x ∈ l, f x = g x) → l.filterMap f = l.filterMap g
  | [], _ => rfl
  | x :: l, h => by
    rw [List.filterMap_cons, List.filterMap_cons, h x List.mem_cons_self, fm_congr fun y hy => h y (List.mem_cons_of_mem _ hy)]
theorem back_fm {α : Type} (xs : List α) (k : Nat) : (List.range (xs.length - k)).filterMap (fun j => xs[xs.length - 1 - j]?) = (xs.drop k).reverse := by
  have h := fm_all (xs.drop k).reverse
  rw [List.length_reverse, List.length_drop] at h
  refine Eq.trans ?_ h
  refine fm_congr fun j hj => ?_
  have hj := List.mem_range.mp hj
  rw [List.getElem?_reverse (by rw [List.length_drop]; exact hj), List.length_drop, List.getElem?_drop]
  congr 1; omega
end DL
namespace L2
open PySem PySem.Spec PyProof.Rows
/-- where a slice that goes backwards ends: to the front, or just behind the first -/
def hiOf (z : Bool) : Option Int := if z = true then some 0 else none
def kOf (z : Bool) : Nat := if z = true then 1 else 0
theorem adjust_back (z : Bool) (n : Nat) : ∃ hi, Builtin.Slice.sliceAdjust none (hiOf z) (-1) (n : Int) = ((n : Int) - 1, hi) ∧ Builtin.Slice.slicePlaces ((n : Int) - 1) hi (-1) = n - kOf z := by
  cases z with
  | false =>
    refine ⟨-1, rfl, ?_⟩
    unfold Builtin.Slice.slicePlaces kOf
    rw [if_neg (by omega)]
    split <;> simp <;> omega
  | true =>
    refine ⟨min 0 ((n : Int) - 1), rfl, ?_⟩
    unfold Builtin.Slice.slicePlaces kOf
    rw [if_neg (by omega)]
    split <;> simp <;> omega
theorem pick_back (xs : Array Value) (z : Bool) : ((List.range (xs.size - kOf z)).filterMap fun (m : Nat) => xs[(((xs.size : Int) - 1) + (m : Int) * (-1)).toNat]?).toArray = (xs.toList.drop (kOf z)).reverse.toArray := by
  have h := DL.back_fm xs.toList (kOf z)
  rw [Array.length_toList] at h
  rw [← h]
  congr 1
  refine DL.fm_congr fun j hj => ?_
  have hj := List.mem_range.mp hj
  have e : (((xs.size : Int) - 1) + (j : Int) * (-1)).toNat = xs.size - 1 - j := by omega
  rw [e, Array.getElem?_toList]
theorem list_back (xs : Array Value) (z : Bool) : slicePick xs none (hiOf z) (some (-1)) = (xs.toList.drop (kOf z)).reverse.toArray := by
  have h := DL.back_fm xs.toList (kOf z)
  rw [Array.length_toList] at h
  rw [← h]
  unfold slicePick
  have e : (sliceRange (sliceBounds none (hiOf z) (some (-1)) xs.size).1 (sliceBounds none (hiOf z) (some (-1)) xs.size).2.1 (sliceBounds none (hiOf z) (some (-1)) xs.size).2.2) = (List.range (xs.size - kOf z)).map fun j => xs.size - 1 - j := by
    have b : (sliceBounds none (hiOf z) (some (-1)) xs.size).1 = (xs.size : Int) - 1 ∧ (sliceBounds none (hiOf z) (some (-1)) xs.size).2.2 = -1 ∧
        (z = false → (sliceBounds none (hiOf z) (some (-1)) xs.size).2.1 = -1) ∧ (z = true → (sliceBounds none (hiOf z) (some (-1)) xs.size).2.1 = max (-1) (min 0 ((xs.size : Int) - 1))) := by
      cases z
      · exact ⟨rfl, rfl, fun _ => rfl, (fun e => nomatch e)⟩
      · exact ⟨rfl, rfl, (fun e => nomatch e), fun _ => rfl⟩
    obtain ⟨b1, b2, b3, b4⟩ := b
    rw [b1, b2]
    generalize (sliceBounds none (hiOf z) (some (-1)) xs.size).2.1 = hi at b3 b4
    unfold sliceRange
    rw [if_neg (by decide)]
    show (List.range (if (xs.size : Int) - 1 > hi then ((xs.size : Int) - 1 - hi - -1 - 1) / (- -1) else 0).toNat).map (fun k : Nat => ((xs.size : Int) - 1 + -1 * (k : Int)).toNat) = _
    have ec : (if (xs.size : Int) - 1 > hi then ((xs.size : Int) - 1 - hi - -1 - 1) / (- -1) else 0).toNat = xs.size - kOf z := by
      rw [show (- -1 : Int) = 1 by decide, Int.ediv_one]
      cases z with
      | false => rw [b3 rfl]; unfold kOf; split <;> simp <;> omega
      | true => rw [b4 rfl]; unfold kOf; split <;> simp <;> omega
    rw [ec]
    apply List.map_congr_left
    intro j hj
    have hj := List.mem_range.mp hj
    omega
  rw [e, List.filterMap_map]
  congr 1
  refine DL.fm_congr fun j hj => ?_
  show xs[xs.size - 1 - j]? = _
  rw [Array.getElem?_toList]
section
variable {prog : Program} {w : World} {A : Around} {E : Value → Shared → Prop} {s : Shared}
theorem sliceApplied_back {sl : Addr} {vl vu vs : Value} {z : Bool} {n : Nat} {Q : Int × Int × Nat → Shared → Prop} (hs : s.heap.IsSliceOf sl vl vu vs) (pl : IsPart vl none) (pu : IsPart vu (hiOf z)) (ps : IsPart vs (some (-1)))
    (h : Q ((n : Int) - 1, -1, n - kOf z) s) : wpAny (model prog w) A (Builtin.Slice.sliceApplied (.ref sl) (pure (n : Int))) Q E s := by
  obtain ⟨os, hos, hcs, hds⟩ := id hs
  unfold Builtin.Slice.sliceApplied Builtin.Slice.sliceFields
  refine wpAny_bind (wpAny_bind (wpAny_field hos hds (x := vl) rfl (wpAny_bind (wpAny_field hos hds (x := vu) rfl (wpAny_bind (wpAny_field hos hds (x := vs) rfl (wpAny_pure ?_)))))))
  refine wpAny_bind (HT.slicePart_ ps ?_)
  show wpAny _ _ (if ((-1 : Int) == 0) = true then _ else _) _ _ s
  rw [if_neg (by decide)]
  refine wpAny_bind (HT.slicePart_ pl (wpAny_bind (HT.slicePart_ pu (wpAny_bind (wpAny_pure ?_)))))
  obtain ⟨hi, e1, e2⟩ := adjust_back z n
  show wpAny _ _ (match Builtin.Slice.sliceAdjust none (hiOf z) (-1) (n : Int) with | (lo, hi) => pure (lo, (-1 : Int), Builtin.Slice.slicePlaces lo hi (-1))) _ _ s
  rw [e1]
  show wpAny _ _ (pure ((n : Int) - 1, (-1 : Int), Builtin.Slice.slicePlaces ((n : Int) - 1) hi (-1))) _ _ s
  rw [e2]
  exact wpAny_pure h
theorem getItem_tuple_back {t sl : Addr} {items : Array Value} {vl vu vs : Value} {z : Bool} {Q : Value → Shared → Prop} (ht : IsTup s.heap t items) (hs : s.heap.IsSliceOf sl vl vu vs) (pl : IsPart vl none) (pu : IsPart vu (hiOf z)) (ps : IsPart vs (some (-1)))
    (h : Q (.ref s.heap.objs.size) { s with heap := s.heap.push { cls := .type "tuple", data := .seq (items.toList.drop (kOf z)).reverse.toArray } })
    (hsz : items.size ≤ sizeLine) : wpAny (model prog w) A (getItem (.ref t) (.ref sl)) Q E s := by
  have htake : sizeOk (.seq (items.toList.drop (kOf z)).reverse.toArray) := by
    show (items.toList.drop (kOf z)).reverse.toArray.size ≤ sizeLine
    rw [List.size_toArray, List.length_reverse, List.length_drop, Array.length_toList]
    omega
  obtain ⟨os, hos, hcs, hds⟩ := id hs
  have hTs : s.TypeIs (.ref sl) "slice" := ⟨os, hos, hcs⟩
  unfold getItem
  try with_reducible refine wpAny_holding ?_
  first | refine wpAny_bind (wpAny_pure ?_) | skip
  refine wpAny_bind (wpAny_sequenceKey ht.typeIs (by decide) ?_)
  refine wpAny_bind (wpAny_callSpecial?_slot (name := Str.ofString "__getitem__") ht.typeIs PyProof.Rows.slot_tuple_getitem
    (wpAny_call_entry PyProof.Rows.slot_tuple_getitem ht.typeIs entry_tuple_getitem ?_ (args_tuple_getitem _ _)))
  show wpAny _ _ (Builtin.Tuple.tupleItemsOf (.ref t) >>= _) _ _ s
  refine wpAny_bind (tupleItemsOf_ ht ?_)
  refine wpAny_bind (wpAny_typeOf hTs ?_)
  rw [if_pos (by decide)]
  refine wpAny_bind (sliceApplied_back (z := z) (n := items.size) hs pl pu ps ?_)
  have hno : ¬ ((((items.size : Int) - 1) == 0 && (-1 : Int) == 1 && (items.size - kOf z) == items.size) = true) := by
    intro q
    rw [Bool.and_eq_true, Bool.and_eq_true] at q
    exact absurd q.1.2 (by decide)
  show wpAny _ _ (if (((items.size : Int) - 1) == 0 && (-1 : Int) == 1 && (items.size - kOf z) == items.size) = true then _ else _) _ _ s
  rw [if_neg hno, pick_back]
  first
    | exact wpAny_bind (m := Builtin.Tuple.tupleExact _) (wpAny_newObj_type (wpAny_pure ⟨_, rfl, wpAny_pure h⟩) htake)
    | exact wpAny_bind (m := Builtin.Tuple.tupleExact _) (wpAny_newObj_type (wpAny_bind (wpAny_pure (wpAny_pure ⟨_, rfl, wpAny_pure h⟩))) htake)
    | exact wpAny_bind (wpAny_bind (m := Builtin.Tuple.tupleExact _) (wpAny_newObj_type (wpAny_pure (wpAny_pure ⟨_, rfl, wpAny_pure h⟩)) htake))
    | exact wpAny_bind (wpAny_bind (m := Builtin.Tuple.tupleExact _) (wpAny_newObj_type (wpAny_pure ⟨_, rfl, wpAny_pure h⟩) htake))
end
section
variable {X : Cx}
def tBack (K : PySem.W.Frag) (z : Bool) (te : TE) : TE := fun σ H Q => te σ H fun x H1 => ∃ a xs, x = V.ref a ∧ ((SqL K H1 a xs ∧ ∀ p, H1 p = none → Q (.ref p) (upd H1 p (.lst (xs.drop (kOf z)).reverse))) ∨
  (SqT K H1 a xs ∧ NewT H1 (xs.drop (kOf z)).reverse Q))
theorem pe_back {z : Bool} {e : Expr} {te : TE} {hi : Option Expr} {th : TO} {k : Nat} {p1 p2 p3 pos : Pos} (he : PE X e te) (hu : PO X hi th) (hth : ∀ σ H (Q : Option Int → Hp → Prop), Q (hiOf z) H → th σ H Q) :
    PE X (.Subscript e (.Slice none hi (some (.UnaryOp .USub (.Constant (.int 1) k p1) p2)) p3) pos) (tBack X.K z te) := by
  refine ⟨fun pins s σ H Q I h => ?_⟩
  refine Subscript_ (thn (he.run pins s σ H _ I h) fun v s1 ⟨x, H1, I1, r1, q1⟩ => ?_)
  obtain ⟨a, xs, ex, hx⟩ := q1
  subst ex
  cases r1
  have hst : PO X (some (.UnaryOp .USub (.Constant (.int 1) k p1) p2)) (tPart (tUn (rU fun i => .int (-i)) (tC (.int 1)))) := po_some (pe_un un_neg pe_int)
  refine wpAny_Slice (thn (po_none.run pins s1 σ H1 (fun o H2 => o = none ∧ H2 = H1) I1 ⟨rfl, rfl⟩) fun vl s2 ⟨l, H2, I2, pl, el, e2⟩ => ?_)
  subst el e2
  refine thn (hu.run pins s2 σ H2 (fun o H3 => o = hiOf z ∧ H3 = H2) I2 (hth _ _ _ ⟨rfl, rfl⟩)) fun vu s3 ⟨u, H3, I3, pu, eu, e3⟩ => ?_
  subst eu e3
  refine thn (hst.run pins s3 σ H3 (fun o H4 => o = some (-1) ∧ H4 = H3) I3 ⟨1, rfl, -1, rfl, rfl, rfl⟩) fun vs s4 ⟨o, H4, I4, ps, eo, e4⟩ => ?_
  subst eo e4
  have I5 : Inv X pins σ H4 { s4 with heap := s4.heap.push { cls := .type "slice", data := .fields #[vl, vu, vs] } } := I4.kept (t' := s4.toks) fun b ob q => Heap.get?_push_of_some _ q
  show wpAny (model X.prog X.w) X.A (subscriptTail e (.Slice none hi (some (.UnaryOp .USub (.Constant (.int 1) k p1) p2)) p3) (.ref a) (.ref s4.heap.objs.size)) (EP X pins σ Q) X.xe { s4 with heap := s4.heap.push { cls := .type "slice", data := .fields #[vl, vu, vs] } }
  rcases hx with ⟨hx, q⟩ | ⟨hx, q⟩
  · obtain ⟨its, r, ht, hz⟩ := I5.list hx
    have hlen := r.length
    refine tail_any (ops := [.ref a, .ref s4.heap.objs.size]) ht.isList.typeIs (PySem.slot_list_getitem.lookup) ?_ (by with_unfolding_all rfl)
    refine wpAny_getItem_list_slice ht.isList (Heap.IsSliceOf.new _ vl vu vs) pl pu ps (by decide) ?_ (by rw [List.size_toArray]; omega)
    rw [list_back]
    refine ⟨.ref _, _, I5.laid (t' := s4.toks) (o := .lst (xs.drop (kOf z)).reverse) (fun b ob q => Heap.get?_push_of_some _ q) (Nat.le_refl _) ?_, rfl, q _ (I5.hok.fresh (Nat.le_refl _))⟩
    exact ⟨by rw [List.length_reverse, List.length_drop]; omega, _, 0, (r.drop (kOf z)).reverse, Heap.get?_push_size _ rfl⟩
  · obtain ⟨its, r, ht, hz⟩ := I5.tuple hx
    have hlen := r.length
    refine tail_any (ops := [.ref a, .ref s4.heap.objs.size]) ht.typeIs PyProof.Rows.slot_tuple_getitem.lookup ?_ (by with_unfolding_all rfl)
    refine getItem_tuple_back (z := z) ht (Heap.IsSliceOf.new _ vl vu vs) pl pu ps ?_ (by rw [List.size_toArray]; omega)
    exact I5.laidT (r.drop (kOf z)).reverse (by rw [List.length_reverse, List.length_drop]; omega) q
end
end L2
namespace DL
open PySem PySem.Spec PyProof.Rows L2
theorem Reps.reverse {K : PySem.W.Frag} {Z : Addr → Prop} {H : Hp} : ∀ {ds : List D} {vs : List V}, Reps K Z H ds vs [] → Reps K Z H ds.reverse vs.reverse []
  | [], vs, h => by
    rw [Reps] at h
    rw [h.1]; exact Reps.nil
  | d :: ds, vs, h => by
    rw [Reps] at h
    obtain ⟨v, ws, T, U, rfl, e, r1, r2⟩ := h
    have e := List.append_eq_nil_iff.mp e.symm
    rw [e.1] at r1; rw [e.2] at r2
    rw [List.reverse_cons, List.reverse_cons]
    exact (Reps.reverse r2).append (Reps.one r1)
end DL
/-! len(set(xs)), xs a list or a tuple of whole numbers -/
namespace DL
/-- how many there are: as many as the list is long, if it has none twice -/
def FewOf (ns : List Int) (c : Nat) : Prop := c ≤ ns.length ∧ (c = ns.length ↔ ns.Nodup)
/-- the different ones -/
def uniq (ns : List Int) : List Int := ns.foldl (fun acc x => if x ∈ acc then acc else acc ++ [x]) []
theorem uniq_is : ∀ (ns pre acc : List Int), acc.Nodup → (∀ x, x ∈ acc ↔ x ∈ pre) → acc.length ≤ pre.length → (acc.length = pre.length ↔ pre.Nodup) →
    ∃ out, ns.foldl (fun acc x => if x ∈ acc then acc else acc ++ [x]) acc = out ∧ out.Nodup ∧ (∀ x, x ∈ out ↔ x ∈ pre ++ ns) ∧ FewOf (pre ++ ns) out.length
  | [], pre, acc, h1, h2, h3, h4 => ⟨acc, rfl, h1, by simpa using h2, by rw [List.append_nil]; exact ⟨h3, h4⟩⟩
  | n :: ns, pre, acc, h1, h2, h3, h4 => by
    rw [List.foldl_cons]
    rw [show pre ++ n :: ns = (pre ++ [n]) ++ ns by rw [List.append_assoc]; rfl]
    by_cases c : n ∈ acc
    · rw [if_pos c]
      refine uniq_is ns (pre ++ [n]) acc h1 (fun x => ?_) (by rw [List.length_append]; omega) ?_
      · rw [List.mem_append, List.mem_singleton, h2]
        constructor
        · exact .inl
        · rintro (h | rfl)
          · exact h
          · exact (h2 _).mp c
      · rw [List.length_append, List.length_singleton]
        constructor
        · intro h; omega
        · intro h
          rw [List.nodup_append] at h
          exact absurd rfl (h.2.2 n ((h2 n).mp c) n (by simp))
    · rw [if_neg c]
      refine uniq_is ns (pre ++ [n]) (acc ++ [n]) ?_ (fun x => ?_) (by rw [List.length_append, List.length_append]; simpa using h3) ?_
      · rw [List.nodup_append]
        refine ⟨h1, by simp, fun a ha b hb e => ?_⟩
        rw [List.mem_singleton] at hb
        subst hb; subst e
        exact c ha
      · rw [List.mem_append, List.mem_append, h2]
      · rw [List.length_append, List.length_append, List.length_singleton]
        have c' : n ∉ pre := fun h => c ((h2 n).mpr h)
        constructor
        · intro h
          rw [List.nodup_append]
          refine ⟨h4.mp (by omega), by simp, fun a ha b hb e => ?_⟩
          rw [List.mem_singleton] at hb
          subst hb; subst e
          exact c' ha
        · intro h
          rw [List.nodup_append] at h
          have := h4.mpr h.1
          omega
theorem perm_of_mem {l m : List Int} (h1 : l.Nodup) (h2 : m.Nodup) (h : ∀ x, x ∈ l ↔ x ∈ m) : l.Perm m := by
  rw [List.perm_iff_count]
  intro a
  by_cases c : a ∈ l
  · rw [List.Nodup.count h1, List.Nodup.count h2, if_pos c, if_pos ((h a).mp c)]
  · rw [List.count_eq_zero.mpr c, List.count_eq_zero.mpr fun z => c ((h a).mpr z)]
theorem few_of {ns out : List Int} (h1 : out.Nodup) (h2 : ∀ x, x ∈ out ↔ x ∈ ns) : FewOf ns out.length := by
  obtain ⟨o, _, d, m, f⟩ := uniq_is ns [] [] List.nodup_nil (fun _ => Iff.rfl) (Nat.le_refl _) (by simp)
  rw [List.nil_append] at f m
  rw [(perm_of_mem h1 d fun x => (h2 x).trans (m x).symm).length_eq]
  exact f
end DL
namespace L2
open PySem PySem.Spec PyProof.Rows
theorem mem_firstMet (ns : List Int) : ∀ i, i ≤ ns.length → (firstMet (fun i => ns.getD i 0) i).Nodup ∧ ∀ x, x ∈ firstMet (fun i => ns.getD i 0) i ↔ x ∈ ns.take i
  | 0, _ => ⟨List.nodup_nil, fun x => by simp [firstMet]⟩
  | i + 1, hi => by
    have hlt : i < ns.length := hi
    have e : ns.getD i 0 = ns[i] := by rw [List.getD_eq_getElem?_getD, List.getElem?_eq_getElem hlt] <;> rfl
    obtain ⟨h1, h2⟩ := mem_firstMet ns i (Nat.le_of_lt hlt)
    rw [firstMet_succ, List.take_succ, List.getElem?_eq_getElem hlt]
    unfold step_dedup
    rw [e]
    by_cases c : (firstMet (fun i => ns.getD i 0) i).any (· == ns[i]) = true
    · rw [if_pos c]
      refine ⟨h1, fun x => ?_⟩
      obtain ⟨y, hy, ey⟩ := List.any_eq_true.mp c
      have ey := eq_of_beq ey
      subst ey
      rw [List.mem_append, ← h2]
      constructor
      · exact .inl
      · rintro (h | h)
        · exact h
        · simp at h; rw [h]; exact hy
    · rw [if_neg c]
      have c2 : ns[i] ∉ firstMet (fun i => ns.getD i 0) i := fun h => c (List.any_eq_true.mpr ⟨_, h, by simp⟩)
      refine ⟨?_, fun x => ?_⟩
      · rw [List.nodup_append]
        refine ⟨h1, by simp, fun a ha b hb e2 => ?_⟩
        rw [List.mem_singleton] at hb
        subst hb; subst e2
        exact c2 ha
      · rw [List.mem_append, List.mem_append, h2]; simp
section
variable {X : Cx}
def tLenSet (K : PySem.W.Frag) (ta : TE) : TE := fun σ H Q => ta σ H fun x H1 => ∃ (l : Addr) (ns : List Int), x = V.ref l ∧ (SqL K H1 l (ns.map V.int) ∨ SqT K H1 l (ns.map V.int)) ∧ ns.length ≤ 4000 ∧ ∀ c : Nat, DL.FewOf ns c → Q (.int c) H1
theorem pe_lenSet {a : Expr} {ta : TE} {p p2 q pos : Pos} (hc : X.calm = true) (hg : Gl X "len") (hm : X.mg "len" = none) (hg2 : Gl X "set") (hm2 : X.mg "set" = none) (ha : PE X a ta)
    (na : starEach [a] X.env = (false, eval a X.env) :: starEach [] X.env := by rfl) : PE X (.Call (.Name "len" p) [.Call (.Name "set" p2) [a] [] q] [] pos) (tLenSet X.K ta) := by
  refine ⟨fun pins s σ H Q I h => ?_⟩
  refine Call_ (ld_blt I hg hm PySem.boot_len ?_)
  refine PyProof.Rows.callWith_builtin1 (PyProof.Rows.args_cons ?_ rfl) rfl rfl
  refine Call_ (ld_blt I hg2 hm2 PyProof.Rows.boot_set ?_)
  refine PyProof.Rows.callWith_type1 (PyProof.Rows.args_cons (thn (ha.run pins s σ H _ I h) fun v s1 ⟨x, H1, I1, r1, q1⟩ => PyProof.Rows.args_nil ?_) na) na rfl
  obtain ⟨l, ns, rfl, hq, h1, q1⟩ := q1
  cases r1
  rcases hq with hq | hq
  · obtain ⟨its, r, pl, hz⟩ := I1.list hq
    have hl : its.toArray.size = ns.length := by rw [List.size_toArray, ← r.length, List.length_map]
    refine call_set_list (I1.ok.hd hc) pl.isList (ns := ns) (by simpa using r.ints) (by unfold scanBound; omega) fun h' tk hS hk => ?_
    obtain ⟨f1, f2⟩ := mem_firstMet ns ns.length (Nat.le_refl _)
    rw [List.take_length] at f2
    have fw := DL.few_of f1 f2
    rw [hl] at hS
    refine PyProof.Rows.args_nil ?_
    obtain ⟨o, es, ep, t, ho, hex, hd, _, _, _, hf, hn⟩ := hS
    have I2 : Inv X pins σ H1 { s1 with heap := h', toks := tk } := I1.kept fun b o e => hk b o (Heap.lt_size e) e
    refine call_len_set ho hex hd hf (by rw [hn]; have := fw.1; omega) ⟨.int (firstMet (fun i => ns.getD i 0) ns.length).length, H1, I2.tok _, ⟨_, by rw [hn]⟩, q1 _ fw⟩
  · obtain ⟨its, r, pt, hz⟩ := I1.tuple hq
    have hi : IntsAre its.toArray.toList ns := by simpa using r.ints
    refine call_set_tupI ns (I1.ok.hd hc) (show s1.heap.IsTuple l its.toArray from pt) hi (by unfold scanBound; omega) fun h' tk c R1 hcn k => ?_
    refine PyProof.Rows.args_nil ?_
    obtain ⟨o, es, ep, t, ho, hex, hdt, g, nd, hm2, hb, hf, hn, hr, hl2⟩ := R1
    have I2 : Inv X pins σ H1 { s1 with heap := h', toks := tk } := I1.kept fun b o e => k b o e
    have fw := DL.few_of (ns := ns) nd fun j => by rw [← hm2 j, decide_eq_true_eq]
    have el : (es.toList.map keyOf).length = c := by rw [List.length_map, Array.length_toList]; exact hn
    rw [el] at fw
    refine call_len_set ho hex hdt hf (by rw [hn]; have := fw.1; omega) ⟨.int c, H1, I2.tok _, ⟨_, by rw [hn]⟩, q1 _ fw⟩
end
end L2
namespace DL
open PySem PySem.Spec PyProof.Rows L2
section
variable {K : PySem.W.Frag} {Z : Addr → Prop} {H : Hp}
/-- an owned list is written: what stays -/
theorem Ext.write {M : Addr → Prop} {a : Addr} {xs ys : List V} (h : H a = some (.lst xs)) (hm : M a) : Ext M Z H Z (upd H a (.lst ys)) where
  keep := fun b o e n => by rw [upd_ne (fun z => by subst z; exact n hm)]; exact e
  there := fun b o e => by
    by_cases hb : b = a
    · subst hb; exact ⟨_, upd_same⟩
    · exact ⟨o, by rw [upd_ne hb]; exact e⟩
  tup := fun b o e => by rw [upd_ne (fun z => by subst z; rw [h] at e; cases e)]; exact e
  frz := fun b o u e => by rw [upd_ne (fun z => by subst z; rw [h] at e; cases e)]; exact e
  zm := fun _ z => z
  zn := fun _ z => .inl z
theorem rep_own {ds : List D} {v : V} {S : List Addr} (h : Rep K Z H (.lst true ds) v S) : ∃ a vs T, v = .ref a ∧ H a = some (.lst vs) ∧ S = a :: T ∧ Reps K Z H ds vs T := by rw [Rep] at h; exact h
/-- what is owned elsewhere stays when an owned list is written -/
theorem stab_write {a : Addr} {xs ys : List V} (h : H a = some (.lst xs)) (nz : ¬ Z a) : Stab Z H Z (upd H a (.lst ys)) (fun b => b ≠ a) where
  tup := fun b o e => by rw [upd_ne (fun z => by subst z; rw [h] at e; cases e)]; exact e
  frz := fun b o u e => by rw [upd_ne (fun z => by subst z; rw [h] at e; cases e)]; exact e
  z := fun _ z => z
  zo := fun b o z e => by rw [upd_ne (fun q => by subst q; exact nz z)]; exact e
  kp := fun b o z e => by rw [upd_ne z]; exact e
/-- .. of any kind but tuples and locked things -/
def Wr (o : HO) : Prop := (∀ xs, o ≠ .tup xs) ∧ ∀ ob u, o ≠ .frz ob u
theorem Ext.writeG {M : Addr → Prop} {a : Addr} {o o2 : HO} (h : H a = some o) (wr : Wr o) (hm : M a) : Ext M Z H Z (upd H a o2) where
  keep := fun b o e n => by rw [upd_ne (fun z => by subst z; exact n hm)]; exact e
  there := fun b o e => by
    by_cases hb : b = a
    · subst hb; exact ⟨_, upd_same⟩
    · exact ⟨o, by rw [upd_ne hb]; exact e⟩
  tup := fun b o e => by rw [upd_ne (fun z => by subst z; rw [h] at e; cases e; exact wr.1 _ rfl)]; exact e
  frz := fun b o u e => by rw [upd_ne (fun z => by subst z; rw [h] at e; cases e; exact wr.2 _ _ rfl)]; exact e
  zm := fun _ z => z
  zn := fun _ z => .inl z
theorem stab_writeG {a : Addr} {o o2 : HO} (h : H a = some o) (wr : Wr o) (nz : ¬ Z a) : Stab Z H Z (upd H a o2) (fun b => b ≠ a) where
  tup := fun b o e => by rw [upd_ne (fun z => by subst z; rw [h] at e; cases e; exact wr.1 _ rfl)]; exact e
  frz := fun b o u e => by rw [upd_ne (fun z => by subst z; rw [h] at e; cases e; exact wr.2 _ _ rfl)]; exact e
  z := fun _ z => z
  zo := fun b o z e => by rw [upd_ne (fun q => by subst q; exact nz z)]; exact e
  kp := fun b o z e => by rw [upd_ne z]; exact e
theorem wr_dct (t : Bool) (ks : List (List Key)) (vs : List V) : Wr (dHO t ks vs) := by
  cases t <;> exact ⟨fun _ e => (nomatch e), fun _ _ e => (nomatch e)⟩
theorem keyD_pu {t : Bool} {d : D} {k : List Key} (h : keyD t d = some k) : pu d = true := by
  have lv : ∀ (ds : List D) (ks : List Key), leavesK ds = some ks → pus ds = true := by
    intro ds
    induction ds with
    | nil => intro _ _; rfl
    | cons e ds ih =>
      intro ks h
      unfold leavesK at h
      cases e1 : leafK e with
      | none => rw [e1] at h; cases h
      | some k1 =>
        cases e2 : leavesK ds with
        | none => rw [e1, e2] at h; cases h
        | some k2 =>
          rw [pus, ih k2 e2]
          cases e <;> first | rfl | cases e1
  cases t with
  | false => obtain ⟨x, _, h⟩ := keyD_false h; cases d <;> first | rfl | cases h
  | true => obtain ⟨ds, rfl, h⟩ := keyD_true h; exact lv ds k h
theorem al_upd {a : Addr} {o : HO} (al : ∀ b, Z b → ∃ o, H b = some o) : ∀ b, Z b → ∃ o', upd H a o b = some o' := fun b z => by
  by_cases hb : b = a
  · subst hb; exact ⟨_, upd_same⟩
  · obtain ⟨o', e⟩ := al b z
    exact ⟨o', by rw [upd_ne hb]; exact e⟩

/-- another item in the j-th one's place -/
theorem Reps.put : ∀ {ds : List D} {vs : List V} {S : List Addr} (j : Nat), j < ds.length → Reps K Z H ds vs S →
    ∃ A B C, S = A ++ (B ++ C) ∧ ∀ (Z2 : Addr → Prop) (H2 : Hp) (e : D) (w : V) (T : List Addr), Stab Z H Z2 H2 (fun b => b ∈ A ∨ b ∈ C) → Rep K Z2 H2 e w T → Reps K Z2 H2 (ds.set j e) (vs.set j w) (A ++ (T ++ C))
  | [], _, _, _, h, _ => by simp at h
  | d :: ds, vs, S, 0, _, h => by
    rw [Reps] at h
    obtain ⟨v, ws, T, U, rfl, rfl, h1, h2⟩ := h
    exact ⟨[], T, U, rfl, fun Z2 H2 e w T' st r => show Reps K Z2 H2 (e :: ds) (w :: ws) (T' ++ U) from Reps.cons r (Reps.stab st _ _ _ h2 fun b hb => .inr hb)⟩
  | d :: ds, vs, S, j + 1, hj, h => by
    rw [Reps] at h
    obtain ⟨v, ws, T, U, rfl, rfl, h1, h2⟩ := h
    obtain ⟨A, B, C, e1, f⟩ := Reps.put j (by simpa using hj) h2
    refine ⟨T ++ A, B, C, by rw [e1, List.append_assoc], fun Z2 H2 e w T' st r => ?_⟩
    rw [List.append_assoc]
    exact Reps.cons (Rep.stab st _ _ _ h1 fun b hb => .inl (List.mem_append_left _ hb)) (f Z2 H2 e w T' (st.mono fun b hb => hb.imp (fun q => List.mem_append_right _ q) id) r)
/-- one item taken out -/
theorem Reps.take1 : ∀ {ds : List D} {vs : List V} {S : List Addr} (j : Nat) {d : D}, ds[j]? = some d → Reps K Z H ds vs S →
    ∃ v A B C, vs[j]? = some v ∧ S = A ++ (B ++ C) ∧ Rep K Z H d v B ∧ Reps K Z H (ds.eraseIdx j) (vs.eraseIdx j) (A ++ C)
  | [], _, _, _, _, h, _ => by simp at h
  | d :: ds, vs, S, 0, d', hd, h => by
    rw [Reps] at h
    obtain ⟨v, ws, T, U, rfl, rfl, h1, h2⟩ := h
    simp at hd; subst hd
    exact ⟨v, [], T, U, rfl, rfl, h1, h2⟩
  | d :: ds, vs, S, j + 1, d', hd, h => by
    rw [Reps] at h
    obtain ⟨v, ws, T, U, rfl, rfl, h1, h2⟩ := h
    obtain ⟨v', A, B, C, e0, e1, r, t⟩ := Reps.take1 j (by simpa using hd) h2
    refine ⟨v', T ++ A, B, C, by simpa using e0, by rw [e1, List.append_assoc], r, ?_⟩
    rw [List.append_assoc]
    exact Reps.cons h1 t
theorem pop_mem {a b : Addr} {A B C : List Addr} (h : b ∈ B ++ [a :: (A ++ C)].flatten) : b ∈ a :: (A ++ (B ++ C)) := by
  simp only [List.flatten_cons, List.flatten_nil, List.append_nil, List.mem_append, List.mem_cons] at h ⊢
  rcases h with h | h | h | h <;> simp [h]
theorem pop_nodup {a : Addr} {A B C : List Addr} (h : a ∉ A ++ (B ++ C) ∧ (A ++ (B ++ C)).Nodup) : (B ++ [a :: (A ++ C)].flatten).Nodup := by
  have e : [a :: (A ++ C)].flatten = a :: (A ++ C) := by simp
  rw [e]
  obtain ⟨h1, h2⟩ := h
  have h3 : (B ++ (A ++ C)).Nodup := by
    refine List.Perm.nodup ?_ h2
    rw [← List.append_assoc, ← List.append_assoc]
    exact List.Perm.append_right C List.perm_append_comm
  rw [List.nodup_append] at h3 ⊢
  refine ⟨h3.1, List.nodup_cons.mpr ⟨fun q => h1 (by simp only [List.mem_append] at q ⊢; rcases q with q | q <;> simp [q]), h3.2.1⟩, fun x hx y hy e => ?_⟩
  subst e
  rcases List.mem_cons.mp hy with rfl | hy
  · exact h1 (by simp [hx])
  · exact h3.2.2 x hx x hy rfl
theorem append_impl : Impl K (fun vs H Q => ∃ l y xs, vs = [.ref l, y] ∧ H l = some (.lst xs) ∧ xs.length < sizeLine ∧ Q .non (upd H l (.lst (xs ++ [y])))) appendS := by
  intro ds vs Ss H Z post Q rl nd nz al w k
  unfold appendS at w
  split at w
  · obtain ⟨hz, w⟩ := w
    obtain ⟨v, u, S, T, rfl, rfl, r1, r2⟩ := RepL.two rl
    obtain ⟨a, xs, U, rfl, ha, rfl, q⟩ := rep_own r1
    rename_i ds v
    simp only [List.flatten_cons, List.flatten_nil, List.append_nil] at nd nz
    have na := nd
    rw [List.cons_append, List.nodup_cons] at na
    have nza : ¬ Z a := nz a (by simp)
    have st := stab_write (ys := xs ++ [u]) ha nza
    refine ⟨a, u, xs, rfl, ha, by rw [q.length]; exact hz, k .non [.lst true (ds ++ [v]), .un] .non _ Z [] [a :: (U ++ T), []] ⟨?_, non_rep, ?_, ?_, ?_, ?_, al_upd al⟩ w⟩
    · refine ⟨_, _, _, _, rfl, rfl, .inr ?_, _, _, _, _, rfl, rfl, .inl ⟨rfl, rfl⟩, rfl, rfl⟩
      rw [Rep]
      refine ⟨a, xs ++ [u], _, rfl, upd_same, rfl, ?_⟩
      exact (Reps.stab st _ _ _ q fun b hb e => na.1 (e ▸ List.mem_append_left _ hb)).append (Reps.one (Rep.stab st _ _ _ r2 fun b hb e => na.1 (e ▸ List.mem_append_right _ hb)))
    · simpa using nd
    · intro b hb; exact nz b (by simpa using hb)
    · intro b hb; exact .inl (by simpa using hb)
    · exact Ext.write ha (by simp)
  · exact w.elim
theorem set_impl : Impl K (fun vs H Q => (∃ l y i xs j, vs = [y, .ref l, .int i] ∧ H l = some (.lst xs) ∧ ixN xs.length i = some j ∧ Q .non (upd H l (.lst (xs.set j y)))) ∨ ∃ l y i H', vs = [y, .ref l, i] ∧ DPut H l i y H' ∧ Q .non H') setS := by
  intro ds vs Ss H Z post Q rl nd nz al w k
  unfold setS at w
  split at w
  · obtain ⟨j, hj, w⟩ := w
    obtain ⟨u, v, i', T, S, U', rfl, rfl, r2, r1, r3⟩ := RepL.three rl
    obtain ⟨a, xs, U, rfl, ha, rfl, q⟩ := rep_own r1
    have e3 := rep_int r3
    have e4 : U' = [] := Rep.pure _ _ _ r3 rfl
    subst e3; subst e4
    rename_i v ds i
    simp only [List.flatten_cons, List.flatten_nil, List.append_nil] at nd nz
    rw [List.nodup_append] at nd
    obtain ⟨nT, nU, dTU⟩ := nd
    rw [List.nodup_cons] at nU
    have nza : ¬ Z a := nz a (by simp)
    have st := stab_write (ys := xs.set j u) ha nza
    have hjl : j < ds.length := (ixN_seq hj).2.1
    obtain ⟨A, B, C, g2, g4⟩ := Reps.put j hjl q
    subst g2
    have inU : ∀ b, b ∈ A ∨ b ∈ C → b ∈ A ++ (B ++ C) := fun b hb => by
      rcases hb with hb | hb
      · exact List.mem_append_left _ hb
      · exact List.mem_append_right _ (List.mem_append_right _ hb)
    have g5 := g4 Z (upd H a (.lst (xs.set j u))) v u T (st.mono fun b hb e => nU.1 (e ▸ inU b hb)) (Rep.stab st _ _ _ r2 fun b hb e => dTU b hb a (by simp) e)
    have mem : ∀ b, b ∈ a :: (A ++ (T ++ C)) → b ∈ T ++ a :: (A ++ (B ++ C)) := fun b hb => by
      simp only [List.mem_cons, List.mem_append] at hb ⊢
      rcases hb with h | h | h | h <;> simp [h]
    refine .inl ⟨a, u, i, xs, j, rfl, ha, by rw [q.length]; exact hj, k .non [.un, .lst true (ds.set j v), .int i] .non _ Z [] [[], a :: (A ++ (T ++ C)), []] ⟨?_, non_rep, ?_, ?_, ?_, ?_, al_upd al⟩ w⟩
    · refine ⟨_, _, _, _, rfl, rfl, .inl ⟨rfl, rfl⟩, _, _, _, _, rfl, rfl, .inr ?_, _, _, _, _, rfl, rfl, .inr int_rep, rfl, rfl⟩
      rw [Rep]
      exact ⟨a, xs.set j u, _, rfl, upd_same, rfl, g5⟩
    · have e : ([] : List Addr) ++ [[], a :: (A ++ (T ++ C)), []].flatten = a :: (A ++ (T ++ C)) := by simp
      rw [e, List.nodup_cons]
      refine ⟨fun hb => ?_, nodup_mid nU.2 nT fun b hb => .inr ⟨fun q => dTU b hb b (by simp [q]) rfl, fun q => dTU b hb b (by simp [q]) rfl⟩⟩
      simp only [List.mem_append] at hb
      rcases hb with h | h | h
      · exact nU.1 (by simp [h])
      · exact dTU a h a (by simp) rfl
      · exact nU.1 (by simp [h])
    · intro b hb; exact nz b (mem b (by simpa using hb))
    · intro b hb; exact .inl (by simpa using mem b (by simpa using hb))
    · exact Ext.write ha (by simp)
  · obtain ⟨hv, hp, hz, kk, hk, w⟩ := w
    obtain ⟨u, v', i', T, S, U', rfl, rfl, r2, r1, r3⟩ := RepL.three rl
    rename_i v t ks ds x
    rw [Rep] at r1
    obtain ⟨a, xs, T1, rfl, ha, ⟨ok, hl⟩, rfl, q⟩ := r1
    have e1 := Reps.pure _ _ _ q hp
    have e2 := Rep.pure _ _ _ r2 hv
    have e3 := Rep.pure _ _ _ r3 (keyD_pu hk)
    subst e1; subst e2; subst e3
    simp only [List.flatten_cons, List.flatten_nil, List.append_nil, List.nil_append] at nd nz
    have nza : ¬ Z a := nz a (by simp)
    have st := stab_writeG (o2 := dHO t (dPutK ks kk) (vPut ks xs kk u)) ha (wr_dct _ _ _) nza
    refine .inr ⟨a, u, i', _, rfl, dct_put ha ok hl hz hk r3, k .non [.un, .dct true t (dPutK ks kk) (dPutV ks ds kk v), x] .non _ Z [] [[], [a], []] ⟨?_, non_rep, ?_, ?_, ?_, ?_, al_upd al⟩ w⟩
    · refine ⟨_, _, _, _, rfl, rfl, .inl ⟨rfl, rfl⟩, _, _, _, _, rfl, rfl, .inr ?_, _, _, _, _, rfl, rfl, .inr (Rep.stab st _ _ _ r3 fun b hb => nomatch hb), rfl, rfl⟩
      rw [Rep]
      exact ⟨a, vPut ks xs kk u, [], rfl, upd_same, ⟨ksok_put ok hk, len_put hl⟩, rfl, reps_put (Reps.stab st _ _ _ q fun b hb => nomatch hb) (Rep.stab st _ _ _ r2 fun b hb => nomatch hb)⟩
    · simp
    · intro b hb; exact nz b (by simpa using hb)
    · intro b hb; exact .inl (by simpa using hb)
    · exact Ext.writeG ha (wr_dct _ _ _) (by simp)
  · exact w.elim
theorem index_impl : Impl K (fun vs H Q => ∃ (a : Addr) (ns : List Int) (x : Int), vs = [V.ref a, V.int x] ∧ H a = some (.lst (ns.map V.int)) ∧ x ∈ ns ∧ Q (.int (ns.idxOf x : Nat)) H) indexS := by
  intro ds vs Ss H Z post Q rl nd nz al w k
  unfold indexS at w
  split at w
  · rename_i o dd x
    obtain ⟨ns, e0, hx, w⟩ := w
    subst e0
    obtain ⟨v, u, S, T, rfl, rfl, r1, r2⟩ := RepL.two rl
    have e3 := rep_int r2
    have e4 : T = [] := Rep.pure _ _ _ r2 rfl
    subst e3; subst e4
    obtain ⟨a, xs, U, rfl, ha, q⟩ := rep_lst r1
    rw [q.ints] at ha
    refine ⟨a, ns, x, rfl, ha, hx, k (.int (ns.idxOf x : Nat)) [.lst o (ns.map D.int), .int x] _ H Z [] [S, []] ⟨?_, int_rep, ?_, ?_, ?_, Ext.refl, al⟩ w⟩
    · exact ⟨_, _, _, _, rfl, rfl, .inr r1, _, _, _, _, rfl, rfl, .inr int_rep, rfl, rfl⟩
    · simpa using nd
    · intro b hb; exact nz b (by simpa using hb)
    · intro b hb; exact .inl (by simpa using hb)
  · exact w.elim
theorem tindex_impl : Impl K (fun vs H Q => ∃ (a : Addr) (ns : List Int) (x : Int), vs = [V.ref a, V.int x] ∧ SqT K H a (ns.map V.int) ∧ x ∈ ns ∧ Q (.int (ns.idxOf x : Nat)) H) tindexS := by
  intro ds vs Ss H Z post Q rl nd nz al w k
  unfold tindexS at w
  split at w
  · rename_i dd x
    obtain ⟨ns, e0, hx, w⟩ := w
    subst e0
    obtain ⟨v, u, S, T, rfl, rfl, r1, r2⟩ := RepL.two rl
    have e3 := rep_int r2
    have e4 : T = [] := Rep.pure _ _ _ r2 rfl
    subst e3; subst e4
    obtain ⟨a, xs, rfl, ha, q⟩ := rep_tup r1
    rw [q.ints] at ha
    refine ⟨a, ns, x, rfl, ha, hx, k (.int (ns.idxOf x : Nat)) [.tup (ns.map D.int), .int x] _ H Z [] [S, []] ⟨?_, int_rep, ?_, ?_, ?_, Ext.refl, al⟩ w⟩
    · exact ⟨_, _, _, _, rfl, rfl, .inr r1, _, _, _, _, rfl, rfl, .inr int_rep, rfl, rfl⟩
    · simpa using nd
    · intro b hb; exact nz b (by simpa using hb)
    · intro b hb; exact .inl (by simpa using hb)
  · exact w.elim
theorem tcount_impl : Impl K (fun vs H Q => ∃ (a : Addr) (ns : List Int) (x : Int), vs = [V.ref a, V.int x] ∧ SqT K H a (ns.map V.int) ∧ Q (.int (ns.count x : Nat)) H) tcountS := by
  intro ds vs Ss H Z post Q rl nd nz al w k
  unfold tcountS at w
  split at w
  · rename_i dd x
    obtain ⟨ns, e0, w⟩ := w
    subst e0
    obtain ⟨v, u, S, T, rfl, rfl, r1, r2⟩ := RepL.two rl
    have e3 := rep_int r2
    have e4 : T = [] := Rep.pure _ _ _ r2 rfl
    subst e3; subst e4
    obtain ⟨a, xs, rfl, ha, q⟩ := rep_tup r1
    rw [q.ints] at ha
    refine ⟨a, ns, x, rfl, ha, k (.int (ns.count x : Nat)) [.tup (ns.map D.int), .int x] _ H Z [] [S, []] ⟨?_, int_rep, ?_, ?_, ?_, Ext.refl, al⟩ w⟩
    · exact ⟨_, _, _, _, rfl, rfl, .inr r1, _, _, _, _, rfl, rfl, .inr int_rep, rfl, rfl⟩
    · simpa using nd
    · intro b hb; exact nz b (by simpa using hb)
    · intro b hb; exact .inl (by simpa using hb)
  · exact w.elim
theorem count_impl : Impl K (fun vs H Q => ∃ (a : Addr) (ns : List Int) (x : Int), vs = [V.ref a, V.int x] ∧ H a = some (.lst (ns.map V.int)) ∧ Q (.int (ns.count x : Nat)) H) countS := by
  intro ds vs Ss H Z post Q rl nd nz al w k
  unfold countS at w
  split at w
  · rename_i o dd x
    obtain ⟨ns, e0, w⟩ := w
    subst e0
    obtain ⟨v, u, S, T, rfl, rfl, r1, r2⟩ := RepL.two rl
    have e3 := rep_int r2
    have e4 : T = [] := Rep.pure _ _ _ r2 rfl
    subst e3; subst e4
    obtain ⟨a, xs, U, rfl, ha, q⟩ := rep_lst r1
    rw [q.ints] at ha
    refine ⟨a, ns, x, rfl, ha, k (.int (ns.count x : Nat)) [.lst o (ns.map D.int), .int x] _ H Z [] [S, []] ⟨?_, int_rep, ?_, ?_, ?_, Ext.refl, al⟩ w⟩
    · exact ⟨_, _, _, _, rfl, rfl, .inr r1, _, _, _, _, rfl, rfl, .inr int_rep, rfl, rfl⟩
    · simpa using nd
    · intro b hb; exact nz b (by simpa using hb)
    · intro b hb; exact .inl (by simpa using hb)
  · exact w.elim
/-- an owned thing whose items are pure is written; the other arguments stay or are used up -/
theorem own_pure {ds : List D} {v : V} {S : List Addr} (h : Rep K Z H (.lst true ds) v S) (p : pus ds = true) : ∃ a vs, v = .ref a ∧ H a = some (.lst vs) ∧ S = [a] ∧ Reps K Z H ds vs [] := by
  obtain ⟨a, vs, T, e, ha, eS, q⟩ := rep_own h
  have e2 := Reps.pure _ _ _ q p
  subst e2
  exact ⟨a, vs, e, ha, eS, q⟩
theorem insert_impl : Impl K (fun vs H Q => ∃ l xs i y, vs = [.ref l, .int i, y] ∧ H l = some (.lst xs) ∧ xs.length < sizeLine ∧ 0 ≤ i ∧ i < 2 ^ 63 ∧ Q .non (upd H l (.lst (xs.take i.toNat ++ [y] ++ xs.drop i.toNat)))) insertS := by
  intro ds vs Ss H Z post Q rl nd nz al w k
  unfold insertS at w
  split at w
  · obtain ⟨i0, i1, hz, pv, pd, w⟩ := w
    obtain ⟨x1, x2, x3, S1, S2, S3, rfl, rfl, r1, r2, r3⟩ := RepL.three rl
    rename_i ds i v
    obtain ⟨a, xs, rfl, ha, rfl, q⟩ := own_pure r1 pd
    have e2 := rep_int r2
    have e4 : S2 = [] := Rep.pure _ _ _ r2 rfl
    have e5 : S3 = [] := Rep.pure _ _ _ r3 pv
    subst e2; subst e4; subst e5
    have nza : ¬ Z a := nz a (by simp)
    have st := stab_write (ys := xs.take i.toNat ++ [x3] ++ xs.drop i.toNat) ha nza
    have qn : Reps K Z H (ds.take i.toNat ++ [v] ++ ds.drop i.toNat) (xs.take i.toNat ++ [x3] ++ xs.drop i.toNat) [] := by
      have h1 := ((Reps.take i.toNat q).append (Reps.one r3)).append (Reps.drop i.toNat q)
      simpa using h1
    refine ⟨a, xs, i, x3, rfl, ha, by rw [q.length]; exact hz, i0, i1, k .non [.lst true (ds.take i.toNat ++ [v] ++ ds.drop i.toNat), .int i, .un] .non _ Z [] [[a], [], []] ⟨?_, non_rep, ?_, ?_, ?_, ?_, al_upd al⟩ w⟩
    · refine ⟨_, _, _, _, rfl, rfl, .inr ?_, _, _, _, _, rfl, rfl, .inr int_rep, _, _, _, _, rfl, rfl, .inl ⟨rfl, rfl⟩, rfl, rfl⟩
      rw [Rep]
      exact ⟨a, _, [], rfl, upd_same, rfl, Reps.stab st _ _ _ qn fun b hb => nomatch hb⟩
    · simp
    · intro b hb; exact nz b (by simpa using hb)
    · intro b hb; exact .inl (by simpa using hb)
    · exact Ext.write ha (by simp)
  · exact w.elim
theorem remove_impl : Impl K (fun vs H Q => ∃ (l : Addr) (ns : List Int) (x : Int), vs = [.ref l, .int x] ∧ H l = some (.lst (ns.map V.int)) ∧ x ∈ ns ∧ Q .non (upd H l (.lst ((ns.eraseIdx (ns.idxOf x)).map V.int)))) removeS := by
  intro ds vs Ss H Z post Q rl nd nz al w k
  unfold removeS at w
  split at w
  · obtain ⟨ns, e0, hx, w⟩ := w
    subst e0
    obtain ⟨x1, x2, S1, S2, rfl, rfl, r1, r2⟩ := RepL.two rl
    rename_i x
    obtain ⟨a, xs, rfl, ha, rfl, q⟩ := own_pure r1 (pus_intsD ns)
    have e2 := rep_int r2
    have e4 : S2 = [] := Rep.pure _ _ _ r2 rfl
    subst e2; subst e4
    have nza : ¬ Z a := nz a (by simp)
    rw [q.ints] at ha
    refine ⟨a, ns, x, rfl, ha, hx, k .non [.lst true ((ns.eraseIdx (ns.idxOf x)).map D.int), .int x] .non _ Z [] [[a], []] ⟨?_, non_rep, ?_, ?_, ?_, ?_, al_upd al⟩ w⟩
    · refine ⟨_, _, _, _, rfl, rfl, .inr ?_, _, _, _, _, rfl, rfl, .inr int_rep, rfl, rfl⟩
      rw [Rep]
      exact ⟨a, _, [], rfl, upd_same, rfl, ints_reps⟩
    · simp
    · intro b hb; exact nz b (by simpa using hb)
    · intro b hb; exact .inl (by simpa using hb)
    · exact Ext.write ha (by simp)
  · exact w.elim
theorem get_impl : Impl K (fun vs H Q => ∃ a y o, (vs = [.ref a, y] ∧ DGet H a y o ∧ Q (o.getD .non) H) ∨ ∃ z, vs = [.ref a, y, z] ∧ DGet H a y o ∧ Q (o.getD z) H) getS := by
  intro ds vs Ss H Z post Q rl nd nz al w k
  have val : ∀ {ks : List (List Key)} {ds : List D} {xs : List V} {kk : List Key}, Reps K Z H ds xs [] → ∀ {e : D} {z : V}, Rep K Z H e z [] → Rep K Z H ((dGet ks ds kk).getD e) ((((kIx ks kk).bind fun j => xs[j]?)).getD z) [] := fun {ks ds xs kk} q {e z} re => by
    unfold dGet
    cases kIx ks kk with
    | none => exact re
    | some j =>
      show Rep K Z H (ds[j]?.getD e) (xs[j]?.getD z) []
      have hl := q.length
      by_cases hj : j < ds.length
      · obtain ⟨v, h1, h2⟩ := Reps.get q (List.getElem?_eq_getElem hj)
        rw [h1, List.getElem?_eq_getElem hj]; exact h2
      · rw [List.getElem?_eq_none (by omega), List.getElem?_eq_none (by omega)]; exact re
  unfold getS at w
  split at w
  · obtain ⟨pd, kk, hk, w⟩ := w
    obtain ⟨x1, x2, S1, S2, rfl, rfl, r1, r2⟩ := RepL.two rl
    rename_i o t ks ds x
    obtain ⟨a, xs, T, rfl, ha, ⟨ok, hl⟩, q⟩ := rep_dct r1
    have q0 := q.pure0 pd
    refine ⟨a, x2, _, .inl ⟨rfl, dct_get (K := K) (Z := Z) ha ok hk r2, k _ [.dct o t ks ds, x] _ H Z [] [S1, S2] ⟨?_, val q0 non_rep, ?_, ?_, ?_, Ext.refl, al⟩ w⟩⟩
    · exact ⟨_, _, _, _, rfl, rfl, .inr r1, _, _, _, _, rfl, rfl, .inr r2, rfl, rfl⟩
    · simpa using nd
    · intro b hb; exact nz b (by simpa using hb)
    · intro b hb; exact .inl (by simpa using hb)
  · obtain ⟨pd, pe, kk, hk, w⟩ := w
    obtain ⟨x1, x2, x3, S1, S2, S3, rfl, rfl, r1, r2, r3⟩ := RepL.three rl
    rename_i o t ks ds x e
    obtain ⟨a, xs, T, rfl, ha, ⟨ok, hl⟩, q⟩ := rep_dct r1
    have q0 := q.pure0 pd
    have e5 : S3 = [] := Rep.pure _ _ _ r3 pe
    subst e5
    refine ⟨a, x2, _, .inr ⟨x3, rfl, dct_get (K := K) (Z := Z) ha ok hk r2, k _ [.dct o t ks ds, x, .un] _ H Z [] [S1, S2, []] ⟨?_, val q0 r3, ?_, ?_, ?_, Ext.refl, al⟩ w⟩⟩
    · exact ⟨_, _, _, _, rfl, rfl, .inr r1, _, _, _, _, rfl, rfl, .inr r2, _, _, _, _, rfl, rfl, .inl ⟨rfl, rfl⟩, rfl, rfl⟩
    · simpa using nd
    · intro b hb; exact nz b (by simpa using hb)
    · intro b hb; exact .inl (by simpa using hb)
  · exact w.elim
def rUpd (X : Cx) : List V → Hp → VK → Prop
  | x :: ys, H, Q => rDUpd X x ys H Q
  | [], _, _ => False
theorem update_impl {X : Cx} : Impl X.K (rUpd X) updateS := by
  intro ds vs Ss H Z post Q rl nd nz al w k
  unfold updateS at w
  split at w
  · obtain ⟨et, hn, pd, pd2, hz, w⟩ := w
    subst et
    obtain ⟨x1, x2, S1, S2, rfl, rfl, r1, r2⟩ := RepL.two rl
    rename_i t ks ds o ks2 ds2
    rw [Rep] at r1
    obtain ⟨a, xs, T, rfl, ha, ⟨ok, hl⟩, rfl, q⟩ := r1
    have eT := Reps.pure _ _ _ q pd
    subst eT
    have r2' := r2
    obtain ⟨b, ys, T2, rfl, hb, ⟨ok2, hl2⟩, q2⟩ := rep_dct r2
    have q20 := q2.pure0 pd2
    simp only [List.flatten_cons, List.flatten_nil, List.append_nil] at nd nz
    have nza : ¬ Z a := nz a (by simp)
    have hab : a ≠ b := fun e => by
      subst e
      cases o with
      | true =>
        rw [Rep] at r2'
        obtain ⟨a', _, _, e1, _, _, e3, _⟩ := r2'
        cases e1
        subst e3
        simp at nd
      | false =>
        rw [Rep] at r2'
        obtain ⟨a', _, e1, _, hz', _⟩ := r2'
        cases e1
        exact nza hz'
    have hl3 := q2.length
    have hl4 := q.length
    have e1 : (ks2.zip ds2).map (·.1) = ks2 := by rw [List.map_fst_zip]; omega
    have e2 : (ks2.zip ds2).map (·.2) = ds2 := by rw [List.map_snd_zip]; omega
    have fin : ∀ ks' ds' xs', mkDct t (ks2.zip ds2) ks ds = .dct true t ks' ds' → KsOk t ks' → ks'.length = xs'.length → Reps X.K Z H ds' xs' [] → Q .non (upd H a (dHO t ks' xs')) := fun ks' ds' xs' a1 a2 a3 a4 => by
      rw [a1] at w
      have st := stab_writeG (o2 := dHO t ks' xs') ha (wr_dct _ _ _) nza
      refine k .non [.dct true t ks' ds', .dct o t ks2 ds2] .non _ Z [] [[a], S2] ⟨?_, non_rep, ?_, ?_, ?_, ?_, al_upd al⟩ w
      · refine ⟨_, _, _, _, rfl, rfl, .inr ?_, _, _, _, _, rfl, rfl, .inr (Rep.stab st _ _ _ r2 fun c hc e => ?_), rfl, rfl⟩
        · rw [Rep]
          exact ⟨a, xs', [], rfl, upd_same, ⟨a2, a3⟩, rfl, Reps.stab st _ _ _ a4 fun c hc => nomatch hc⟩
        · subst e
          rw [List.singleton_append, List.nodup_cons] at nd
          exact nd.1 hc
      · simpa using nd
      · intro c hc; exact nz c (by simpa using hc)
      · intro c hc; exact .inl (by simpa using hc)
      · exact Ext.writeG ha (wr_dct _ _ _) (by simp)
    show rDUpd X (.ref a) [.ref b] H Q
    refine ⟨a, b, rfl, rfl, hab, ?_⟩
    have one2 : ∀ p ∈ ks2.zip ds2, t = false → ∃ y, p.1 = [y] := fun p hp ht => ok2.one ht _ (by rw [← e1]; exact List.mem_map_of_mem hp)
    have q20' : Reps X.K Z H ((ks2.zip ds2).map (·.2)) ys [] := by rw [e2]; exact q20
    cases t with
    | false =>
      obtain ⟨ks', ds', xs', a1, a2, a3, a4, a5⟩ := mk_dct (K := X.K) (Z := Z) (H := H) (t := false) headK (fun ks x ok hx k hk e => by
        obtain ⟨y, rfl⟩ := hx rfl
        exact head_inj ok k hk e) (ks2.zip ds2) ys ks ds xs one2 q20' ok hl q
      have f := fin ks' ds' xs' a1 a2 a3 a4
      rw [e1] at a5
      refine .inl ⟨_, _, ha, hb, by simp [List.length_zip]; omega, ?_⟩
      have e : mergeKK ((ks.map headK).zip xs) ((ks2.map headK).zip ys) = (ks'.map headK).zip xs' := a5
      rw [e]
      exact f
    | true =>
      obtain ⟨ks', ds', xs', a1, a2, a3, a4, a5⟩ := mk_dct (K := X.K) (Z := Z) (H := H) (t := true) id (fun ks x ok hx k hk e => e) (ks2.zip ds2) ys ks ds xs one2 q20' ok hl q
      have f := fin ks' ds' xs' a1 a2 a3 a4
      rw [e1, List.map_id, List.map_id, List.map_id] at a5
      refine .inr ⟨_, _, ha, hb, by simp [List.length_zip]; omega, fun e => ?_, ?_⟩
      · have h0 : ks = [] := by
          cases ks with
          | nil => rfl
          | cons k0 ks =>
            cases xs with
            | nil => simp at hl
            | cons x0 xs => cases e
        have := hn rfl h0 X.prog X.w
        have e5 : ((ks2.zip ys).map fun p => (tupleKind (mixKind X.prog X.w)).hash p.1) = ks2.map (tupleKind (mixKind X.prog X.w)).hash := by
          have : (ks2.zip ys).map (·.1) = ks2 := by rw [List.map_fst_zip]; omega
          conv => rhs; rw [← this]
          rw [List.map_map]; rfl
        rw [e5]; exact this
      · have e : mergeT (ks.zip xs) (ks2.zip ys) = ks'.zip xs' := a5
        rw [e]
        exact f
  · exact w.elim
theorem pop_impl : Impl K (fun vs H Q => ∃ l xs y, H l = some (.lst xs) ∧ ((vs = [.ref l] ∧ xs[xs.length - 1]? = some y ∧ Q y (upd H l (.lst xs.dropLast))) ∨
    ∃ i j, vs = [.ref l, .int i] ∧ ixN xs.length i = some j ∧ xs[j]? = some y ∧ Q y (upd H l (.lst (xs.eraseIdx j))))) popS := by
  intro ds vs Ss H Z post Q rl nd nz al w k
  unfold popS at w
  split at w
  · obtain ⟨d, hd, w⟩ := w
    rename_i ds
    obtain ⟨v, S, rfl, rfl, r1⟩ := RepL.one rl
    obtain ⟨a, xs, U, rfl, ha, rfl, q⟩ := rep_own r1
    simp only [List.flatten_cons, List.flatten_nil, List.append_nil] at nd nz
    rw [List.nodup_cons] at nd
    have nza : ¬ Z a := nz a (by simp)
    have hl := q.length
    have hne : ds ≠ [] := fun e => by subst e; simp at hd
    have hpos : ds.length - 1 + 1 = ds.length := by
      have := List.length_pos_iff.mpr hne; omega
    rw [List.getLast?_eq_getElem?] at hd
    obtain ⟨y, A, B, C, e0, e1, r, t⟩ := Reps.take1 _ hd q
    subst e1
    have st := stab_write (ys := xs.dropLast) ha nza
    have t' : Reps K Z H ds.dropLast xs.dropLast (A ++ C) := by
      rw [← PyProof.Rows.Copied.eraseIdx_last, ← PyProof.Rows.Copied.eraseIdx_last, hl]
      exact t
    refine ⟨a, xs, y, ha, .inl ⟨rfl, by rw [hl]; exact e0, k d [.lst true ds.dropLast] y _ Z B [a :: (A ++ C)] ⟨?_, ?_, ?_, ?_, ?_, ?_, al_upd al⟩ w⟩⟩
    · refine ⟨_, _, _, _, rfl, rfl, .inr ?_, rfl, rfl⟩
      rw [Rep]
      exact ⟨a, xs.dropLast, _, rfl, upd_same, rfl, Reps.stab st _ _ _ t' fun b hb e => nd.1 (by subst e; simp only [List.mem_append] at hb ⊢; rcases hb with h | h <;> simp [h])⟩
    · exact Rep.stab st _ _ _ r fun b hb e => nd.1 (by subst e; simp [hb])
    · exact pop_nodup nd
    · intro b hb; exact nz b (pop_mem hb)
    · intro b hb; exact .inl (by simpa using pop_mem hb)
    · exact Ext.write ha (by simp)
  · obtain ⟨j, d, hj, hd, w⟩ := w
    rename_i ds i
    obtain ⟨v, v2, S, S2, rfl, rfl, r1, r2⟩ := RepL.two rl
    have e3 := rep_int r2
    have e4 : S2 = [] := Rep.pure _ _ _ r2 rfl
    subst e3; subst e4
    obtain ⟨a, xs, U, rfl, ha, rfl, q⟩ := rep_own r1
    simp only [List.flatten_cons, List.flatten_nil, List.append_nil] at nd nz
    rw [List.nodup_cons] at nd
    have nza : ¬ Z a := nz a (by simp)
    have hl := q.length
    obtain ⟨y, A, B, C, e0, e1, r, t⟩ := Reps.take1 _ hd q
    subst e1
    have st := stab_write (ys := xs.eraseIdx j) ha nza
    refine ⟨a, xs, y, ha, .inr ⟨i, j, rfl, by rw [hl]; exact hj, e0, k d [.lst true (ds.eraseIdx j), .int i] y _ Z B [a :: (A ++ C), []] ⟨?_, ?_, ?_, ?_, ?_, ?_, al_upd al⟩ w⟩⟩
    · refine ⟨_, _, _, _, rfl, rfl, .inr ?_, _, _, _, _, rfl, rfl, .inr int_rep, rfl, rfl⟩
      rw [Rep]
      exact ⟨a, xs.eraseIdx j, _, rfl, upd_same, rfl, Reps.stab st _ _ _ t fun b hb e => nd.1 (by subst e; simp only [List.mem_append] at hb ⊢; rcases hb with h | h <;> simp [h])⟩
    · exact Rep.stab st _ _ _ r fun b hb e => nd.1 (by subst e; simp [hb])
    · have := pop_nodup nd
      simpa using this
    · intro b hb; exact nz b (pop_mem (by simpa using hb))
    · intro b hb; exact .inl (by simpa using pop_mem (a := a) (A := A) (B := B) (C := C) (by simpa using hb))
    · exact Ext.write ha (by simp)
  · exact w.elim
theorem extend_impl : Impl K (fun vs H Q => ∃ l b xs zs, vs = [.ref l, .ref b] ∧ H l = some (.lst xs) ∧ (H b = some (.lst zs) ∨ SqT K H b zs) ∧ xs.length + zs.length ≤ sizeLine ∧ Q .non (upd H l (.lst (xs ++ zs)))) extendS := by
  intro ds vs Ss H Z post Q rl nd nz al w k
  unfold extendS at w
  split at w
  · obtain ⟨hp, hz, w⟩ := w
    rename_i ds o es
    obtain ⟨v, v2, S, S2, rfl, rfl, r1, r2⟩ := RepL.two rl
    obtain ⟨a, xs, U, rfl, ha, rfl, q⟩ := rep_own r1
    obtain ⟨b, zs, U2, rfl, hb, q2⟩ := rep_lst r2
    simp only [List.flatten_cons, List.flatten_nil, List.append_nil] at nd nz
    have nd0 := nd
    rw [List.nodup_append] at nd
    have nza : ¬ Z a := nz a (by simp)
    have st := stab_write (ys := xs ++ zs) ha nza
    have p2 := q2.pure0 hp
    have na : ∀ b ∈ U, b ≠ a := fun b hb e => (List.nodup_cons.mp nd.1).1 (e ▸ hb)
    refine ⟨a, b, xs, zs, rfl, ha, .inl hb, by rw [q.length, q2.length]; exact hz, k .non [.lst true (ds ++ es), .lst o es] .non _ Z [] [a :: U, S2] ⟨?_, non_rep, ?_, ?_, ?_, ?_, al_upd al⟩ w⟩
    · refine ⟨_, _, _, _, rfl, rfl, .inr ?_, _, _, _, _, rfl, rfl, .inr (Rep.stab st _ _ _ r2 fun c hc e => nd.2.2 a (by simp) c hc e.symm), rfl, rfl⟩
      rw [Rep]
      refine ⟨a, xs ++ zs, U, rfl, upd_same, rfl, ?_⟩
      have := (Reps.stab st _ _ _ q na).append (Reps.stab st _ _ _ p2 fun c hc => (nomatch hc))
      rwa [List.append_nil] at this
    · simpa using nd0
    · intro c hc; exact nz c (by simpa using hc)
    · intro c hc; exact .inl (by simpa using hc)
    · exact Ext.write ha (by simp)
  · obtain ⟨hp, hz, w⟩ := w
    rename_i ds es
    obtain ⟨v, v2, S, S2, rfl, rfl, r1, r2⟩ := RepL.two rl
    obtain ⟨a, xs, U, rfl, ha, rfl, q⟩ := rep_own r1
    obtain ⟨b, zs, rfl, hb, q2⟩ := rep_tup r2
    simp only [List.flatten_cons, List.flatten_nil, List.append_nil] at nd nz
    have nd0 := nd
    rw [List.nodup_append] at nd
    have nza : ¬ Z a := nz a (by simp)
    have st := stab_write (ys := xs ++ zs) ha nza
    have p2 := q2.pure0 hp
    have na : ∀ b ∈ U, b ≠ a := fun b hb e => (List.nodup_cons.mp nd.1).1 (e ▸ hb)
    refine ⟨a, b, xs, zs, rfl, ha, .inr hb, by rw [q.length, q2.length]; exact hz, k .non [.lst true (ds ++ es), .tup es] .non _ Z [] [a :: U, S2] ⟨?_, non_rep, ?_, ?_, ?_, ?_, al_upd al⟩ w⟩
    · refine ⟨_, _, _, _, rfl, rfl, .inr ?_, _, _, _, _, rfl, rfl, .inr (Rep.stab st _ _ _ r2 fun c hc e => nd.2.2 a (by simp) c hc e.symm), rfl, rfl⟩
      rw [Rep]
      refine ⟨a, xs ++ zs, U, rfl, upd_same, rfl, ?_⟩
      have := (Reps.stab st _ _ _ q na).append (Reps.stab st _ _ _ p2 fun c hc => (nomatch hc))
      rwa [List.append_nil] at this
    · simpa using nd0
    · intro c hc; exact nz c (by simpa using hc)
    · intro c hc; exact .inl (by simpa using hc)
    · exact Ext.write ha (by simp)
  · exact w.elim
end

/-! ### the machine's rules -/
section
variable {X : Cx}
theorem seq_of_ixN {n : Nat} {i : Int} {j : Nat} (h : ixN n i = some j) (hn : n ≤ sizeLine) : -(2 ^ 63) ≤ i ∧ i < 2 ^ 63 ∧ seqIndex? i n = some j := by
  obtain ⟨h1, h2, h3, h4⟩ := ixN_seq h
  have hs : sizeLine = 16777216 := sizeLine_eq
  exact ⟨by omega, by omega, h1⟩
end
theorem pe_weak {X : Cx} {e : Expr} {t t' : TE} (h : PE X e t) (w : ∀ σ H Q, t' σ H Q → t σ H Q) : PE X e t' := ⟨fun pins s σ H Q I q => h.run pins s σ H Q I (w σ H Q q)⟩
theorem pt_weak {X : Cx} {e : Expr} {t t' : TT} (h : PT X e t) (w : ∀ σ H Q, t' σ H Q → t σ H Q) : PT X e t' := ⟨fun pins s σ H Q I q => h.run pins s σ H Q I (w σ H Q q)⟩
theorem pw_weak {X : Cx} {e : Expr} {t t' : TT} (h : PW X e t) (w : ∀ σ H Q, t' σ H Q → t σ H Q) : PW X e t' := ⟨fun wh pins s σ H Q I q => h.run wh pins s σ H Q I (w σ H Q q)⟩
theorem pa_weak {X : Cx} {e : List Expr} {t t' : TA} (h : PA X e t) (w : ∀ σ H Q, t' σ H Q → t σ H Q) : PA X e t' := ⟨fun pos pins s σ H Q I q => h.run pos pins s σ H Q I (w σ H Q q)⟩
theorem ps_weak {X : Cx} {e : Stmt} {t t' : TS} (h : PS X e t) (w : ∀ D σ H, t' D σ H → t D σ H) : PS X e t' := ⟨fun pins s σ H D I q => h.run pins s σ H D I (w D σ H q)⟩
theorem pss_weak {X : Cx} {e : List Stmt} {t t' : TS} (h : PSs X e t) (w : ∀ D σ H, t' D σ H → t D σ H) : PSs X e t' := ⟨fun pins s σ H D I q => h.run pins s σ H D I (w D σ H q)⟩
theorem pi_weak {X : Cx} {tg e : Expr} {t t' : TI} (h : PI X tg e t) (w : ∀ σ H Q, t' σ H Q → t σ H Q) : PI X tg e t' := ⟨fun pins s σ H Q I q => h.run pins s σ H Q I (w σ H Q q)⟩

def Safe (a r : IR) : Prop := ∀ i, bslot a = some i → (∃ j, a = .br j) ∨ tch r i = false
def notStar : Expr → Bool
  | .Starred _ _ => false | _ => true
theorem star_cons {e : Expr} {es : List Expr} {env : PySem.Env} (h : notStar e = true) : starEach (e :: es) env = (false, eval e env) :: starEach es env := by
  cases e <;> first | rfl | cases h
def notSlice : Expr → Bool
  | .Slice .. => false | _ => true
theorem plain_ix {b : Expr} (h : notSlice b = true) : PlainIx b := by
  intro o i
  cases b <;> first | rfl | cases h
theorem no_marks {b : Expr} {op : CmpOp} (h1 : op ≠ .In) (h2 : op ≠ .NotIn) : behindInMarks op b = false := nomark b h1 h2

section
variable {X : Cx} {N : Nat} {a b r e c d : IR} {ea eb ec er : Expr} {pos : Pos}
theorem tA1 {σ : L2.St} {H : Hp} {Q : List V → Hp → Prop} (h : tA X.K N (.cons a .nil) σ H Q) : tL X.K N a σ H fun v H1 => Q [v] H1 :=
  (tA.cons h fun i _ => .inr rfl).mono fun v H1 q => tA.nil q
theorem tA2 {σ : L2.St} {H : Hp} {Q : List V → Hp → Prop} (s : Safe a (.cons b .nil)) (h : tA X.K N (.cons a (.cons b .nil)) σ H Q) : tL X.K N a σ H fun v H1 => tL X.K N b σ H1 fun u H2 => Q [v, u] H2 :=
  (tA.cons h s).mono fun v H1 q => tA1 q
theorem tA3 {σ : L2.St} {H : Hp} {Q : List V → Hp → Prop} (s : Safe a (.cons b (.cons c .nil))) (s2 : Safe b (.cons c .nil)) (h : tA X.K N (.cons a (.cons b (.cons c .nil))) σ H Q) :
    tL X.K N a σ H fun v H1 => tL X.K N b σ H1 fun u H2 => tL X.K N c σ H2 fun w H3 => Q [v, u, w] H3 :=
  (tA.cons h s).mono fun v H1 q => tA2 s2 q

/-! ### names, constants -/
theorem s_cst {k : Const} {j : Nat} {dd : D} {v : V} (hp : PE X (.Constant k j pos) (tC v)) (r : ∀ Z H, Rep X.K Z H dd v []) (nu : dd ≠ .un) : PE X (.Constant k j pos) (tE X.K N (.cst dd)) := pe_weak hp fun σ H Q h => by
  obtain ⟨ρ, Z, E, W, F, h, q, S, w, k⟩ := h
  obtain ⟨E2, W2, F2, S2, e1, e2, o⟩ := S.push (T := Tc N (.cst dd)) (r Z H)
  exact k v dd ρ H Z E2 W2 F2 S2 o e1 e2 nu w
theorem s_glb {x : Str} {n : D} {v : V} (hp : PE X (.Name x pos) (tC v)) (r : ∀ Z H, Rep X.K Z H n v []) (nu : n ≠ .un) : PE X (.Name x pos) (tE X.K N (.glb x n)) := pe_weak hp fun σ H Q h => by
  obtain ⟨ρ, Z, E, W, F, h, q, S, w, k⟩ := h
  obtain ⟨E2, W2, F2, S2, e1, e2, o⟩ := S.push (T := Tc N (.glb x n)) (r Z H)
  exact k v n ρ H Z E2 W2 F2 S2 o e1 e2 nu w
theorem un_of {d : D} (h : isUn d = false) : d ≠ .un := fun e => by rw [e] at h; cases h
theorem s_rd {i : Nat} {x : Str} (hp : PE X (.Name x pos) (tVar i)) (hi : i < N) : PE X (.Name x pos) (tE X.K N (.rd i)) := pe_weak hp fun σ H Q h => by
  obtain ⟨ρ, Z, E, W, F, h, q, S, ⟨w1, w2, w3⟩, k⟩ := h
  rw [← S.env i hi] at w1 w2 w3
  obtain ⟨v, wv, r⟩ := S.get (un_of w1)
  obtain ⟨E2, W2, F2, S2, e1, e2, o⟩ := S.push (T := Tc N (.rd i)) (r.pure0 w2)
  exact ⟨v, by rw [S.val i hi, wv], k v _ ρ H Z E2 W2 F2 S2 o e1 e2 (un_of w1) w3⟩
/-- a slot's data changed, what it owned given away or shared -/
theorem s_mv {i : Nat} {x : Str} (hp : PE X (.Name x pos) (tVar i)) (hi : i < N) : PE X (.Name x pos) (tE X.K N (.mv i)) := pe_weak hp fun σ H Q h => by
  obtain ⟨ρ, Z, E, W, F, h, q, S, ⟨w1, w2⟩, k⟩ := h
  rw [← S.env i hi] at w1 w2
  obtain ⟨v, wv, r⟩ := S.get (un_of w1)
  have hN := S.hN
  have eh := S.nil (Nat.le_refl h)
  refine ⟨v, by rw [S.val i hi, wv], k v (E i) _ H Z (fun j => if j = i then .un else if j = h then E i else E j) (fun j => if j = h then some v else W j) (fun j => if j = i then [] else if j = h then F i else F j) ?_ ⟨Ext.refl, fun j hj t => ?_, fun j hj t => ?_, fun j b hb => ?_⟩ ?_ (if_pos rfl) (un_of w1) w2⟩
  · refine ⟨by omega, by rw [List.length_set]; exact S.lρ, S.lσ, fun j hj => ?_, fun j hj => ?_, fun j hj => ?_, fun j => ?_, fun j => ?_, fun j j2 b hb hb2 => ?_, fun j b hb => ?_, S.al⟩
    · show (if j = i then _ else if j = h then _ else _) = _
      by_cases hji : j = i
      · subst hji; rw [if_pos rfl, gt_set_self (by rw [S.lρ]; exact hj)]
      · rw [if_neg hji, if_neg (by omega), gt_set_ne (Ne.symm hji)]; exact S.env j hj
    · show _ = some (if j = h then _ else _)
      rw [if_neg (by omega)]; exact S.val j hj
    · show (if j = i then _ else if j = h then _ else _) = _
      rw [if_neg (by omega), if_neg (by omega)]; exact S.top j (by omega)
    · by_cases hji : j = i
      · simp only [if_pos hji]; exact .inl ⟨trivial, trivial⟩
      · by_cases hjh : j = h
        · simp only [if_neg hji, if_pos hjh]; exact .inr ⟨v, rfl, r⟩
        · simp only [if_neg hji, if_neg hjh]; exact S.rep j
    · by_cases hji : j = i
      · simp only [if_pos hji]; exact List.nodup_nil
      · by_cases hjh : j = h
        · simp only [if_neg hji, if_pos hjh]; exact S.nd i
        · simp only [if_neg hji, if_neg hjh]; exact S.nd j
    · have fh : ∀ j, b ∈ (if j = i then [] else if j = h then F i else F j) → (j = h ∧ b ∈ F i) ∨ (j ≠ i ∧ j ≠ h ∧ b ∈ F j) := fun j hb => by
        by_cases hji : j = i
        · rw [if_pos hji] at hb; exact (nomatch hb)
        · by_cases hjh : j = h
          · rw [if_neg hji, if_pos hjh] at hb; exact .inl ⟨hjh, hb⟩
          · rw [if_neg hji, if_neg hjh] at hb; exact .inr ⟨hji, hjh, hb⟩
      rcases fh j hb with ⟨p1, p2⟩ | ⟨p0, p1, p2⟩ <;> rcases fh j2 hb2 with ⟨q1, q2⟩ | ⟨q0, q1, q2⟩
      · rw [p1, q1]
      · exact absurd (S.dj i j2 b p2 q2).symm q0
      · exact absurd (S.dj i j b q2 p2).symm p0
      · exact S.dj j j2 b p2 q2
    · by_cases hji : j = i
      · simp only [if_pos hji] at hb; exact (nomatch hb)
      · by_cases hjh : j = h
        · simp only [if_neg hji, if_pos hjh] at hb; exact S.nz i b hb
        · simp only [if_neg hji, if_neg hjh] at hb; exact S.nz j b hb
  · have hji : j ≠ i := fun e => t ⟨by omega, by rw [tch, e]; simp⟩
    have hjh : j ≠ h := by omega
    simp only [if_neg hji, if_neg hjh]
    exact ⟨trivial, trivial⟩
  · show (if j = h then _ else _) = _
    rw [if_neg (by omega)]
  · by_cases hji : j = i
    · simp only [if_pos hji] at hb; exact (nomatch hb)
    · by_cases hjh : j = h
      · simp only [if_neg hji, if_pos hjh] at hb; exact .inl ⟨i, by omega, ⟨hi, by rw [tch]; simp⟩, hb⟩
      · simp only [if_neg hji, if_neg hjh] at hb
        by_cases hl : j < h
        · exact .inr (.inr ⟨hl, fun t => hji (by have := t.2; rw [tch] at this; exact (beq_iff_eq.mp this).symm), hb⟩)
        · rw [S.nil (by omega)] at hb; exact (nomatch hb)
  · show (if h = i then _ else if h = h then _ else _) = _
    rw [if_neg (by omega), if_pos rfl]
theorem s_fr {i : Nat} {x : Str} (hp : PE X (.Name x pos) (tVar i)) (hi : i < N) : PE X (.Name x pos) (tE X.K N (.fr i)) := pe_weak hp fun σ H Q h => by
  obtain ⟨ρ, Z, E, W, F, h, q, S, ⟨w1, w2⟩, k⟩ := h
  rw [← S.env i hi] at w1 w2
  obtain ⟨v, wv, r⟩ := S.get (un_of w1)
  have hN := S.hN
  have eh := S.nil (Nat.le_refl h)
  have rz : Rep X.K (fun b => Z b ∨ b ∈ F i) H (fz (E i)) v [] := Rep.freeze (fun b z => .inl z) _ _ _ r fun b hb => .inr hb
  have st : Stab Z H (fun b => Z b ∨ b ∈ F i) H (fun _ => True) := ⟨fun _ _ e => e, fun _ _ _ e => e, fun _ z => .inl z, fun _ _ _ e => e, fun _ _ _ e => e⟩
  have nfz : fz (E i) ≠ .un := by
    have w3 := w1
    generalize E i = dd at w3
    cases dd <;> simp [fz, isUn] at w3 ⊢
  refine ⟨v, by rw [S.val i hi, wv], k v (fz (E i)) _ H (fun b => Z b ∨ b ∈ F i) (fun j => if j = i then fz (E i) else if j = h then fz (E i) else E j) (fun j => if j = h then some v else W j) (fun j => if j = i then [] else F j) ?_ ⟨⟨fun _ _ e _ => e, fun _ o e => ⟨o, e⟩, fun _ _ e => e, fun _ _ _ e => e, fun _ z => .inl z, fun b z => ?_⟩, fun j hj t => ?_, fun j hj t => ?_, fun j b hb => ?_⟩ ?_ (if_pos rfl) nfz w2⟩
  · refine ⟨by omega, by rw [List.length_set]; exact S.lρ, S.lσ, fun j hj => ?_, fun j hj => ?_, fun j hj => ?_, fun j => ?_, fun j => ?_, fun j j2 b hb hb2 => ?_, fun j b hb => ?_, fun b z => ?_⟩
    · show (if j = i then _ else if j = h then _ else _) = _
      by_cases hji : j = i
      · subst hji; rw [if_pos rfl, gt_set_self (by rw [S.lρ]; exact hj)]
      · rw [if_neg hji, if_neg (by omega), gt_set_ne (Ne.symm hji)]; exact S.env j hj
    · show _ = some (if j = h then _ else _)
      rw [if_neg (by omega)]; exact S.val j hj
    · show (if j = i then _ else if j = h then _ else _) = _
      rw [if_neg (by omega), if_neg (by omega)]; exact S.top j (by omega)
    · by_cases hji : j = i
      · have hjh : j ≠ h := by omega
        simp only [if_pos hji, if_neg hjh]
        subst hji
        exact .inr ⟨v, wv, rz⟩
      · by_cases hjh : j = h
        · simp only [if_neg hji, if_pos hjh]
          subst hjh
          rw [eh]
          exact .inr ⟨v, rfl, rz⟩
        · simp only [if_neg hji, if_neg hjh]
          rcases S.rep j with q | ⟨v', w', q⟩
          · exact .inl q
          · exact .inr ⟨v', w', Rep.stab st _ _ _ q fun _ _ => trivial⟩
    · by_cases hji : j = i
      · simp only [if_pos hji]; exact List.nodup_nil
      · simp only [if_neg hji]; exact S.nd j
    · by_cases hji : j = i
      · simp only [if_pos hji] at hb; exact (nomatch hb)
      · by_cases hj2 : j2 = i
        · simp only [if_pos hj2] at hb2; exact (nomatch hb2)
        · simp only [if_neg hji] at hb; simp only [if_neg hj2] at hb2; exact S.dj j j2 b hb hb2
    · by_cases hji : j = i
      · simp only [if_pos hji] at hb; exact (nomatch hb)
      · simp only [if_neg hji] at hb
        rintro (z | z)
        · exact S.nz j b hb z
        · exact hji (S.dj j i b hb z)
    · rcases z with z | z
      · exact S.al b z
      · obtain ⟨xs, e⟩ := S.owned z
        exact ⟨_, e⟩
  · rcases z with z | z
    · exact .inl z
    · exact .inr (.inl ⟨i, by omega, ⟨hi, by rw [tch]; simp⟩, z⟩)
  · have hji : j ≠ i := fun e => t ⟨by omega, by rw [tch, e]; simp⟩
    have hjh : j ≠ h := by omega
    simp only [if_neg hji, if_neg hjh]
    exact ⟨trivial, trivial⟩
  · show (if j = h then _ else _) = _
    rw [if_neg (by omega)]
  · by_cases hji : j = i
    · simp only [if_pos hji] at hb; exact (nomatch hb)
    · simp only [if_neg hji] at hb
      by_cases hl : j < h
      · exact .inr (.inr ⟨hl, fun t => hji (by have := t.2; rw [tch] at this; exact (beq_iff_eq.mp this).symm), hb⟩)
      · rw [S.nil (by omega)] at hb; exact (nomatch hb)
  · show (if h = i then _ else if h = h then _ else _) = _
    rw [if_neg (by omega), if_pos rfl]
theorem St0.frz {K : PySem.W.Frag} {N : Nat} {ρ : Env} {σ : L2.St} {H : Hp} {Z : Addr → Prop} {E : Nat → D} {W : Nat → Option V} {F : Nat → List Addr} {h : Nat} {d : D} {v : V} (S : St0 K N ρ σ H Z E W F (h + 1)) (hN : N ≤ h) (e : E h = d) (w : W h = some v) (nu : d ≠ .un) :
    ∃ Z2 E2 F2, St0 K N ρ σ H Z2 E2 W F2 (h + 1) ∧ E2 h = fz d ∧ Out (fun i => h ≤ i) H Z E W F (h + 1) H Z2 E2 W F2 := by
  have r : Rep K Z H d v (F h) := by
    rcases S.rep h with q | ⟨v', w', q⟩
    · exact absurd (e.symm.trans q.1) nu
    · rw [w] at w'; cases w'; rw [e] at q; exact q
  have rz : Rep K (fun b => Z b ∨ b ∈ F h) H (fz d) v [] := Rep.freeze (fun b z => .inl z) _ _ _ r fun b hb => .inr hb
  have st : Stab Z H (fun b => Z b ∨ b ∈ F h) H (fun _ => True) := ⟨fun _ _ e => e, fun _ _ _ e => e, fun _ z => .inl z, fun _ _ _ e => e, fun _ _ _ e => e⟩
  have fh : ∀ i b, b ∈ (if i = h then [] else F i) → i ≠ h ∧ b ∈ F i := fun i b hb => by
    by_cases q : i = h
    · rw [if_pos q] at hb; cases hb
    · rw [if_neg q] at hb; exact ⟨q, hb⟩
  refine ⟨fun b => Z b ∨ b ∈ F h, fun i => if i = h then fz d else E i, fun i => if i = h then [] else F i, ⟨by omega, S.lρ, S.lσ, fun i hi => ?_, S.val, fun i hi => ?_, fun i => ?_, fun i => ?_, fun i j b h1 h2 => S.dj i j b (fh i b h1).2 (fh j b h2).2, fun i b h1 z => ?_, fun b z => ?_⟩, if_pos rfl, ⟨⟨fun _ _ e _ => e, fun _ o e => ⟨o, e⟩, fun _ _ e => e, fun _ _ _ e => e, fun _ z => .inl z, fun b z => ?_⟩, fun i hi t => ?_, fun _ _ _ => rfl, fun i b hb => ?_⟩⟩
  · simp only [if_neg (show i ≠ h by omega)]; exact S.env i hi
  · simp only [if_neg (show i ≠ h by omega)]; exact S.top i hi
  · by_cases q : i = h
    · subst q; simp only [if_pos]; exact .inr ⟨v, w, rz⟩
    · simp only [if_neg q]
      rcases S.rep i with z | ⟨v', z1, z2⟩
      · exact .inl z
      · exact .inr ⟨v', z1, Rep.stab st _ _ _ z2 fun _ _ => trivial⟩
  · by_cases q : i = h
    · simp only [if_pos q]; exact List.nodup_nil
    · simp only [if_neg q]; exact S.nd i
  · obtain ⟨n, m⟩ := fh i b h1
    rcases z with z | z
    · exact S.nz i b m z
    · exact n (S.dj i h b m z)
  · rcases z with z | z
    · exact S.al b z
    · obtain ⟨xs, q⟩ := S.owned z
      exact ⟨_, q⟩
  · rcases z with z | z
    · exact .inl z
    · exact .inr (.inl ⟨h, by omega, Nat.le_refl _, z⟩)
  · have q : i ≠ h := fun q => t (by omega)
    simp only [if_neg q]; exact ⟨trivial, trivial⟩
  · obtain ⟨n, m⟩ := fh i b hb
    by_cases hi : i < h
    · exact .inr (.inr ⟨by omega, by omega, m⟩)
    · rw [S.nil (by omega)] at m; cases m
theorem fz_nu {d : D} (h : d ≠ .un) : fz d ≠ .un := by cases d <;> simp [fz] at h ⊢
theorem s_fzv {ex : Expr} (hp : PE X ex (tE X.K N e)) : PE X ex (tE X.K N (.fzv e)) := pe_weak hp fun σ H Q w => by
  obtain ⟨ρ, Z, E, W, F, h, q, S, w, k⟩ := w
  refine ⟨ρ, Z, E, W, F, h, fun d ρ1 => q (fz d) ρ1, S, w, fun v d ρ' H' Z' E' W' F' S' o' e1 e2 nu qq => ?_⟩
  obtain ⟨Z2, E2, F2, S2, g1, o2⟩ := S'.frz S.hN e1 e2 nu
  refine k v (fz d) ρ' H' Z2 E2 W' F2 S2 ?_ g1 e2 (fz_nu nu) qq
  exact ((o'.mono (T2 := fun i => Tc N (.fzv e) i ∨ h ≤ i) fun i _ t => .inl ⟨t.1, t.2⟩).trans (o2.mono fun i _ t => .inr t) (Nat.le_succ h)).mono fun i hi t => t.elim id (by omega)
theorem s_br {i : Nat} {x : Str} (hp : PE X (.Name x pos) (tVar i)) (hi : i < N) : PE X (.Name x pos) (tL X.K N (.br i)) := pe_weak hp fun σ H Q h => by
  obtain ⟨ρ, Z, E, W, F, h, q, S, ⟨w1, w2⟩, k⟩ := h
  rw [← S.env i hi] at w1
  obtain ⟨v, wv, r⟩ := S.get (un_of w1)
  refine ⟨v, by rw [S.val i hi, wv], k v (.loan i []) ρ H Z E W F S.hold (Out.refl S) ⟨S.top h (Nat.le_refl h), hi, wv⟩ ?_ w2⟩
  exact ⟨[], rfl, fun _ _ => rfl⟩
def isPlace : IR → Bool
  | .br _ => true | .plc _ _ => true | _ => false
theorem wpL_val {e : IR} (h : isPlace e = false) (ρ : Env) (q : Arg → Env → Prop) : wpL e ρ q = wpE e ρ fun d ρ1 => q (.val d) ρ1 := by
  cases e <;> first | (cases h; done) | rfl | skip
  case ap k as => cases k <;> rfl
theorem bslot_val {e : IR} (h : isPlace e = false) : bslot e = none := by
  cases e <;> first | rfl | cases h
theorem s_val {ex : Expr} (hp : PE X ex (tE X.K N e)) (h : isPlace e = false) : PE X ex (tL X.K N e) := pe_weak hp fun σ H Q w => by
  obtain ⟨ρ, Z, E, W, F, hh, q, S, w, k⟩ := w
  rw [wpL_val h] at w
  refine ⟨ρ, Z, E, W, F, hh, _, S, w, fun v d ρ' H' Z' E' W' F' S' o e1 e2 nu qq => k v (.val d) ρ' H' Z' E' W' F' S' o ⟨e1, e2, nu⟩ ?_ qq⟩
  unfold Shape
  rw [bslot_val h]
  exact ⟨d, rfl⟩
/-- an item of a loan -/
theorem s_plc (ha : PE X ea (tL X.K N a)) (hb : PE X eb (tE X.K N b)) (ns : notSlice eb = true) (hs : ∃ i, bslot a = some i ∧ tch b i = false) :
    PE X (.Subscript ea eb pos) (tL X.K N (.plc a b)) := pe_weak (pe_ix (ix_list.or ix_tup) ha hb (plain_ix ns)) fun σ H Q w => by
  obtain ⟨i, hi, nt⟩ := hs
  obtain ⟨ρ, Z, E, W, F, h, q, S, w, k⟩ := w
  refine ⟨ρ, Z, E, W, F, h, _, S, w, fun v x ρ1 H1 Z1 E1 W1 F1 S1 o1 a1 sh w1 => ?_⟩
  refine ⟨ρ1, Z1, E1, W1, F1, h + 1, _, S1, w1, fun u dk ρ2 H2 Z2 E2 W2 F2 S2 o2 e1 e2 nu w2 => ?_⟩
  have hN := S.hN
  unfold Shape at sh
  rw [hi] at sh
  obtain ⟨p, rfl, _⟩ := sh
  cases dk with
  | int n =>
    obtain ⟨ds, j, hd, hj, w2⟩ := w2
    -- the loan as it stands now
    have a2 : ArgAt X.K N H2 Z2 E2 W2 F2 h (.loan i p) v := a1.stay S1 S2 o2 (Nat.lt_succ_self h) (fun i t => t.1) hN fun i' kk p' e t => by
      cases e
      rw [t.2] at nt; cases nt
    have iN : i < N := by
      cases p with
      | nil => exact a2.2.1
      | cons _ _ => exact a2.2.1
    have Eh : E2 h = .un := by
      cases p with
      | nil => exact a2.1
      | cons _ _ => exact a2.1
    have nun : E2 i ≠ .un := fun q => by
      rw [← S2.env i iN, q, getP_un] at hd; cases hd
    obtain ⟨v0, wv, r0⟩ := S2.get nun
    have l : ∃ S', Lens X.K Z2 H2 (E2 i) v0 (F2 i) p v S' := by
      cases p with
      | nil =>
        have e3 := a2.2.2
        rw [wv] at e3; cases e3
        exact ⟨_, Lens.nil r0 (S2.nd i)⟩
      | cons kk p =>
        obtain ⟨_, _, v0', S', e3, l⟩ := a2
        rw [wv] at e3; cases e3
        exact ⟨S', l⟩
    obtain ⟨S', l⟩ := l
    have hjl := (ixN_seq hj).2.1
    have hu : u = .int n := by
      have := S2.rep (h + 1)
      rw [e1, e2] at this
      rcases this with q | ⟨v', q1, q2⟩
      · cases q.1
      · cases q1; exact rep_int q2
    subst hu
    obtain ⟨E3, F3, S3, o3⟩ := S2.pop (Nat.le_trans hN (Nat.le_succ h)) (Nat.le_succ (h + 1))
    have fin : ∀ {vs : List V} {w' : V} {B : List Addr}, vs.length = ds.length → vs[j]? = some w' → Lens X.K Z2 H2 (E2 i) v0 (F2 i) (p ++ [j]) w' B → atI vs n = some w' ∧ Q w' H2 := fun {vs w' B} hl hv ll => by
      have o13 : Out (Tc N (.plc a b)) H Z E W F h H2 Z2 E3 W2 F3 := by
        refine (((o1.mono (T2 := fun i => Tc N (.plc a b) i ∨ h + 1 ≤ i) fun i _ t => .inl ⟨t.1, by rw [tch, t.2]; rfl⟩).trans (o2.mono fun i _ t => .inl ⟨t.1, by rw [tch, t.2, Bool.or_true]⟩) (Nat.le_succ h)).trans (o3.mono fun i _ t => .inr t) (by omega)).mono fun i hi t => ?_
        rcases t with t | t
        · exact t
        · omega
      have s3 : E3 i = E2 i ∧ F3 i = F2 i := o3.same i (by omega) (by omega)
      have s4 : E3 h = E2 h := (o3.same h (by omega) (by omega)).1
      refine ⟨by unfold atI; rw [hl, hj]; exact hv, k w' (.loan i (p ++ [j])) ρ2 H2 Z2 E3 W2 F3 S3 o13 ?_ ?_ w2⟩
      · have go : ∀ p', p ++ [j] = p' → ArgAt X.K N H2 Z2 E3 W2 F3 h (.loan i p') w' := fun p' e => by
          cases p' with
          | nil => simp at e
          | cons kk p'' => exact ⟨s4.trans Eh, iN, v0, B, wv, by rw [s3.1, s3.2, ← e]; exact ll⟩
        exact go _ rfl
      · unfold Shape
        rw [show bslot (.plc a b) = bslot a from rfl, hi]
        exact ⟨_, rfl, fun j e => by cases e⟩
    rw [← S2.env i iN] at hd
    have ej : ds[j]? = some ds[j] := by simp [hjl]
    cases hg : getP (E2 i) p with
    | tup ds' =>
      rw [hg] at hd; cases hd
      obtain ⟨a', vs, w', B, rfl, hs, hl, hv, ll⟩ := l.stepT hg ej
      obtain ⟨f1, f2⟩ := fin hl hv ll
      exact .inr ⟨a', vs, n, w', rfl, rfl, hs, f1, f2⟩
    | lst o ds' =>
      rw [hg] at hd; cases hd
      obtain ⟨a', vs, w', B, rfl, hs, hl, hv, ll⟩ := l.stepL hg ej
      obtain ⟨f1, f2⟩ := fin hl hv ll
      exact .inl ⟨a', vs, n, w', rfl, rfl, hs, f1, f2⟩
    | _ => rw [hg] at hd; cases hd
  | _ => exact w2.elim

/-! ### operators -/
theorem s_bin {op : Operator} (ha : PE X ea (tL X.K N a)) (hb : PE X eb (tL X.K N b)) (s : Safe a (.cons b .nil)) : PE X (.BinOp ea op eb pos) (tE X.K N (.ap (.bin op) (.cons a (.cons b .nil)))) :=
  pe_weak (pe_op (bin_ok op) ha hb) fun σ H Q w => tA2 s (ap_look (rD_impl X.K _) w)
theorem s_una {op : UnaryOp} (ha : PE X ea (tL X.K N a)) : PE X (.UnaryOp op ea pos) (tE X.K N (.ap (.una op) (.cons a .nil))) :=
  pe_weak (pe_un (una_ok op) ha) fun σ H Q w => tA1 (ap_look (rD_impl X.K _) w)
theorem s_cmp {op : CmpOp} (hu : X.A.units + 65 < cLine) (ha : PE X ea (tL X.K N a)) (hb : PE X eb (tL X.K N b)) (s : Safe a (.cons b .nil)) (hm : behindInMarks op eb = false) : PE X (.Compare ea [op] [eb] pos) (tE X.K N (.ap (.cmp op) (.cons a (.cons b .nil)))) :=
  pe_weak (pe_cmpR (cmp_ok hu op) ha hb hm) fun σ H Q w => tA2 s (ap_look (rD_impl X.K _) w)
theorem s_idx (hu : X.A.units + 65 < cLine) (ha : PE X ea (tL X.K N a)) (hb : PE X eb (tL X.K N b)) (s : Safe a (.cons b .nil)) (ns : notSlice eb = true) : PE X (.Subscript ea eb pos) (tE X.K N (.ap .idx (.cons a (.cons b .nil)))) :=
  pe_weak (pe_ix (idx_ok hu) ha hb (plain_ix ns)) fun σ H Q w => tA2 s (ap_look (rD_impl X.K _) w)
/-! ### chains of comparisons of ints -/
theorem rep_at {K : PySem.W.Frag} {N : Nat} {ρ : Env} {σ : L2.St} {H : Hp} {Z : Addr → Prop} {E : Nat → D} {W : Nat → Option V} {F : Nat → List Addr} {h j : Nat} {v : V} {d : D} (S : St0 K N ρ σ H Z E W F h) (e1 : E j = d) (e2 : W j = some v) (nu : d ≠ .un) : Rep K Z H d v (F j) := by
  rcases S.rep j with q | ⟨v', q1, q2⟩
  · exact absurd (e1.symm.trans q.1) nu
  · rw [e2] at q1; cases q1
    rw [e1] at q2; exact q2
/-- the value at h taken off again -/
theorem Out.off {K : PySem.W.Frag} {N : Nat} {ρ : Env} {σ : L2.St} {H H1 : Hp} {Z Z1 : Addr → Prop} {E E1 : Nat → D} {W W1 : Nat → Option V} {F F1 : Nat → List Addr} {h : Nat} {T : Nat → Prop} (o : Out T H Z E W F h H1 Z1 E1 W1 F1) (S1 : St0 K N ρ σ H1 Z1 E1 W1 F1 (h + 1)) (hN : N ≤ h) :
    ∃ E2 F2, St0 K N ρ σ H1 Z1 E2 W1 F2 h ∧ Out T H Z E W F h H1 Z1 E2 W1 F2 := by
  obtain ⟨E2, F2, S2, o2⟩ := S1.pop hN (Nat.le_succ h)
  exact ⟨E2, F2, S2, ((o.mono (T2 := fun i => T i ∨ h ≤ i) fun i _ t => .inl t).trans (o2.mono fun i _ t => .inr t) (Nat.le_succ h)).mono fun i hi t => by
    rcases t with t | t
    · exact t
    · omega⟩
def tC (K : PySem.W.Frag) (N : Nat) (r : IR) (ops : List CmpOp) (i : Int) (Q : Bool → Hp → Prop) (σ : L2.St) (H : Hp) : Prop := ∃ ρ Z E W F h q, St0 K N ρ σ H Z E W F h ∧ wpC r ops i ρ q ∧
  ∀ k ρ' H' Z' E' W' F', St0 K N ρ' σ H' Z' E' W' F' h → Out (Tc N r) H Z E W F h H' Z' E' W' F' → q k ρ' → Q k H'
/-- all its parts are reckoned so -/
def Els1 (X : Cx) (N : Nat) : IR → List Expr → Prop
  | .nil, es => es = []
  | .cons a r, es => ∃ e er, es = e :: er ∧ PE X e (tE X.K N a) ∧ Els1 X N r er
  | _, _ => False
theorem cmp_int {op : CmpOp} {i j : Int} {t u : Tok} {k : Bool} (h : cmpI op i j = some k) {s : Shared} {Q : Value → Shared → Prop} (q : Q (.bool k) s) : wpAny (model X.prog X.w) X.A (compareOp op (.int i t) (.int j u)) Q X.xe s := by
  cases op <;> first | (cases h; done) | skip
  · cases h; exact lt_int q
  · cases h; exact le_int q
  · cases h; exact gt_int q
  · cases h; exact ge_int q
theorem ch_step {op : CmpOp} {ops : List CmpOp} {i : Int} {Q : Bool → Hp → Prop} {σ : L2.St} {H : Hp} (w : tC X.K N (.cons b r) (op :: ops) i Q σ H) :
    tE X.K N b σ H fun v H1 => ∃ j k, v = .int j ∧ cmpI op i j = some k ∧ ((ops = [] ∧ Q k H1) ∨ (ops ≠ [] ∧ if k = true then tC X.K N r ops j Q σ H1 else Q false H1)) := by
  obtain ⟨ρ, Z, E, W, F, h, q, S, w, kk⟩ := w
  refine ⟨ρ, Z, E, W, F, h, _, S, w, fun v d ρ1 H1 Z1 E1 W1 F1 S1 o1 e1 f1 nu w1 => ?_⟩
  have hN := S.hN
  obtain ⟨E2, F2, S2, o2⟩ := o1.off S1 hN
  have o2' : Out (Tc N (.cons b r)) H Z E W F h H1 Z1 E2 W1 F2 := o2.mono fun i _ t => ⟨t.1, by rw [tch, t.2]; rfl⟩
  have rv := rep_at S1 e1 f1 nu
  cases d with
  | int j =>
    cases ops with
    | nil =>
      obtain ⟨k, hk, w1⟩ := w1
      exact ⟨j, k, rep_int rv, hk, .inl ⟨rfl, kk k ρ1 H1 Z1 E2 W1 F2 S2 o2' w1⟩⟩
    | cons op' ops' =>
      obtain ⟨k, hk, w1⟩ := w1
      refine ⟨j, k, rep_int rv, hk, .inr ⟨List.cons_ne_nil _ _, ?_⟩⟩
      cases k with
      | false => exact kk false ρ1 H1 Z1 E2 W1 F2 S2 o2' w1
      | true => exact ⟨ρ1, Z1, E2, W1, F2, h, q, S2, w1, fun k' ρ' H' Z' E' W' F' S' o' qq => kk k' ρ' H' Z' E' W' F' S' (o2'.trans (o'.mono fun i _ t => ⟨t.1, by rw [tch, t.2, Bool.or_true]⟩) (Nat.le_refl h)) qq⟩
  | _ => cases ops <;> exact w1.elim
theorem ch_val {Q : Bool → Hp → Prop} {pins : List (Addr × Obj)} {σ : L2.St} {Qf : Value → Shared → Prop} (fin : ∀ k H s, Inv X pins σ H s → Q k H → Qf (.bool k) s) : ∀ (r : IR) (ers : List Expr) (ops : List CmpOp) (i : Int) (t : Tok) (s : Shared) (H : Hp), ops.length = ers.length → ops ≠ [] → Els1 X N r ers → Inv X pins σ H s → tC X.K N r ops i Q σ H →
    wpAny (model X.prog X.w) X.A (compareChain pos (.int i t) ops (evalEach ers X.env)) Qf X.xe s := by
  intro r
  induction r with
  | nil => intro ers ops i t s H hl ho el I w; subst el; exact absurd (List.length_eq_zero_iff.mp hl) ho
  | cons b r _ ihr =>
    intro ers ops i t s H hl ho el I w
    obtain ⟨e, er, rfl, hb, el⟩ := el
    cases ops with
    | nil => exact absurd rfl ho
    | cons op ops =>
      have w' := ch_step w
      cases ops with
      | nil =>
        cases er with
        | cons _ _ => simp at hl
        | nil =>
          show wpAny _ _ (compareChain pos _ [op] [eval e X.env]) _ _ _
          refine chain_last (thn (hb.run pins s σ H _ I w') fun u s1 ⟨v, H1, I1, ru, j, k, ev, hk, q⟩ => ?_)
          subst ev
          obtain ⟨t', rfl⟩ := ru
          rcases q with ⟨_, q⟩ | ⟨q, _⟩
          · exact cmp_int hk (fin k H1 s1 I1 q)
          · exact absurd rfl q
      | cons op' ops' =>
        cases er with
        | nil => simp at hl
        | cons e2 er' =>
          show wpAny _ _ (compareChain pos _ (op :: op' :: ops') (eval e X.env :: eval e2 X.env :: evalEach er' X.env)) _ _ _
          refine chain_link (thn (hb.run pins s σ H _ I w') fun u s1 ⟨v, H1, I1, ru, j, k, ev, hk, q⟩ => ?_)
          subst ev
          obtain ⟨t', rfl⟩ := ru
          rcases q with ⟨q, _⟩ | ⟨_, q⟩
          · cases q
          · refine cmp_int hk (wpAny_truthy_bool ?_)
            cases k with
            | false => exact ite_ff (fin false H1 s1 I1 q)
            | true => exact ite_tt (ihr (e2 :: er') (op' :: ops') j t' s1 H1 (by simpa using hl) (List.cons_ne_nil _ _) el I1 q)
  | _ => intro ers ops i t s H hl ho el; exact el.elim
theorem ch_test {Q : Bool → Hp → Prop} {pins : List (Addr × Obj)} {σ : L2.St} {Qf : Bool → Shared → Prop} (fin : ∀ k H s, Inv X pins σ H s → Q k H → Qf k s) : ∀ (r : IR) (ers : List Expr) (ops : List CmpOp) (i : Int) (t : Tok) (s : Shared) (H : Hp), ops.length = ers.length → ops ≠ [] → Els1 X N r ers → Inv X pins σ H s → tC X.K N r ops i Q σ H →
    wpAny (model X.prog X.w) X.A (testChain pos (.int i t) ops (evalEach ers X.env)) Qf X.xe s := by
  intro r
  induction r with
  | nil => intro ers ops i t s H hl ho el I w; subst el; exact absurd (List.length_eq_zero_iff.mp hl) ho
  | cons b r _ ihr =>
    intro ers ops i t s H hl ho el I w
    obtain ⟨e, er, rfl, hb, el⟩ := el
    cases ops with
    | nil => exact absurd rfl ho
    | cons op ops =>
      have w' := ch_step w
      cases ops with
      | nil =>
        cases er with
        | cons _ _ => simp at hl
        | nil =>
          show wpAny _ _ (testChain pos _ [op] [eval e X.env]) _ _ _
          refine test_last (thn (hb.run pins s σ H _ I w') fun u s1 ⟨v, H1, I1, ru, j, k, ev, hk, q⟩ => ?_)
          subst ev
          obtain ⟨t', rfl⟩ := ru
          rcases q with ⟨_, q⟩ | ⟨q, _⟩
          · exact cmp_int hk (wpAny_truthy_bool (fin k H1 s1 I1 q))
          · exact absurd rfl q
      | cons op' ops' =>
        cases er with
        | nil => simp at hl
        | cons e2 er' =>
          show wpAny _ _ (testChain pos _ (op :: op' :: ops') (eval e X.env :: eval e2 X.env :: evalEach er' X.env)) _ _ _
          refine test_link (thn (hb.run pins s σ H _ I w') fun u s1 ⟨v, H1, I1, ru, j, k, ev, hk, q⟩ => ?_)
          subst ev
          obtain ⟨t', rfl⟩ := ru
          rcases q with ⟨q, _⟩ | ⟨_, q⟩
          · cases q
          · refine cmp_int hk (wpAny_truthy_bool ?_)
            cases k with
            | false => exact ite_ff (fin false H1 s1 I1 q)
            | true => exact ite_tt (ihr (e2 :: er') (op' :: ops') j t' s1 H1 (by simpa using hl) (List.cons_ne_nil _ _) el I1 q)
  | _ => intro ers ops i t s H hl ho el; exact el.elim
/-- the first of a chain, then the rest -/
theorem chn_head {ops : List CmpOp} {σ : L2.St} {H : Hp} {Q : VK} (w : tE X.K N (.chn a ops r) σ H Q) : tE X.K N a σ H fun v H1 => ∃ i, v = .int i ∧ tC X.K N r ops i (fun k H2 => Q (.bl k) H2) σ H1 := by
  obtain ⟨ρ, Z, E, W, F, h, q, S, w, kk⟩ := w
  refine ⟨ρ, Z, E, W, F, h, _, S, w, fun v d ρ1 H1 Z1 E1 W1 F1 S1 o1 e1 f1 nu w1 => ?_⟩
  obtain ⟨E2, F2, S2, o2⟩ := o1.off S1 S.hN
  have rv := rep_at S1 e1 f1 nu
  cases d with
  | int i =>
    refine ⟨i, rep_int rv, ρ1, Z1, E2, W1, F2, h, _, S2, w1, fun k ρ' H' Z' E' W' F' S' o' qq => ?_⟩
    obtain ⟨E3, W3, F3, S3, e3, f3, o3⟩ := S'.push (T := Tc N (.chn a ops r)) (bl_rep (i := k))
    exact kk _ _ ρ' H' Z' E3 W3 F3 S3 (((o2.mono fun i _ t => ⟨t.1, by rw [tch, t.2]; rfl⟩).trans (o'.mono fun i _ t => ⟨t.1, by rw [tch, t.2, Bool.or_true]⟩) (Nat.le_refl h)).trans o3 (Nat.le_refl h)) e3 f3 (fun z => by cases z) qq
  | _ => exact w1.elim
theorem s_chn {op op' : CmpOp} {ops : List CmpOp} {e1 e2 : Expr} {es : List Expr} (ha : PE X ea (tE X.K N a)) (hr : Els1 X N r (e1 :: e2 :: es)) (hl : ops.length = es.length) (hm : lastMarks (op :: op' :: ops) (e1 :: e2 :: es) = false) :
    PE X (.Compare ea (op :: op' :: ops) (e1 :: e2 :: es) pos) (tE X.K N (.chn a (op :: op' :: ops) r)) := ⟨fun pins s σ H Q I w => by
  have w' := chn_head w
  refine Compare_chain (thn (ha.run pins s σ H _ I w') fun u s1 ⟨v, H1, I1, ru, i, ev, wc⟩ => ?_) hm
  subst ev
  obtain ⟨t, rfl⟩ := ru
  exact ch_val (N := N) (fun k H s I q => ⟨.bl k, H, I, rfl, q⟩) r (e1 :: e2 :: es) (op :: op' :: ops) i t s1 H1 (by simp [hl]) (List.cons_ne_nil _ _) hr I1 wc⟩
theorem tru_rep {K : PySem.W.Frag} {Z : Addr → Prop} {H : Hp} {d : D} {v : V} {S : List Addr} {k : Bool} (r : Rep K Z H d v S) (h : tru d = some k) : TruV K v H k := by
  cases d with
  | un => cases h
  | raw w => cases h
  | str w => cases h
  | dct _ _ _ _ => cases h
  | ins _ _ _ _ => cases h
  | non => rw [rep_non r]; exact (Option.some.inj h).symm
  | bl b => rw [rep_bl r]; exact (Option.some.inj h).symm
  | int i => rw [rep_int r]; exact (Option.some.inj h).symm
  | tup ds =>
    obtain ⟨a, vs, rfl, hs, q⟩ := rep_tup r
    refine .inr (.inl ⟨vs, hs, ?_⟩)
    rw [← Option.some.inj h]
    have := q.length
    cases vs <;> cases ds <;> first | rfl | simp at this
  | ptp ds =>
    obtain ⟨a, vs, rfl, hs, q⟩ := rep_ptp r
    refine .inr (.inl ⟨vs, (.inl (.inl hs)), ?_⟩)
    rw [← Option.some.inj h]
    have := q.length
    cases vs <;> cases ds <;> first | rfl | simp at this
  | lst o ds =>
    obtain ⟨a, vs, _, rfl, hs, q⟩ := rep_lst r
    refine .inl ⟨vs, .inl (.inl hs), ?_⟩
    rw [← Option.some.inj h]
    have := q.length
    cases vs <;> cases ds <;> first | rfl | simp at this
  | scr ds =>
    obtain ⟨a, vs, rfl, hs, q⟩ := rep_scr r
    refine .inl ⟨vs, hs, ?_⟩
    rw [← Option.some.inj h]
    have := q.length
    cases vs <;> cases ds <;> first | rfl | simp at this
/-- tests that are no and, or, not, name -/
def isVal : IR → Bool
  | .land _ _ => false | .lor _ _ => false | .lnot _ => false | .br _ => false | .plc _ _ => false | .chn _ _ _ => false | .ap (.cmp _) _ => false | _ => true
theorem wpT_val {e : IR} (h : isVal e = true) (ρ : Env) (q : Bool → Env → Prop) : wpT e ρ q = wpE e ρ fun d ρ1 => ∃ k, tru d = some k ∧ q k ρ1 := by
  cases e <;> first | (cases h; done) | rfl | skip
  case ap k as => cases k <;> first | (cases h; done) | rfl
theorem tT_tru {e : IR} (h : isVal e = true) {σ : L2.St} {H : Hp} {Q : Bool → Hp → Prop} (w : tT X.K N e σ H Q) : tE X.K N e σ H fun v H1 => ∃ k, TruV X.K v H1 k ∧ Q k H1 := by
  obtain ⟨ρ, Z, E, W, F, hh, q, S, w, kk⟩ := w
  rw [wpT_val h] at w
  refine ⟨ρ, Z, E, W, F, hh, _, S, w, fun v d ρ1 H1 Z1 E1 W1 F1 S1 o1 e1 f1 nu ⟨k, hk, w1⟩ => ?_⟩
  obtain ⟨E2, F2, S2, o2⟩ := o1.off S1 S.hN
  exact ⟨k, tru_rep (rep_at S1 e1 f1 nu) hk, kk k ρ1 H1 Z1 E2 W1 F2 S2 o2 w1⟩
/-- any plain test -/
theorem t_val {ex : Expr} {e : IR} (hp : PE X ex (tE X.K N e)) (h : isVal e = true) (he : ∀ whole, isTrue ex X.env whole = (do let v ← whole; standAt ex.pos; holding [v] (truthy v))) : PT X ex (tT X.K N e) :=
  pt_weak (pt_truth hp he) fun σ H Q w => tT_tru h w
/-- a name as a test -/
theorem t_br {i : Nat} {x : Str} (hp : PE X (.Name x pos) (tVar i)) (hi : i < N) : PT X (.Name x pos) (tT X.K N (.br i)) := pt_weak (pt_truth hp (fun _ => rfl)) fun σ H Q w => by
  obtain ⟨ρ, Z, E, W, F, hh, q, S, w, kk⟩ := w
  have w : ∃ k, tru (gt ρ i) = some k ∧ q k ρ := w
  obtain ⟨k, hk, w⟩ := w
  rw [← S.env i hi] at hk
  have nu : E i ≠ .un := fun z => by rw [z] at hk; cases hk
  obtain ⟨v, wv, r⟩ := S.get nu
  exact ⟨v, by rw [S.val i hi, wv], k, tru_rep r hk, kk k ρ H Z E W F S (Out.refl S) w⟩
/-- a comparison as a test -/
theorem t_cmp {op : CmpOp} (hu : X.A.units + 65 < cLine) (ha : PE X ea (tL X.K N a)) (hb : PE X eb (tL X.K N b)) (s : Safe a (.cons b .nil)) (hm : behindInMarks op eb = false) : PT X (.Compare ea [op] [eb] pos) (tT X.K N (.ap (.cmp op) (.cons a (.cons b .nil)))) :=
  pt_weak (pt_cmpR (cmp_ok hu op) ha hb hm) fun σ H Q w => by
    obtain ⟨ρ, Z, E, W, F, hh, q, S, w, kk⟩ := w
    have w2 : tE X.K N (.ap (.cmp op) (.cons a (.cons b .nil))) σ H (fun v H1 => ∃ k, v = .bl k ∧ Q k H1) := by
      refine ⟨ρ, Z, E, W, F, hh, fun d ρ1 => ∃ k, d = .bl k ∧ q k ρ1, S, ?_, fun v d ρ1 H1 Z1 E1 W1 F1 S1 o1 e1 f1 nu ⟨k, hk, w1⟩ => ?_⟩
      · have e : ∀ ρ1 : Env, (fun k => ∃ k', D.bl k = D.bl k' ∧ q k' ρ1) = fun k => q k ρ1 := fun ρ1 => by
          funext k
          simp
        show (sm (.cons a (.cons b .nil))).A ρ fun xs ρ1 => noUn (res ρ1 xs) ∧ cmp2 op (res ρ1 xs) fun k => ∃ k', D.bl k = D.bl k' ∧ q k' ρ1
        simp only [e]
        exact w
      · subst hk
        obtain ⟨E2, F2, S2, o2⟩ := o1.off S1 S.hN
        exact ⟨k, rep_bl (rep_at S1 e1 f1 nu), kk k ρ1 H1 Z1 E2 W1 F2 S2 o2 w1⟩
    exact tA2 s (ap_look (rD_impl X.K _) w2)
theorem t_chn {op op' : CmpOp} {ops : List CmpOp} {e1 e2 : Expr} {es : List Expr} (ha : PE X ea (tE X.K N a)) (hr : Els1 X N r (e1 :: e2 :: es)) (hl : ops.length = es.length) (hm : lastMarks (op :: op' :: ops) (e1 :: e2 :: es) = false) :
    PT X (.Compare ea (op :: op' :: ops) (e1 :: e2 :: es) pos) (tT X.K N (.chn a (op :: op' :: ops) r)) := ⟨fun pins s σ H Q I w => by
  have w' : tE X.K N a σ H fun v H1 => ∃ i, v = .int i ∧ tC X.K N r (op :: op' :: ops) i Q σ H1 := by
    obtain ⟨ρ, Z, E, W, F, h, q, S, w, kk⟩ := w
    refine ⟨ρ, Z, E, W, F, h, _, S, w, fun v d ρ1 H1 Z1 E1 W1 F1 S1 o1 e1 f1 nu w1 => ?_⟩
    obtain ⟨E2, F2, S2, o2⟩ := o1.off S1 S.hN
    have rv := rep_at S1 e1 f1 nu
    cases d with
    | int i =>
      refine ⟨i, rep_int rv, ρ1, Z1, E2, W1, F2, h, _, S2, w1, fun k ρ' H' Z' E' W' F' S' o' qq => ?_⟩
      exact kk _ ρ' H' Z' E' W' F' S' ((o2.mono fun i _ t => ⟨t.1, by rw [tch, t.2]; rfl⟩).trans (o'.mono fun i _ t => ⟨t.1, by rw [tch, t.2, Bool.or_true]⟩) (Nat.le_refl h)) qq
    | _ => exact w1.elim
  refine isTrue_chain (thn (ha.run pins s σ H _ I w') fun u s1 ⟨v, H1, I1, ru, i, ev, wc⟩ => ?_) hm
  subst ev
  obtain ⟨t, rfl⟩ := ru
  exact ch_test (N := N) (fun k H s I q => ⟨H, I, q⟩) r (e1 :: e2 :: es) (op :: op' :: ops) i t s1 H1 (by simp [hl]) (List.cons_ne_nil _ _) hr I1 wc⟩

/-! ### and, or, not, if -/
theorem t_not (ha : PT X ea (tT X.K N a)) : PT X (.UnaryOp .Not ea pos) (tT X.K N (.lnot a)) := pt_weak (pt_not ha) fun σ H Q w => by
  obtain ⟨ρ, Z, E, W, F, h, q, S, w, kk⟩ := w
  have w : wpT a ρ fun k ρ1 => q (!k) ρ1 := w
  exact ⟨ρ, Z, E, W, F, h, _, S, w, fun k ρ' H' Z' E' W' F' S' o qq => kk _ ρ' H' Z' E' W' F' S' (o.mono fun i _ t => ⟨t.1, by rw [tch]; exact t.2⟩) qq⟩
theorem t_and {rest : List Expr} (ha : PT X ea (tT X.K N a)) (hb : PW X (.BoolOp .And (eb :: rest) pos) (tT X.K N b)) : PW X (.BoolOp .And (ea :: eb :: rest) pos) (tT X.K N (.land a b)) := pw_weak (pw_and ha hb) fun σ H Q w => by
  obtain ⟨ρ, Z, E, W, F, h, q, S, w, kk⟩ := w
  have w : wpT a ρ fun k ρ1 => if k = true then wpT b ρ1 q else q false ρ1 := w
  refine ⟨ρ, Z, E, W, F, h, _, S, w, fun k ρ1 H1 Z1 E1 W1 F1 S1 o1 qq => ?_⟩
  cases k with
  | false => exact iteF (kk false ρ1 H1 Z1 E1 W1 F1 S1 (o1.mono fun i _ t => ⟨t.1, by rw [tch, t.2]; rfl⟩) qq)
  | true => exact iteT ⟨ρ1, Z1, E1, W1, F1, h, q, S1, qq, fun k ρ' H' Z' E' W' F' S' o qq => kk k ρ' H' Z' E' W' F' S' ((o1.mono fun i _ t => ⟨t.1, by rw [tch, t.2]; rfl⟩).trans (o.mono fun i _ t => ⟨t.1, by rw [tch, t.2, Bool.or_true]⟩) (Nat.le_refl h)) qq⟩
theorem t_or {rest : List Expr} (ha : PT X ea (tT X.K N a)) (hb : PW X (.BoolOp .Or (eb :: rest) pos) (tT X.K N b)) : PW X (.BoolOp .Or (ea :: eb :: rest) pos) (tT X.K N (.lor a b)) := pw_weak (pw_or ha hb) fun σ H Q w => by
  obtain ⟨ρ, Z, E, W, F, h, q, S, w, kk⟩ := w
  have w : wpT a ρ fun k ρ1 => if k = true then q true ρ1 else wpT b ρ1 q := w
  refine ⟨ρ, Z, E, W, F, h, _, S, w, fun k ρ1 H1 Z1 E1 W1 F1 S1 o1 qq => ?_⟩
  cases k with
  | true => exact iteT (kk true ρ1 H1 Z1 E1 W1 F1 S1 (o1.mono fun i _ t => ⟨t.1, by rw [tch, t.2]; rfl⟩) qq)
  | false => exact iteF ⟨ρ1, Z1, E1, W1, F1, h, q, S1, qq, fun k ρ' H' Z' E' W' F' S' o qq => kk k ρ' H' Z' E' W' F' S' ((o1.mono fun i _ t => ⟨t.1, by rw [tch, t.2]; rfl⟩).trans (o.mono fun i _ t => ⟨t.1, by rw [tch, t.2, Bool.or_true]⟩) (Nat.le_refl h)) qq⟩
theorem s_not (ha : PE X ea (tE X.K N a)) : PE X (.UnaryOp .Not ea pos) (tE X.K N (.lnot a)) := pe_weak (pe_not ha) fun σ H Q w => by
  obtain ⟨ρ, Z, E, W, F, h, q, S, w, kk⟩ := w
  refine ⟨ρ, Z, E, W, F, h, _, S, w, fun v d ρ1 H1 Z1 E1 W1 F1 S1 o1 e1 f1 nu w1 => ?_⟩
  have rv := rep_at S1 e1 f1 nu
  cases d with
  | bl k =>
    obtain ⟨E2, F2, S2, o2⟩ := o1.off S1 S.hN
    obtain ⟨E3, W3, F3, S3, e3, f3, o3⟩ := S2.push (T := Tc N (.lnot a)) (bl_rep (i := !k))
    exact ⟨k, rep_bl rv, kk _ _ ρ1 H1 Z1 E3 W3 F3 S3 ((o2.mono fun i _ t => ⟨t.1, by rw [tch]; exact t.2⟩).trans o3 (Nat.le_refl h)) e3 f3 (fun z => by cases z) w1⟩
  | _ => exact w1.elim
theorem s_and {rest : List Expr} (ha : PE X ea (tE X.K N a)) (hb : PE X (.BoolOp .And (eb :: rest) pos) (tE X.K N b)) : PE X (.BoolOp .And (ea :: eb :: rest) pos) (tE X.K N (.land a b)) := pe_weak (pe_and ha hb) fun σ H Q w => by
  obtain ⟨ρ, Z, E, W, F, h, q, S, w, kk⟩ := w
  refine ⟨ρ, Z, E, W, F, h, _, S, w, fun v d ρ1 H1 Z1 E1 W1 F1 S1 o1 e1 f1 nu w1 => ?_⟩
  have rv := rep_at S1 e1 f1 nu
  have o1' : Out (Tc N (.land a b)) H Z E W F h H1 Z1 E1 W1 F1 := o1.mono fun i _ t => ⟨t.1, by rw [tch, t.2]; rfl⟩
  cases d with
  | bl k =>
    obtain ⟨E2, F2, S2, o2⟩ := o1'.off S1 S.hN
    refine ⟨k, rep_bl rv, ?_⟩
    cases k with
    | false =>
      obtain ⟨E3, W3, F3, S3, e3, f3, o3⟩ := S2.push (T := Tc N (.land a b)) (bl_rep (i := false))
      exact iteF (kk _ _ ρ1 H1 Z1 E3 W3 F3 S3 (o2.trans o3 (Nat.le_refl h)) e3 f3 (fun z => by cases z) w1)
    | true => exact iteT ⟨ρ1, Z1, E2, W1, F2, h, q, S2, w1, fun v d ρ' H' Z' E' W' F' S' o e f nu qq => kk v d ρ' H' Z' E' W' F' S' (o2.trans (o.mono fun i _ t => ⟨t.1, by rw [tch, t.2, Bool.or_true]⟩) (Nat.le_refl h)) e f nu qq⟩
  | _ => exact w1.elim
theorem s_or {rest : List Expr} (ha : PE X ea (tE X.K N a)) (hb : PE X (.BoolOp .Or (eb :: rest) pos) (tE X.K N b)) : PE X (.BoolOp .Or (ea :: eb :: rest) pos) (tE X.K N (.lor a b)) := pe_weak (pe_or ha hb) fun σ H Q w => by
  obtain ⟨ρ, Z, E, W, F, h, q, S, w, kk⟩ := w
  refine ⟨ρ, Z, E, W, F, h, _, S, w, fun v d ρ1 H1 Z1 E1 W1 F1 S1 o1 e1 f1 nu w1 => ?_⟩
  have rv := rep_at S1 e1 f1 nu
  have o1' : Out (Tc N (.lor a b)) H Z E W F h H1 Z1 E1 W1 F1 := o1.mono fun i _ t => ⟨t.1, by rw [tch, t.2]; rfl⟩
  cases d with
  | bl k =>
    obtain ⟨E2, F2, S2, o2⟩ := o1'.off S1 S.hN
    refine ⟨k, rep_bl rv, ?_⟩
    cases k with
    | true =>
      obtain ⟨E3, W3, F3, S3, e3, f3, o3⟩ := S2.push (T := Tc N (.lor a b)) (bl_rep (i := true))
      exact iteT (kk _ _ ρ1 H1 Z1 E3 W3 F3 S3 (o2.trans o3 (Nat.le_refl h)) e3 f3 (fun z => by cases z) w1)
    | false => exact iteF ⟨ρ1, Z1, E2, W1, F2, h, q, S2, w1, fun v d ρ' H' Z' E' W' F' S' o e f nu qq => kk v d ρ' H' Z' E' W' F' S' (o2.trans (o.mono fun i _ t => ⟨t.1, by rw [tch, t.2, Bool.or_true]⟩) (Nat.le_refl h)) e f nu qq⟩
  | _ => exact w1.elim
theorem s_ite (hc : PT X ec (tT X.K N c)) (ha : PE X ea (tE X.K N a)) (hb : PE X eb (tE X.K N b)) : PE X (.IfExp ec ea eb pos) (tE X.K N (.ite c a b)) := pe_weak (pe_ifExp hc ha hb) fun σ H Q w => by
  obtain ⟨ρ, Z, E, W, F, h, q, S, w, kk⟩ := w
  refine ⟨ρ, Z, E, W, F, h, _, S, w, fun k ρ1 H1 Z1 E1 W1 F1 S1 o1 qq => ?_⟩
  have o1' : Out (Tc N (.ite c a b)) H Z E W F h H1 Z1 E1 W1 F1 := o1.mono fun i _ t => ⟨t.1, by rw [tch, t.2]; rfl⟩
  cases k with
  | true => exact iteT ⟨ρ1, Z1, E1, W1, F1, h, q, S1, (if_pos rfl).mp qq, fun v d ρ' H' Z' E' W' F' S' o e f nu qq => kk v d ρ' H' Z' E' W' F' S' (o1'.trans (o.mono fun i _ t => ⟨t.1, by rw [tch, t.2]; simp⟩) (Nat.le_refl h)) e f nu qq⟩
  | false => exact iteF ⟨ρ1, Z1, E1, W1, F1, h, q, S1, (if_neg Bool.false_ne_true).mp qq, fun v d ρ' H' Z' E' W' F' S' o e f nu qq => kk v d ρ' H' Z' E' W' F' S' (o1'.trans (o.mono fun i _ t => ⟨t.1, by rw [tch, t.2]; simp⟩) (Nat.le_refl h)) e f nu qq⟩
end
section
variable {X : Cx} {N : Nat} {a b r e c d as o : IR} {ea eb ec er eo : Expr} {es : List Expr} {pos p2 : Pos}

/-! ### slices -/
theorem rep_of_rD1 {f : D → (D → Prop) → Prop} {H : Hp} {x : V} {Q : VK} {dd : D} {S : List Addr} {Z : Addr → Prop} {post : D → Prop} (r : Rep X.K Z H dd x S) (w : f dd post)
    (k : ∀ rd v H' S', (∀ b o, H b = some o → H' b = some o) → Rep X.K Z H' rd v S' → S'.Nodup → (∀ b ∈ S', H b = none) → post rd → Q v H') : rD X.K (un1 f) [x] H Q :=
  ⟨[dd], [S], Z, post, ⟨_, _, _, _, rfl, rfl, r, rfl, rfl⟩, w, k⟩
theorem s_slc00 (ha : PE X ea (tL X.K N a)) : PE X (.Subscript ea (.Slice none none none p2) pos) (tE X.K N (.ap (.slc false false) (.cons a .nil))) :=
  pe_weak (pe_slice slc_ok ha po_none po_none) fun σ H Q w => tA1 (ap_look (rD_impl X.K _) w)
theorem s_rev {z : Bool} {hi : Option Expr} {th : TO} {k : Nat} {p1 p3 : Pos} (hu : PO X hi th) (hth : ∀ σ H (Q : Option Int → Hp → Prop), Q (hiOf z) H → th σ H Q) (ha : PE X ea (tL X.K N a)) :
    PE X (.Subscript ea (.Slice none hi (some (.UnaryOp .USub (.Constant (.int 1) k p1) p2)) p3) pos) (tE X.K N (.ap (.rev z) (.cons a .nil))) :=
  pe_weak (pe_back ha hu hth) fun σ H Q w => (tA1 (ap_look (rD_impl X.K (pkS (.rev z))) w)).mono fun v H1 q => by
    obtain ⟨dd, S, Z, post, r, w, k⟩ := one_of (f := revS z) q
    unfold revS at w
    split at w
    · obtain ⟨hp, w⟩ := w
      obtain ⟨a, vs, rfl, ha, q1⟩ := rep_tup r
      exact ⟨a, vs, rfl, .inr ⟨ha, tellT k (((q1.pure0 hp).drop (backK z)).reverse) w⟩⟩
    · obtain ⟨hp, w⟩ := w
      obtain ⟨a, vs, _, rfl, ha, q1⟩ := rep_lst r
      exact ⟨a, vs, rfl, .inl ⟨.inl (.inl ha), tellL k (((q1.pure0 hp).drop (backK z)).reverse) w⟩⟩
    · exact w.elim
theorem s_slc10 (ha : PE X ea (tL X.K N a)) (hb : PE X eb (tL X.K N b)) (s : Safe a (.cons b .nil)) : PE X (.Subscript ea (.Slice (some eb) none none p2) pos) (tE X.K N (.ap (.slc true false) (.cons a (.cons b .nil)))) :=
  pe_weak (pe_slice slc_ok ha (po_some hb) po_none) fun σ H Q w => (tA2 s (ap_look (rD_impl X.K _) w)).mono fun v H1 q => q.mono fun u H2 q => by
    obtain ⟨ds, Ss, Z, post, rl, w, k⟩ := q
    change un2 slcL ds post at w
    unfold un2 at w
    split at w
    · obtain ⟨v', u', S, T, e1, e2, r1, r2⟩ := RepL.two rl
      cases e1
      unfold slcL at w
      split at w
      · exact ⟨_, rep_int r2, rep_of_rD1 r1 w k⟩
      · exact w.elim
    · exact w.elim
theorem s_slc01 (ha : PE X ea (tL X.K N a)) (hb : PE X eb (tL X.K N b)) (s : Safe a (.cons b .nil)) : PE X (.Subscript ea (.Slice none (some eb) none p2) pos) (tE X.K N (.ap (.slc false true) (.cons a (.cons b .nil)))) :=
  pe_weak (pe_slice slc_ok ha po_none (po_some hb)) fun σ H Q w => (tA2 s (ap_look (rD_impl X.K _) w)).mono fun v H1 q => q.mono fun u H2 q => by
    obtain ⟨ds, Ss, Z, post, rl, w, k⟩ := q
    change un2 slcR ds post at w
    unfold un2 at w
    split at w
    · obtain ⟨v', u', S, T, e1, e2, r1, r2⟩ := RepL.two rl
      cases e1
      unfold slcR at w
      split at w
      · exact ⟨_, rep_int r2, rep_of_rD1 r1 w k⟩
      · exact w.elim
    · exact w.elim
theorem ArgAt.on {x : Arg} {v : V} {K : PySem.W.Frag} {ρ ρ1 : Env} {σ : L2.St} {H H1 : Hp} {Z Z1 : Addr → Prop} {E E1 : Nat → D} {W W1 : Nat → Option V} {F F1 : Nat → List Addr} {h h1 j : Nat} (a1 : ArgAt K N H Z E W F j x v) (S : St0 K N ρ σ H Z E W F h) (S1 : St0 K N ρ1 σ H1 Z1 E1 W1 F1 h1)
    (o : Out (Tc N r) H Z E W F h H1 Z1 E1 W1 F1) (hj : j < h) (jN : N ≤ j) (sh : Shape a x) (safe : Safe a r) : ArgAt K N H1 Z1 E1 W1 F1 j x v := by
  refine a1.stay S S1 o hj (fun i t => t.1) jN fun i kk p e t => ?_
  subst e
  unfold Shape at sh
  cases hb : bslot a with
  | none => rw [hb] at sh; obtain ⟨d, e⟩ := sh; cases e
  | some j =>
    rw [hb] at sh
    obtain ⟨p', e, hp⟩ := sh
    cases e
    rcases safe i hb with ⟨j, e⟩ | q
    · have := hp j e; cases this
    · rw [t.2] at q; cases q
theorem s_slc11 (ha : PE X ea (tL X.K N a)) (hb : PE X eb (tE X.K N b)) (hc : PE X ec (tE X.K N c)) (s : Safe a b) (s2 : Safe a c) : PE X (.Subscript ea (.Slice (some eb) (some ec) none p2) pos) (tE X.K N (.slc a b c)) :=
  pe_weak (pe_slice slc_ok ha (po_some hb) (po_some hc)) fun σ H Q w => by
    obtain ⟨ρ, Z, E, W, F, h, q, S, w, k⟩ := w
    have hN := S.hN
    refine ⟨ρ, Z, E, W, F, h, _, S, w, fun v x ρ1 H1 Z1 E1 W1 F1 S1 o1 a1 sh w1 => ?_⟩
    refine ⟨ρ1, Z1, E1, W1, F1, h + 1, _, S1, w1, fun u d ρ2 H2 Z2 E2 W2 F2 S2 o2 e2 f2 nu2 w2 => ?_⟩
    have r2 := rep_at S2 e2 f2 nu2
    cases d with
    | int i =>
      obtain ⟨E3, F3, S3, o3⟩ := o2.off S2 (Nat.le_succ_of_le hN)
      have a3 : ArgAt X.K N H2 Z2 E3 W2 F3 h x v := a1.on S1 S3 o3 (Nat.lt_succ_self h) hN sh s
      refine ⟨i, rep_int r2, ρ2, Z2, E3, W2, F3, h + 1, _, S3, w2, fun u' d' ρ4 H4 Z4 E4 W4 F4 S4 o4 e4 f4 nu4 w4 => ?_⟩
      have r4 := rep_at S4 e4 f4 nu4
      cases d' with
      | int j =>
        obtain ⟨E5, F5, S5, o5⟩ := o4.off S4 (Nat.le_succ_of_le hN)
        have a5 : ArgAt X.K N H4 Z4 E5 W4 F5 h x v := a3.on S3 S5 o5 (Nat.lt_succ_self h) hN sh s2
        have o15 : Out (Tc N (.slc a b c)) H Z E W F h H4 Z4 E5 W4 F5 := ((o1.mono fun i _ t => ⟨t.1, by rw [tch, t.2]; rfl⟩).trans (o3.mono fun i _ t => ⟨t.1, by rw [tch, t.2]; simp⟩) (Nat.le_succ h)).trans (o5.mono fun i _ t => ⟨t.1, by rw [tch, t.2]; simp⟩) (Nat.le_succ h)
        refine ⟨j, rep_int r4, ?_⟩
        exact app_look (xs := [x]) (vs := [v]) (rD_impl X.K (un1 (slcS (some i) (some j)))) S S5 o15 ⟨v, [], rfl, a5, rfl⟩ w4 k
      | _ => exact w4.elim
    | _ => exact w2.elim

/-! ### built-in functions and types -/
theorem bf_boot (f : BF) : bootBuiltins f.name = some f.val := by
  cases f <;> decide +kernel
theorem bf_name (f : BF) : f.name ≠ "__name__" ∧ (f.name == ("__debug__" : Str)) = false := by
  cases f <;> decide +kernel
theorem no_star : ∀ {es : List Expr} {env : PySem.Env} {pos : Pos}, es.all notStar = true → (backTo pos (starEach es env)).any (·.1) = false
  | [], _, _, _ => rfl
  | e :: es, env, pos, h => by
    rw [List.all_cons, Bool.and_eq_true] at h
    rw [star_cons h.1]
    show (false || (backTo pos (starEach es env)).any (·.1)) = false
    rw [no_star h.2]; rfl
theorem s_bif {f : BF} {x : Str} {p : Pos} (hx : x = f.name) (hc : X.calm = true) (hgd : X.A.guards = some []) (hu : X.A.units + 128 < cLine) (hg : Gl X x) (hm : X.mg x = none) (ha : PA X (ea :: es) (tA X.K N as)) (hs : (ea :: es).all notStar = true) :
    PE X (.Call (.Name x p) (ea :: es) [] pos) (tE X.K N (.ap (.bif f) as)) := by
  subst hx
  rw [List.all_cons, Bool.and_eq_true] at hs
  have hb := bif_ok hc hgd hu f
  have hv := bf_boot f
  have hn := bf_name f
  have t : ∀ σ H Q, tE X.K N (.ap (.bif f) as) σ H Q → tCB (fun vs H Q => rD X.K (bifS f) vs H Q) (tA X.K N as) σ H Q := fun σ H Q w => ap_look (rD_impl X.K (pkS (.bif f))) w
  cases f <;> first
    | exact pe_weak (pe_callB hb hg hm hv ha hn.1 hn.2 (star_cons hs.1) (no_star hs.2)) t
    | exact pe_weak (pe_callTy hb hg hm hv ha hn.1 hn.2 (star_cons hs.1) (no_star hs.2)) t

/-! ### isinstance -/
def TY.ty : TY → String
  | .int => "int" | .bool => "bool" | .str => "str" | .tuple => "tuple" | .list => "list"
theorem ty_boot (t : TY) : bootBuiltins t.name = some (.type t.ty) := by
  cases t <;> decide +kernel
theorem ty_name (t : TY) : t.name ≠ "__name__" ∧ (t.name == ("__debug__" : Str)) = false := by
  cases t <;> decide +kernel
/-- the type of data, by its value -/
theorem rep_ty {t : TY} {K : PySem.W.Frag} {Z : Addr → Prop} {H : Hp} {dd : D} {v : V} {S : List Addr} {k : Bool} (r : Rep K Z H dd v S) (h : typeIs t dd = some k) :
    ∃ T, TyX K H v (.type T) ∧ kitB T t.ty = some k := by
  cases dd with
  | un => cases h
  | raw w => cases h
  | non => rw [rep_non r]; exact ⟨_, .base .non, by cases t <;> cases h <;> decide +kernel⟩
  | bl b => rw [rep_bl r]; exact ⟨_, .base (.bl b), by cases t <;> cases h <;> decide +kernel⟩
  | int i => rw [rep_int r]; exact ⟨_, .base (.int i), by cases t <;> cases h <;> decide +kernel⟩
  | str i => rw [rep_str r]; exact ⟨_, .base (.str i), by cases t <;> cases h <;> decide +kernel⟩
  | tup ds =>
    obtain ⟨a, vs, rfl, hs, q⟩ := rep_tup r
    have hk : kitB "tuple" t.ty = some k := by cases t <;> cases h <;> decide +kernel
    rcases hs with (hs | ⟨ob, hs⟩) | ⟨ob, its, n, hk1, hk2, _⟩
    · exact ⟨_, .base (.tup hs), hk⟩
    · exact ⟨_, .fTuple hs, hk⟩
    · exact ⟨_, .kTuple hk1 hk2, hk⟩
  | ptp ds =>
    obtain ⟨a, vs, rfl, hs, q⟩ := rep_ptp r
    exact ⟨_, .base (.tup hs), by cases t <;> cases h <;> decide +kernel⟩
  | lst o ds =>
    obtain ⟨a, vs, _, rfl, hs, q⟩ := rep_lst r
    exact ⟨_, .base (.lst hs), by cases t <;> cases h <;> decide +kernel⟩
  | scr ds =>
    obtain ⟨a, vs, rfl, hs, q⟩ := rep_scr r
    have hk : kitB "list" t.ty = some k := by cases t <;> cases h <;> decide +kernel
    rcases hs with (hs | ⟨ob, hs⟩) | ⟨ob, its, n, hk1, hk2, _⟩
    · exact ⟨_, .base (.lst hs), hk⟩
    · exact ⟨_, .base (.frz hs), hk⟩
    · exact ⟨_, .kList hk1 hk2, hk⟩
  | dct o kt ks ds =>
    obtain ⟨a, vs, _, rfl, hs, _⟩ := rep_dct r
    cases kt with
    | true => exact ⟨_, .base (.dT hs), by cases t <;> cases h <;> decide +kernel⟩
    | false => exact ⟨_, .base (.dK hs), by cases t <;> cases h <;> decide +kernel⟩
  | ins o c fs ds => cases h
theorem s_isi {t : TY} {x y : Str} {p p' : Pos} (hx : x = "isinstance") (hy : y = t.name) (hg : Gl X x) (hm : X.mg x = none) (hg2 : Gl X y) (hm2 : X.mg y = none) (ha : PE X ea (tL X.K N a)) (hs : notStar ea = true) :
    PE X (.Call (.Name x p) [ea, .Name y p'] [] pos) (tE X.K N (.ap (.isi t) (.cons a .nil))) := by
  subst hx; subst hy
  have hv := ty_boot t
  have hn := ty_name t
  refine pe_weak (pe_callB (pos := pos) (call_isi (X := X)) hg hm (by decide +kernel) (pa_cons ha (pa_cons (pe_bltn (v := V.ty t.ty) hg2 hm2 hv rfl hn.1 hn.2) pa_nil) (star_cons hs)) (by decide +kernel) (by decide +kernel) (star_cons hs) (no_star (es := [.Name t.name p']) rfl)) fun σ H Q w => ?_
  refine (tA1 (ap_look (rD_impl X.K (pkS (.isi t))) w)).mono fun v H1 q => ?_
  obtain ⟨dd, S, Z, post, r, w, k⟩ := one_of (f := isiS t) q
  obtain ⟨kk, hk, w⟩ := w
  obtain ⟨T, ty, hk2⟩ := rep_ty r hk
  exact ⟨v, .ty t.ty, .type T, .type t.ty, kk, rfl, .ty _, ty, kit_ty hk2, tell k bl_rep w⟩

/-! ### list(range(n)), tuple(range(n)); {} -/
theorem reps_rng {K : PySem.W.Frag} {Z : Addr → Prop} {H : Hp} (n : Int) : Reps K Z H (rngL 0 n) (rgV 0 n) [] := by
  have e1 : rngL 0 n = ((List.range (n - 0).toNat).map fun i : Nat => (0 : Int) + (i : Nat)).map D.int := by unfold rngL; rw [List.map_map]; rfl
  have e2 : rgV 0 n = ((List.range (n - 0).toNat).map fun i : Nat => (0 : Int) + (i : Nat)).map V.int := by unfold rgV; rw [List.map_map]; rfl
  rw [e1, e2]
  exact ints_reps
theorem s_rng {tp : Bool} {f : Str} {p p2 pos2 : Pos} (hf : f = if tp = true then "tuple" else "list") (hc : X.calm = true) (hg : Gl X f) (hm : X.mg f = none) (hg2 : Gl X "range") (hm2 : X.mg "range" = none) (ha : PE X ea (tL X.K N a)) (hs : notStar ea = true) :
    PE X (.Call (.Name f p) [.Call (.Name "range" p2) [ea] [] pos2] [] pos) (tE X.K N (.ap (.rng tp) (.cons a .nil))) := by
  subst hf
  have go : ∀ σ H Q, tE X.K N (.ap (.rng tp) (.cons a .nil)) σ H Q → tRg1 (tL X.K N a) σ H fun lo hi H1 => RgOk lo hi ∧ (tp = true → NewT H1 (rgV lo hi) Q) ∧ (tp = false → ∀ q, H1 q = none → Q (.ref q) (upd H1 q (.lst (rgV lo hi)))) := fun σ H Q w => by
    refine (tA1 (ap_look (rD_impl X.K (pkS (.rng tp))) w)).mono fun v H1 q => ?_
    obtain ⟨dd, S, Z, post, r, w, k⟩ := one_of (f := rngS1 tp) q
    unfold rngS1 at w
    split at w
    · obtain ⟨h0, h1, w⟩ := w
      refine ⟨_, rep_int r, RgOk.of_le (by omega) (by omega) (by omega) (by omega), fun e => ?_, fun e => ?_⟩
      · subst e; exact tellT k (reps_rng _) w
      · subst e; exact tellL k (reps_rng _) w
    · exact w.elim
  cases tp with
  | true => exact pe_weak (pe_tupRgX hc hg hm (prg_1 hg2 hm2 ha (star_cons hs)) (by rfl)) fun σ H Q w => (go σ H Q w).mono fun v H1 q => q.imp fun i q => ⟨q.1, q.2.1, q.2.2.1 rfl⟩
  | false => exact pe_weak (pe_listRg hc hg hm (prg_1 hg2 hm2 ha (star_cons hs)) (by rfl)) fun σ H Q w => (go σ H Q w).mono fun v H1 q => q.imp fun i q => ⟨q.1, q.2.1, q.2.2.2 rfl⟩
theorem s_lenset {p p2 pos2 : Pos} (hc : X.calm = true) (hg : Gl X "len") (hm : X.mg "len" = none) (hg2 : Gl X "set") (hm2 : X.mg "set" = none) (ha : PE X ea (tL X.K N a)) (hs : notStar ea = true) :
    PE X (.Call (.Name "len" p) [.Call (.Name "set" p2) [ea] [] pos2] [] pos) (tE X.K N (.ap .lenset (.cons a .nil))) :=
  pe_weak (pe_lenSet hc hg hm hg2 hm2 ha (star_cons hs)) fun σ H Q w => (tA1 (ap_look (rD_impl X.K (pkS .lenset)) w)).mono fun v H1 q => by
    obtain ⟨dd, S, Z, post, r, w, k⟩ := one_of (f := lenSetS) q
    unfold lenSetS at w
    split at w
    · obtain ⟨ns, rfl, hz, w⟩ := w
      obtain ⟨a, vs, _, rfl, ha, q1⟩ := rep_lst r
      rw [q1.ints] at ha
      exact ⟨a, ns, rfl, .inl (.inl (.inl ha)), hz, fun c hc => tell k int_rep (w c hc.1 hc.2)⟩
    · obtain ⟨ns, rfl, hz, w⟩ := w
      obtain ⟨a, vs, rfl, ha, q1⟩ := rep_tup r
      rw [q1.ints] at ha
      exact ⟨a, ns, rfl, .inr ha, hz, fun c hc => tell k int_rep (w c hc.1 hc.2)⟩
    · exact w.elim
/-- t[:k], as a key -/
theorem s_kslc {p2 : Pos} (ha : PE X ea (tL X.K N a)) (hb : PE X eb (tL X.K N b)) (s : Safe a (.cons b .nil)) : PE X (.Subscript ea (.Slice none (some eb) none p2) pos) (tE X.K N (.ap .kslc (.cons a (.cons b .nil)))) :=
  pe_weak (pe_slice sl_tup ha po_none (po_some hb)) fun σ H Q w => (tA2 s (ap_look (rD_impl X.K (pkS .kslc)) w)).mono fun v H1 q => q.mono fun u H2 q => by
    obtain ⟨ds, Ss, Z, post, rl, w, k⟩ := q
    change un2 kslcS ds post at w
    unfold un2 at w
    split at w
    · obtain ⟨v', u', S, T, e1, e2, r1, r2⟩ := RepL.two rl
      cases e1
      unfold kslcS at w
      split at w
      · obtain ⟨hp, i0, i1, w⟩ := w
        obtain ⟨a, vs, rfl, hs, q1⟩ := rep_tup r1
        rename_i ds i
        have hl := q1.length
        have e3 : HT.sIx vs.length 0 none = 0 := rfl
        have e4 : HT.sIx vs.length vs.length (some i) = i.toNat := by
          have e5 : HT.sIx vs.length vs.length (some i) = min i.toNat vs.length := if_neg (by omega)
          rw [e5]; omega
        refine ⟨i, rep_int r2, a, vs, rfl, hs, fun e => ?_, ?_⟩
        · rw [e4] at e; omega
        · have e5 : cutV vs none (some i) = vs.take i.toNat := by
            unfold cutV
            rw [e3, e4]; simp
          rw [e5]
          exact tellP k (Reps.take i.toNat (q1.pure0 hp)) w
      · exact w.elim
    · exact w.elim
theorem s_dctE {t : Bool} : PE X (.Dict [] [] pos) (tE X.K N (.ap (.dctE t) .nil)) := by
  have go : ∀ σ H Q, tE X.K N (.ap (.dctE t) .nil) σ H Q → ∀ p, H p = none → Q (.ref p) (upd H p (dHO t [] [])) := fun σ H Q w p hp => by
    have w1 := tA.nil (ap_look (rD_impl X.K (pkS (.dctE t))) w)
    obtain ⟨ds, Ss, Z, post, r, w2, k⟩ := w1
    have h : ds.length = 0 := w2.1
    exact tellG (t := t) (ks := []) (ds := []) (xs := []) k ⟨List.nodup_nil, fun _ x hx => (nomatch hx)⟩ rfl Reps.nil w2.2 p hp
  cases t with
  | true => exact pe_weak pe_dnewT go
  | false => exact pe_weak pe_dnewK go

/-! ### displays, methods -/
theorem s_tup {k : Nat} (ha : PA X es (tA X.K N as)) (hl : lentL as = []) : PE X (.Tuple es k pos) (tE X.K N (.ap .tup as)) :=
  pe_weak (pe_tupX ha) fun σ H Q w => ap_disp tup_impl hl w
theorem s_ptp {k : Nat} (ha : PA X es (tA X.K N as)) (hl : lentL as = []) : PE X (.Tuple es k pos) (tE X.K N (.ap .ptp as)) :=
  pe_weak (pe_tup ha) fun σ H Q w => ap_disp ptp_impl hl w
theorem s_lst (ha : PA X es (tA X.K N as)) (hl : lentL as = []) : PE X (.List es pos) (tE X.K N (.ap .lst as)) :=
  pe_weak (pe_lst ha) fun σ H Q w => ap_disp lst_impl hl w
def noSuper : Expr → Bool
  | .Call .. => false | _ => true
theorem attr_base {e : Expr} {at_ : Str} {env : PySem.Env} (h : noSuper e = true) : attributeBase e at_ env (eval e env) = eval e env := by
  cases e <;> first | rfl | cases h
theorem hfew_ok {cpos : Pos} {env : PySem.Env} : ∀ {es : List Expr}, es.all notStar = true → ((backTo cpos (starEach es env)).all (fun x => !x.1)) = true
  | [], _ => rfl
  | e :: es, h => by
    rw [List.all_cons, Bool.and_eq_true] at h
    rw [star_cons h.1]
    show ((!false) && (backTo cpos (starEach es env)).all (fun x => !x.1)) = true
    rw [hfew_ok h.2]; rfl
theorem lt_idx_ne : ∀ {ns : List Int} {z : Int} {m : Nat} (_ : m < ns.idxOf z) (h2 : m < ns.length), ns[m] ≠ z
  | [], z, m, h, h2 => nomatch h2
  | n :: r, z, 0, h, h2 => fun e => by
    have e' : n = z := e
    subst e'
    simp at h
  | n :: r, z, m + 1, h, h2 => by
    have hb : (n == z) = false := by
      cases q : n == z with
      | false => rfl
      | true => rw [List.idxOf_cons, q] at h; simp at h
    rw [List.idxOf_cons, hb] at h
    exact lt_idx_ne (ns := r) (Nat.lt_of_succ_lt_succ h) (Nat.lt_of_succ_lt_succ h2)
theorem eqV_int (z : Int) : eqV (.int z) (.int z) = true := by simp [eqV]
theorem idx_is (ns : List Int) (z : Int) (h : z ∈ ns) : (ns.map V.int).all flatV = true ∧ (ns.map V.int)[ns.idxOf z]? = some (.int z) ∧
    ∀ (m : Nat) (z' : V), m < ns.idxOf z → (ns.map V.int)[m]? = some z' → eqV z' (.int z) = false := by
  refine ⟨by simp [flatV], ?_, ?_⟩
  · have hj : ns.idxOf z < ns.length := List.idxOf_lt_length_iff.mpr h
    rw [List.getElem?_map, List.getElem?_eq_getElem hj, List.getElem_idxOf hj]; rfl
  · intro m z' hm e
    have hj : ns.idxOf z < ns.length := List.idxOf_lt_length_iff.mpr h
    have hml : m < ns.length := by omega
    rw [List.getElem?_map, List.getElem?_eq_getElem hml] at e
    cases e
    have hne : ns[m] ≠ z := lt_idx_ne hm hml
    simpa [eqV] using hne
/-- methods of lists, of tuples, of dicts -/
def meL : ME → Bool
  | .get => false | .update => false | .tindex => false | .tcount => false | .join => false | .split => false | .part => false | .find => false | _ => true
theorem recv_lst {m : ME} {K : PySem.W.Frag} {Z : Addr → Prop} {H : Hp} {d : D} {v : V} {S : List Addr} (hm : meL m = true) (h : recv m d = true) (r : Rep K Z H d v S) : ∃ a vs, v = .ref a ∧ H a = some (.lst vs) := by
  cases d with
  | lst o ds => exact rep_lst' r
  | _ => cases m <;> first | (simp [meL] at hm; done) | (simp [recv] at h; done)
theorem recv_tup {m : ME} {K : PySem.W.Frag} {Z : Addr → Prop} {H : Hp} {d : D} {v : V} {S : List Addr} (hm : m = .tindex ∨ m = .tcount) (h : recv m d = true) (r : Rep K Z H d v S) : ∃ a vs, v = .ref a ∧ TupX K H a vs := by
  cases d with
  | tup ds =>
    obtain ⟨a, vs, e, ht, _⟩ := rep_tup0 r
    exact ⟨a, vs, e, ht⟩
  | _ => rcases hm with rfl | rfl <;> cases h
theorem recv_dct {m : ME} {K : PySem.W.Frag} {Z : Addr → Prop} {H : Hp} {d : D} {v : V} {S : List Addr} (hm : m = .get ∨ m = .update) (h : recv m d = true) (r : Rep K Z H d v S) : ∃ a, v = .ref a ∧ ((∃ kvs, H a = some (.dK kvs)) ∨ ∃ kvs, H a = some (.dT kvs)) := by
  cases d with
  | dct o t ks ds =>
    obtain ⟨a, vs, T, e, ha, _⟩ := rep_dct r
    refine ⟨a, e, ?_⟩
    cases t with
    | true => exact .inr ⟨_, ha⟩
    | false => exact .inl ⟨_, ha⟩
  | _ => rcases hm with rfl | rfl <;> cases h
/-- a rule that only looks, its arguments used up -/
theorem look_impl {K : PySem.W.Frag} {rr : List V → Hp → VK → Prop} {g : List D → (D → Prop) → Prop} (im : PImpl K rr g) : Impl K rr fun ds post => g ds fun d => post d (ds.map fun _ => .un) := by
  intro ds vs Ss H Z post Q rl nd nz al w k
  refine im ds vs Ss H Z _ Q rl w fun rd v H' S' s r nd' fr pq => k rd _ v H' Z S' (ds.map fun _ => []) ⟨used_up rl, r, ?_, fun b hb hz => ?_, fun b hb => ?_, Ext.same s, fun b z => ?_⟩ pq
  · rw [nils, List.append_nil]; exact nd'
  · rw [nils, List.append_nil] at hb
    obtain ⟨o, e⟩ := al b hz
    rw [fr b hb] at e; cases e
  · rw [nils, List.append_nil] at hb; exact .inr (fr b hb)
  · obtain ⟨o, e⟩ := al b z
    exact ⟨o, s b o e⟩
theorem recv_str {m : ME} {K : PySem.W.Frag} {Z : Addr → Prop} {H : Hp} {d : D} {v : V} {S : List Addr} (hm : m = .join ∨ m = .split ∨ m = .part ∨ m = .find) (h : recv m d = true) (r : Rep K Z H d v S) : ∃ z, v = .str z := by
  cases d with
  | str z => exact ⟨z, rep_str r⟩
  | _ => rcases hm with rfl | rfl | rfl | rfl <;> cases h
theorem strs_of {K : PySem.W.Frag} {Z : Addr → Prop} {H : Hp} : ∀ {ys : List Str} {vs : List V} {S : List Addr}, Reps K Z H (ys.map D.str) vs S → vs = ys.map V.str := by
  intro ys
  induction ys with
  | nil => intro vs S r; exact List.length_eq_zero_iff.mp r.length
  | cons y ys ih =>
    intro vs S r
    cases vs with
    | nil => have := r.length; simp at this
    | cons v vs =>
      rw [List.map_cons, Reps] at r
      obtain ⟨x, xs, T, U, e1, e2, r1, r2⟩ := r
      cases e1
      rw [rep_str r1, ih r2]; rfl
theorem join_mt : MtR X "str.join" (fun x vs H Q => rD X.K (un2 joinS) (x :: vs) H Q) := by
  intro pins s σ H x vs v us Q I rx rv h
  obtain ⟨ds, Ss, Z, post, rl, w, k⟩ := h
  unfold un2 at w
  split at w
  · obtain ⟨v', u', S, T, e1, e2, r1, r2⟩ := RepL.two rl
    cases e1
    unfold joinS at w
    split at w
    · obtain ⟨ys, rfl, hz, w⟩ := w
      have ex := rep_str r1
      subst ex
      obtain ⟨a, xs, _, rfl, ha, q⟩ := rep_lst r2
      rw [strs_of q] at ha
      exact mt_join pins s σ H _ _ v us Q I rx rv ⟨_, a, ys, rfl, rfl, .inl (.inl (.inl ha)), hz, tell k str_rep w⟩
    · obtain ⟨ys, rfl, hz, w⟩ := w
      have ex := rep_str r1
      subst ex
      obtain ⟨a, xs, rfl, ha, q⟩ := rep_tup r2
      rw [strs_of q] at ha
      exact mt_join pins s σ H _ _ v us Q I rx rv ⟨_, a, ys, rfl, rfl, .inr ha, hz, tell k str_rep w⟩
    · exact w.elim
  · exact w.elim
theorem strs_rep {K : PySem.W.Frag} {Z : Addr → Prop} {H : Hp} : ∀ ys : List Str, Reps K Z H (ys.map D.str) (ys.map V.str) []
  | [] => Reps.nil
  | y :: ys => Reps.cons str_rep (strs_rep ys)
theorem split_mt : MtR X "str.split" (fun x vs H Q => rD X.K (un2 splitS) (x :: vs) H Q) := by
  intro pins s σ H x vs v us Q I rx rv h
  obtain ⟨ds, Ss, Z, post, rl, w, k⟩ := h
  unfold un2 at w
  split at w
  · obtain ⟨v', u', S, T, e1, e2, r1, r2⟩ := RepL.two rl
    cases e1
    unfold splitS at w
    split at w
    · obtain ⟨h0, hz, w⟩ := w
      have ex := rep_str r1
      have ey := rep_str r2
      subst ex ey
      exact mt_split pins s σ H _ _ v us Q I rx rv ⟨_, _, rfl, rfl, h0, hz, tellL k (strs_rep _) w⟩
    · exact w.elim
  · exact w.elim
theorem part_mt : MtR X "str.partition" (fun x vs H Q => rD X.K (un2 partS) (x :: vs) H Q) := by
  intro pins s σ H x vs v us Q I rx rv h
  obtain ⟨ds, Ss, Z, post, rl, w, k⟩ := h
  unfold un2 at w
  split at w
  · obtain ⟨v', u', S, T, e1, e2, r1, r2⟩ := RepL.two rl
    cases e1
    unfold partS at w
    split at w
    · obtain ⟨h0, hz, w⟩ := w
      have ex := rep_str r1
      have ey := rep_str r2
      subst ex ey
      exact mt_partition pins s σ H _ _ v us Q I rx rv ⟨_, _, rfl, rfl, h0, hz, tellP k (Reps.cons str_rep (Reps.cons str_rep (Reps.one str_rep))) w⟩
    · exact w.elim
  · exact w.elim
theorem find_mt : MtR X "str.find" (fun x vs H Q => rD X.K (un3 findS) (x :: vs) H Q) := by
  intro pins s σ H x vs v us Q I rx rv h
  obtain ⟨ds, Ss, Z, post, rl, w, k⟩ := h
  unfold un3 at w
  split at w
  · obtain ⟨v', u', t', S, T, U, e1, e2, r1, r2, r3⟩ := RepL.three rl
    cases e1
    unfold findS at w
    split at w
    · have ex := rep_str r1
      have ey := rep_str r2
      have ez := rep_int r3
      subst ex ey ez
      exact mt_find3 pins s σ H _ _ v us Q I rx rv ⟨_, _, _, rfl, rfl, tell k int_rep w⟩
    · exact w.elim
  · exact w.elim
theorem s_meth {m : ME} {apos cpos : Pos} (hu : X.A.units + 128 < cLine) (ho : PE X eo (tL X.K N o)) (ha : PA X (ea :: es) (tA X.K N as)) (hs : (ea :: es).all notStar = true) (nd : (lentL (.cons o as)).Nodup) (safe : Safe o as) (hb : noSuper eo = true) (hl : (apos.endLine == cpos.line) = true) (h30 : (ea :: es).length < 30) :
    PE X (.Call (.Attribute eo m.name apos) (ea :: es) [] cpos) (tE X.K N (.meth m o as)) := by
  have hs' := hs
  rw [List.all_cons, Bool.and_eq_true] at hs
  have few : ((backTo cpos (starEach (ea :: es) X.env)).all (fun x => !x.1) && (backToKw cpos (keywordEach [] X.env)).all (fun x => x.1.isSome) && decide ((ea :: es).length + ([] : List Keyword).length + (if ([] : List Keyword).isEmpty then 0 else 1) < 30)) = true := by
    rw [hfew_ok hs']
    show (true && true && decide ((ea :: es).length + 0 + 0 < 30)) = true
    simpa using h30
  cases m with
  | append =>
    refine pe_weak (pe_bm (r := fun x vs H Q => ∃ l y xs, x :: vs = [V.ref l, y] ∧ H l = some (.lst xs) ∧ xs.length < sizeLine ∧ Q .non (upd H l (.lst (xs ++ [y])))) PySem.F.plainAttrs_list PySem.F.slot_list_append PySem.F.type_list_append (fun pins s σ H x vs v us Q I rx rv ⟨l, y, xs, e, h1, h2, h3⟩ => ?_) ho ha (attr_base hb) few hl (star_cons hs.1) (no_star hs.2)) fun σ H Q w => ?_
    · cases e
      exact mt_append pins s σ H _ _ v us Q I rx rv ⟨l, xs, y, rfl, rfl, h1, h2, h3⟩
    · exact (meth_tA append_impl nd safe w).mono fun v H1 q => by
        obtain ⟨⟨dd, S, Z, rv, r⟩, q⟩ := q
        obtain ⟨l, xs, rfl, h⟩ := recv_lst rfl rv r
        exact ⟨.inl ⟨rfl, xs, .inl (.inl h)⟩, q⟩
  | pop =>
    refine pe_weak (pe_bm (r := fun x vs H Q => ∃ l xs y, H l = some (.lst xs) ∧ ((x :: vs = [V.ref l] ∧ xs[xs.length - 1]? = some y ∧ Q y (upd H l (.lst xs.dropLast))) ∨ ∃ i j, x :: vs = [V.ref l, .int i] ∧ ixN xs.length i = some j ∧ xs[j]? = some y ∧ Q y (upd H l (.lst (xs.eraseIdx j))))) PySem.F.plainAttrs_list PySem.F.slot_list_pop PySem.F.type_list_pop (fun pins s σ H x vs v us Q I rx rv ⟨l, xs, y, h1, h2⟩ => ?_) ho ha (attr_base hb) few hl (star_cons hs.1) (no_star hs.2)) fun σ H Q w => ?_
    · rcases h2 with ⟨e, h2, h3⟩ | ⟨i, j, e, h2, h3, h4⟩
      · cases e
        exact mt_pop pins s σ H _ _ v us Q I rx rv ⟨l, xs, y, rfl, rfl, h1, h2, h3⟩
      · cases e
        obtain ⟨z, _⟩ := I.lstM h1
        obtain ⟨b1, b2, b3⟩ := seq_of_ixN h2 z
        exact mt_popAt pins s σ H _ _ v us Q I rx rv ⟨l, xs, i, j, y, rfl, rfl, h1, b1, b2, b3, h3, h4⟩
    · exact (meth_tA pop_impl nd safe w).mono fun v H1 q => by
        obtain ⟨⟨dd, S, Z, rv, r⟩, q⟩ := q
        obtain ⟨l, xs, rfl, h⟩ := recv_lst rfl rv r
        exact ⟨.inl ⟨rfl, xs, .inl (.inl h)⟩, q⟩
  | extend =>
    refine pe_weak (pe_bm (r := fun x vs H Q => ∃ l b xs zs, x :: vs = [V.ref l, .ref b] ∧ H l = some (.lst xs) ∧ (H b = some (.lst zs) ∨ SqT X.K H b zs) ∧ xs.length + zs.length ≤ sizeLine ∧ Q .non (upd H l (.lst (xs ++ zs)))) PySem.F.plainAttrs_list PySem.F.slot_list_extend PySem.F.type_list_extend (fun pins s σ H x vs v us Q I rx rv ⟨l, b, xs, zs, e, h1, h2, h3, h4⟩ => ?_) ho ha (attr_base hb) few hl (star_cons hs.1) (no_star hs.2)) fun σ H Q w => ?_
    · cases e
      exact mt_extendT pins s σ H _ _ v us Q I rx rv ⟨l, b, xs, zs, rfl, rfl, h1, h2, h3, h4⟩
    · exact (meth_tA extend_impl nd safe w).mono fun v H1 q => by
        obtain ⟨⟨dd, S, Z, rv, r⟩, q⟩ := q
        obtain ⟨l, xs, rfl, h⟩ := recv_lst rfl rv r
        exact ⟨.inl ⟨rfl, xs, .inl (.inl h)⟩, q⟩
  | index =>
    refine pe_weak (pe_bm (r := fun x vs H Q => ∃ (a : Addr) (ns : List Int) (z : Int), x :: vs = [V.ref a, V.int z] ∧ H a = some (.lst (ns.map V.int)) ∧ z ∈ ns ∧ Q (.int (ns.idxOf z : Nat)) H) PySem.F.plainAttrs_list PySem.F.slot_list_index PySem.F.type_list_index (fun pins s σ H x vs v us Q I rx rv ⟨l, ns, z, e, h1, h2, h3⟩ => ?_) ho ha (attr_base hb) few hl (star_cons hs.1) (no_star hs.2)) fun σ H Q w => ?_
    · cases e
      obtain ⟨g1, g2, g3⟩ := idx_is ns z h2
      exact mt_index pins s σ H _ _ v us Q I rx rv ⟨l, ns.map V.int, .int z, ns.idxOf z, .int z, rfl, rfl, .inl (.inl h1), rfl, g1, g2, eqV_int z, g3, h3⟩
    · exact (meth_tA index_impl nd safe w).mono fun v H1 q => by
        obtain ⟨⟨dd, S, Z, rv, r⟩, q⟩ := q
        obtain ⟨l, xs, rfl, h⟩ := recv_lst rfl rv r
        exact ⟨.inl ⟨rfl, xs, .inl (.inl h)⟩, q⟩
  | insert =>
    refine pe_weak (pe_bm (r := fun x vs H Q => ∃ l xs i y, x :: vs = [V.ref l, .int i, y] ∧ H l = some (.lst xs) ∧ xs.length < sizeLine ∧ 0 ≤ i ∧ i < 2 ^ 63 ∧ Q .non (upd H l (.lst (xs.take i.toNat ++ [y] ++ xs.drop i.toNat)))) PySem.F.plainAttrs_list PySem.F.slot_list_insert PySem.F.type_list_insert (fun pins s σ H x vs v us Q I rx rv ⟨l, xs, i, y, e, h1, h2, h3, h4, h5⟩ => ?_) ho ha (attr_base hb) few hl (star_cons hs.1) (no_star hs.2)) fun σ H Q w => ?_
    · cases e
      exact mt_insert pins s σ H _ _ v us Q I rx rv ⟨l, xs, i, y, rfl, rfl, h1, h2, h3, h4, h5⟩
    · exact (meth_tA insert_impl nd safe w).mono fun v H1 q => by
        obtain ⟨⟨dd, S, Z, rv, r⟩, q⟩ := q
        obtain ⟨l, xs, rfl, h⟩ := recv_lst rfl rv r
        exact ⟨.inl ⟨rfl, xs, .inl (.inl h)⟩, q⟩
  | remove =>
    refine pe_weak (pe_bx2 (r := fun x vs H Q => ∃ (l : Addr) (ns : List Int) (z : Int), x :: vs = [V.ref l, V.int z] ∧ H l = some (.lst (ns.map V.int)) ∧ z ∈ ns ∧ Q .non (upd H l (.lst ((ns.eraseIdx (ns.idxOf z)).map V.int)))) (r' := fun _ _ _ _ => False) PySem.F.plainAttrs_list PySem.F.slot_list_remove PySem.F.type_list_remove (fun pins s σ H x vs v us Q I rx rv ⟨l, ns, z, e, h1, h2, h3⟩ => ?_) PySem.F.plainAttrs_list PySem.F.slot_list_remove PySem.F.type_list_remove (fun pins s σ H x vs v us Q I rx rv h => h.elim) ho ha (attr_base hb) few hl (star_cons hs.1) (no_star hs.2)) fun σ H Q w => ?_
    · cases e
      have hj : ns.idxOf z < ns.length := List.idxOf_lt_length_iff.mpr h2
      exact mt_remove pins s σ H _ _ v us Q I rx rv ⟨l, ns, z, ns.idxOf z, rfl, rfl, h1, by rw [List.getElem?_eq_getElem hj, List.getElem_idxOf hj], fun m hm e => by
        have hml : m < ns.length := by omega
        rw [List.getElem?_eq_getElem hml] at e
        exact lt_idx_ne hm hml (Option.some.inj e), h3⟩
    · exact (meth_tA remove_impl nd safe w).mono fun v H1 q => by
        obtain ⟨⟨dd, S, Z, rv, r⟩, q⟩ := q
        obtain ⟨l, xs, rfl, h⟩ := recv_lst rfl rv r
        exact .inl ⟨.inl (.inl ⟨rfl, xs, .inl (.inl h)⟩), q⟩
  | count =>
    refine pe_weak (pe_bm (r := fun x vs H Q => ∃ (a : Addr) (ns : List Int) (z : Int), x :: vs = [V.ref a, V.int z] ∧ H a = some (.lst (ns.map V.int)) ∧ Q (.int (ns.count z : Nat)) H) PySem.F.plainAttrs_list PySem.F.slot_list_count PySem.F.type_list_count (fun pins s σ H x vs v us Q I rx rv ⟨l, ns, z, e, h1, h3⟩ => ?_) ho ha (attr_base hb) few hl (star_cons hs.1) (no_star hs.2)) fun σ H Q w => ?_
    · cases e
      exact mt_lcount pins s σ H _ _ v us Q I rx rv ⟨l, ns, z, rfl, rfl, .inl (.inl h1), h3⟩
    · exact (meth_tA count_impl nd safe w).mono fun v H1 q => by
        obtain ⟨⟨dd, S, Z, rv, r⟩, q⟩ := q
        obtain ⟨l, xs, rfl, h⟩ := recv_lst rfl rv r
        exact ⟨.inl ⟨rfl, xs, .inl (.inl h)⟩, q⟩
  | tindex =>
    refine pe_weak (pe_bx2 (r := fun x vs H Q => ∃ (a : Addr) (ns : List Int) (z : Int), x :: vs = [V.ref a, V.int z] ∧ SqT X.K H a (ns.map V.int) ∧ z ∈ ns ∧ Q (.int (ns.idxOf z : Nat)) H) (r' := fun _ _ _ _ => False) PySem.F.plainAttrs_tuple PySem.F.slot_tuple_index PySem.F.type_tuple_index (fun pins s σ H x vs v us Q I rx rv ⟨l, ns, z, e, h1, h2, h3⟩ => ?_) PySem.F.plainAttrs_tuple PySem.F.slot_tuple_index PySem.F.type_tuple_index (fun pins s σ H x vs v us Q I rx rv h => h.elim) ho ha (attr_base hb) few hl (star_cons hs.1) (no_star hs.2)) fun σ H Q w => ?_
    · cases e
      exact mt_tindex pins s σ H _ _ v us Q I rx rv ⟨l, ns, z, rfl, rfl, h1, h2, h3⟩
    · exact (meth_tA tindex_impl nd safe w).mono fun v H1 q => by
        obtain ⟨⟨dd, S, Z, rv, r⟩, q⟩ := q
        obtain ⟨l, xs, rfl, h⟩ := recv_tup (.inl rfl) rv r
        exact .inl ⟨.inr ⟨rfl, l, xs, rfl, h⟩, q⟩
  | tcount =>
    refine pe_weak (pe_bx2 (r := fun x vs H Q => ∃ (a : Addr) (ns : List Int) (z : Int), x :: vs = [V.ref a, V.int z] ∧ SqT X.K H a (ns.map V.int) ∧ Q (.int (ns.count z : Nat)) H) (r' := fun _ _ _ _ => False) PySem.F.plainAttrs_tuple PySem.F.slot_tuple_count PySem.F.type_tuple_count (fun pins s σ H x vs v us Q I rx rv ⟨l, ns, z, e, h1, h3⟩ => ?_) PySem.F.plainAttrs_tuple PySem.F.slot_tuple_count PySem.F.type_tuple_count (fun pins s σ H x vs v us Q I rx rv h => h.elim) ho ha (attr_base hb) few hl (star_cons hs.1) (no_star hs.2)) fun σ H Q w => ?_
    · cases e
      exact mt_tcount pins s σ H _ _ v us Q I rx rv ⟨l, ns, z, rfl, rfl, h1, h3⟩
    · exact (meth_tA tcount_impl nd safe w).mono fun v H1 q => by
        obtain ⟨⟨dd, S, Z, rv, r⟩, q⟩ := q
        obtain ⟨l, xs, rfl, h⟩ := recv_tup (.inr rfl) rv r
        exact .inl ⟨.inr ⟨rfl, l, xs, rfl, h⟩, q⟩
  | get =>
    refine pe_weak (pe_bx2 (r := fun x vs H Q => ∃ a y o, (x :: vs = [V.ref a, y] ∧ DGet H a y o ∧ Q (o.getD .non) H) ∨ ∃ z, x :: vs = [V.ref a, y, z] ∧ DGet H a y o ∧ Q (o.getD z) H) (r' := fun _ _ _ _ => False) PySem.F.plainAttrs_dict PySem.F.slot_dict_get PySem.F.type_dict_get (fun pins s σ H x vs v us Q I rx rv ⟨l, y, o, h⟩ => ?_) PySem.F.plainAttrs_dict PySem.F.slot_dict_get PySem.F.type_dict_get (fun pins s σ H x vs v us Q I rx rv h => h.elim) ho ha (attr_base hb) few hl (star_cons hs.1) (no_star hs.2)) fun σ H Q w => ?_
    · rcases h with ⟨e, h1, h2⟩ | ⟨z, e, h1, h2⟩
      · cases e
        cases rx
        obtain ⟨u, rfl, ru⟩ := rv.one
        exact d_get1 (by omega) I h1 ru fun w' s' I' rw' => ⟨_, H, I', rw', h2⟩
      · cases e
        cases rx
        obtain ⟨u, u2, rfl, ru, ru2⟩ := vals2 rv
        exact d_get2 (by omega) I h1 ru ru2 fun w' s' I' rw' => ⟨_, H, I', rw', h2⟩
    · exact (meth_tA get_impl nd safe w).mono fun v H1 q => by
        obtain ⟨⟨dd, S, Z, rv, r⟩, q⟩ := q
        obtain ⟨l, rfl, h⟩ := recv_dct (.inl rfl) rv r
        exact .inl ⟨.inl (.inr (.inr (.inl ⟨rfl, h⟩))), q⟩
  | update =>
    refine pe_weak (pe_bx2 (r := rDUpd X) (r' := fun _ _ _ _ => False) PySem.F.plainAttrs_dict PySem.F.slot_dict_update PySem.F.type_dict_update (mt_dupd (by omega)) PySem.F.plainAttrs_dict PySem.F.slot_dict_update PySem.F.type_dict_update (fun pins s σ H x vs v us Q I rx rv h => h.elim) ho ha (attr_base hb) few hl (star_cons hs.1) (no_star hs.2)) fun σ H Q w => ?_
    exact (meth_tA (update_impl (X := X)) nd safe w).mono fun v H1 q => by
      obtain ⟨⟨dd, S, Z, rv, r⟩, q⟩ := q
      obtain ⟨l, rfl, h⟩ := recv_dct (.inr rfl) rv r
      exact .inl ⟨.inl (.inr (.inr (.inl ⟨rfl, h⟩))), q⟩
  | join =>
    refine pe_weak (pe_bm (r := fun x vs H Q => rD X.K (un2 joinS) (x :: vs) H Q) PySem.F.plainAttrs_str PySem.F.slot_str_join PySem.F.type_str_join join_mt ho ha (attr_base hb) few hl (star_cons hs.1) (no_star hs.2)) fun σ H Q w => ?_
    exact (meth_tA (m := .join) (look_impl (rD_impl X.K (un2 joinS))) nd safe w).mono fun v H1 q => by
      obtain ⟨⟨dd, S, Z, rv, r⟩, q⟩ := q
      obtain ⟨l, rfl⟩ := recv_str (.inl rfl) rv r
      exact ⟨rfl, q⟩
  | split =>
    refine pe_weak (pe_bm (r := fun x vs H Q => rD X.K (un2 splitS) (x :: vs) H Q) PySem.F.plainAttrs_str PySem.F.slot_str_split PySem.F.type_str_split split_mt ho ha (attr_base hb) few hl (star_cons hs.1) (no_star hs.2)) fun σ H Q w => ?_
    exact (meth_tA (m := .split) (look_impl (rD_impl X.K (un2 splitS))) nd safe w).mono fun v H1 q => by
      obtain ⟨⟨dd, S, Z, rv, r⟩, q⟩ := q
      obtain ⟨l, rfl⟩ := recv_str (.inr (.inl rfl)) rv r
      exact ⟨rfl, q⟩
  | part =>
    refine pe_weak (pe_bm (r := fun x vs H Q => rD X.K (un2 partS) (x :: vs) H Q) PySem.F.plainAttrs_str PySem.F.slot_str_partition PySem.F.type_str_partition part_mt ho ha (attr_base hb) few hl (star_cons hs.1) (no_star hs.2)) fun σ H Q w => ?_
    exact (meth_tA (m := .part) (look_impl (rD_impl X.K (un2 partS))) nd safe w).mono fun v H1 q => by
      obtain ⟨⟨dd, S, Z, rv, r⟩, q⟩ := q
      obtain ⟨l, rfl⟩ := recv_str (.inr (.inr (.inl rfl))) rv r
      exact ⟨rfl, q⟩
  | find =>
    refine pe_weak (pe_bm (r := fun x vs H Q => rD X.K (un3 findS) (x :: vs) H Q) PySem.F.plainAttrs_str PySem.F.slot_str_find PySem.F.type_str_find find_mt ho ha (attr_base hb) few hl (star_cons hs.1) (no_star hs.2)) fun σ H Q w => ?_
    exact (meth_tA (m := .find) (look_impl (rD_impl X.K (un3 findS))) nd safe w).mono fun v H1 q => by
      obtain ⟨⟨dd, S, Z, rv, r⟩, q⟩ := q
      obtain ⟨l, rfl⟩ := recv_str (.inr (.inr (.inr rfl))) rv r
      exact ⟨rfl, q⟩
/-- pop() -/
theorem s_pop0 {apos cpos : Pos} (ho : PE X eo (tL X.K N o)) (nd : (lentL (.cons o .nil)).Nodup) (hb : noSuper eo = true) (hl : (apos.endLine == cpos.line) = true) :
    PE X (.Call (.Attribute eo (ME.name .pop) apos) [] [] cpos) (tE X.K N (.meth .pop o .nil)) := by
  refine pe_weak (pe_bm0 (r := fun x vs H Q => ∃ l xs y, H l = some (.lst xs) ∧ ((x :: vs = [V.ref l] ∧ xs[xs.length - 1]? = some y ∧ Q y (upd H l (.lst xs.dropLast))) ∨ ∃ i j, x :: vs = [V.ref l, .int i] ∧ ixN xs.length i = some j ∧ xs[j]? = some y ∧ Q y (upd H l (.lst (xs.eraseIdx j))))) PySem.F.plainAttrs_list PySem.F.slot_list_pop PySem.F.type_list_pop (fun pins s σ H x vs v us Q I rx rv ⟨l, xs, y, h1, h2⟩ => ?_) ho (attr_base hb) hl) fun σ H Q w => ?_
  · rcases h2 with ⟨e, h2, h3⟩ | ⟨i, j, e, h2, h3, h4⟩
    · cases e
      exact mt_pop pins s σ H _ _ v us Q I rx rv ⟨l, xs, y, rfl, rfl, h1, h2, h3⟩
    · cases e
      obtain ⟨z, _⟩ := I.lstM h1
      obtain ⟨b1, b2, b3⟩ := seq_of_ixN h2 z
      exact mt_popAt pins s σ H _ _ v us Q I rx rv ⟨l, xs, i, j, y, rfl, rfl, h1, b1, b2, b3, h3, h4⟩
  · exact (meth_tA pop_impl nd (fun i _ => .inr rfl) w).mono fun v H1 q => by
      obtain ⟨⟨dd, S, Z, rv, r⟩, q⟩ := q
      obtain ⟨l, xs, rfl, h⟩ := recv_lst rfl rv r
      exact ⟨.inl ⟨rfl, xs, .inl (.inl h)⟩, tA.nil q⟩

/-! ### arguments -/
def Els (X : Cx) (N : Nat) : IR → List Expr → Prop
  | .nil, es => es = []
  | .cons a r, es => ∃ e er, es = e :: er ∧ PE X e (tL X.K N a) ∧ notStar e = true ∧ Safe a r ∧ Els X N r er
  | _, _ => False
theorem Els.pa : ∀ {as : IR} {es : List Expr}, Els X N as es → PA X es (tA X.K N as) ∧ es.all notStar = true := by
  intro as
  induction as with
  | nil => intro es h; cases h; exact ⟨pa_weak pa_nil fun σ H Q w => tA.nil w, rfl⟩
  | cons a r _ ih =>
    intro es h
    obtain ⟨e, er, rfl, h1, h2, h3, h4⟩ := h
    obtain ⟨i1, i2⟩ := ih h4
    exact ⟨pa_weak (pa_cons h1 i1 (star_cons h2)) fun σ H Q w => tA.cons w h3, by rw [List.all_cons, h2, i2]; rfl⟩
  | _ => intro es h; exact h.elim

/-! ### calls of defs -/
/-- a def's promise over data -/
def spD (K : PySem.W.Frag) (n : Nat) (sp : Spec) : Sp := fun vs H Q _ => vs.length = n ∧ rM K sp vs H Q
/-- a def keeps a promise, where no text is being made -/
structure FnG (P : Program) (w : World) (K : PySem.W.Frag) (mg : Str → Option Value) (base : Heap) (k : Nat) (f : Addr) (fd : FuncData) (ps : List Str) (sp : Spec) : Prop where
  run : ∀ (A : Around) (outer : List PySem.Env) (s : Shared) (H : Hp) (args : Args) (us : List Value) (vs : List V) (Q : VK), A.guards = some [] → Room k A → Env0 P w K mg base A outer s H → BindsTo s fd args (ps.zip us) → Vals vs us →
    spD K ps.length sp vs H Q E0 → codeAny (model P w) A (.call (.ref f) args) (CR CX0 outer P w H s Q E0) s
/-- the name x stands for a def that keeps the promise -/
def Callee (X : Cx) (x : Str) (sp : Spec) : Prop :=
  ∃ (f : Addr) (fd : FuncData) (ps : List Str) (k : Nat), X.mg x = some (.ref f) ∧ FnG X.prog X.w X.K X.mg X.base k f fd ps sp ∧ PySem.W.keepIn X.K (.ref f) = true ∧ Binds X.K fd ps [] ∧ Room k X.A ∧
    ∀ (ds : List D) (post : D → List D → Prop), sp ds post → ds.length = ps.length
theorem s_call {x : Str} {sp : Spec} {p : Pos} (hg : Gl X x) (hgd : X.A.guards = some []) (hdb : (x == ("__debug__" : Str)) = false) (cl : Callee X x sp) (ha : PA X (ea :: es) (tA X.K N as)) (hs : (ea :: es).all notStar = true) (nd : (lentL as).Nodup) :
    PE X (.Call (.Name x p) (ea :: es) [] pos) (tE X.K N (.call x sp as)) := by
  obtain ⟨f, fd, ps, k, hm, F, hk, hb, hr, hl⟩ := cl
  rw [List.all_cons, Bool.and_eq_true] at hs
  refine ⟨fun pins s σ H Q I w => ?_⟩
  have w2 := call_tA (rM_impl X.K sp) nd w
  refine wpAny_Call_Name_kw (ld_glob I hg hm ?_ hdb)
  refine PySem.W.callWith_K (h₀ := X.base) I.ok.mod.kin hk (thn (ha.run pos pins s σ H _ I w2) fun us s1 ⟨vs, H1, I1, r, q⟩ => ⟨I1.kIn, ?_⟩) (star_cons hs.1) (no_star hs.2)
  have hvl : vs.length = ps.length := by
    obtain ⟨ds, Ss, Z, post, rl, _, _, _, w, _⟩ := q
    rw [RepL.length rl]; exact hl ds post w
  have hul : us.length = ps.length := r.length ▸ hvl
  refine wpAny_call (codeAny_mono (F.run X.A X.stack s1 H1 ⟨us, []⟩ us vs Q hgd hr I1.env0 ?_ r ⟨hvl, q⟩) fun rr s' hq => ?_)
  · have := hb s1 us I1.kIn (by simpa using hul)
    simpa using this
  · cases rr with
    | error e => exact hq.elim
    | ok fl =>
      cases fl with
      | ret u => exact I1.after hq
      | next => exact False.elim hq
      | brk => exact False.elim hq
      | cont => exact False.elim hq
end
end DL
namespace L2
open PySem PySem.Spec PyProof.Rows
section
variable {X : Cx}
/-! ### t == (), of any items -/
def rEqE (K : PySem.W.Frag) : V → V → Hp → VK → Prop := fun x y H Q => ∃ a b xs, x = .ref a ∧ y = .ref b ∧ SqT K H a xs ∧ SqT K H b [] ∧ Q (.bl xs.isEmpty) H
theorem op_eqE (hu : X.A.units < cLine) : OpR X (compareOp .Eq) (rEqE X.K) := by
  intro pins s σ H x y v u Q I rx ry h
  obtain ⟨a, b, xs, rfl, rfl, ha, hb, q⟩ := h
  obtain rfl : v = Value.ref a := rx
  obtain rfl : u = Value.ref b := ry
  obtain ⟨its, rv, p, hz⟩ := I.tuple ha
  obtain ⟨its2, rv2, p2, hz2⟩ := I.tuple hb
  cases rv2
  refine PySem.SeqAt.eq_tupleAt (e := fun _ => false) (show s.heap.IsTuple a its.toArray from p) (show s.heap.IsTuple b #[] from p2) hu (fun j h1 h2 => absurd h2 (Nat.not_lt_zero j)) ⟨.bl xs.isEmpty, H, I, ?_, q⟩
  cases rv with
  | nil => rfl
  | cons r t => rfl
/-! ### xs[lo::step] of lists -/
theorem vals_get {xs : List V} {us : List Value} (r : Vals xs us) : ∀ j : Nat, (xs[j]? = none ∧ us[j]? = none) ∨ ∃ x u, xs[j]? = some x ∧ us[j]? = some u ∧ RelV x u := by
  induction r with
  | nil => exact fun j => .inl ⟨rfl, rfl⟩
  | cons r t ih =>
    intro j
    cases j with
    | zero => exact .inr ⟨_, _, rfl, rfl, r⟩
    | succ j => simpa using ih j
theorem vals_at {xs : List V} {us : List Value} (r : Vals xs us) : ∀ l : List Nat, Vals (l.filterMap fun j => xs[j]?) (l.filterMap fun j => us[j]?)
  | [] => .nil
  | j :: l => by
    have ih := vals_at r l
    rcases vals_get r j with ⟨h1, h2⟩ | ⟨x, u, h1, h2, h3⟩
    · rw [List.filterMap_cons_none h1, List.filterMap_cons_none h2]; exact ih
    · rw [List.filterMap_cons_some h1, List.filterMap_cons_some h2]; exact .cons h3 ih
theorem pick_stp (us : List Value) (lo : Option Int) (st : Int) : slicePick us.toArray lo none (some st) = (DL.stepL us lo st).toArray := by
  unfold slicePick DL.stepL
  simp
theorem step_idx {α β : Type} (xs : List α) (ys : List β) (h : xs.length = ys.length) (lo : Option Int) (st : Int) : ∃ l : List Nat, DL.stepL xs lo st = l.filterMap (fun j => xs[j]?) ∧ DL.stepL ys lo st = l.filterMap (fun j => ys[j]?) := by
  refine ⟨_, rfl, ?_⟩
  unfold DL.stepL
  rw [h]
theorem Vals.stp {xs : List V} {us : List Value} (r : Vals xs us) (lo : Option Int) (st : Int) : Vals (DL.stepL xs lo st) (DL.stepL us lo st) := by
  obtain ⟨l, e1, e2⟩ := step_idx xs us r.length lo st
  rw [e1, e2]
  exact vals_at r l
def tStp (K : PySem.W.Frag) (lo : Option Int) (te ts : TE) : TE := fun σ H Q => te σ H fun x H1 => tPart ts σ H1 fun o H2 => ∃ a xs i, x = V.ref a ∧ o = some i ∧ i ≠ 0 ∧ SqL K H2 a xs ∧ (DL.stepL xs lo i).length ≤ sizeLine ∧ ∀ p, H2 p = none → Q (.ref p) (upd H2 p (.lst (DL.stepL xs lo i)))
theorem pe_stp {lo : Option Int} {e st : Expr} {elo : Option Expr} {te ts : TE} {th : TO} {p3 pos : Pos} (he : PE X e te) (hl : PO X elo th) (hth : ∀ σ H (Q : Option Int → Hp → Prop), Q lo H → th σ H Q) (hs : PE X st ts) :
    PE X (.Subscript e (.Slice elo none (some st) p3) pos) (tStp X.K lo te ts) := by
  refine ⟨fun pins s σ H Q I h => ?_⟩
  refine Subscript_ (thn (he.run pins s σ H _ I h) fun v s1 ⟨x, H1, I1, r1, q1⟩ => ?_)
  refine wpAny_Slice (thn (hl.run pins s1 σ H1 (fun o H2 => o = lo ∧ H2 = H1) I1 (hth _ _ _ ⟨rfl, rfl⟩)) fun vl s2 ⟨l, H2, I2, pl, el, e2⟩ => ?_)
  subst el e2
  refine thn (po_none.run pins s2 σ H2 (fun o H3 => o = none ∧ H3 = H2) I2 ⟨rfl, rfl⟩) fun vu s3 ⟨u, H3, I3, pu, eu, e3⟩ => ?_
  subst eu e3
  refine thn ((po_some hs).run pins s3 σ H3 _ I3 q1) fun vs s4 ⟨o, H4, I4, ps, a, xs, i, ex, eo, i0, hx, hz0, q⟩ => ?_
  subst ex eo
  cases r1
  have I5 : Inv X pins σ H4 { s4 with heap := s4.heap.push { cls := .type "slice", data := .fields #[vl, vu, vs] } } := I4.kept (t' := s4.toks) fun b ob q => Heap.get?_push_of_some _ q
  show wpAny (model X.prog X.w) X.A (subscriptTail e (.Slice elo none (some st) p3) (.ref a) (.ref s4.heap.objs.size)) (EP X pins σ Q) X.xe { s4 with heap := s4.heap.push { cls := .type "slice", data := .fields #[vl, vu, vs] } }
  obtain ⟨its, r, ht, hz⟩ := I5.list hx
  have hlen := r.length
  refine tail_any (ops := [.ref a, .ref s4.heap.objs.size]) ht.isList.typeIs (PySem.slot_list_getitem.lookup) ?_ (by with_unfolding_all rfl)
  refine wpAny_getItem_list_slice ht.isList (Heap.IsSliceOf.new _ vl vu vs) pl pu ps (by intro z; cases z; exact i0 rfl) ?_ (by rw [List.size_toArray]; omega)
  rw [pick_stp]
  refine ⟨.ref _, _, I5.laid (t' := s4.toks) (o := .lst (DL.stepL xs l i)) (fun b ob q => Heap.get?_push_of_some _ q) (Nat.le_refl _) ?_, rfl, q _ (I5.hok.fresh (Nat.le_refl _))⟩
  exact ⟨hz0, _, 0, r.stp l i, Heap.get?_push_size _ rfl⟩
end
end L2
namespace DL
open PySem PySem.Spec PyProof.Rows L2
theorem reps_at {K : PySem.W.Frag} {Z : Addr → Prop} {H : Hp} {ds : List D} {vs : List V} (r : Reps K Z H ds vs []) : ∀ l : List Nat, Reps K Z H (l.filterMap fun j => ds[j]?) (l.filterMap fun j => vs[j]?) []
  | [] => Reps.nil
  | j :: l => by
    have ih := reps_at r l
    have hl := r.length
    cases e : ds[j]? with
    | none =>
      have e2 : vs[j]? = none := by
        rw [List.getElem?_eq_none_iff] at e ⊢
        omega
      rw [List.filterMap_cons_none e, List.filterMap_cons_none e2]; exact ih
    | some d =>
      obtain ⟨v, e2, q⟩ := Reps.get r e
      rw [List.filterMap_cons_some e, List.filterMap_cons_some e2]; exact Reps.cons q ih
theorem Reps.stp {K : PySem.W.Frag} {Z : Addr → Prop} {H : Hp} {ds : List D} {vs : List V} (r : Reps K Z H ds vs []) (lo : Option Int) (st : Int) : Reps K Z H (stepL ds lo st) (stepL vs lo st) [] := by
  obtain ⟨l, e1, e2⟩ := step_idx ds vs r.length.symm lo st
  rw [e1, e2]
  exact reps_at r l
/-- what a name or a constant is -/
def isAt : IR → Bool
  | .cst _ => true | .rd _ => true | _ => false
def cV : D → Option V
  | .int i => some (.int i) | .str s => some (.str s) | .bl b => some (.bl b) | .non => some .non | _ => none
def tAt : IR → TE
  | .rd i => fun σ H Q => ∃ x, σ[i]? = some (some x) ∧ Q x H
  | .cst d => fun _ H Q => ∃ x, cV d = some x ∧ Q x H
  | _ => fun _ _ _ => False
def prsT : IR → List (TE × TE)
  | .cons a (.cons b r) => (tAt a, tAt b) :: prsT r
  | _ => []
section
variable {X : Cx} {N : Nat} {a b r e c d as o : IR} {ea eb ec er eo : Expr} {es : List Expr} {pos p2 : Pos}
theorem s_stp {lo : Option Int} {elo : Option Expr} {th : TO} (hl : PO X elo th) (hth : ∀ σ H (Q : Option Int → Hp → Prop), Q lo H → th σ H Q) (ha : PE X ea (tL X.K N a)) (hb : PE X eb (tL X.K N b)) (s : Safe a (.cons b .nil)) :
    PE X (.Subscript ea (.Slice elo none (some eb) p2) pos) (tE X.K N (.ap (.stp lo) (.cons a (.cons b .nil)))) :=
  pe_weak (pe_stp ha hl hth hb) fun σ H Q w => (tA2 s (ap_look (rD_impl X.K (pkS (.stp lo))) w)).mono fun v H1 q => q.mono fun u H2 q => by
    obtain ⟨ds, Ss, Z, post, rl, w, k⟩ := q
    change un2 (stpS lo) ds post at w
    unfold un2 at w
    split at w
    · obtain ⟨v', u', S, T, e1, e2, r1, r2⟩ := RepL.two rl
      cases e1
      unfold stpS at w
      split at w
      · rename_i o' ds' st
        obtain ⟨hp, h0, h1, h2, hz, w⟩ := w
        obtain ⟨a, vs, _, rfl, ha, q1⟩ := rep_lst r1
        have q2 := (q1.pure0 hp).stp lo st
        exact ⟨_, rep_int r2, a, vs, _, rfl, rfl, h0, .inl (.inl ha), by rw [q2.length]; exact hz, tellL k q2 w⟩
      · exact w.elim
    · exact w.elim
theorem isE_eq {ds : List D} {p q : D → Prop} (h : ∀ b, p (.bl b) = q (.bl b)) : pkS .isE ds p = pkS .isE ds q := by
  show un1 isES ds p = un1 isES ds q
  unfold un1
  split
  · unfold isES
    split
    · exact h _
    · rfl
  · rfl
theorem e_w {σ : L2.St} {H : Hp} {Q : VK} (w : tE X.K N (.ap .isE (.cons a .nil)) σ H Q) : tL X.K N a σ H fun x H1 => ([] : List V).length ≤ sizeLine ∧ ∀ p o, o.dict = none → H1 p = none → rEqE X.K x (.ref p) (upd H1 p (.frz o (.tup []))) Q :=
  (tA1 (ap_look (rD_impl X.K (pkS .isE)) w)).mono fun v H1 q => by
    obtain ⟨dd, S, Z, post, r, w, k⟩ := one_of (f := isES) q
    unfold isES at w
    split at w
    · obtain ⟨a, vs, rfl, ha, q1⟩ := rep_tup r
      refine ⟨Nat.zero_le _, fun p o ho hp => ⟨a, p, vs, rfl, rfl, ?_, .inl (.inr ⟨o, upd_same⟩), ?_⟩⟩
      · rcases ha with (hs | ⟨ob, hs⟩) | hs
        · exact .inl (.inl (laid_same hp _ _ hs))
        · exact .inl (.inr ⟨ob, laid_same hp _ _ hs⟩)
        · obtain ⟨ob, its, n, hk⟩ := hs
          exact .inr ⟨ob, its, n, hk⟩
      · have e : ∀ {ds : List D} {vs : List V}, ds.length = vs.length → ds.isEmpty = vs.isEmpty := fun {ds vs} e => by
          cases ds <;> cases vs <;> first | rfl | cases e
        rw [← e q1.length.symm]
        exact k _ _ _ [] (laid_same hp) bl_rep List.nodup_nil (fun _ h => nomatch h) w
    · exact w.elim
theorem s_isE {kk : Nat} (hu : X.A.units < cLine) (ha : PE X ea (tL X.K N a)) : PE X (.Compare ea [.Eq] [.Tuple [] kk p2] pos) (tE X.K N (.ap .isE (.cons a .nil))) :=
  pe_weak (pe_cmpR (op_eqE hu) ha (pe_tupX pa_nil) (no_marks (by decide) (by decide))) fun σ H Q w => e_w w
theorem t_isE {kk : Nat} (hu : X.A.units < cLine) (ha : PE X ea (tL X.K N a)) : PT X (.Compare ea [.Eq] [.Tuple [] kk p2] pos) (tT X.K N (.ap .isE (.cons a .nil))) :=
  pt_weak (pt_cmpR (op_eqE hu) ha (pe_tupX pa_nil) (no_marks (by decide) (by decide))) fun σ H Q w => by
    obtain ⟨ρ, Z, E, W, F, hh, q, S, w, kk⟩ := w
    have w2 : tE X.K N (.ap .isE (.cons a .nil)) σ H (fun v H1 => ∃ k, v = .bl k ∧ Q k H1) := by
      refine ⟨ρ, Z, E, W, F, hh, fun d ρ1 => ∃ k, d = .bl k ∧ q k ρ1, S, ?_, fun v d ρ1 H1 Z1 E1 W1 F1 S1 o1 e1 f1 nu ⟨k, hk, w1⟩ => ?_⟩
      · have e : ∀ (ds : List D) (ρ1 : Env), pkS .isE ds (fun d => ∃ k, tru d = some k ∧ q k ρ1) = pkS .isE ds (fun d => ∃ k, d = D.bl k ∧ q k ρ1) := fun ds ρ1 => isE_eq fun b => by
          refine propext ⟨?_, ?_⟩
          · rintro ⟨k, e, h⟩; cases e; exact ⟨_, rfl, h⟩
          · rintro ⟨k, e, h⟩; cases e; exact ⟨_, rfl, h⟩
        have w' : (sm (.cons a .nil)).A ρ fun xs ρ1 => noUn (res ρ1 xs) ∧ pkS .isE (res ρ1 xs) fun d => ∃ k, tru d = some k ∧ q k ρ1 := w
        simp only [e] at w'
        exact w'
      · subst hk
        obtain ⟨E2, F2, S2, o2⟩ := o1.off S1 S.hN
        exact ⟨k, rep_bl (rep_at S1 e1 f1 nu), kk k ρ1 H1 Z1 E2 W1 F2 S2 o2 w1⟩
    exact e_w w2

/-! ### {k: v, ..} of names and constants -/
theorem cV_rep {K : PySem.W.Frag} {Z : Addr → Prop} {H : Hp} {d : D} {v v' : V} {S : List Addr} (r : Rep K Z H d v S) (e : cV d = some v') : v = v' := by
  cases d <;> first | (cases e; done) | skip
  · cases e; exact rep_non r
  · cases e; exact rep_bl r
  · cases e; exact rep_int r
  · cases e; exact rep_str r
theorem tL_at (iN : ∀ i, a = .rd i → i < N) (cd : ∀ d, a = .cst d → ∃ v, cV d = some v) (ha : isAt a = true) {σ : L2.St} {H : Hp} {R : V → Hp → Prop} (w : tL X.K N a σ H R) : ∃ v, (∀ H' Q, Q v H' → tAt a σ H' Q) ∧ R v H := by
  obtain ⟨ρ, Z, E, W, F, h, q, S, w, k⟩ := w
  cases a with
  | rd i =>
    have hi := iN i rfl
    obtain ⟨w1, w2, w3⟩ := w
    have w1' := w1
    have w2' := w2
    rw [← S.env i hi] at w1' w2'
    obtain ⟨v, wv, r⟩ := S.get (un_of w1')
    obtain ⟨E2, W2, F2, S2, e1, e2, o⟩ := S.push (T := Tc N (.rd i)) (r.pure0 w2')
    exact ⟨v, fun H' Q hq => ⟨v, by rw [S.val i hi, wv], hq⟩, k v (.val (gt ρ i)) ρ H Z E2 W2 F2 S2 o ⟨e1.trans (S.env i hi), e2, un_of w1⟩ ⟨_, rfl⟩ w3⟩
  | cst d =>
    obtain ⟨v, hv⟩ := cd d rfl
    have r : Rep X.K Z H d v [] := by
      cases d <;> first | (cases hv; done) | skip
      · cases hv; exact non_rep
      · cases hv; exact bl_rep
      · cases hv; exact int_rep
      · cases hv; exact str_rep
    have nu : d ≠ .un := fun e => by rw [e] at hv; cases hv
    obtain ⟨E2, W2, F2, S2, e1, e2, o⟩ := S.push (T := Tc N (.cst d)) r
    exact ⟨v, fun H' Q hq => ⟨v, hv, hq⟩, k v (.val d) ρ H Z E2 W2 F2 S2 o ⟨e1, e2, nu⟩ ⟨_, rfl⟩ w⟩
  | _ => cases ha
def pairUp : List V → List (V × V)
  | x :: y :: r => (x, y) :: pairUp r
  | _ => []
/-- keys and values, by turns, that are names and constants -/
def atOk (N : Nat) : IR → Prop
  | .nil => True
  | .cons a (.cons b r) => (isAt a = true ∧ (∀ i, a = .rd i → i < N) ∧ ∀ d, a = .cst d → ∃ v, cV d = some v) ∧ (isAt b = true ∧ (∀ i, b = .rd i → i < N) ∧ ∀ d, b = .cst d → ∃ v, cV d = some v) ∧ atOk N r
  | _ => False
theorem at_safe (ha : isAt a = true) : Safe a r := fun i e => by cases a <;> first | (cases ha; done) | cases e
theorem tA_at : ∀ {as : IR}, atOk N as → ∀ {σ : L2.St} {H : Hp} {R : List V → Hp → Prop}, tA X.K N as σ H R → ∃ vs, (∀ H' (Q : List (V × V) → Hp → Prop), Q (pairUp vs) H' → tPairs (prsT as) σ H' Q) ∧ R vs H
  | .nil, _, σ, H, R, w => ⟨[], fun _ _ h => h, tA.nil w⟩
  | .cons a (.cons b r), ⟨⟨a1, a2, a3⟩, ⟨b1, b2, b3⟩, hr⟩, σ, H, R, w => by
    obtain ⟨v, v1, w⟩ := tL_at a2 a3 a1 (tA.cons w (at_safe a1))
    obtain ⟨u, u1, w⟩ := tL_at b2 b3 b1 (tA.cons w (at_safe b1))
    obtain ⟨vs, h1, h2⟩ := tA_at hr w
    exact ⟨v :: u :: vs, fun H' Q h => v1 _ _ (u1 _ _ (h1 _ _ h)), h2⟩
theorem keyF {d : D} {v : V} {k : List Key} {K : PySem.W.Frag} {Z : Addr → Prop} {H : Hp} {S : List Addr} (h : keyD false d = some k) (r : Rep K Z H d v S) : ∃ y, k = [y] ∧ v = kV y := by
  obtain ⟨y, e, hy⟩ := keyD_false h
  exact ⟨y, e, leaf_rep hy r⟩
theorem pairsW_rep {K : PySem.W.Frag} {Z : Addr → Prop} {H : Hp} : ∀ {ds : List D} {ps : List (List Key × D)} {vs : List V} {Ss : List (List Addr)}, pairsW ds = some ps → RepL K Z H ds vs Ss → pus ds = true →
    ∃ ws, Reps K Z H (ps.map (·.2)) ws [] ∧ (∀ p ∈ ps, ∃ y, p.1 = [y]) ∧ pairUp vs = (((ps.map (·.1)).map headK).zip ws).map fun kv => (kV kv.1, kv.2)
  | [], ps, vs, Ss, h, r, _ => by
    cases h
    obtain ⟨rfl, rfl⟩ := r
    exact ⟨[], Reps.nil, (fun p hp => nomatch hp), rfl⟩
  | [_], ps, vs, Ss, h, r, _ => by cases h
  | k :: v :: ds, ps, vs, Ss, h, r, p => by
    obtain ⟨x, ws, S, Us, rfl, rfl, r1, y, ws2, T, Us2, rfl, rfl, r2, r3⟩ := r
    rw [pus, Bool.and_eq_true, pus, Bool.and_eq_true] at p
    unfold pairsW at h
    cases e3 : keyD false k with
    | none => rw [e3] at h; cases h
    | some kk =>
      cases e4 : pairsW ds with
      | none => rw [e3, e4] at h; cases h
      | some ps' =>
        rw [e3, e4] at h
        cases h
        obtain ⟨zs, q1, q2, q3⟩ := pairsW_rep e4 r3 p.2.2
        obtain ⟨z, rfl, rfl⟩ := keyF e3 r1
        refine ⟨y :: zs, Reps.cons (r2.pure0 p.2.1) q1, fun p hp => ?_, ?_⟩
        · rcases List.mem_cons.mp hp with rfl | hp
          · exact ⟨z, rfl⟩
          · exact q2 p hp
        · show (kV z, y) :: pairUp ws2 = _
          rw [q3]; rfl
theorem s_dctD {keys : List (Option Expr)} {values : List Expr} (hp : PPs X pos keys values (prsT as)) (hall : keys.all (·.isSome) = true) (hl : keys.length = values.length) (h0 : keys ≠ []) (h15 : keys.length ≤ 15) (ha : atOk N as) :
    PE X (.Dict keys values pos) (tE X.K N (.ap .dctD as)) :=
  pe_weak (pe_disp hp hall hl h0 h15) fun σ H Q w => by
    obtain ⟨vs, h1, q⟩ := tA_at ha (ap_look (rD_impl X.K (pkS .dctD)) w)
    obtain ⟨ds, Ss, Z, post, rl, w, k⟩ := q
    obtain ⟨ps, hps, h15', hpu, w⟩ := w
    obtain ⟨ws, q1, q2, q3⟩ := pairsW_rep hps rl hpu
    obtain ⟨ks', ds', xs', a1, a2, a3, a4, a5⟩ := mk_dct (K := X.K) (Z := Z) (H := H) (t := false) headK (fun ks x ok hx => by obtain ⟨y, rfl⟩ := hx rfl; exact head_inj ok) ps ws [] [] [] (fun p hp _ => q2 p hp) q1 ⟨List.nodup_nil, fun _ x hx => (nomatch hx)⟩ rfl Reps.nil
    rw [a1] at w
    intro p hp
    refine h1 _ _ ⟨upd_same, ((ps.map (·.1)).map headK).zip ws, q3, ?_, ?_⟩
    · rw [List.length_zip, List.length_map, List.length_map]; omega
    · rw [upd_upd]
      have a5 : mergeK [] (((ps.map (·.1)).map headK).zip ws) = (ks'.map headK).zip xs' := a5
      rw [a5]
      exact tellG (t := false) k a2 a3 a4 w p hp
end
end DL
namespace DL
open PySem PySem.Spec PyProof.Rows L2
section
variable {K : PySem.W.Frag} {N : Nat} {ρ ρ1 : Env} {σ : L2.St} {H H1 H2 : Hp} {Z Z1 Z2 : Addr → Prop} {E E1 E2 : Nat → D} {W W1 W2 : Nat → Option V} {F F1 F2 : Nat → List Addr} {h h1 : Nat} {T T1 T2 A A1 A2 : Nat → Prop}

/-- a value is laid on, with what it owns -/
theorem St0.pushO (S : St0 K N ρ σ H Z E W F h) {d : D} {v : V} {S' : List Addr} (r : Rep K Z H d v S') (nd : S'.Nodup) (nz : ∀ b ∈ S', ¬ Z b) (dj : ∀ b ∈ S', ∀ i, b ∉ F i) :
    ∃ E2 W2 F2, St0 K N ρ σ H Z E2 W2 F2 (h + 1) ∧ E2 h = d ∧ W2 h = some v ∧ F2 h = S' ∧ ∀ i, i ≠ h → E2 i = E i ∧ W2 i = W i ∧ F2 i = F i := by
  have hn := S.hN
  have fh : ∀ i b, b ∈ (if i = h then S' else F i) → (i = h ∧ b ∈ S') ∨ (i ≠ h ∧ b ∈ F i) := fun i b hb => by
    by_cases hi : i = h
    · rw [if_pos hi] at hb; exact .inl ⟨hi, hb⟩
    · rw [if_neg hi] at hb; exact .inr ⟨hi, hb⟩
  refine ⟨fun i => if i = h then d else E i, fun i => if i = h then some v else W i, fun i => if i = h then S' else F i, ⟨by omega, S.lρ, S.lσ, fun i hi => ?_, fun i hi => ?_, fun i hi => ?_, fun i => ?_, fun i => ?_, fun i j b hi hj => ?_, fun i b hi => ?_, S.al⟩, if_pos rfl, if_pos rfl, if_pos rfl, fun i hi => ⟨if_neg hi, if_neg hi, if_neg hi⟩⟩
  · show (if i = h then d else E i) = _
    rw [if_neg (by omega)]; exact S.env i hi
  · show _ = some (if i = h then some v else W i)
    rw [if_neg (by omega)]; exact S.val i hi
  · show (if i = h then d else E i) = _
    rw [if_neg (by omega)]; exact S.top i (by omega)
  · by_cases hi : i = h
    · simp only [if_pos hi]; exact .inr ⟨v, rfl, r⟩
    · simp only [if_neg hi]; exact S.rep i
  · by_cases hi : i = h
    · simp only [if_pos hi]; exact nd
    · simp only [if_neg hi]; exact S.nd i
  · rcases fh i b hi with ⟨p1, p2⟩ | ⟨p1, p2⟩ <;> rcases fh j b hj with ⟨q1, q2⟩ | ⟨q1, q2⟩
    · rw [p1, q1]
    · exact absurd q2 (dj b p2 j)
    · exact absurd p2 (dj b q2 i)
    · exact S.dj i j b p2 q2
  · rcases fh i b hi with ⟨p1, p2⟩ | ⟨p1, p2⟩
    · exact nz b p2
    · exact S.nz i b p2

theorem St0.pushes : ∀ (ds : List D) {vs : List V} {S' : List Addr} {h : Nat} {E : Nat → D} {W : Nat → Option V} {F : Nat → List Addr}, St0 K N ρ σ H Z E W F h → Reps K Z H ds vs S' → S'.Nodup → (∀ b ∈ S', ¬ Z b) → (∀ b ∈ S', ∀ i, b ∉ F i) →
    ∃ E2 W2 F2, St0 K N ρ σ H Z E2 W2 F2 (h + ds.length) ∧ (∀ i, i < h → E2 i = E i ∧ W2 i = W i ∧ F2 i = F i) ∧ (∀ i, h ≤ i → ∀ b ∈ F2 i, b ∈ S') ∧ ∀ j d, ds[j]? = some d → E2 (h + j) = d ∧ W2 (h + j) = vs[j]? ∧ d ≠ .un
  | [], vs, S', h, E, W, F, S, r, nd, nz, dj => ⟨E, W, F, S, fun _ _ => ⟨rfl, rfl, rfl⟩, fun i hi b hb => by rw [S.nil hi] at hb; exact (nomatch hb), fun j d e => by simp at e⟩
  | d :: ds, vs, S', h, E, W, F, S, r, nd, nz, dj => by
    rw [Reps] at r
    obtain ⟨v, ws, T, U, rfl, rfl, r1, r2⟩ := r
    rw [List.nodup_append] at nd
    obtain ⟨E1, W1, F1, S1, e1, w1, f1, k1⟩ := S.pushO r1 nd.1 (fun b hb => nz b (List.mem_append_left _ hb)) (fun b hb => dj b (List.mem_append_left _ hb))
    obtain ⟨E2, W2, F2, S2, a1, a2, a3⟩ := St0.pushes ds S1 r2 nd.2.1 (fun b hb => nz b (List.mem_append_right _ hb)) (fun b hb i hi => by
      by_cases q : i = h
      · subst q; rw [f1] at hi; exact nd.2.2 b hi b hb rfl
      · rw [(k1 i q).2.2] at hi; exact dj b (List.mem_append_right _ hb) i hi)
    refine ⟨E2, W2, F2, by rw [List.length_cons, show h + (ds.length + 1) = h + 1 + ds.length by omega]; exact S2, fun i hi => ?_, fun i hi b hb => ?_, fun j x hx => ?_⟩
    · obtain ⟨b1, b2, b3⟩ := a1 i (by omega)
      obtain ⟨c1, c2, c3⟩ := k1 i (by omega)
      exact ⟨b1.trans c1, b2.trans c2, b3.trans c3⟩
    · by_cases q : i = h
      · subst q
        rw [(a1 i (by omega)).2.2, f1] at hb
        exact List.mem_append_left _ hb
      · exact List.mem_append_right _ (a2 i (by omega) b hb)
    · cases j with
      | zero =>
        cases hx
        obtain ⟨b1, b2, b3⟩ := a1 h (by omega)
        refine ⟨b1.trans e1, b2.trans w1, fun q => ?_⟩
        rw [q, Rep] at r1
        exact r1
      | succ j =>
        obtain ⟨b1, b2, b3⟩ := a3 j x (by simpa using hx)
        rw [show h + (j + 1) = h + 1 + j by omega]
        exact ⟨b1, by simpa using b2, b3⟩

/-- the name i takes what lies at p -/
theorem St0.take (S : St0 K N ρ σ H Z E W F h) {i p : Nat} {d : D} {v : V} (hi : i < N) (hp : N ≤ p) (e : E p = d) (w : W p = some v) (nu : d ≠ .un) :
    ∃ E2 W2 F2, St0 K N (ρ.set i d) (σ.set i (some v)) H Z E2 W2 F2 h ∧ (∀ j, j ≠ i → j ≠ p → E2 j = E j ∧ F2 j = F j) ∧ (∀ j, j ≠ i → W2 j = W j) ∧ F2 i = F p ∧ F2 p = [] := by
  have hn := S.hN
  have hip : p ≠ i := by omega
  have r : Rep K Z H d v (F p) := by
    rcases S.rep p with q | ⟨v', w', q⟩
    · exact absurd (e.symm.trans q.1) nu
    · rw [w] at w'; cases w'; rw [e] at q; exact q
  have fh : ∀ j b, b ∈ (if j = i then F p else if j = p then [] else F j) → (j = i ∧ b ∈ F p) ∨ (j ≠ i ∧ j ≠ p ∧ b ∈ F j) := fun j b hb => by
    by_cases h1 : j = i
    · rw [if_pos h1] at hb; exact .inl ⟨h1, hb⟩
    · by_cases h2 : j = p
      · rw [if_neg h1, if_pos h2] at hb; exact (nomatch hb)
      · rw [if_neg h1, if_neg h2] at hb; exact .inr ⟨h1, h2, hb⟩
  refine ⟨fun j => if j = i then d else if j = p then .un else E j, fun j => if j = i then some v else W j, fun j => if j = i then F p else if j = p then [] else F j, ⟨hn, by rw [List.length_set]; exact S.lρ, by rw [List.length_set]; exact S.lσ, fun j hj => ?_, fun j hj => ?_, fun j hj => ?_, fun j => ?_, fun j => ?_, fun j k b hb hk => ?_, fun j b hb => ?_, S.al⟩, fun j h1 h2 => ⟨by simp only [if_neg h1, if_neg h2], by simp only [if_neg h1, if_neg h2]⟩, fun j h1 => by simp only [if_neg h1], if_pos rfl, by simp only [if_neg hip, if_pos]⟩
  · by_cases h1 : j = i
    · subst h1; simp only [if_pos]; rw [gt_set_self (by rw [S.lρ]; exact hj)]
    · simp only [if_neg h1, if_neg (show j ≠ p by omega)]; rw [gt_set_ne (Ne.symm h1)]; exact S.env j hj
  · by_cases h1 : j = i
    · subst h1; simp only [if_pos]; rw [List.getElem?_set_self (by rw [S.lσ]; exact hj)]
    · simp only [if_neg h1]; rw [List.getElem?_set_ne (Ne.symm h1)]; exact S.val j hj
  · simp only [if_neg (show j ≠ i by omega)]
    by_cases h2 : j = p
    · simp only [if_pos h2]
    · simp only [if_neg h2]; exact S.top j hj
  · by_cases h1 : j = i
    · simp only [if_pos h1]; exact .inr ⟨v, rfl, r⟩
    · by_cases h2 : j = p
      · simp only [if_neg h1, if_pos h2]; exact .inl ⟨trivial, trivial⟩
      · simp only [if_neg h1, if_neg h2]; exact S.rep j
  · by_cases h1 : j = i
    · simp only [if_pos h1]; exact S.nd p
    · by_cases h2 : j = p
      · simp only [if_neg h1, if_pos h2]; exact List.nodup_nil
      · simp only [if_neg h1, if_neg h2]; exact S.nd j
  · rcases fh j b hb with ⟨p1, p2⟩ | ⟨p1, p2, p3⟩ <;> rcases fh k b hk with ⟨q1, q2⟩ | ⟨q1, q2, q3⟩
    · rw [p1, q1]
    · exact absurd (S.dj p k b p2 q3).symm q2
    · exact absurd (S.dj p j b q2 p3).symm p2
    · exact S.dj j k b p3 q3
  · rcases fh j b hb with ⟨p1, p2⟩ | ⟨p1, p2, p3⟩
    · exact S.nz p b p2
    · exact S.nz j b p3

def setsV : List Nat → List V → L2.St → L2.St
  | i :: is, v :: vs, σ => setsV is vs (σ.set i (some v))
  | _, _, σ => σ
theorem St0.takes : ∀ (is : List Nat) {ds : List D} {vs : List V} {p : Nat} {ρ : Env} {σ : L2.St} {E : Nat → D} {W : Nat → Option V} {F : Nat → List Addr}, St0 K N ρ σ H Z E W F h → is.length = ds.length → vs.length = ds.length → (∀ i ∈ is, i < N) → N ≤ p →
    (∀ j d, ds[j]? = some d → E (p + j) = d ∧ W (p + j) = vs[j]? ∧ d ≠ .un) → ∃ E2 W2 F2, St0 K N (setsE is ds ρ) (setsV is vs σ) H Z E2 W2 F2 h ∧ (∀ j, j < p → j ∉ is → E2 j = E j ∧ F2 j = F j ∧ W2 j = W j) ∧ ∀ j b, b ∈ F2 j → (b ∈ F j ∧ j ∉ is) ∨ ∃ k, p ≤ k ∧ b ∈ F k
  | [], [], [], p, ρ, σ, E, W, F, S, _, _, _, _, _ => ⟨E, W, F, S, fun _ _ _ => ⟨rfl, rfl, rfl⟩, fun j b hb => .inl ⟨hb, fun q => nomatch q⟩⟩
  | i :: is, d :: ds, v :: vs, p, ρ, σ, E, W, F, S, l1, l2, hN, hp, hs => by
    obtain ⟨e0, w0, n0⟩ := hs 0 d rfl
    have hi := hN i List.mem_cons_self
    obtain ⟨E1, W1, F1, S1, a1, a2, a3, a4⟩ := S.take hi hp e0 w0 n0
    obtain ⟨E2, W2, F2, S2, b1, b2⟩ := St0.takes is (p := p + 1) S1 (by simpa using l1) (by simpa using l2) (fun j hj => hN j (List.mem_cons_of_mem _ hj)) (by omega) fun j x hx => by
      obtain ⟨c1, c2, c3⟩ := hs (j + 1) x (by simpa using hx)
      rw [show p + (j + 1) = p + 1 + j by omega] at c1 c2
      rw [(a1 (p + 1 + j) (by omega) (by omega)).1, a2 (p + 1 + j) (by omega)]
      exact ⟨c1, by simpa using c2, c3⟩
    refine ⟨E2, W2, F2, S2, fun j hj hn => ?_, fun j b hb => ?_⟩
    · rw [List.mem_cons, not_or] at hn
      obtain ⟨c1, c2, c3⟩ := b1 j (by omega) hn.2
      obtain ⟨g1, g2⟩ := a1 j hn.1 (by omega)
      exact ⟨c1.trans g1, c2.trans g2, c3.trans (a2 j hn.1)⟩
    · have back : ∀ k, b ∈ F1 k → (b ∈ F k ∧ k ≠ i) ∨ ∃ k, p ≤ k ∧ b ∈ F k := fun k hk => by
        by_cases q1 : k = i
        · subst q1; rw [a3] at hk; exact .inr ⟨p, Nat.le_refl _, hk⟩
        · by_cases q2 : k = p
          · rw [q2, a4] at hk; exact (nomatch hk)
          · rw [(a1 k q1 q2).2] at hk; exact .inl ⟨hk, q1⟩
      rcases b2 j b hb with ⟨q1, q2⟩ | ⟨k, q1, q2⟩
      · rcases back j q1 with ⟨z1, z2⟩ | z
        · exact .inl ⟨z1, fun m => (List.mem_cons.mp m).elim (fun e => z2 e) q2⟩
        · exact .inr z
      · rcases back k q2 with ⟨z1, _⟩ | z
        · exact .inr ⟨k, by omega, z1⟩
        · exact .inr z
  | [], _ :: _, _, _, _, _, _, _, _, _, l1, _, _, _, _ => by simp at l1
  | [], [], _ :: _, _, _, _, _, _, _, _, _, l2, _, _, _ => by simp at l2
  | _ :: _, [], _, _, _, _, _, _, _, _, l1, _, _, _, _ => by simp at l1
  | _ :: _, _ :: _, [], _, _, _, _, _, _, _, _, l2, _, _, _ => by simp at l2

/-! ### what a statement leaves -/
structure OutS (N : Nat) (T A : Nat → Prop) (H : Hp) (Z : Addr → Prop) (E : Nat → D) (W : Nat → Option V) (F : Nat → List Addr) (h : Nat)
    (H' : Hp) (Z' : Addr → Prop) (E' : Nat → D) (W' : Nat → Option V) (F' : Nat → List Addr) : Prop where
  o : Out T H Z E W F h H' Z' E' W' F'
  w : ∀ i, i < N → ¬ A i → W' i = W i
theorem OutS.mono (o : OutS N T A H Z E W F h H1 Z1 E1 W1 F1) (ht : ∀ i, i < h → T i → T2 i) (ha : ∀ i, i < N → A i → A2 i) : OutS N T2 A2 H Z E W F h H1 Z1 E1 W1 F1 := ⟨o.o.mono ht, fun i hi n => o.w i hi fun q => n (ha i hi q)⟩
theorem OutS.trans (o : OutS N T A H Z E W F h H1 Z1 E1 W1 F1) (p : OutS N T A H1 Z1 E1 W1 F1 h1 H2 Z2 E2 W2 F2) (hh : h ≤ h1) : OutS N T A H Z E W F h H2 Z2 E2 W2 F2 := ⟨o.o.trans p.o hh, fun i hi n => (p.w i hi n).trans (o.w i hi n)⟩
theorem St0.sameW {ρ' : Env} {H' : Hp} {Z' : Addr → Prop} {E' : Nat → D} {W' : Nat → Option V} {F' : Nat → List Addr} {h' : Nat} (S : St0 K N ρ σ H Z E W F h) (S1 : St0 K N ρ' σ H' Z' E' W' F' h') : ∀ i, i < N → W' i = W i := fun i hi => by
  have a1 := S.val i hi
  have a2 := S1.val i hi
  rw [a1] at a2
  exact (Option.some.inj a2).symm
theorem Out.s {ρ' : Env} {H' : Hp} {Z' : Addr → Prop} {E' : Nat → D} {W' : Nat → Option V} {F' : Nat → List Addr} {h' : Nat} (o : Out T H Z E W F h H' Z' E' W' F') (S : St0 K N ρ σ H Z E W F h) (S1 : St0 K N ρ' σ H' Z' E' W' F' h') : OutS N T A H Z E W F h H' Z' E' W' F' := ⟨o, fun i hi _ => S.sameW S1 i hi⟩

/-! ### binding names -/
def gs : List Nat → TGs
  | [] => gNil
  | i :: is => gCons (gName i) (gs is)
def gT (K : PySem.W.Frag) : IR → TG
  | .tn i => gName i
  | .tt is => gTup K is.length (gs is)
  | _ => fun _ _ _ _ => False
theorem gs_ok {Q : L2.St → Hp → Prop} : ∀ {is : List Nat} {vs : List V} {σ : L2.St}, is.length = vs.length → Q (setsV is vs σ) H → gs is vs σ H Q
  | [], [], _, _, q => ⟨rfl, q⟩
  | i :: is, v :: vs, σ, l, q => ⟨v, vs, rfl, gs_ok (by simpa using l) q⟩
  | [], _ :: _, _, l, _ => by simp at l
  | _ :: _, [], _, l, _ => by simp at l
/-- what lies on top is bound -/
theorem bind_ok (S : St0 K N ρ σ H Z E W F (h + 1)) (hN : N ≤ h) {tg : IR} {d : D} {v : V} (e : E h = d) (w : W h = some v) (nu : d ≠ .un) (hs : ∀ i, tch tg i = true → i < N) {q : Env → Prop} (b : bindT tg d ρ q) {Q : L2.St → Hp → Prop}
    (k : ∀ ρ' σ' E' W' F', St0 K N ρ' σ' H Z E' W' F' h → OutS N (fun i => tch tg i = true ∨ h ≤ i) (fun i => tch tg i = true) H Z E W F (h + 1) H Z E' W' F' → q ρ' → Q σ' H) : gT K tg v σ H Q := by
  cases tg with
  | tn i =>
    have hi : i < N := hs i (by rw [tch]; simp)
    obtain ⟨E1, W1, F1, S1, a1, a2, a3, a4⟩ := S.take hi hN e w nu
    obtain ⟨E2, F2, S2, o2⟩ := S1.pop hN (Nat.le_succ h)
    refine k _ _ E2 W1 F2 S2 ⟨?_, fun j hj n => a2 j fun q => n (by rw [tch, q]; simp)⟩ b
    have o1 : Out (fun j => tch (.tn i) j = true ∨ h ≤ j) H Z E W F (h + 1) H Z E1 W1 F1 := ⟨Ext.refl, fun j hj t => ?_, fun j hj t => a2 j fun q => t (.inl (by rw [tch, q]; simp)), fun j b hb => ?_⟩
    · exact o1.trans (o2.mono fun j _ t => .inr t) (Nat.le_refl _)
    · exact a1 j (fun q => t (.inl (by rw [tch, q]; simp))) (by omega)
    · by_cases q1 : j = i
      · subst q1; rw [a3] at hb; exact .inl ⟨h, by omega, .inr (Nat.le_refl _), hb⟩
      · by_cases q2 : j = h
        · rw [q2, a4] at hb; exact (nomatch hb)
        · rw [(a1 j q1 q2).2] at hb
          by_cases hj : j < h + 1
          · exact .inr (.inr ⟨hj, fun t => by
              rcases t with t | t
              · rw [tch] at t; exact q1 (beq_iff_eq.mp t).symm
              · omega, hb⟩)
          · rw [S.nil (by omega)] at hb; exact (nomatch hb)
  | tt is =>
    have r : Rep K Z H d v (F h) := by
      rcases S.rep h with q | ⟨v', w', q⟩
      · exact absurd (e.symm.trans q.1) nu
      · rw [w] at w'; cases w'; rw [e] at q; exact q
    obtain ⟨ds, a, vs, rfl, sq, rs, hl, b⟩ : ∃ ds a vs, v = .ref a ∧ SqT K H a vs ∧ Reps K Z H ds vs (F h) ∧ ds.length = is.length ∧ q (setsE is ds ρ) := by
      cases d with
      | tup ds =>
        obtain ⟨a, vs, e1, sq, rs⟩ := rep_tup r
        exact ⟨ds, a, vs, e1, sq, rs, b⟩
      | ptp ds =>
        obtain ⟨a, vs, e1, sq, rs⟩ := rep_ptp r
        exact ⟨ds, a, vs, e1, .inl (.inl sq), rs, b⟩
      | _ => exact False.elim b
    have hvl : vs.length = ds.length := Reps.length rs
    refine ⟨a, vs, rfl, sq, by omega, gs_ok (by omega) ?_⟩
    obtain ⟨E1, F1, S1, o1⟩ := S.pop hN (Nat.le_succ h)
    have f1 : ∀ i b, b ∈ F1 i → i < h ∧ b ∈ F i := fun i b hb => by
      by_cases hi : i < h
      · exact ⟨hi, by rw [← (o1.same i (by omega) (by omega)).2]; exact hb⟩
      · rw [S1.nil (by omega)] at hb; exact (nomatch hb)
    obtain ⟨E2, W2, F2, S2, a1, a2, a3⟩ := S1.pushes ds rs (S.nd h) (S.nz h) (fun b hb i hi => by
      obtain ⟨h1, h2⟩ := f1 i b hi
      have := S.dj h i b hb h2; omega)
    obtain ⟨E3, W3, F3, S3, c1, c2⟩ := S2.takes is (p := h) (vs := vs) hl.symm hvl (fun i hi => hs i (by rw [tch]; simpa using hi)) hN a3
    obtain ⟨E4, F4, S4, o4⟩ := S3.pop hN (Nat.le_add_right h _)
    have f4 : ∀ i b, b ∈ F4 i → i < h ∧ b ∈ F3 i := fun i b hb => by
      by_cases hi : i < h
      · exact ⟨hi, by rw [← (o4.same i (by omega) (by omega)).2]; exact hb⟩
      · rw [S4.nil (by omega)] at hb; exact (nomatch hb)
    have tt_iff : ∀ j, tch (.tt is) j = true ↔ j ∈ is := fun j => by rw [tch]; simp
    refine k _ _ E4 W3 F4 S4 ⟨⟨Ext.refl, fun j hj t => ?_, fun j hj t => ?_, fun j b hb => ?_⟩, fun j hj n => ?_⟩ b
    · have n1 : j ∉ is := fun q => t (.inl ((tt_iff j).mpr q))
      have n2 : j < h := by
        rcases Nat.lt_or_ge j h with q | q
        · exact q
        · exact absurd (.inr q) t
      obtain ⟨z1, z2⟩ := o4.same j (by omega) (by omega)
      obtain ⟨y1, y2⟩ := o1.same j (by omega) (by omega)
      obtain ⟨x1, x2, x3⟩ := a1 j n2
      obtain ⟨u1, u2, u3⟩ := c1 j n2 n1
      exact ⟨z1.trans (u1.trans (x1.trans y1)), z2.trans (u2.trans (x3.trans y2))⟩
    · have n1 : j ∉ is := fun q => t (.inl ((tt_iff j).mpr q))
      have n2 : j < h := by
        rcases Nat.lt_or_ge j h with q | q
        · exact q
        · exact absurd (.inr q) t
      rw [(c1 j n2 n1).2.2, (a1 j n2).2.1]
    · obtain ⟨hj, hb⟩ := f4 j b hb
      rcases c2 j b hb with ⟨q1, q2⟩ | ⟨k, q1, q2⟩
      · rw [(a1 j hj).2.2] at q1
        obtain ⟨_, q1⟩ := f1 j b q1
        exact .inr (.inr ⟨by omega, fun z => z.elim (fun t => q2 ((tt_iff j).mp t)) (by omega), q1⟩)
      · exact .inl ⟨h, by omega, .inr (Nat.le_refl _), a2 k q1 b q2⟩
    · obtain ⟨u1, u2, u3⟩ := c1 j (by omega) (fun q => n ((tt_iff j).mpr q))
      rw [u3, (a1 j (by omega)).2.1]
  | _ => exact False.elim b
end
/-! ### what is walked -/
def iAny (K : PySem.W.Frag) (tl : TE) : TI := fun σ H R => tl σ H fun x H1 => ∃ a xs, x = .ref a ∧ ((SqL K H1 a xs ∧ R (Itl K a) H1) ∨ (SqT K H1 a xs ∧ R (Itt K a) H1))
theorem pi_any {X : Cx} {tg l : Expr} {tl : TE} (hl : PE X l tl) : PI X tg l (iAny X.K tl) := by
  refine ⟨fun pins s σ H R I h => ?_⟩
  refine thn (hl.run pins s σ H _ I h) fun v s1 ⟨x, H1, I1, r1, q1⟩ => ?_
  obtain ⟨a, xs, e, q1⟩ := q1
  subst e
  cases r1
  rcases q1 with ⟨hq, q⟩ | ⟨hq, q⟩
  · obtain ⟨its, rv, p, hz⟩ := I1.list hq
    refine wpAny_pyIter_list p.isList ?_
    refine ⟨s1.heap.objs.size, [s1.heap.objs.size], _, _, H1, rfl, I1.kept (t' := s1.toks) fun b o e => Heap.get?_push_of_some _ e, turn_list a _, ⟨_, Heap.get?_push_size _ rfl, rfl, rfl⟩, fun b hb => ?_, q⟩
    have e : b = s1.heap.objs.size := by simpa using hb
    subst e
    exact I1.fpOk (Nat.le_refl _) (I1.hok.fresh (Nat.le_refl _))
  · obtain ⟨its, rv, p, hz⟩ := I1.tuple hq
    refine wpAny_pyIter_tuple (show s1.heap.IsTuple a its.toArray from p) ?_
    refine ⟨s1.heap.objs.size, [s1.heap.objs.size], _, _, H1, rfl, I1.kept (t' := s1.toks) fun b o e => Heap.get?_push_of_some _ e, turn_tuple a _, ⟨_, Heap.get?_push_size _ rfl, rfl, rfl⟩, fun b hb => ?_, q⟩
    have e : b = s1.heap.objs.size := by simpa using hb
    subst e
    exact I1.fpOk (Nat.le_refl _) (I1.hok.fresh (Nat.le_refl _))

structure IterOk (K : PySem.W.Frag) (H0 : Hp) (Z0 : Addr → Prop) (kp : Addr → Prop) (J : It) (ds : List D) : Prop where
  ok : ∃ G Y, Walk J ds.length G Y ∧ (∀ Z1 H1, Stab Z0 H0 Z1 H1 kp → G H1) ∧ ∀ i Z H x H1, i < ds.length → Stab Z0 H0 Z H kp → Y i H x H1 → ∃ d, ds[i]? = some d ∧ Rep K Z H1 d x [] ∧ d ≠ .un ∧ ∀ b o, H b = some o → H1 b = some o
def SqB (b : Bool) (K : PySem.W.Frag) (H : Hp) (a : Addr) (xs : List V) : Prop := if b = true then SqL K H a xs else SqT K H a xs
def seqOf3 : D → Option (Bool × List D)
  | .tup ds => some (false, ds) | .lst _ ds => some (true, ds) | .scr ds => some (true, ds) | _ => none
section
variable {K : PySem.W.Frag} {N : Nat} {ρ ρ1 : Env} {σ : L2.St} {H H1 H2 : Hp} {Z Z1 Z2 : Addr → Prop} {E E1 E2 : Nat → D} {W W1 W2 : Nat → Option V} {F F1 F2 : Nat → List Addr} {h h1 : Nat} {T T1 T2 A A1 A2 : Nat → Prop} {kp : Addr → Prop}
theorem rep_nu {d : D} {v : V} {S : List Addr} (r : Rep K Z H d v S) : d ≠ .un := fun q => by rw [q, Rep] at r; exact r
theorem src_rep {d : D} {v : V} {S : List Addr} {b : Bool} {ds : List D} (r : Rep K Z H d v S) (e : seqOf3 d = some (b, ds)) (p : pus ds = true) : ∃ a xs, v = .ref a ∧ Reps K Z H ds xs [] ∧ ∀ Z1 H1, Stab Z H Z1 H1 (fun b => b ∈ S) → SqB b K H1 a xs := by
  cases d with
  | tup ds' =>
    cases e
    obtain ⟨a, vs, rfl, sq, q⟩ := rep_tup r
    exact ⟨a, vs, rfl, q.pure0 p, fun Z1 H1 s => s.sqT sq⟩
  | lst o ds' =>
    cases e
    cases o with
    | true =>
      obtain ⟨a, vs, T, rfl, ha, rfl, q⟩ := rep_own r
      exact ⟨a, vs, rfl, q.pure0 p, fun Z1 H1 s => .inl (.inl (s.kp a _ List.mem_cons_self ha))⟩
    | false =>
      rw [Rep] at r
      obtain ⟨a, vs, rfl, ha, z, _, q⟩ := r
      exact ⟨a, vs, rfl, q, fun Z1 H1 s => .inl (.inl (s.zo a _ z ha))⟩
  | scr ds' =>
    cases e
    rw [Rep] at r
    obtain ⟨a, vs, rfl, fl, _, q⟩ := r
    exact ⟨a, vs, rfl, q, fun Z1 H1 s => (s.fzL fl).sq⟩
  | _ => cases e
theorem get_st {ds : List D} {xs : List V} (r : Reps K Z H ds xs []) (s : Stab Z H Z1 H1 kp) {i : Nat} (hi : i < ds.length) : ∃ d x, ds[i]? = some d ∧ xs[i]? = some x ∧ Rep K Z1 H1 d x [] := by
  have r1 := Reps.stab s _ _ _ r (fun _ q => nomatch q)
  obtain ⟨x, e, q⟩ := Reps.get r1 (j := i) (d := ds[i]) (by simp [hi])
  exact ⟨ds[i], x, by simp [hi], e, q⟩
theorem it_list {a : Addr} {xs : List V} {ds : List D} (r : Reps K Z H ds xs []) (sq : ∀ Z1 H1, Stab Z H Z1 H1 kp → SqL K H1 a xs) : IterOk K H Z kp (Itl K a) ds := by
  have hl := Reps.length r
  refine ⟨_, _, hl ▸ walk_list (xs := xs), fun Z1 H1 s => sq Z1 H1 s, fun i Z1 H1 x H2 hi s y => ?_⟩
  obtain ⟨e, y⟩ := y
  subst e
  obtain ⟨d, x', e1, e2, q⟩ := get_st r s hi
  rw [y] at e2; cases e2
  exact ⟨d, e1, q, rep_nu q, fun _ _ e => e⟩
theorem it_tup {a : Addr} {xs : List V} {ds : List D} (r : Reps K Z H ds xs []) (sq : ∀ Z1 H1, Stab Z H Z1 H1 kp → SqT K H1 a xs) : IterOk K H Z kp (Itt K a) ds := by
  have hl := Reps.length r
  refine ⟨_, _, hl ▸ walk_tup (xs := xs), fun Z1 H1 s => sq Z1 H1 s, fun i Z1 H1 x H2 hi s y => ?_⟩
  obtain ⟨e, y⟩ := y
  subst e
  obtain ⟨d, x', e1, e2, q⟩ := get_st r s hi
  rw [y] at e2; cases e2
  exact ⟨d, e1, q, rep_nu q, fun _ _ e => e⟩
theorem pair_rep {p : Addr} {x y : V} {d e : D} (hp : H p = none) (r1 : Rep K Z H d x []) (r2 : Rep K Z H e y []) : Rep K Z (upd H p (.tup [x, y])) (.ptp [d, e]) (.ref p) [] :=
  new_ptp hp (Reps.cons r1 (Reps.one r2))
theorem it_enum {a : Addr} {xs : List V} {ds : List D} (r : Reps K Z H ds xs []) (sq : ∀ Z1 H1, Stab Z H Z1 H1 kp → SqL K H1 a xs) : IterOk K H Z kp (Ite K a) (enumL ds) := by
  have hl := Reps.length r
  have he : (enumL ds).length = xs.length := by unfold enumL; rw [List.length_mapIdx, hl]
  refine ⟨_, _, he ▸ walk_enum (xs := xs), fun Z1 H1 s => sq Z1 H1 s, fun i Z1 H1 x H2 hi s y => ?_⟩
  obtain ⟨p, u, w, rfl, hp, rfl, e1, e2⟩ := y
  cases e1
  obtain ⟨d, x', e3, e4, q⟩ := get_st r s (i := i) (by omega)
  cases e2.symm.trans e4
  exact ⟨.ptp [.int i, d], by unfold enumL; rw [List.getElem?_mapIdx, e3]; rfl, pair_rep hp int_rep q, (fun z => nomatch z), laid_same hp⟩
theorem walk_zipT {a b : Addr} {xs ys : List V} {n : Nat} (hn : n = min xs.length ys.length) : Walk (RZ.ItzT K a b) n (fun H => SqT K H a xs ∧ SqT K H b ys) (YPair (fun i => xs[i]?) (fun i => ys[i]?)) := by
  subst hn
  refine ⟨fun i _ hi q => ?_, fun _ q => ⟨xs, ys, q.1, q.2, by omega⟩, fun i H v H' _ q y => ?_⟩
  · have h1 : i < xs.length := by omega
    have h2 : i < ys.length := by omega
    exact ⟨xs, ys, xs[i], ys[i], q.1, q.2, by simp [h1], by simp [h2]⟩
  · obtain ⟨T, x, z, h1, h2, h3, h4, h5⟩ := y
    exact ⟨T, x, z, h1, h2, h3, h4 xs q.1, h5 ys q.2⟩
theorem zip_y {ds es : List D} {xs ys : List V} (r : Reps K Z H ds xs []) (r2 : Reps K Z H es ys []) {i : Nat} {x : V} (hi : i < (zipL ds es).length) (s : Stab Z H Z1 H1 kp) (y : YPair (fun i => xs[i]?) (fun i => ys[i]?) i H1 x H2) :
    ∃ d, (zipL ds es)[i]? = some d ∧ Rep K Z1 H2 d x [] ∧ d ≠ .un ∧ ∀ b o, H1 b = some o → H2 b = some o := by
  have hz : (zipL ds es).length = min ds.length es.length := by unfold zipL; rw [List.length_zipWith]
  obtain ⟨p, u, w, rfl, hp, rfl, e1, e2⟩ := y
  obtain ⟨d, x', e3, e4, q⟩ := get_st r s (i := i) (by omega)
  obtain ⟨e, y', e5, e6, q2⟩ := get_st r2 s (i := i) (by omega)
  cases e1.symm.trans e4
  cases e2.symm.trans e6
  exact ⟨.ptp [d, e], by unfold zipL; rw [List.getElem?_zipWith, e3, e5], pair_rep hp q q2, (fun z => nomatch z), laid_same hp⟩
theorem it_zip {a b : Addr} {xs ys : List V} {ds es : List D} (r : Reps K Z H ds xs []) (r2 : Reps K Z H es ys []) (sq : ∀ Z1 H1, Stab Z H Z1 H1 kp → SqL K H1 a xs ∧ SqL K H1 b ys) : IterOk K H Z kp (Itz K a b) (zipL ds es) := by
  have hl := Reps.length r
  have hl2 := Reps.length r2
  have hz : (zipL ds es).length = min xs.length ys.length := by unfold zipL; rw [List.length_zipWith, hl, hl2]
  exact ⟨_, _, walk_zip hz, fun Z1 H1 s => sq Z1 H1 s, fun i Z1 H1 x H2 hi s y => zip_y r r2 hi s y⟩
theorem it_zipT {a b : Addr} {xs ys : List V} {ds es : List D} (r : Reps K Z H ds xs []) (r2 : Reps K Z H es ys []) (sq : ∀ Z1 H1, Stab Z H Z1 H1 kp → SqT K H1 a xs ∧ SqT K H1 b ys) : IterOk K H Z kp (RZ.ItzT K a b) (zipL ds es) := by
  have hl := Reps.length r
  have hl2 := Reps.length r2
  have hz : (zipL ds es).length = min xs.length ys.length := by unfold zipL; rw [List.length_zipWith, hl, hl2]
  exact ⟨_, _, walk_zipT hz, fun Z1 H1 s => sq Z1 H1 s, fun i Z1 H1 x H2 hi s y => zip_y r r2 hi s y⟩
theorem it_range {lo hi : Int} {n : Nat} (hn : n = (hi - lo).toNat) : IterOk K H Z kp (Itr lo n) (rngL lo hi) := by
  subst hn
  have he : (rngL lo hi).length = (hi - lo).toNat := by unfold rngL; simp
  refine ⟨fun _ => True, YFn fun i => .int (lo + (i : Nat)), by rw [he]; exact walk_range, fun Z1 H1 s => trivial, fun i Z1 H1 x H2 hi' s y => ?_⟩
  obtain ⟨rfl, rfl⟩ := y
  exact ⟨.int (lo + (i : Nat)), by unfold rngL; rw [List.getElem?_map, List.getElem?_range (by omega)]; rfl, int_rep, (fun z => nomatch z), fun _ _ e => e⟩
theorem it_rangeC {m n c : Int} : IterOk K H Z kp (Itc m c (stepN m n c)) (stepD m n c) := by
  have he : (stepD m n c).length = stepN m n c := by unfold stepD; simp
  refine ⟨fun _ => True, YFn fun i => .int (m + (i : Nat) * c), by rw [he]; exact walk_rangeC, fun Z1 H1 s => trivial, fun i Z1 H1 x H2 hi' s y => ?_⟩
  obtain ⟨rfl, rfl⟩ := y
  exact ⟨.int (m + (i : Nat) * c), by unfold stepD; rw [List.getElem?_map, List.getElem?_range (by omega)]; rfl, int_rep, (fun z => nomatch z), fun _ _ e => e⟩

def srcs : IR → Nat → Bool
  | .itS a, j => bslot a == some j
  | .itE a, j => bslot a == some j
  | .itZ a b, j => bslot a == some j || bslot b == some j
  | _, _ => false
/-- what is kept while one walks -/
def Kp (it : IR) (H : Hp) (F : Nat → List Addr) (h : Nat) : Addr → Prop := fun b => (∃ o, H b = some o) ∧ ∀ i, i < h → srcs it i = false → b ∉ F i
def tI (K : PySem.W.Frag) (N : Nat) (it : IR) : TI := fun σ H R => ∃ ρ Z E W F h q, St0 K N ρ σ H Z E W F h ∧ wpI it ρ q ∧
  ∀ J ds ρ' H' Z' E' W' F', St0 K N ρ' σ H' Z' E' W' F' h → Out (Tc N it) H Z E W F h H' Z' E' W' F' → IterOk K H' Z' (Kp it H' F' h) J ds → q ds ρ' → R J H'

def rs (ρ : Env) : Arg → D
  | .val d => d
  | .loan i p => getP (gt ρ i) p
theorem res_cons {x : Arg} {xs : List Arg} : res ρ (x :: xs) = rs ρ x :: res ρ xs := by cases x <;> rfl
theorem seq_un {d : D} {z : Bool × List D} (e : seqOf3 d = some z) : isUn d = false := by cases d <;> first | rfl | cases e
/-- what lies at p, read -/
theorem at_rep {x : Arg} {v : V} {p n : Nat} (S : St0 K N ρ σ H Z E W F n) (a1 : ArgAt K N H Z E W F p x v) (nu : isUn (rs ρ x) = false) (hp : h ≤ p) (hN : N ≤ h) :
    ∃ S', Rep K Z H (rs ρ x) v S' ∧ ∀ b ∈ S', (∃ o, H b = some o) ∧ ∀ i, i < h → i ∉ slots [x] → b ∉ F i := by
  obtain ⟨Ss, al⟩ := AL.of S (xs := [x]) (vs := [v]) p ⟨v, [], rfl, a1, rfl⟩ (by unfold noUn; rw [res_cons]; simp [nu, res])
  have rl := AL.repL S al
  rw [res_cons] at rl
  obtain ⟨v', S', e1, e2, r⟩ := RepL.one rl
  cases e1
  subst e2
  refine ⟨S', r, fun b hb => ⟨?_, fun i hi ns hf => ?_⟩⟩
  · obtain ⟨xs, e⟩ := Rep.own _ _ _ r b hb
    exact ⟨_, e⟩
  · rcases AL.mem al b (by simpa using hb) with ⟨k, h1, h2, h3⟩ | ⟨j, h1, h2⟩
    · have := S.dj k i b h3 hf; omega
    · have := S.dj j i b h2 hf
      subst this
      exact ns h1
theorem slot_src {a : IR} {x : Arg} (sh : Shape a x) {i : Nat} (h : i ∈ slots [x]) : bslot a = some i := by
  unfold Shape at sh
  cases hb : bslot a with
  | none => rw [hb] at sh; obtain ⟨d, e⟩ := sh; subst e; exact (nomatch h)
  | some j =>
    rw [hb] at sh
    obtain ⟨p, e, _⟩ := sh
    subst e
    have : i = j := by simpa [slots] using h
    rw [this]
theorem Out.off2 (o : Out T H Z E W F h H1 Z1 E1 W1 F1) (S1 : St0 K N ρ σ H1 Z1 E1 W1 F1 h1) (hN : N ≤ h) (hh : h ≤ h1) :
    ∃ E2 F2, St0 K N ρ σ H1 Z1 E2 W1 F2 h ∧ Out T H Z E W F h H1 Z1 E2 W1 F2 ∧ ∀ i b, i < h → b ∈ F2 i → b ∈ F1 i := by
  obtain ⟨E2, F2, S2, o2⟩ := S1.pop hN hh
  refine ⟨E2, F2, S2, ((o.mono (T2 := fun i => T i ∨ h ≤ i) fun i _ t => .inl t).trans (o2.mono fun i _ t => .inr t) hh).mono fun i hi t => ?_, fun i b hi hb => ?_⟩
  · exact t.elim id (by omega)
  · rw [← (o2.same i (by omega) (by omega)).2]; exact hb
theorem stab_kp (s : Stab Z H Z1 H1 kp) {S : List Addr} (hk : ∀ b ∈ S, kp b) : Stab Z H Z1 H1 (fun b => b ∈ S) := s.mono hk
end

section
variable {X : Cx} {N : Nat} {a b r e as it : IR} {ea eb ec tg : Expr} {pos : Pos}
theorem tch_I {a : IR} {i : Nat} : tch (.itS a) i = tch a i := rfl
theorem s_itS (ha : PE X ea (tL X.K N a)) : PI X tg ea (tI X.K N (.itS a)) := pi_weak (pi_any ha) fun σ H R w => by
  obtain ⟨ρ, Z, E, W, F, h, q, S, w, k⟩ := w
  have hN := S.hN
  refine ⟨ρ, Z, E, W, F, h, _, S, w, fun v x ρ1 H1 Z1 E1 W1 F1 S1 o1 a1 sh w1 => ?_⟩
  change walkV (res ρ1 [x]) _ at w1
  rw [res_cons] at w1
  obtain ⟨b, ds, e, p, w1⟩ : ∃ b ds, seqOf3 (rs ρ1 x) = some (b, ds) ∧ pus ds = true ∧ q ds ρ1 := by
    generalize rs ρ1 x = d at w1
    cases d <;> first | exact ⟨_, _, rfl, w1.1, w1.2⟩ | exact False.elim w1
  obtain ⟨S', r, hS⟩ := at_rep S1 a1 (seq_un e) (Nat.le_refl h) hN
  obtain ⟨a', xs, rfl, rr, sq⟩ := src_rep r e p
  obtain ⟨E2, F2, S2, o2, f2⟩ := o1.off2 S1 hN (Nat.le_succ h)
  have kpS : ∀ b ∈ S', Kp (.itS a) H1 F2 h b := fun b hb => ⟨(hS b hb).1, fun i hi ns hf => (hS b hb).2 i hi (fun m => by
    have := slot_src sh m
    rw [srcs, this] at ns
    simp at ns) (f2 i b hi hf)⟩
  refine ⟨a', xs, rfl, ?_⟩
  cases b with
  | true => exact .inl ⟨sq Z1 H1 Stab.refl, k _ ds ρ1 H1 Z1 E2 W1 F2 S2 o2 (it_list rr fun Z3 H3 s => sq Z3 H3 (stab_kp s kpS)) w1⟩
  | false => exact .inr ⟨sq Z1 H1 Stab.refl, k _ ds ρ1 H1 Z1 E2 W1 F2 S2 o2 (it_tup rr fun Z3 H3 s => sq Z3 H3 (stab_kp s kpS)) w1⟩
theorem s_itE {p p0 : Pos} {elts : List Expr} {kk : Nat} {tpos : Pos} {x : Str} (hx : x = "enumerate") (hg : Gl X x) (hm : X.mg x = none) (ha : PE X ea (tL X.K N a)) (ns : notStar ea = true) :
    PI X (.Tuple elts kk tpos) (.Call (.Name x p) [ea] [] p0) (tI X.K N (.itE a)) := by
  subst hx
  refine pi_weak (pi_enum hg hm (pa_cons ha pa_nil (star_cons ns)) (star_cons ns)) fun σ H R w => ?_
  obtain ⟨ρ, Z, E, W, F, h, q, S, w, k⟩ := w
  have hN := S.hN
  refine ⟨ρ, Z, E, W, F, h, _, S, w, fun v x ρ1 H1 Z1 E1 W1 F1 S1 o1 a1 sh w1 => ?_⟩
  change enumV (res ρ1 [x]) _ at w1
  rw [res_cons] at w1
  obtain ⟨ds, e, p, w1⟩ : ∃ ds, seqOf3 (rs ρ1 x) = some (true, ds) ∧ pus ds = true ∧ q (enumL ds) ρ1 := by
    generalize rs ρ1 x = d at w1
    cases d <;> first | exact ⟨_, rfl, w1.1, w1.2⟩ | exact False.elim w1
  obtain ⟨S', r, hS⟩ := at_rep S1 a1 (seq_un e) (Nat.le_refl h) hN
  obtain ⟨a', xs, rfl, rr, sq⟩ := src_rep r e p
  obtain ⟨E2, F2, S2, o2, f2⟩ := o1.off2 S1 hN (Nat.le_succ h)
  have kpS : ∀ b ∈ S', Kp (.itE a) H1 F2 h b := fun b hb => ⟨(hS b hb).1, fun i hi ns hf => (hS b hb).2 i hi (fun m => by
    have := slot_src sh m
    rw [srcs, this] at ns
    simp at ns) (f2 i b hi hf)⟩
  exact ⟨a', xs, rfl, sq Z1 H1 Stab.refl, k _ _ ρ1 H1 Z1 E2 W1 F2 S2 o2 (it_enum rr fun Z3 H3 s => sq Z3 H3 (stab_kp s kpS)) w1⟩
theorem s_itZ {p p0 : Pos} {elts : List Expr} {kk : Nat} {tpos : Pos} {x : Str} (hx : x = "zip") (hg : Gl X x) (hm : X.mg x = none) (ha : PE X ea (tL X.K N a)) (hb : PE X eb (tL X.K N b)) (ns : notStar ea = true) (ns2 : notStar eb = true) (sf : Safe a b) :
    PI X (.Tuple elts kk tpos) (.Call (.Name x p) [ea, eb] [] p0) (tI X.K N (.itZ a b)) := by
  subst hx
  refine pi_weak (RZ.pi_zipA hg hm (pa_cons ha (pa_cons hb pa_nil (star_cons ns2)) (star_cons ns)) (star_cons ns) (no_star (es := [eb]) (by rw [List.all_cons, ns2]; rfl))) fun σ H R w => ?_
  obtain ⟨ρ, Z, E, W, F, h, q, S, w, k⟩ := w
  have hN := S.hN
  refine ⟨ρ, Z, E, W, F, h, _, S, w, fun v x ρ1 H1 Z1 E1 W1 F1 S1 o1 a1 sh w1 => ?_⟩
  refine ⟨ρ1, Z1, E1, W1, F1, h + 1, _, S1, w1, fun u y ρ2 H2 Z2 E2 W2 F2 S2 o2 a2 sh2 w2 => ?_⟩
  change zipV (res ρ2 [x, y]) _ at w2
  rw [res_cons, res_cons] at w2
  obtain ⟨b', ds, es, e, e', p, p', w2⟩ : ∃ b' ds es, seqOf3 (rs ρ2 x) = some (b', ds) ∧ seqOf3 (rs ρ2 y) = some (b', es) ∧ pus ds = true ∧ pus es = true ∧ q (zipL ds es) ρ2 := by
    generalize rs ρ2 x = d at w2
    generalize rs ρ2 y = d' at w2
    cases d <;> cases d' <;> first | exact ⟨_, _, _, rfl, rfl, w2.1, w2.2.1, w2.2.2⟩ | exact False.elim w2
  have a1' : ArgAt X.K N H2 Z2 E2 W2 F2 h x v := a1.on S1 S2 o2 (Nat.lt_succ_self h) hN sh sf
  obtain ⟨S', r, hS⟩ := at_rep S2 a1' (seq_un e) (Nat.le_refl h) hN
  obtain ⟨S'', r', hS'⟩ := at_rep S2 a2 (seq_un e') (Nat.le_succ h) hN
  obtain ⟨a', xs, rfl, rr, sq⟩ := src_rep r e p
  obtain ⟨a'', ys, rfl, rr', sq'⟩ := src_rep r' e' p'
  have o12 : Out (Tc N (.itZ a b)) H Z E W F h H2 Z2 E2 W2 F2 := (o1.mono fun i _ t => ⟨t.1, by rw [tch, t.2]; rfl⟩).trans (o2.mono fun i _ t => ⟨t.1, by rw [tch, t.2]; simp⟩) (Nat.le_succ h)
  obtain ⟨E3, F3, S3, o3, f3⟩ := o12.off2 S2 hN (by omega)
  have kpS : ∀ b' ∈ S', Kp (.itZ a b) H2 F3 h b' := fun b' hb => ⟨(hS b' hb).1, fun i hi ns hf => (hS b' hb).2 i hi (fun m => by
    have := slot_src sh m
    rw [srcs, this] at ns
    simp at ns) (f3 i b' hi hf)⟩
  have kpS' : ∀ b' ∈ S'', Kp (.itZ a b) H2 F3 h b' := fun b' hb => ⟨(hS' b' hb).1, fun i hi ns hf => (hS' b' hb).2 i hi (fun m => by
    have := slot_src sh2 m
    rw [srcs, this] at ns
    simp at ns) (f3 i b' hi hf)⟩
  refine ⟨a', a'', xs, ys, rfl, ?_⟩
  cases b' with
  | true => exact .inl ⟨sq Z2 H2 Stab.refl, sq' Z2 H2 Stab.refl, k _ _ ρ2 H2 Z2 E3 W2 F3 S3 o3 (it_zip rr rr' fun Z3 H3 s => ⟨sq Z3 H3 (stab_kp s kpS), sq' Z3 H3 (stab_kp s kpS')⟩) w2⟩
  | false => exact .inr ⟨sq Z2 H2 Stab.refl, sq' Z2 H2 Stab.refl, k _ _ ρ2 H2 Z2 E3 W2 F3 S3 o3 (it_zipT rr rr' fun Z3 H3 s => ⟨sq Z3 H3 (stab_kp s kpS), sq' Z3 H3 (stab_kp s kpS')⟩) w2⟩
theorem rgC_ok {m n c : Int} (c0 : 0 < c) (c1 : c < 1000000000) (b1 : -(2 ^ 61) ≤ m) (b2 : m < 2 ^ 61) (b3 : -(2 ^ 61) ≤ n) (b4 : n < 2 ^ 61) : RgC m n c (stepN m n c) := by
  have sz : 0 ≤ Builtin.Range.rangeSize m n c ∧ Builtin.Range.rangeSize m n c < 2 ^ 63 := by
    unfold Builtin.Range.rangeSize
    rw [if_pos c0]
    split
    · have h1 : 0 ≤ (n - m - 1) / c := Int.ediv_nonneg (by omega) (by omega)
      have h2 : (n - m - 1) / c ≤ n - m - 1 := Int.ediv_le_self _ (by omega)
      omega
    · omega
  refine ⟨by omega, by omega, ?_, by unfold stepN; omega⟩
  unfold Builtin.Range.small
  rw [if_pos c0]
  have f1 : ∀ x : Int, -(2 ^ 63) ≤ x → x < 2 ^ 63 → Builtin.Range.rangeFitsLong x = true := fun x h1 h2 => by
    unfold Builtin.Range.rangeFitsLong
    simp only [Bool.and_eq_true, decide_eq_true_eq]
    omega
  rw [f1 m (by omega) (by omega), f1 n (by omega) (by omega), f1 c (by omega) (by omega), f1 _ (by omega) sz.2, f1 _ (by omega) (by omega), Bool.or_true]
  rfl
theorem s_itR1 {p p0 : Pos} {x : Str} (hx : x = "range") (hg : Gl X x) (hm : X.mg x = none) (ha : PE X ea (tL X.K N a)) (ns : notStar ea = true) :
    PI X tg (.Call (.Name x p) [ea] [] p0) (tI X.K N (.itR (.cons a .nil))) := by
  subst hx
  refine pi_weak (pi_range1 hg hm (pa_cons ha pa_nil (star_cons ns)) (star_cons ns)) fun σ H R w => ?_
  obtain ⟨ρ, Z, E, W, F, h, q, S, w, k⟩ := w
  have hN := S.hN
  refine ⟨ρ, Z, E, W, F, h, fun x ρ1 => rngS (res ρ1 [x]) fun ds => q ds ρ1, S, w, fun v x ρ1 H1 Z1 E1 W1 F1 S1 o1 a1 sh w1 => ?_⟩
  simp only [res_cons, res] at w1
  obtain ⟨n, e, b1, b2, w1⟩ : ∃ n, rs ρ1 x = .int n ∧ n < 2 ^ 62 ∧ -(2 ^ 62) ≤ n ∧ q (rngL 0 n) ρ1 := by
    generalize rs ρ1 x = d at w1
    cases d <;> first | exact ⟨_, rfl, w1⟩ | exact False.elim w1
  obtain ⟨S', r, hS⟩ := at_rep S1 a1 (by rw [e]; rfl) (Nat.le_refl h) hN
  rw [e] at r
  cases rep_int r
  obtain ⟨E2, F2, S2, o2, f2⟩ := o1.off2 S1 hN (Nat.le_succ h)
  exact ⟨n, rfl, b2, b1, k _ _ ρ1 H1 Z1 E2 W1 F2 S2 (o2.mono fun i _ t => ⟨t.1, by rw [tch, tch, t.2]; rfl⟩) (it_range (by simp)) w1⟩
theorem s_itR2 {p p0 : Pos} {x : Str} (hx : x = "range") (hg : Gl X x) (hm : X.mg x = none) (ha : PE X ea (tL X.K N a)) (hb : PE X eb (tL X.K N b)) (ns : notStar ea = true) (ns2 : notStar eb = true) (sf : Safe a b) :
    PI X tg (.Call (.Name x p) [ea, eb] [] p0) (tI X.K N (.itR (.cons a (.cons b .nil)))) := by
  subst hx
  refine pi_weak (pi_range2 hg hm (pa_cons ha (pa_cons hb pa_nil (star_cons ns2)) (star_cons ns)) (by rw [star_cons ns, star_cons ns2]; rfl) (star_cons ns2)) fun σ H R w => ?_
  obtain ⟨ρ, Z, E, W, F, h, q, S, w, k⟩ := w
  have hN := S.hN
  refine ⟨ρ, Z, E, W, F, h, _, S, w, fun v x ρ1 H1 Z1 E1 W1 F1 S1 o1 a1 sh w1 => ?_⟩
  refine ⟨ρ1, Z1, E1, W1, F1, h + 1, fun y ρ2 => rngS (res ρ2 [x, y]) fun ds => q ds ρ2, S1, w1, fun u y ρ2 H2 Z2 E2 W2 F2 S2 o2 a2 sh2 w2 => ?_⟩
  simp only [res_cons, res] at w2
  obtain ⟨m, n, e, e', b1, b2, b3, b4, w2⟩ : ∃ m n, rs ρ2 x = .int m ∧ rs ρ2 y = .int n ∧ -(2 ^ 62) ≤ m ∧ m < 2 ^ 62 ∧ -(2 ^ 62) ≤ n ∧ n < 2 ^ 62 ∧ q (rngL m n) ρ2 := by
    generalize rs ρ2 x = d at w2
    generalize rs ρ2 y = d' at w2
    cases d <;> cases d' <;> first | exact ⟨_, _, rfl, rfl, w2⟩ | exact False.elim w2
  have a1' : ArgAt X.K N H2 Z2 E2 W2 F2 h x v := a1.on S1 S2 o2 (Nat.lt_succ_self h) hN sh sf
  obtain ⟨S', r, hS⟩ := at_rep S2 a1' (by rw [e]; rfl) (Nat.le_refl h) hN
  obtain ⟨S'', r', hS'⟩ := at_rep S2 a2 (by rw [e']; rfl) (Nat.le_succ h) hN
  rw [e] at r
  rw [e'] at r'
  cases rep_int r
  cases rep_int r'
  have o12 : Out (Tc N (.itR (.cons a (.cons b .nil)))) H Z E W F h H2 Z2 E2 W2 F2 := (o1.mono fun i _ t => ⟨t.1, by rw [tch, tch, t.2]; rfl⟩).trans (o2.mono fun i _ t => ⟨t.1, by rw [tch, tch, tch, t.2]; simp⟩) (Nat.le_succ h)
  obtain ⟨E3, F3, S3, o3, f3⟩ := o12.off2 S2 hN (by omega)
  exact ⟨m, n, rfl, ⟨b1, b2, b3, b4⟩, k _ _ ρ2 H2 Z2 E3 W2 F3 S3 o3 (it_range rfl) w2⟩
theorem s_itR3 {p p0 : Pos} {x : Str} (hx : x = "range") (hg : Gl X x) (hm : X.mg x = none) (ha : PE X ea (tL X.K N a)) (hb : PE X eb (tL X.K N b)) (hc : PE X ec (tL X.K N c)) (ns : notStar ea = true) (ns2 : notStar eb = true) (ns3 : notStar ec = true) (sf : Safe a (.cons b (.cons c .nil))) (sf2 : Safe b (.cons c .nil)) :
    PI X tg (.Call (.Name x p) [ea, eb, ec] [] p0) (tI X.K N (.itR (.cons a (.cons b (.cons c .nil))))) := by
  subst hx
  refine pi_weak (pi_range3 hg hm (pa_cons ha (pa_cons hb (pa_cons hc pa_nil (star_cons ns3)) (star_cons ns2)) (star_cons ns)) (star_cons ns) (by rw [star_cons ns2, star_cons ns3]; rfl)) fun σ H R w => ?_
  obtain ⟨ρ, Z, E, W, F, h, q, S, w, k⟩ := w
  have hN := S.hN
  refine ⟨ρ, Z, E, W, F, h, _, S, w, fun v x ρ1 H1 Z1 E1 W1 F1 S1 o1 a1 sh w1 => ?_⟩
  refine ⟨ρ1, Z1, E1, W1, F1, h + 1, _, S1, w1, fun u y ρ2 H2 Z2 E2 W2 F2 S2 o2 a2 sh2 w2 => ?_⟩
  refine ⟨ρ2, Z2, E2, W2, F2, h + 2, fun z ρ3 => rngS (res ρ3 [x, y, z]) fun ds => q ds ρ3, S2, w2, fun u3 z ρ3 H3 Z3 E3 W3 F3 S3 o3 a3 sh3 w3 => ?_⟩
  simp only [res_cons, res] at w3
  obtain ⟨m, n, cc, e, e', e'', c0, c1, b1, b2, b3, b4, w3⟩ : ∃ m n cc, rs ρ3 x = .int m ∧ rs ρ3 y = .int n ∧ rs ρ3 z = .int cc ∧ 0 < cc ∧ cc < 1000000000 ∧ -(2 ^ 61) ≤ m ∧ m < 2 ^ 61 ∧ -(2 ^ 61) ≤ n ∧ n < 2 ^ 61 ∧ q (stepD m n cc) ρ3 := by
    generalize rs ρ3 x = d at w3
    generalize rs ρ3 y = d' at w3
    generalize rs ρ3 z = d'' at w3
    cases d <;> cases d' <;> cases d'' <;> first | exact ⟨_, _, _, rfl, rfl, rfl, w3⟩ | exact False.elim w3
  have sa : Safe a b := fun i e => by
    rcases sf i e with q | q
    · exact .inl q
    · rw [tch, Bool.or_eq_false_iff] at q; exact .inr q.1
  have sc : Safe a c := fun i e => by
    rcases sf i e with q | q
    · exact .inl q
    · rw [tch, Bool.or_eq_false_iff, tch, Bool.or_eq_false_iff] at q; exact .inr q.2.1
  have sb : Safe b c := fun i e => by
    rcases sf2 i e with q | q
    · exact .inl q
    · rw [tch, Bool.or_eq_false_iff] at q; exact .inr q.1
  have a1' : ArgAt X.K N H2 Z2 E2 W2 F2 h x v := a1.on S1 S2 o2 (Nat.lt_succ_self h) hN sh sa
  have a1'' : ArgAt X.K N H3 Z3 E3 W3 F3 h x v := a1'.on S2 S3 o3 (by omega) hN sh sc
  have a2' : ArgAt X.K N H3 Z3 E3 W3 F3 (h + 1) y u := a2.on S2 S3 o3 (by omega) (by omega) sh2 sb
  obtain ⟨S', r, hS⟩ := at_rep S3 a1'' (by rw [e]; rfl) (Nat.le_refl h) hN
  obtain ⟨S'', r', hS'⟩ := at_rep S3 a2' (by rw [e']; rfl) (Nat.le_succ h) hN
  obtain ⟨S3', r'', hS''⟩ := at_rep S3 a3 (by rw [e'']; rfl) (by omega) hN
  rw [e] at r
  rw [e'] at r'
  rw [e''] at r''
  cases rep_int r
  cases rep_int r'
  cases rep_int r''
  have o123 : Out (Tc N (.itR (.cons a (.cons b (.cons c .nil))))) H Z E W F h H3 Z3 E3 W3 F3 := ((o1.mono fun i _ t => ⟨t.1, by rw [tch, tch, t.2]; rfl⟩).trans (o2.mono fun i _ t => ⟨t.1, by rw [tch, tch, tch, t.2]; simp⟩) (Nat.le_succ h)).trans (o3.mono fun i _ t => ⟨t.1, by rw [tch, tch, tch, tch, t.2]; simp⟩) (by omega)
  obtain ⟨E4, F4, S4, o4, f4⟩ := o123.off2 S3 hN (by omega)
  exact ⟨m, n, cc, _, rfl, rgC_ok c0 c1 b1 b2 b3 b4, k _ _ ρ3 H3 Z3 E4 W3 F4 S4 o4 it_rangeC w3⟩
end
section
variable {X : Cx} {N : Nat} {a b r e c d as o : IR} {ea eb ec er eo tg : Expr} {es : List Expr} {pos p2 : Pos}
/-! ### f'..' of names and texts -/
def tF1 : IR → TE
  | .rd i => tFmt (tAt (.rd i))
  | a => tAt a
def tFp : IR → List TE
  | .cons a r => tF1 a :: tFp r
  | _ => []
def fpOk (N : Nat) : IR → Prop
  | .nil => True
  | .cons (.rd i) r => i < N ∧ fpOk N r
  | .cons (.cst (.str _)) r => fpOk N r
  | _ => False
/-- the parts' values, as they are read -/
def FP : List V → Str → (Str → Prop) → Prop
  | [], acc, Q => Q acc
  | x :: vs, acc, Q => (∃ y : Str, x = .str y ∧ y.length ≤ sizeLine ∧ (acc ++ y).length ≤ sizeLine ∧ FP vs (acc ++ y) Q) ∨ ∃ i : Int, x = .int i ∧ i.natAbs.log2 < 1920 ∧ (acc ++ (toString i : Str)).length ≤ sizeLine ∧ FP vs (acc ++ (toString i : Str)) Q
theorem tA_fp : ∀ {as : IR}, fpOk N as → ∀ {σ : L2.St} {H : Hp} {R : List V → Hp → Prop}, tA X.K N as σ H R →
    ∃ vs, (∀ acc H' (Q : Str → Hp → Prop), FP vs acc (fun out => Q out H') → tJs (tFp as) acc σ H' Q) ∧ R vs H
  | .nil, _, σ, H, R, w => ⟨[], fun _ _ _ h => h, tA.nil w⟩
  | .cons (.rd i) r, ⟨hi, hr⟩, σ, H, R, w => by
    obtain ⟨v, v1, w⟩ := tL_at (a := .rd i) (fun j e => by cases e; exact hi) (fun d e => nomatch e) rfl (tA.cons w (at_safe rfl))
    obtain ⟨vs, h1, h2⟩ := tA_fp (as := r) hr w
    refine ⟨v :: vs, fun acc H' Q h => ?_, h2⟩
    rw [tFp, tJs, tF1, tFmt]
    refine v1 _ _ ?_
    rcases h with ⟨y, rfl, hz, ha, h⟩ | ⟨i, rfl, hz, ha, h⟩
    · exact .inl ⟨y, rfl, hz, y, rfl, ha, h1 _ _ _ h⟩
    · exact .inr ⟨i, rfl, hz, _, rfl, ha, h1 _ _ _ h⟩
  | .cons (.cst (.str s)) r, hr, σ, H, R, w => by
    obtain ⟨v, v1, w⟩ := tL_at (a := .cst (.str s)) (fun j e => nomatch e) (fun d e => by cases e; exact ⟨_, rfl⟩) rfl (tA.cons w (at_safe rfl))
    obtain ⟨vs, h1, h2⟩ := tA_fp (as := r) hr w
    have hv : v = .str s := by
      have := v1 H (fun x _ => x = v) rfl
      obtain ⟨x, e1, e2⟩ := this
      cases e1
      exact e2.symm
    subst hv
    refine ⟨V.str s :: vs, fun acc H' Q h => ?_, h2⟩
    have e1 : tF1 (.cst (.str s)) = tAt (.cst (.str s)) := rfl
    rw [tFp, tJs, e1]
    refine v1 _ _ ?_
    rcases h with ⟨y, e, hz, ha, h⟩ | ⟨i, e, hz, ha, h⟩
    · cases e
      exact ⟨s, rfl, ha, h1 _ _ _ h⟩
    · cases e
theorem fp_of {K : PySem.W.Frag} {Z : Addr → Prop} {H : Hp} {Q : Str → Prop} {post : D → Prop} (k : ∀ s, post (.str s) → Q s) : ∀ {ds : List D} {vs : List V} {Ss : List (List Addr)} {acc : Str}, RepL K Z H ds vs Ss → fstrG ds acc post → FP vs acc Q
  | [], vs, Ss, acc, r, w => by
    obtain ⟨rfl, rfl⟩ := r
    exact k _ w
  | d :: ds, vs, Ss, acc, r, w => by
    obtain ⟨x, ws, S, Us, rfl, rfl, r1, r2⟩ := r
    cases d with
    | str s => exact .inl ⟨s, rep_str r1, w.1, w.2.1, fp_of k r2 w.2.2⟩
    | int i => exact .inr ⟨i, rep_int r1, w.1, w.2.1, fp_of k r2 w.2.2⟩
    | _ => exact w.elim
theorem s_fstr {v1 v2 : Expr} {rest : List Expr} (hp : PJ X (v1 :: v2 :: rest) (tFp as)) (ok : fpOk N as) : PE X (.JoinedStr (v1 :: v2 :: rest) pos) (tE X.K N (.ap .fstr as)) :=
  pe_weak (pe_joined hp) fun σ H Q w => by
    obtain ⟨vs, h1, q⟩ := tA_fp ok (ap_look (rD_impl X.K (pkS .fstr)) w)
    obtain ⟨ds, Ss, Z, post, rl, w, k⟩ := q
    exact h1 _ _ _ (fp_of (fun s hs => tell k str_rep hs) rl w)
/-! ### a text, sign by sign -/
theorem it_str {K : PySem.W.Frag} {H : Hp} {Z kp : Addr → Prop} {z : Str} : IterOk K H Z kp (Its z) (signsL z) := by
  have he : (signsL z).length = z.cps.size := by unfold signsL; simp
  refine ⟨fun _ => True, _, by rw [he]; exact walk_str, fun Z1 H1 s => trivial, fun i Z1 H1 x H2 hi' s y => ?_⟩
  obtain ⟨rfl, c, hc, rfl⟩ := y
  refine ⟨.str ⟨#[c]⟩, ?_, str_rep, (fun z => nomatch z), fun _ _ e => e⟩
  unfold signsL
  rw [List.getElem?_map, Array.getElem?_toList, hc]; rfl
theorem s_itC (ha : PE X ea (tL X.K N a)) : PI X tg ea (tI X.K N (.itS (.ap .signs (.cons a .nil)))) := pi_weak (pi_str ha) fun σ H R w => by
  obtain ⟨ρ, Z, E, W, F, h, q, S, w, k⟩ := w
  have hN := S.hN
  have w : (sm a).L ρ fun x ρ1 => noUn (res ρ1 [x]) ∧ un1 signsS (res ρ1 [x]) fun d => walkV (res ρ1 [.val d]) fun ds => q ds ρ1 := w
  refine ⟨ρ, Z, E, W, F, h, _, S, w, fun v x ρ1 H1 Z1 E1 W1 F1 S1 o1 a1 sh w1 => ?_⟩
  simp only [res_cons, res] at w1
  obtain ⟨z, e, w1⟩ : ∃ z, rs ρ1 x = .str z ∧ q (signsL z) ρ1 := by
    obtain ⟨_, w1⟩ := w1
    generalize rs ρ1 x = d at w1
    cases d <;> first | exact ⟨_, rfl, w1.2⟩ | exact False.elim w1
  obtain ⟨S', r, hS⟩ := at_rep S1 a1 (by rw [e]; rfl) (Nat.le_refl h) hN
  rw [e] at r
  cases rep_str r
  obtain ⟨E2, F2, S2, o2, f2⟩ := o1.off2 S1 hN (Nat.le_succ h)
  exact ⟨z, rfl, k _ _ ρ1 H1 Z1 E2 W1 F2 S2 (o2.mono fun i _ t => ⟨t.1, by rw [tch, tch, tch, t.2]; rfl⟩) it_str w1⟩
end
def asgd : IR → Nat → Bool
  | .sA tg _, j => tch tg j
  | .sP is _, j => is.contains j
  | .sU i _ _, j => i == j
  | .sIf _ t e, j => asgd t j || asgd e j
  | .sFor tg _ body, j => tch tg j || asgd body j
  | .sWh _ body, j => asgd body j
  | .cons s r, j => asgd s j || asgd r j
  | _, _ => false
def Ac (e : IR) : Nat → Prop := fun i => asgd e i = true

structure Aft (K : PySem.W.Frag) (N : Nat) (T A : Nat → Prop) (H : Hp) (Z : Addr → Prop) (E : Nat → D) (W : Nat → Option V) (F : Nat → List Addr) (P : Post) (D : Ends) : Prop where
  nx : ∀ ρ' σ' H' Z' E' W' F', St0 K N ρ' σ' H' Z' E' W' F' N → OutS N T A H Z E W F N H' Z' E' W' F' → P.nx ρ' → D.nx σ' H'
  bk : ∀ ρ' σ' H' Z' E' W' F', St0 K N ρ' σ' H' Z' E' W' F' N → OutS N T A H Z E W F N H' Z' E' W' F' → P.bk ρ' → D.bk σ' H'
  ct : ∀ ρ' σ' H' Z' E' W' F', St0 K N ρ' σ' H' Z' E' W' F' N → OutS N T A H Z E W F N H' Z' E' W' F' → P.ct ρ' → D.ct σ' H'
  rt : ∀ v d ρ' σ' H' Z' E' W' F', St0 K N ρ' σ' H' Z' E' W' F' (N + 1) → OutS N T A H Z E W F N H' Z' E' W' F' → E' N = d → W' N = some v → d ≠ .un → P.rt d ρ' → D.rt v H'
def tS (K : PySem.W.Frag) (N : Nat) (b : IR) : TS := fun D σ H => ∃ ρ Z E W F P, St0 K N ρ σ H Z E W F N ∧ wpS b ρ P ∧ Aft K N (Tc N b) (Ac b) H Z E W F P D

section
variable {K : PySem.W.Frag} {N : Nat} {ρ ρ1 : Env} {σ : L2.St} {H H1 H2 : Hp} {Z Z1 Z2 : Addr → Prop} {E E1 E2 : Nat → D} {W W1 W2 : Nat → Option V} {F F1 F2 : Nat → List Addr} {h h1 : Nat} {T T1 T2 A A1 A2 : Nat → Prop} {P : Post} {D : Ends}
theorem OutS.refl (S : St0 K N ρ σ H Z E W F h) : OutS N T A H Z E W F h H Z E W F := ⟨Out.refl S, fun _ _ _ => rfl⟩
theorem Aft.after (k : Aft K N T A H Z E W F P D) (o : OutS N T A H Z E W F N H1 Z1 E1 W1 F1) : Aft K N T A H1 Z1 E1 W1 F1 P D where
  nx := fun ρ' σ' H' Z' E' W' F' S o' q => k.nx ρ' σ' H' Z' E' W' F' S (o.trans o' (Nat.le_refl _)) q
  bk := fun ρ' σ' H' Z' E' W' F' S o' q => k.bk ρ' σ' H' Z' E' W' F' S (o.trans o' (Nat.le_refl _)) q
  ct := fun ρ' σ' H' Z' E' W' F' S o' q => k.ct ρ' σ' H' Z' E' W' F' S (o.trans o' (Nat.le_refl _)) q
  rt := fun v d ρ' σ' H' Z' E' W' F' S o' e w n q => k.rt v d ρ' σ' H' Z' E' W' F' S (o.trans o' (Nat.le_refl _)) e w n q
theorem Aft.less (k : Aft K N T A H Z E W F P D) (ht : ∀ i, i < N → T1 i → T i) (ha : ∀ i, i < N → A1 i → A i) : Aft K N T1 A1 H Z E W F P D where
  nx := fun ρ' σ' H' Z' E' W' F' S o' q => k.nx ρ' σ' H' Z' E' W' F' S (o'.mono ht ha) q
  bk := fun ρ' σ' H' Z' E' W' F' S o' q => k.bk ρ' σ' H' Z' E' W' F' S (o'.mono ht ha) q
  ct := fun ρ' σ' H' Z' E' W' F' S o' q => k.ct ρ' σ' H' Z' E' W' F' S (o'.mono ht ha) q
  rt := fun v d ρ' σ' H' Z' E' W' F' S o' e w n q => k.rt v d ρ' σ' H' Z' E' W' F' S (o'.mono ht ha) e w n q
/-- behind something reckoned -/
theorem Aft.step (k : Aft K N T A H Z E W F P D) (S : St0 K N ρ σ H Z E W F N) (S1 : St0 K N ρ1 σ H1 Z1 E1 W1 F1 h1) (o : Out T1 H Z E W F N H1 Z1 E1 W1 F1) (ht : ∀ i, i < N → T1 i → T i) : Aft K N T A H1 Z1 E1 W1 F1 P D :=
  k.after ((o.mono ht).s S S1)
end

section
variable {X : Cx} {N : Nat} {a b c e r s t as it tg : IR} {ea eb ec tgE itE : Expr} {pos : Pos} {st : Stmt} {ss us : List Stmt}
theorem ss_nil : PSs X [] (tS X.K N .nil) := pss_weak pss_nil fun D σ H w => by
  obtain ⟨ρ, Z, E, W, F, P, S, w, k⟩ := w
  exact k.nx _ _ _ _ _ _ _ S (OutS.refl S) w
theorem ss_cons (h1 : PS X st (tS X.K N s)) (h2 : PSs X ss (tS X.K N r)) : PSs X (st :: ss) (tS X.K N (.cons s r)) := pss_weak (pss_cons h1 h2) fun D σ H w => by
  obtain ⟨ρ, Z, E, W, F, P, S, w, k⟩ := w
  have k1 := k.less (T1 := Tc N s) (A1 := Ac s) (fun i _ q => ⟨q.1, by rw [tch, q.2]; rfl⟩) (fun i _ q => by unfold Ac at q ⊢; rw [asgd, q]; rfl)
  refine ⟨ρ, Z, E, W, F, _, S, w, fun ρ' σ' H' Z' E' W' F' S' o' q => ?_, k1.bk, k1.ct, k1.rt⟩
  have o2 : OutS N (Tc N (.cons s r)) (Ac (.cons s r)) H Z E W F N H' Z' E' W' F' := o'.mono (fun i _ q => ⟨q.1, by rw [tch, q.2]; rfl⟩) (fun i _ q => by unfold Ac at q ⊢; rw [asgd, q]; rfl)
  exact ⟨ρ', Z', E', W', F', P, S', q, (k.after o2).less (fun i _ q => ⟨q.1, by rw [tch, q.2]; simp⟩) (fun i _ q => by unfold Ac at q ⊢; rw [asgd, q]; simp)⟩
theorem ss_one (h1 : PS X st (tS X.K N s)) : PSs X [st] (tS X.K N (.cons s .nil)) := ss_cons h1 ss_nil
def noComp : Expr → Bool
  | .ListComp .. => false | .SetComp .. => false | .DictComp .. => false | _ => true
theorem no_swap {e : Expr} {t : Option Expr} {l : Nat} {env : PySem.Env} (h : noComp e = true) : swapsWith e t l env = pure false := by
  cases e <;> first | rfl | cases h
theorem s_expr (h : PE X ea (tE X.K N a)) (nc : noComp ea = true) : PS X (.Expr ea pos) (tS X.K N (.sE a)) := ps_weak (ps_expr h (no_swap nc)) fun D σ H w => by
  obtain ⟨ρ, Z, E, W, F, P, S, w, k⟩ := w
  refine ⟨ρ, Z, E, W, F, N, _, S, w, fun v d ρ' H' Z' E' W' F' S' o' e1 e2 nu q => ?_⟩
  obtain ⟨E2, F2, S2, o2, f2⟩ := o'.off2 S' (Nat.le_refl _) (Nat.le_succ N)
  exact k.nx _ _ _ _ _ _ _ S2 (o2.s S S2) q
theorem s_doc {x j pos pos'} : PS X (.Expr (.Constant (.str x) j pos) pos') (tS X.K N .sPass) := ps_weak ps_doc fun D σ H w => by
  obtain ⟨ρ, Z, E, W, F, P, S, w, k⟩ := w
  exact k.nx _ _ _ _ _ _ _ S (OutS.refl S) w
theorem s_pass : PS X (.Pass pos) (tS X.K N .sPass) := ps_weak ps_pass fun D σ H w => by
  obtain ⟨ρ, Z, E, W, F, P, S, w, k⟩ := w
  exact k.nx _ _ _ _ _ _ _ S (OutS.refl S) w
theorem s_brk : PS X (.Break pos) (tS X.K N .sBrk) := ps_weak ps_break fun D σ H w => by
  obtain ⟨ρ, Z, E, W, F, P, S, w, k⟩ := w
  exact k.bk _ _ _ _ _ _ _ S (OutS.refl S) w
theorem s_cnt : PS X (.Continue pos) (tS X.K N .sCnt) := ps_weak ps_continue fun D σ H w => by
  obtain ⟨ρ, Z, E, W, F, P, S, w, k⟩ := w
  exact k.ct _ _ _ _ _ _ _ S (OutS.refl S) w
theorem s_ret (h : PE X ea (tE X.K N a)) : PS X (.Return (some ea) pos) (tS X.K N (.sRet a)) := ps_weak (ps_ret h) fun D σ H w => by
  obtain ⟨ρ, Z, E, W, F, P, S, w, k⟩ := w
  exact ⟨ρ, Z, E, W, F, N, _, S, w, fun v d ρ' H' Z' E' W' F' S' o' e1 e2 nu q => k.rt v d _ _ _ _ _ _ _ S' (o'.s S S') e1 e2 nu q⟩
theorem s_retN : PS X (.Return none pos) (tS X.K N .sRetN) := ps_weak ps_retN fun D σ H w => by
  obtain ⟨ρ, Z, E, W, F, P, S, w, k⟩ := w
  obtain ⟨E2, W2, F2, S2, e1, e2, o⟩ := S.push (T := Tc N .sRetN) (non_rep (K := X.K) (Z := Z) (H := H))
  exact k.rt _ _ _ _ _ _ _ _ _ S2 (o.s S S2) e1 e2 (fun z => nomatch z) w
theorem s_if (hc : PT X ec (tT X.K N c)) (ht : PSs X ss (tS X.K N t)) (he : PSs X us (tS X.K N e)) : PS X (.If ec ss us pos) (tS X.K N (.sIf c t e)) := ps_weak (ps_if hc ht he) fun D σ H w => by
  obtain ⟨ρ, Z, E, W, F, P, S, w, k⟩ := w
  refine ⟨ρ, Z, E, W, F, N, _, S, w, fun b ρ' H' Z' E' W' F' S' o' q => ?_⟩
  have k1 := k.step S S' o' fun i _ q => ⟨q.1, by rw [tch, q.2]; rfl⟩
  cases b with
  | true => exact ⟨_, _, _, _, _, P, S', q, k1.less (fun i _ q => ⟨q.1, by rw [tch, q.2]; simp⟩) (fun i _ q => by unfold Ac at q ⊢; rw [asgd, q]; rfl)⟩
  | false => exact ⟨_, _, _, _, _, P, S', q, k1.less (fun i _ q => ⟨q.1, by rw [tch, q.2]; simp⟩) (fun i _ q => by unfold Ac at q ⊢; rw [asgd, q]; simp)⟩
/-- a, b, .. = value; name = value -/
theorem asg_w {tg : IR} (tN : ∀ i, tch tg i = true → i < N) {D : Ends} {H : Hp} {σ : L2.St} (w : tS X.K N (.sA tg a) D σ H) : tAsg (tE X.K N a) (gT X.K tg) D σ H := by
  obtain ⟨ρ, Z, E, W, F, P, S, w, k⟩ := w
  refine ⟨ρ, Z, E, W, F, N, _, S, w, fun v d ρ' H' Z' E' W' F' S' o' e1 e2 nu q => ?_⟩
  refine bind_ok S' (Nat.le_refl _) e1 e2 nu tN q fun ρ2 σ2 E2 W2 F2 S2 o2 q2 => ?_
  refine k.nx _ _ _ _ _ _ _ S2 ?_ q2
  have o1 : OutS N (fun i => Tc N (.sA tg a) i ∨ N ≤ i) (Ac (.sA tg a)) H Z E W F N H' Z' E' W' F' := (o'.mono fun i _ q => .inl ⟨q.1, by rw [tch, q.2]; simp⟩).s S S'
  have o3 : OutS N (fun i => Tc N (.sA tg a) i ∨ N ≤ i) (Ac (.sA tg a)) H' Z' E' W' F' (N + 1) H' Z' E2 W2 F2 := o2.mono (fun i _ q => q.imp (fun q => ⟨tN i q, by rw [tch, q]; rfl⟩) id) (fun i _ q => q)
  exact (o1.trans o3 (Nat.le_succ N)).mono (fun i hi q => q.elim id (by omega)) fun _ _ q => q
def Stor (X : Cx) (x : Str) : Prop := Loc X.env.scope x ∧ (X.fn x = true ∨ X.env.scope.names.lookup x = some .local)
theorem s_set {i : Nat} {x : Str} {pos' : Pos} (hN : X.N.Nodup) (hi : X.N[i]? = some x) (hx : Stor X x) (h : PE X ea (tE X.K N a)) (nc : noComp ea = true) (iN : i < N) :
    PS X (.Assign [.Name x pos'] ea pos) (tS X.K N (.sA (.tn i) a)) :=
  ps_weak (ps_set hN hi hx.1 h (no_swap nc) hx.2) fun D σ H w => asg_w (tg := .tn i) (fun j q => by rw [tch] at q; rw [← beq_iff_eq.mp q]; exact iN) w
def noPair : Expr → Bool
  | .Tuple .. => false | e => noComp e
theorem no_pair {es : List Expr} {k : Nat} {p : Pos} {e : Expr} {env : PySem.Env} (h : noPair e = true) : swappedStores [.Tuple es k p] e env = pure none := by
  cases e <;> first | rfl | cases h
theorem noComp_of {e : Expr} (h : noPair e = true) : noComp e = true := by
  cases e <;> first | rfl | cases h
theorem s_asgT {es : List Expr} {k : Nat} {p : Pos} {is : List Nat} (hg : PG X (.Tuple es k p) (gT X.K (.tt is))) (h : PE X ea (tE X.K N a)) (nc : noComp ea = true) (np : swappedStores [.Tuple es k p] ea X.env = pure none) (iN : ∀ i ∈ is, i < N) :
    PS X (.Assign [.Tuple es k p] ea pos) (tS X.K N (.sA (.tt is) a)) :=
  ps_weak (ps_asg h hg (show swapsWithSole [.Tuple es k p] ea pos.line X.env = pure false by unfold swapsWithSole; exact no_swap nc) np rfl) fun D σ H w => asg_w (tg := .tt is) (fun j q => iN j (by rw [tch] at q; simpa using q)) w
/-- the names es lie at is -/
def NmAt (X : Cx) : List Nat → List Expr → Prop
  | [], es => es = []
  | i :: is, es => ∃ x p er, es = .Name x p :: er ∧ X.N[i]? = some x ∧ Stor X x ∧ NmAt X is er
theorem pgs_names (hN : X.N.Nodup) : ∀ {is : List Nat} {es : List Expr}, NmAt X is es → PGs X es (gs is) ∧ (assignEach es X.env).length = is.length ∧ (assignEach es X.env).findIdx? (·.1) = none
  | [], es, h => by cases h; exact ⟨pgs_nil, rfl, rfl⟩
  | i :: is, es, h => by
    obtain ⟨x, p, er, rfl, h1, h2, h3⟩ := h
    obtain ⟨i1, i2, i3⟩ := pgs_names hN h3
    refine ⟨pgs_cons (pg_name hN h1 h2.1 h2.2) i1 rfl, ?_, ?_⟩
    · show (assignEach er X.env).length + 1 = _
      rw [i2]; rfl
    · show List.findIdx? (·.1) ((false, _) :: assignEach er X.env) = none
      rw [List.findIdx?_cons, i3]; rfl
theorem pg_ttup {es : List Expr} {k : Nat} {p : Pos} {is : List Nat} (hc : X.calm = true) (hN : X.N.Nodup) (h : NmAt X is es) : PG X (.Tuple es k p) (gT X.K (.tt is)) :=
  let ⟨h1, h2, h3⟩ := pgs_names hN h
  pg_tup hc h1 h2 h3
theorem pg_tn {i : Nat} {x : Str} {p : Pos} (hN : X.N.Nodup) (hi : X.N[i]? = some x) (hx : Stor X x) : PG X (.Name x p) (gT X.K (.tn i)) := pg_name hN hi hx.1 hx.2

theorem s_for (hp : PassesOwn (model X.prog X.w) X.A X.env X.xe) (hc : X.calm = true) (hi : PI X tgE itE (tI X.K N it)) (hg : PG X tgE (gT X.K tg)) (hb : PSs X ss (tS X.K N b)) (hs : ∀ x, foldedSetIterable itE X.env x = pure x)
    (ok : ∀ i, srcs it i = true → tch tg i = false ∧ tch b i = false) (tN : ∀ i, tch tg i = true → i < N) : PS X (.For tgE itE ss [] pos) (tS X.K N (.sFor tg it b)) := ps_weak (ps_for hp hc hi hg hb hs) fun D σ H w => by
  obtain ⟨ρ, Z, E, W, F, P, S, w, k⟩ := w
  refine ⟨ρ, Z, E, W, F, N, _, S, w, fun J ds ρ1 H1 Z1 E1 W1 F1 S1 o1 iok q => ?_⟩
  obtain ⟨G, Y, wk, sG, yl⟩ := iok.ok
  let T0 : Nat → Prop := fun i => i < N ∧ (tch tg i = true ∨ tch b i = true)
  let A0 : Nat → Prop := Ac (.sFor tg it b)
  have k1 := k.step S S1 o1 fun i _ q => ⟨q.1, by rw [tch, q.2]; simp⟩
  have k2 : Aft X.K N T0 A0 H1 Z1 E1 W1 F1 P D := k1.less (fun i _ q => ⟨q.1, by rw [tch]; rcases q.2 with q | q <;> rw [q] <;> simp⟩) (fun _ _ q => q)
  have stab : ∀ {H2 Z2 E2 W2 F2}, OutS N T0 A0 H1 Z1 E1 W1 F1 N H2 Z2 E2 W2 F2 → Stab Z1 H1 Z2 H2 (Kp it H1 F1 N) := fun o => by
    refine (o.o.ext.stab fun c z ⟨i, _, _, m⟩ => S1.nz i c m z).mono fun c kc ⟨i, hi, t, m⟩ => ?_
    refine kc.2 i hi ?_ m
    cases sr : srcs it i with
    | false => rfl
    | true =>
      obtain ⟨n1, n2⟩ := ok i sr
      rcases t.2 with t | t
      · rw [n1] at t; cases t
      · rw [n2] at t; cases t
  refine for_it wk (fun i σ2 H2 => ∃ ρ2 Z2 E2 W2 F2, St0 X.K N ρ2 σ2 H2 Z2 E2 W2 F2 N ∧ OutS N T0 A0 H1 Z1 E1 W1 F1 N H2 Z2 E2 W2 F2 ∧ forL (fun d ρ2 P' => bindT tg d ρ2 fun ρ3 => wpS b ρ3 P') (ds.drop i) ρ2 P) ⟨ρ1, Z1, E1, W1, F1, S1, OutS.refl S1, q⟩ ?_ ?_ ?_
  · rintro i σ2 H2 hi ⟨ρ2, Z2, E2, W2, F2, S2, o2, q2⟩
    exact sG Z2 H2 (stab o2)
  · rintro i x σ2 H2 H3 hi ⟨ρ2, Z2, E2, W2, F2, S2, o2, q2⟩ y
    obtain ⟨d, hd, r, nu, keep⟩ := yl i Z2 H2 x H3 hi (stab o2) y
    obtain ⟨E3, W3, F3, S3, e1, e2, o3⟩ := S2.pushNew (T := T0) keep r List.nodup_nil (fun _ q => nomatch q)
    have hdrop : ds.drop i = d :: ds.drop (i + 1) := by
      rw [List.drop_eq_getElem_cons hi]
      rw [List.getElem?_eq_getElem hi] at hd
      cases hd; rfl
    rw [hdrop] at q2
    refine bind_ok S3 (Nat.le_refl _) e1 e2 nu tN q2 fun ρ4 σ4 E4 W4 F4 S4 o4 q4 => ?_
    have o34 : OutS N T0 A0 H2 Z2 E2 W2 F2 N H3 Z2 E4 W4 F4 := by
      have a1 : OutS N (fun i => T0 i ∨ N ≤ i) A0 H2 Z2 E2 W2 F2 N H3 Z2 E3 W3 F3 := (o3.mono fun i _ q => .inl q).s S2 S3
      have a2 : OutS N (fun i => T0 i ∨ N ≤ i) A0 H3 Z2 E3 W3 F3 (N + 1) H3 Z2 E4 W4 F4 := o4.mono (fun i _ q => q.imp (fun q => ⟨tN i q, .inl q⟩) id) (fun i _ q => by show asgd _ _ = true; rw [asgd, q]; rfl)
      exact (a1.trans a2 (Nat.le_succ N)).mono (fun i hi q => q.elim id (by omega)) fun _ _ q => q
    have o4' := o2.trans o34 (Nat.le_refl _)
    have up : ∀ {H5 Z5 E5 W5 F5}, OutS N (Tc N b) (Ac b) H3 Z2 E4 W4 F4 N H5 Z5 E5 W5 F5 → OutS N T0 A0 H1 Z1 E1 W1 F1 N H5 Z5 E5 W5 F5 := fun o =>
      o4'.trans (o.mono (fun i _ q => ⟨q.1, .inr q.2⟩) (fun i _ q => by show asgd _ _ = true; unfold Ac at q; rw [asgd, q]; simp)) (Nat.le_refl _)
    exact ⟨ρ4, Z2, E4, W4, F4, _, S4, q4, fun ρ5 σ5 H5 Z5 E5 W5 F5 S5 o5 q5 => ⟨ρ5, Z5, E5, W5, F5, S5, up o5, q5⟩, fun ρ5 σ5 H5 Z5 E5 W5 F5 S5 o5 q5 => k2.nx _ _ _ _ _ _ _ S5 (up o5) q5,
      fun ρ5 σ5 H5 Z5 E5 W5 F5 S5 o5 q5 => ⟨ρ5, Z5, E5, W5, F5, S5, up o5, q5⟩, fun v d' ρ5 σ5 H5 Z5 E5 W5 F5 S5 o5 f1 f2 f3 q5 => k2.rt v d' _ _ _ _ _ _ _ S5 (up o5) f1 f2 f3 q5⟩
  · rintro σ2 H2 ⟨ρ2, Z2, E2, W2, F2, S2, o2, q2⟩
    rw [List.drop_length] at q2
    exact k2.nx _ _ _ _ _ _ _ S2 o2 q2
theorem s_while (hp : PassesOwn (model X.prog X.w) X.A X.env X.xe) (hc : PT X ec (tT X.K N c)) (hb : PSs X ss (tS X.K N b)) : PS X (.While ec ss [] pos) (tS X.K N (.sWh c b)) := ps_weak (ps_while hp hc hb) fun D σ H w => by
  obtain ⟨ρ, Z, E, W, F, P, S, ⟨n, w⟩, k⟩ := w
  refine ⟨fun m σ2 H2 => ∃ ρ2 Z2 E2 W2 F2, St0 X.K N ρ2 σ2 H2 Z2 E2 W2 F2 N ∧ OutS N (Tc N (.sWh c b)) (Ac (.sWh c b)) H Z E W F N H2 Z2 E2 W2 F2 ∧ whL (wpT c) (wpS b) m ρ2 P, ⟨n, ρ, Z, E, W, F, S, OutS.refl S, w⟩, ?_⟩
  rintro m σ2 H2 ⟨ρ2, Z2, E2, W2, F2, S2, o2, w2⟩
  cases m with
  | zero => exact w2.elim
  | succ m =>
    refine ⟨ρ2, Z2, E2, W2, F2, N, _, S2, w2, fun bb ρ3 H3 Z3 E3 W3 F3 S3 o3 q3 => ?_⟩
    have o23 := o2.trans ((o3.mono fun i _ q => ⟨q.1, by rw [tch, q.2]; rfl⟩).s S2 S3) (Nat.le_refl _)
    cases bb with
    | false => exact k.nx _ _ _ _ _ _ _ S3 o23 q3
    | true =>
      have up : ∀ {H5 Z5 E5 W5 F5}, OutS N (Tc N b) (Ac b) H3 Z3 E3 W3 F3 N H5 Z5 E5 W5 F5 → OutS N (Tc N (.sWh c b)) (Ac (.sWh c b)) H Z E W F N H5 Z5 E5 W5 F5 := fun o =>
        o23.trans (o.mono (fun i _ q => ⟨q.1, by rw [tch, q.2]; simp⟩) (fun i _ q => by unfold Ac at q ⊢; rw [asgd, q])) (Nat.le_refl _)
      refine ⟨fun σ5 H5 => ∃ ρ5 Z5 E5 W5 F5, St0 X.K N ρ5 σ5 H5 Z5 E5 W5 F5 N ∧ OutS N (Tc N (.sWh c b)) (Ac (.sWh c b)) H Z E W F N H5 Z5 E5 W5 F5 ∧ whL (wpT c) (wpS b) m ρ5 P, fun σ5 H5 q5 => ⟨m, Nat.lt_succ_self m, q5⟩, ?_⟩
      exact ⟨ρ3, Z3, E3, W3, F3, _, S3, q3, fun ρ5 σ5 H5 Z5 E5 W5 F5 S5 o5 q5 => ⟨ρ5, Z5, E5, W5, F5, S5, up o5, q5⟩, fun ρ5 σ5 H5 Z5 E5 W5 F5 S5 o5 q5 => k.nx _ _ _ _ _ _ _ S5 (up o5) q5,
        fun ρ5 σ5 H5 Z5 E5 W5 F5 S5 o5 q5 => ⟨ρ5, Z5, E5, W5, F5, S5, up o5, q5⟩, fun v d' ρ5 σ5 H5 Z5 E5 W5 F5 S5 o5 f1 f2 f3 q5 => k.rt v d' _ _ _ _ _ _ _ S5 (up o5) f1 f2 f3 q5⟩
end
/-! ### a, b = x, y -/
def isStarE : Expr → Bool
  | .Starred .. => true | _ => false
def parName (sc : Scope) (line : Nat) : Expr → Option Str
  | .Name id pos => if sc.names.lookup id == some .local && pos.line == line then some id else none
  | _ => none
def parNames (ts : List Expr) (sc : Scope) : List Str := ts.filterMap (parName sc ((ts.head?.map (·.pos.line)).getD 0))
def swN (ts vs : List Expr) (sc : Scope) : Option (Option (List Str)) :=
  bif !(ts.length == 2 || ts.length == 3) || vs.length != ts.length then some none
  else bif vs.any isStarE then some none
  else bif (parNames ts sc).length != ts.length || (parNames ts sc).eraseDups.length != (parNames ts sc).length then some none
  else bif vs.all (foldedForSure 8) then some none
  else bif vs.all (constantsAlone 8) then none
  else some (some (parNames ts sc))
theorem sw_par {ts vs : List Expr} {k k2 : Nat} {p p2 : Pos} {env : PySem.Env} {r : Option (List Str)} (hk : env.scope.kind = .function) (h : swN ts vs env.scope = some r) : swappedStores [.Tuple ts k p] (.Tuple vs k2 p2) env = pure r := by
  have hb : env.blockKind = .function := by unfold Env.blockKind; rw [hk]; rfl
  have e1 : ∀ f : Expr → Bool, (∀ x, f x = isStarE x) → vs.any f = vs.any isStarE := fun f hf => by
    have : f = isStarE := funext hf
    rw [this]
  have e2 : ∀ f : Expr → Option Str, (∀ x, f x = parName env.scope ((ts.head?.map (·.pos.line)).getD 0) x) → ts.filterMap f = parNames ts env.scope := fun f hf => by
    have : f = parName env.scope ((ts.head?.map (·.pos.line)).getD 0) := funext hf
    rw [this]; rfl
  unfold swappedStores
  simp only [hb]
  unfold swN at h
  cases c1 : !(ts.length == 2 || ts.length == 3) || vs.length != ts.length with
  | true =>
    rw [c1] at h; cases h
    simp only [Bool.true_or, if_true]
  | false =>
    rw [c1] at h
    simp only [Bool.false_or, cond_false] at h ⊢
    have c0 : (ScopeKind.function != ScopeKind.function) = false := by decide
    simp only [c0, Bool.false_eq_true, if_false]
    rw [e1 _ (by intro x; cases x <;> rfl)]
    cases c2 : vs.any isStarE with
    | true => rw [c2] at h; cases h; rfl
    | false =>
      rw [c2] at h
      simp only [cond_false] at h
      simp only [Bool.false_eq_true, if_false]
      rw [e2 _ (by intro x; cases x <;> rfl)]
      cases c3 : ((parNames ts env.scope).length != ts.length || (parNames ts env.scope).eraseDups.length != (parNames ts env.scope).length) with
      | true => rw [c3] at h; cases h; rfl
      | false =>
        rw [c3] at h
        simp only [cond_false] at h
        simp only [Bool.false_eq_true, if_false]
        cases c4 : vs.all (foldedForSure 8) with
        | true => rw [c4] at h; cases h; rfl
        | false =>
          rw [c4] at h
          simp only [cond_false] at h
          cases c5 : vs.all (constantsAlone 8) with
          | true => rw [c5] at h; cases h
          | false => rw [c5] at h; cases h; rfl

section
variable {K : PySem.W.Frag} {N : Nat} {ρ ρ1 : Env} {σ : L2.St} {H H1 H2 : Hp} {Z Z1 Z2 : Addr → Prop} {E E1 E2 : Nat → D} {W W1 W2 : Nat → Option V} {F F1 F2 : Nat → List Addr} {h h1 : Nat} 
theorem vals_at : ∀ {xs : List Arg} {vs : List V} {ds : List D} {p : Nat}, ArgsAt K N H Z E W F p xs vs → vals xs = some ds → vs.length = ds.length ∧ xs.length = ds.length ∧ ∀ j d, ds[j]? = some d → E (p + j) = d ∧ W (p + j) = vs[j]? ∧ d ≠ .un
  | [], vs, ds, p, a, h => by cases h; cases a; exact ⟨rfl, rfl, fun j d e => by simp at e⟩
  | .loan _ _ :: _, _, _, _, _, h => by cases h
  | .val d :: xs, vs, ds, p, a, h => by
    obtain ⟨v, ws, rfl, ⟨a1, a2, a3⟩, a4⟩ := a
    rw [vals] at h
    cases hv : vals xs with
    | none => rw [hv] at h; cases h
    | some es =>
      rw [hv] at h
      cases h
      obtain ⟨i1, i2, i3⟩ := vals_at a4 hv
      refine ⟨by simp [i1], by simp [i2], fun j x e => ?_⟩
      cases j with
      | zero => cases e; exact ⟨a1, a2, a3⟩
      | succ j =>
        obtain ⟨b1, b2, b3⟩ := i3 j x (by simpa using e)
        rw [show p + (j + 1) = p + 1 + j by omega]
        exact ⟨b1, by simpa using b2, b3⟩
end

section
variable {X : Cx} {N : Nat} {a b c e r s t as it tg : IR} {ea eb ec tgE itE : Expr} {pos : Pos} {st : Stmt} {ss us : List Stmt}
theorem par_w {is : List Nat} (iN : ∀ i ∈ is, i < N) {D : Ends} {H : Hp} {σ : L2.St} (w : tS X.K N (.sP is as) D σ H) : tA X.K N as σ H fun vs H1 => vs.length = is.length ∧ D.nx (setsV is vs σ) H1 := by
  obtain ⟨ρ, Z, E, W, F, P, S, w, k⟩ := w
  refine ⟨ρ, Z, E, W, F, N, _, S, w, fun vs xs ρ' H' Z' E' W' F' S' o' A ls q => ?_⟩
  obtain ⟨ds, hv, hl, q⟩ := q
  obtain ⟨l1, l2, at_⟩ := vals_at A hv
  obtain ⟨E1, W1, F1, S1, a1, a2⟩ := S'.takes is (p := N) hl.symm l1 iN (Nat.le_refl _) at_
  obtain ⟨E2, F2, S2, o2⟩ := S1.pop (Nat.le_refl _) (Nat.le_add_right N _)
  refine ⟨l1.trans hl, k.nx _ _ _ _ _ _ _ S2 ?_ q⟩
  have f2 : ∀ i b, b ∈ F2 i → i < N ∧ b ∈ F1 i := fun i b hb => by
    by_cases hi : i < N
    · exact ⟨hi, by rw [← (o2.same i (by omega) (by omega)).2]; exact hb⟩
    · rw [S2.nil (by omega)] at hb; exact (nomatch hb)
  have ti : ∀ j, j ∈ is → Tc N (.sP is as) j := fun j hj => ⟨iN j hj, by rw [tch, List.contains_iff_mem.mpr hj]; rfl⟩
  have o1 : OutS N (fun i => Tc N (.sP is as) i ∨ N ≤ i) (Ac (.sP is as)) H Z E W F N H' Z' E' W' F' := (o'.mono fun i _ q => .inl ⟨q.1, by rw [tch, q.2]; simp⟩).s S S'
  have o3 : OutS N (fun i => Tc N (.sP is as) i ∨ N ≤ i) (Ac (.sP is as)) H' Z' E' W' F' (N + xs.length) H' Z' E2 W1 F2 := by
    refine ⟨⟨Ext.refl, fun j hj t => ?_, fun j hj t => ?_, fun j b hb => ?_⟩, fun j hj n => ?_⟩
    · have n2 : j < N := by
        rcases Nat.lt_or_ge j N with q | q
        · exact q
        · exact absurd (.inr q) t
      have n1 : j ∉ is := fun m => t (.inl (ti j m))
      obtain ⟨z1, z2⟩ := o2.same j (by omega) (by omega)
      obtain ⟨y1, y2, y3⟩ := a1 j n2 n1
      exact ⟨z1.trans y1, z2.trans y2⟩
    · have n2 : j < N := by
        rcases Nat.lt_or_ge j N with q | q
        · exact q
        · exact absurd (.inr q) t
      have n1 : j ∉ is := fun m => t (.inl (ti j m))
      exact (a1 j n2 n1).2.2
    · obtain ⟨hj, hb⟩ := f2 j b hb
      rcases a2 j b hb with ⟨q1, q2⟩ | ⟨k, q1, q2⟩
      · by_cases t : Tc N (.sP is as) j
        · exact .inl ⟨j, by omega, .inl t, q1⟩
        · exact .inr (.inr ⟨by omega, fun z => z.elim t (by omega), q1⟩)
      · refine .inl ⟨k, ?_, .inr q1, q2⟩
        rcases Nat.lt_or_ge k (N + xs.length) with z | z
        · exact z
        · rw [S'.nil z] at q2; exact (nomatch q2)
    · exact (a1 j hj (fun m => n (by show asgd _ _ = true; rw [asgd]; exact List.contains_iff_mem.mpr m))).2.2
  exact (o1.trans o3 (Nat.le_add_right N _)).mono (fun i hi q => q.elim id (by omega)) fun _ _ q => q
theorem s_par2 {i j : Nat} {x y : Str} {px py pt : Pos} {kt k2 : Nat} {pt2 : Pos} (hc : X.calm = true) (hN : X.N.Nodup) (hi : X.N[i]? = some x) (hj : X.N[j]? = some y) (hij : i ≠ j) (iN : i < N) (jN : j < N)
    (hx : X.env.scope.names.lookup x = some .local) (hy : X.env.scope.names.lookup y = some .local) (ha : PA X [ea, eb] (tA X.K N as)) (hw : swappedStores [.Tuple [.Name x px, .Name y py] kt pt] (.Tuple [ea, eb] k2 pt2) X.env = pure (some [x, y])) :
    PS X (.Assign [.Tuple [.Name x px, .Name y py] kt pt] (.Tuple [ea, eb] k2 pt2) pos) (tS X.K N (.sP [i, j] as)) :=
  ps_weak (ps_par hc hN hi hj hij hx hy ha hw rfl) fun D σ H w => by
    have := par_w (is := [i, j]) (fun l hl => by
      rcases List.mem_cons.mp hl with rfl | hl
      · exact iN
      · rw [List.mem_singleton] at hl; rw [hl]; exact jN) w
    obtain ⟨ρ, Z, E, W, F, h, q, S, w, k⟩ := this
    refine ⟨ρ, Z, E, W, F, h, q, S, w, fun vs xs ρ' H' Z' E' W' F' S' o' A ls qq => ?_⟩
    obtain ⟨l, d⟩ := k vs xs ρ' H' Z' E' W' F' S' o' A ls qq
    match vs, l with
    | [u, v], _ => exact ⟨u, v, rfl, d⟩
theorem s_par3 {i j l : Nat} {x y z : Str} {px py pz pt : Pos} {kt k2 : Nat} {pt2 : Pos} (hc : X.calm = true) (hN : X.N.Nodup) (hi : X.N[i]? = some x) (hj : X.N[j]? = some y) (hl : X.N[l]? = some z) (hij : i ≠ j) (hil : i ≠ l) (hjl : j ≠ l) (iN : i < N) (jN : j < N) (lN : l < N)
    (hx : X.env.scope.names.lookup x = some .local) (hy : X.env.scope.names.lookup y = some .local) (hz : X.env.scope.names.lookup z = some .local) (ha : PA X [ea, eb, ec] (tA X.K N as)) (hw : swappedStores [.Tuple [.Name x px, .Name y py, .Name z pz] kt pt] (.Tuple [ea, eb, ec] k2 pt2) X.env = pure (some [x, y, z])) :
    PS X (.Assign [.Tuple [.Name x px, .Name y py, .Name z pz] kt pt] (.Tuple [ea, eb, ec] k2 pt2) pos) (tS X.K N (.sP [i, j, l] as)) :=
  ps_weak (ps_par3 hc hN hi hj hl hij hil hjl hx hy hz ha hw rfl) fun D σ H w => by
    have := par_w (is := [i, j, l]) (fun m hm => by
      rcases List.mem_cons.mp hm with rfl | hm
      · exact iN
      · rcases List.mem_cons.mp hm with rfl | hm
        · exact jN
        · rw [List.mem_singleton] at hm; rw [hm]; exact lN) w
    obtain ⟨ρ, Z, E, W, F, h, q, S, w, k⟩ := this
    refine ⟨ρ, Z, E, W, F, h, q, S, w, fun vs xs ρ' H' Z' E' W' F' S' o' A ls qq => ?_⟩
    obtain ⟨l, d⟩ := k vs xs ρ' H' Z' E' W' F' S' o' A ls qq
    match vs, l with
    | [u, v, w], _ => exact ⟨u, v, w, rfl, d⟩

/-! ### xs[i] = v -/
theorem pset_or {r r' : TSet} (h : PSet X r) (h' : PSet X r') : PSet X (fun o i v H Q => r o i v H Q ∨ r' o i v H Q) := fun pins s σ H o i v ov iv u Q I ro ri rv w => w.elim (fun w => h pins s σ H o i v ov iv u Q I ro ri rv w) (fun w => h' pins s σ H o i v ov iv u Q I ro ri rv w)
theorem s_sub {p2 : Pos} (hu : X.A.units + 1 < cLine) (hv : PE X ea (tL X.K N a)) (ho : PE X eb (tL X.K N b)) (hi : PE X ec (tL X.K N c)) (s1 : Safe a (.cons b (.cons c .nil))) (s2 : Safe b (.cons c .nil)) (nd : (lentL (.cons a (.cons b (.cons c .nil)))).Nodup) (nc : noComp ea = true) (ns : notSlice ec = true) :
    PS X (.Assign [.Subscript eb ec p2] ea pos) (tS X.K N (.sI (.cons a (.cons b (.cons c .nil))))) := by
  refine ps_weak (ps_asg hv (pg_sub ho hi (pset_or set_list (set_dict hu)) (by intro v; cases ec <;> first | rfl | cases ns)) (by unfold swapsWithSole; exact no_swap nc) (by cases ea <;> rfl) rfl) fun D σ H w => ?_
  obtain ⟨ρ, Z, E, W, F, P, S, w, k⟩ := w
  have w' : tA X.K N (.cons a (.cons b (.cons c .nil))) σ H fun vs H1 => (∃ l y i xs j, vs = [y, .ref l, .int i] ∧ H1 l = some (.lst xs) ∧ ixN xs.length i = some j ∧ D.nx σ (upd H1 l (.lst (xs.set j y)))) ∨ ∃ l y i H', vs = [y, .ref l, i] ∧ DPut H1 l i y H' ∧ D.nx σ H' := by
    refine ⟨ρ, Z, E, W, F, N, _, S, w, fun vs xs ρ1 H1 Z1 E1 W1 F1 S1 o1 a1 ls w1 => ?_⟩
    have sN : ∀ i ∈ slots xs, i < N := by
      obtain ⟨Ss, al⟩ := AL.of S1 N a1 w1.1
      exact AL.slotsN al
    refine app_end (Q := fun _ H' => D.nx σ H') set_impl S S1 (o1.mono (T2 := Tc N (.sI (.cons a (.cons b (.cons c .nil))))) fun i _ t => ⟨t.1, by rw [tch, t.2]; rfl⟩) a1 (by rw [ls]; exact nd) (q := fun _ ρ2 => P.nx ρ2) w1 fun v d ρ' H' Z' E' W' F' S' o' e1 e2 nu q => ?_
    obtain ⟨E2, F2, S2, o2, f2⟩ := (o'.mono (T2 := Tc N (.sI (.cons a (.cons b (.cons c .nil))))) fun i _ t => t.elim id fun t => ⟨sN i t, by rw [tch, lent, ← ls, List.contains_iff_mem.mpr t, Bool.or_true]⟩).off2 S' (Nat.le_refl _) (Nat.le_succ N)
    exact k.nx _ _ _ _ _ _ _ S2 (o2.s S S2) q
  exact (tA3 s1 s2 w').mono fun v H1 q => q.mono fun o H2 q => q.mono fun i H3 q => by
    rcases q with ⟨l, y, i', xs, j, e, h1, h2, h3⟩ | ⟨l, y, i', H', e, h1, h2⟩
    · cases e
      exact .inl ⟨l, xs, i', j, rfl, rfl, h1, h2, h3⟩
    · cases e
      exact .inr ⟨l, H', rfl, h1, h2⟩

end
section
variable {K : PySem.W.Frag} {N : Nat} {ρ ρ1 : Env} {σ : L2.St} {H H1 H2 : Hp} {Z Z1 Z2 : Addr → Prop} {E E1 E2 : Nat → D} {W W1 W2 : Nat → Option V} {F F1 F2 : Nat → List Addr} {h h1 : Nat}
/-! ### xs[i], xs[j] = xs[j], xs[i] -/
theorem St0.lay (S : St0 K N ρ σ H Z E W F h) {p : Addr} {o : HO} (hp : H p = none) : St0 K N ρ σ (upd H p o) Z E W F h :=
  ⟨S.hN, S.lρ, S.lσ, S.env, S.val, S.top, fun i => (S.rep i).imp id fun ⟨v, w, r⟩ => ⟨v, w, r.keep (laid_same hp)⟩, S.nd, S.dj, S.nz, fun b z => let ⟨u, e⟩ := S.al b z; ⟨u, laid_same hp b u e⟩⟩
/-- an owned list of pure things, written anew -/
theorem St0.setL (S : St0 K N ρ σ H Z E W F h) {T : Nat → Prop} {b : Nat} {l : Addr} {ds es : List D} {xs ys : List V} (bN : b < N) (tb : T b) (e : E b = .lst true ds) (wb : W b = some (.ref l)) (fb : F b = [l]) (hl : H l = some (.lst xs)) (r : Reps K Z H es ys []) :
    ∃ E', St0 K N (ρ.set b (.lst true es)) σ (upd H l (.lst ys)) Z E' W F h ∧ Out T H Z E W F h (upd H l (.lst ys)) Z E' W F ∧ E' b = .lst true es := by
  have hN := S.hN
  have nz : ¬ Z l := S.nz b l (by rw [fb]; exact List.mem_singleton.mpr rfl)
  have st := stab_write (Z := Z) (ys := ys) hl nz
  have nl : ∀ i, i ≠ b → ∀ c ∈ F i, c ≠ l := fun i hi c hc q => hi (S.dj i b c hc (by rw [q, fb]; exact List.mem_singleton.mpr rfl))
  refine ⟨fun i => if i = b then .lst true es else E i, ⟨hN, by rw [List.length_set]; exact S.lρ, S.lσ, fun i hi => ?_, S.val, fun i hi => ?_, fun i => ?_, S.nd, S.dj, S.nz, al_upd S.al⟩, ⟨Ext.write hl ⟨b, by omega, tb, by rw [fb]; exact List.mem_singleton.mpr rfl⟩, fun i hi t => ?_, fun _ _ _ => rfl, fun i c hc => ?_⟩, if_pos rfl⟩
  · by_cases c : i = b
    · subst c
      rw [if_pos rfl, gt_set_self (by rw [S.lρ]; exact hi)]
    · rw [if_neg c, gt_set_ne (Ne.symm c)]; exact S.env i hi
  · rw [if_neg (by omega)]; exact S.top i hi
  · by_cases c : i = b
    · subst c
      refine .inr ⟨_, wb, ?_⟩
      rw [if_pos rfl, Rep]
      exact ⟨l, ys, [], rfl, upd_same, fb, Reps.stab st _ _ _ r fun _ q => nomatch q⟩
    · rw [if_neg c]
      exact (S.rep i).imp id fun ⟨v, w, r⟩ => ⟨v, w, Rep.stab st _ _ _ r (nl i c)⟩
  · rw [if_neg fun c => t (by rw [c]; exact tb)]
    exact ⟨rfl, rfl⟩
  · by_cases hi : i < h
    · by_cases t : T i
      · exact .inl ⟨i, hi, t, hc⟩
      · exact .inr (.inr ⟨hi, t, hc⟩)
    · rw [S.nil (by omega)] at hc; exact (nomatch hc)
end
section
variable {X : Cx} {N : Nat} {a b c e r s t as it tg : IR} {ea eb ec tgE itE : Expr} {pos : Pos} {st : Stmt} {ss us : List Stmt}
/-- the places of an exchange, by values -/
def swV (σ : L2.St) : IR → Int → Prop
  | .rd j, i => σ[j]? = some (some (.int i))
  | .cst (.int k), i => k = i
  | _, _ => False
def tIx (x : IR) : TE := fun σ H Q => ∃ i, swV σ x i ∧ Q (.int i) H
theorem Reps.atI {K : PySem.W.Frag} {Z : Addr → Prop} {H : Hp} {ds : List D} {vs : List V} (r : Reps K Z H ds vs []) {j : Nat} {d : D} (h : ds[j]? = some d) : ∃ v, vs[j]? = some v ∧ Rep K Z H d v [] := Reps.get r h
theorem set_reps {K : PySem.W.Frag} {Z : Addr → Prop} {H : Hp} : ∀ {ds : List D} {vs : List V} (j : Nat) {d : D} {v : V}, Reps K Z H ds vs [] → Rep K Z H d v [] → Reps K Z H (ds.set j d) (vs.set j v) []
  | [], vs, j, d, v, r, _ => by rw [Reps] at r; rw [r.1]; cases j <;> exact Reps.nil
  | x :: ds, vs, j, d, v, r, q => by
    rw [Reps] at r
    obtain ⟨y, ws, T, U, rfl, e, r1, r2⟩ := r
    have e := List.append_eq_nil_iff.mp e.symm
    rw [e.1] at r1; rw [e.2] at r2
    cases j with
    | zero => exact Reps.cons q r2
    | succ j => exact Reps.cons r1 (set_reps j r2 q)
theorem swap_w {x : Nat} {ii jj : IR} (bN : x < N) {D : Ends} {H : Hp} {σ : L2.St} (w : tS X.K N (.sW x ii jj) D σ H) (hi : ∀ j, ii = .rd j → j < N) (hj : ∀ j, jj = .rd j → j < N) :
    ∃ l xs i j a c u v, σ[x]? = some (some (.ref l)) ∧ swV σ ii i ∧ swV σ jj j ∧ H l = some (.lst xs) ∧ ixN xs.length i = some a ∧ ixN xs.length j = some c ∧ xs[a]? = some u ∧ xs[c]? = some v ∧
      ∀ p (o : Obj), o.dict = none → H p = none → D.nx σ (upd (upd (upd H p (.frz o (.tup [v, u]))) l (.lst (xs.set a v))) l (.lst ((xs.set a v).set c u))) := by
  obtain ⟨ρ, Z, E, W, F, P, S, ⟨ds, i, j, a, c, d1, d2, g0, pd, g1, g2, h1, h2, h3, h4, w⟩, k⟩ := w
  have ix : ∀ (y : IR) (n : Int), (∀ j, y = .rd j → j < N) → swI ρ y = some n → swV σ y n := fun y n hy e => by
    cases y with
    | rd m =>
      have mN := hy m rfl
      have e : (match gt ρ m with | .int i => some i | _ => none) = some n := e
      have ee := S.env m mN
      rcases S.rep m with q | ⟨v, wv, r⟩
      · rw [← ee, q.1] at e; cases e
      · rw [← ee] at e
        cases hE : E m with
        | int z =>
          rw [hE] at e r
          cases e
          show σ[m]? = _
          rw [S.val m mN, wv, rep_int r]
        | _ => rw [hE] at e; cases e
    | cst d =>
      cases d with
      | int z => cases e; exact rfl
      | _ => cases e
    | _ => cases e
  have eb := S.env x bN
  rw [g0] at eb
  obtain ⟨v0, w0, r⟩ := S.get (i := x) (by rw [eb]; exact fun z => nomatch z)
  rw [eb] at r
  obtain ⟨l, xs, rfl, hl, fb, q⟩ := own_pure r pd
  have hlen := q.length
  obtain ⟨u, u1, u2⟩ := Reps.get q h3
  obtain ⟨v, v1, v2⟩ := Reps.get q h4
  refine ⟨l, xs, i, j, a, c, u, v, by rw [S.val x bN, w0], ix ii i hi g1, ix jj j hj g2, hl, by rw [hlen]; exact h1, by rw [hlen]; exact h2, u1, v1, fun p o ho hp => ?_⟩
  have S1 := S.lay (o := .frz o (.tup [v, u])) hp
  have hl1 : upd H p (.frz o (.tup [v, u])) l = some (.lst xs) := laid_same hp l _ hl
  obtain ⟨E2, S2, o2, e2⟩ := S1.setL (T := Tc N (.sW x ii jj)) (es := (ds.set a d2).set c d1) (ys := (xs.set a v).set c u) bN ⟨bN, by rw [tch]; simp⟩ eb w0 fb hl1 ((set_reps c (set_reps a q v2) u2).keep (laid_same hp))
  rw [upd_upd]
  refine k.nx _ _ _ _ _ _ _ S2 ?_ w
  have o1 : Out (Tc N (.sW x ii jj)) H Z E W F N (upd H p (.frz o (.tup [v, u]))) Z E W F := ⟨Ext.laid hp, fun _ _ _ => ⟨rfl, rfl⟩, fun _ _ _ => rfl, fun m b hb => by
    by_cases hm : m < N
    · by_cases t : Tc N (.sW x ii jj) m
      · exact .inl ⟨m, hm, t, hb⟩
      · exact .inr (.inr ⟨hm, t, hb⟩)
    · rw [S.nil (by omega)] at hb; exact (nomatch hb)⟩
  exact (o1.trans o2 (Nat.le_refl _)).s S S2
theorem pe_tIx_rd {j : Nat} {y : Str} (hp : PE X (.Name y pos) (tVar j)) : PE X (.Name y pos) (tIx (.rd j)) := pe_weak hp fun σ H Q w => by
  obtain ⟨i, h, q⟩ := w
  exact ⟨_, h, q⟩
theorem pe_tIx_n {k : Nat} {n : Int} : PE X (.Constant (.int n) k pos) (tIx (.cst (.int n))) := pe_weak pe_int fun σ H Q w => by
  obtain ⟨i, h, q⟩ := w
  cases (show n = i from h)
  exact q
theorem pe_tIx_neg {k : Nat} {n : Int} {p : Pos} : PE X (.UnaryOp .USub (.Constant (.int n) k p) pos) (tIx (.cst (.int (-n)))) := pe_weak (pe_un un_neg pe_int) fun σ H Q w => by
  obtain ⟨i, h, q⟩ := w
  cases (show -n = i from h)
  exact ⟨n, rfl, q⟩
theorem s_swap {x : Nat} {ii jj : IR} {y : Str} {ei ej ei2 ej2 : Expr} {p1 p2 p3 p4 q1 q2 q3 q4 pt pt2 : Pos} {kt k2 : Nat} (hc : X.calm = true) (bN : x < N) (hx : ∀ p, PE X (.Name y p) (tVar x)) (hi : PE X ei (tIx ii)) (hj : PE X ej (tIx jj)) (hi2 : PE X ei2 (tIx ii)) (hj2 : PE X ej2 (tIx jj))
    (iN : ∀ j, ii = .rd j → j < N) (jN : ∀ j, jj = .rd j → j < N) (n1 : notSlice ei = true) (n2 : notSlice ej = true) (n3 : notSlice ei2 = true) (n4 : notSlice ej2 = true)
    (hw : swappedStores [.Tuple [.Subscript (.Name y p1) ei q1, .Subscript (.Name y p2) ej q2] kt pt] (.Tuple [.Subscript (.Name y p3) ej2 q3, .Subscript (.Name y p4) ei2 q4] k2 pt2) X.env = pure none) :
    PS X (.Assign [.Tuple [.Subscript (.Name y p1) ei q1, .Subscript (.Name y p2) ej q2] kt pt] (.Tuple [.Subscript (.Name y p3) ej2 q3, .Subscript (.Name y p4) ei2 q4] k2 pt2) pos) (tS X.K N (.sW x ii jj)) := by
  have a1 : PG X (.Subscript (.Name y p1) ei q1) (gSub (tVar x) (tIx ii) rSetL) := pg_sub (hx p1) hi set_list (by intro v; cases ei <;> first | rfl | cases n1)
  have a2 : PG X (.Subscript (.Name y p2) ej q2) (gSub (tVar x) (tIx jj) rSetL) := pg_sub (hx p2) hj set_list (by intro v; cases ej <;> first | rfl | cases n2)
  refine ps_weak (ps_asg (pe_tupX (pa_cons (pe_ix ix_list (hx p3) hj2 (plain_ix n4)) (pa_cons (pe_ix ix_list (hx p4) hi2 (plain_ix n3)) pa_nil (star_cons rfl)) (star_cons rfl))) (pg_tup hc (pgs_cons a1 (pgs_cons a2 pgs_nil rfl) rfl) rfl rfl) rfl hw rfl) fun D σ H w => ?_
  obtain ⟨l, xs, i, j, a, c, u, v, h0, h1, h2, h3, h4, h5, h6, h7, fin⟩ := swap_w bN w iN jN
  refine ⟨.ref l, h0, j, h2, l, xs, j, v, rfl, rfl, .inl (.inl h3), ?_, .ref l, h0, i, h1, l, xs, i, u, rfl, rfl, .inl (.inl h3), ?_, ?_⟩
  · unfold atI
    rw [h5]; exact h7
  · unfold atI
    rw [h4]; exact h6
  refine ⟨by show 2 ≤ sizeLine; decide, fun p o ho hp => ?_⟩
  have np : l ≠ p := ne_of_none h3 hp
  have hl1 : upd H p (.frz o (.tup [v, u])) l = some (.lst xs) := laid_same hp l _ h3
  refine ⟨p, [v, u], rfl, .inl (.inr ⟨o, upd_same⟩), rfl, v, [u], rfl, ?_⟩
  refine ⟨.ref l, h0, i, h1, l, xs, i, a, rfl, rfl, hl1, h4, u, [], rfl, .ref l, h0, j, h2, l, xs.set a v, j, c, rfl, rfl, upd_same, by rw [List.length_set]; exact h5, rfl, fin p o ho hp⟩

/-! ### x += e -/
def augOp : Operator → Bool
  | .Add => true | .Sub => true | _ => false
theorem s_aug {i : Nat} {x : Str} {op : Operator} {pos' : Pos} (hN : X.N.Nodup) (hi : X.N[i]? = some x) (hx : Stor X x) (he : PE X ea (tE X.K N a)) (ho : augOp op = true) (iN : i < N) : PS X (.AugAssign (.Name x pos') op ea pos) (tS X.K N (.sU i op a)) := by
  have go : ∀ (ti : TIp), PIp X op ti → (∀ (x y : Int) (z : D) (Q : VK) (H : Hp), iopS op (.int x) (.int y) (fun d => d = z) → (∀ n, z = .int n → Q (.int n) H) → ti (.int x) (.int y) H Q) → PS X (.AugAssign (.Name x pos') op ea pos) (tS X.K N (.sU i op a)) := fun ti hp ht => by
    refine ps_weak (ps_aug hN hi hx.1 he hp hx.2) fun D σ H w => ?_
    obtain ⟨ρ, Z, E, W, F, P, S, ⟨w1, w2, w3⟩, k⟩ := w
    have w1' : isUn (E i) = false := by rw [S.env i iN]; exact w1
    obtain ⟨v, wv, r⟩ := S.get (un_of w1')
    refine ⟨v, by rw [S.val i iN, wv], ρ, Z, E, W, F, N, _, S, w3, fun u d ρ' H' Z' E' W' F' S' o' e1 e2 nu q => ?_⟩
    rw [S.env i iN] at r
    have r2 := rep_at S' e1 e2 nu
    obtain ⟨m, n, p, g1, g2, g3, q⟩ : ∃ m n p, gt ρ i = .int m ∧ d = .int n ∧ iopS op (.int m) (.int n) (fun d => d = .int p) ∧ P.nx (ρ'.set i (.int p)) := by
      generalize gt ρ i = dd at q
      cases op <;> cases dd <;> cases d <;> first | exact ⟨_, _, _, rfl, rfl, rfl, q⟩ | exact False.elim q
    rw [g1] at r
    rw [g2] at r2
    cases rep_int r
    cases rep_int r2
    refine ht _ _ (.int p) _ _ g3 fun n' en => ?_
    cases en
    obtain ⟨E2, F2, S2, o2, f2⟩ := (o'.mono (T2 := Tc N (.sU i op a)) fun j _ q => ⟨q.1, by rw [tch, q.2]; simp⟩).off2 S' (Nat.le_refl _) (Nat.le_succ N)
    obtain ⟨E3, W3, F3, S3, b1, b2, b3, b4⟩ := S2.pushO (int_rep (K := X.K) (Z := Z') (H := H') (i := p)) List.nodup_nil (fun _ z => nomatch z) (fun _ z => nomatch z)
    have o3 : Out (Tc N (.sU i op a)) H' Z' E2 W' F2 N H' Z' E3 W3 F3 := ⟨Ext.refl, fun j hj _ => ⟨(b4 j (by omega)).1, (b4 j (by omega)).2.2⟩, fun j hj _ => (b4 j (by omega)).2.1, fun j b hb => by
      by_cases hj : j = N
      · rw [hj, b3] at hb; exact (nomatch hb)
      · rw [(b4 j hj).2.2] at hb
        by_cases hj2 : j < N
        · by_cases t : Tc N (.sU i op a) j
          · exact .inl ⟨j, hj2, t, hb⟩
          · exact .inr (.inr ⟨hj2, t, hb⟩)
        · rw [S2.nil (by omega)] at hb; exact (nomatch hb)⟩
    refine bind_ok (tg := .tn i) S3 (Nat.le_refl _) b1 b2 (fun z => nomatch z) (fun j t => by rw [tch] at t; rw [← beq_iff_eq.mp t]; exact iN) (q := P.nx) q fun ρ4 σ4 E4 W4 F4 S4 o4 q4 => ?_
    refine k.nx _ _ _ _ _ _ _ S4 ?_ q4
    have c1 : OutS N (fun i' => Tc N (.sU i op a) i' ∨ N ≤ i') (Ac (.sU i op a)) H Z E W F N H' Z' E3 W3 F3 := ((o2.trans o3 (Nat.le_refl _)).mono fun _ _ t => .inl t).s S S3
    have c2 : OutS N (fun i' => Tc N (.sU i op a) i' ∨ N ≤ i') (Ac (.sU i op a)) H' Z' E3 W3 F3 (N + 1) H' Z' E4 W4 F4 := o4.mono (fun j _ t => t.imp (fun t => ⟨by rw [tch] at t; rw [← beq_iff_eq.mp t]; exact iN, by
      have t' : (i == j) = true := t
      show (i == j || tch a j) = true
      rw [t']; rfl⟩) id) (fun j _ t => t)
    exact (c1.trans c2 (Nat.le_succ N)).mono (fun j hj t => t.elim id (by omega)) fun _ _ t => t
  cases op <;> first | (cases ho; done) | exact go _ ip_add (fun x y z Q H h1 h2 => ⟨x, y, rfl, rfl, h2 _ h1.symm⟩) | exact go _ ip_sub (fun x y z Q H h1 h2 => ⟨x, y, rfl, rfl, h2 _ h1.symm⟩)
end
theorem wipeE_length (ρ : Env) : ∀ own : List Nat, (wipeE ρ own).length = ρ.length
  | [] => rfl
  | v :: vs => by unfold wipeE; rw [List.length_set, wipeE_length ρ vs]
theorem backE_length {ρ0 : Env} : ∀ {own : List Nat} {ρ : Env}, (backE own ρ0 ρ).length = ρ.length
  | [], _ => rfl
  | v :: vs, ρ => by
    have := @backE_length ρ0 vs (ρ.set v (gt ρ0 v))
    unfold backE at this ⊢
    rw [List.foldl_cons, this, List.length_set]
theorem gt_back_out {ρ0 : Env} {i : Nat} : ∀ {own : List Nat} {ρ : Env}, i ∉ own → gt (backE own ρ0 ρ) i = gt ρ i
  | [], _, _ => rfl
  | v :: vs, ρ, h => by
    rw [List.mem_cons, not_or] at h
    have := @gt_back_out ρ0 i vs (ρ.set v (gt ρ0 v)) h.2
    unfold backE at this ⊢
    rw [List.foldl_cons, this, gt_set_ne (Ne.symm h.1)]
theorem gt_back_in {ρ0 : Env} {i : Nat} : ∀ {own : List Nat} {ρ : Env}, i ∈ own → i < ρ.length → gt (backE own ρ0 ρ) i = gt ρ0 i
  | v :: vs, ρ, h, hl => by
    by_cases hi : i ∈ vs
    · have := @gt_back_in ρ0 i vs (ρ.set v (gt ρ0 v)) hi (by rw [List.length_set]; exact hl)
      unfold backE at this ⊢
      rw [List.foldl_cons, this]
    · have e : i = v := (List.mem_cons.mp h).resolve_right hi
      subst e
      have := @gt_back_out ρ0 i vs (ρ.set i (gt ρ0 i)) hi
      unfold backE at this ⊢
      rw [List.foldl_cons, this, gt_set_self hl]
theorem wipe_in {σ : L2.St} {i : Nat} : ∀ {vs : List Nat}, i ∈ vs → i < σ.length → (wipe σ vs)[i]? = some none
  | v :: vs, h, hl => by
    unfold wipe
    by_cases e : v = i
    · subst e; rw [List.getElem?_set_self (by rw [wipe_length]; exact hl)]
    · rw [List.getElem?_set_ne e]
      exact wipe_in ((List.mem_cons.mp h).resolve_left (Ne.symm e)) hl

section
variable {K : PySem.W.Frag} {N : Nat} {ρ ρ1 : Env} {σ σ1 : L2.St} {H H1 H2 : Hp} {Z Z1 Z2 : Addr → Prop} {E E1 E2 : Nat → D} {W W1 W2 : Nat → Option V} {F F1 F2 : Nat → List Addr} {h h1 : Nat} {T T1 T2 A A1 A2 : Nat → Prop}
theorem St0.drop1 (S : St0 K N ρ σ H Z E W F h) {i : Nat} (hi : i < N) : ∃ E2 W2 F2, St0 K N (ρ.set i .un) (σ.set i none) H Z E2 W2 F2 h ∧ (∀ j, j ≠ i → E2 j = E j ∧ W2 j = W j ∧ F2 j = F j) ∧ F2 i = [] := by
  have hn := S.hN
  refine ⟨fun j => if j = i then .un else E j, fun j => if j = i then none else W j, fun j => if j = i then [] else F j, ⟨hn, by rw [List.length_set]; exact S.lρ, by rw [List.length_set]; exact S.lσ, fun j hj => ?_, fun j hj => ?_, fun j hj => ?_, fun j => ?_, fun j => ?_, fun j k b hb hk => ?_, fun j b hb => ?_, S.al⟩, fun j hj => ⟨if_neg hj, if_neg hj, if_neg hj⟩, if_pos rfl⟩
  · by_cases e : j = i
    · subst e; simp only [if_pos]; rw [gt_set_self (by rw [S.lρ]; exact hj)]
    · simp only [if_neg e]; rw [gt_set_ne (Ne.symm e)]; exact S.env j hj
  · by_cases e : j = i
    · subst e; simp only [if_pos]; rw [List.getElem?_set_self (by rw [S.lσ]; exact hj)]
    · simp only [if_neg e]; rw [List.getElem?_set_ne (Ne.symm e)]; exact S.val j hj
  · simp only [if_neg (show j ≠ i by omega)]; exact S.top j hj
  · by_cases e : j = i
    · simp only [if_pos e]; exact .inl ⟨trivial, trivial⟩
    · simp only [if_neg e]; exact S.rep j
  · by_cases e : j = i
    · simp only [if_pos e]; exact List.nodup_nil
    · simp only [if_neg e]; exact S.nd j
  · by_cases e : j = i
    · simp only [if_pos e] at hb; exact (nomatch hb)
    · by_cases e2 : k = i
      · simp only [if_pos e2] at hk; exact (nomatch hk)
      · simp only [if_neg e] at hb; simp only [if_neg e2] at hk; exact S.dj j k b hb hk
  · by_cases e : j = i
    · simp only [if_pos e] at hb; exact (nomatch hb)
    · simp only [if_neg e] at hb; exact S.nz j b hb
theorem St0.wipes (S : St0 K N ρ σ H Z E W F h) : ∀ {own : List Nat}, (∀ i ∈ own, i < N) → ∃ E2 W2 F2, St0 K N (wipeE ρ own) (wipe σ own) H Z E2 W2 F2 h ∧ (∀ j, j ∉ own → E2 j = E j ∧ W2 j = W j ∧ F2 j = F j) ∧ ∀ j, j ∈ own → F2 j = []
  | [], _ => ⟨E, W, F, S, fun _ _ => ⟨rfl, rfl, rfl⟩, fun _ q => nomatch q⟩
  | i :: own, hN => by
    obtain ⟨E1, W1, F1, S1, a1, a2⟩ := St0.wipes S (own := own) fun j hj => hN j (List.mem_cons_of_mem _ hj)
    obtain ⟨E2, W2, F2, S2, b1, b2⟩ := S1.drop1 (hN i List.mem_cons_self)
    refine ⟨E2, W2, F2, S2, fun j hj => ?_, fun j hj => ?_⟩
    · rw [List.mem_cons, not_or] at hj
      obtain ⟨c1, c2, c3⟩ := b1 j hj.1
      obtain ⟨d1, d2, d3⟩ := a1 j hj.2
      exact ⟨c1.trans d1, c2.trans d2, c3.trans d3⟩
    · by_cases e : j = i
      · rw [e]; exact b2
      · rw [(b1 j e).2.2]; exact a2 j ((List.mem_cons.mp hj).resolve_left e)
theorem St0.outW (S : St0 K N ρ σ H Z E W F h) {own : List Nat} {ρ' : Env} {σ' : L2.St} (S2 : St0 K N ρ' σ' H Z E2 W2 F2 h) (a : ∀ j, j ∉ own → E2 j = E j ∧ W2 j = W j ∧ F2 j = F j) (b : ∀ j, j ∈ own → F2 j = []) : Out (fun i => i ∈ own) H Z E W F h H Z E2 W2 F2 :=
  ⟨Ext.refl, fun i _ t => ⟨(a i t).1, (a i t).2.2⟩, fun i _ t => (a i t).2.1, fun i c hc => by
    by_cases t : i ∈ own
    · rw [b i t] at hc; exact (nomatch hc)
    · rw [(a i t).2.2] at hc
      by_cases hi : i < h
      · exact .inr (.inr ⟨hi, t, hc⟩)
      · rw [S.nil (by omega)] at hc; exact (nomatch hc)⟩
/-- the names as they were -/
theorem St0.back (S1 : St0 K N ρ1 σ H1 Z1 E1 W1 F1 h1) {own : List Nat} (S : St0 K N ρ (wipe σ own) H Z E W F h) (oN : ∀ i ∈ own, i < N) (pa : puAt own ρ1) (st : Stab Z1 H1 Z H (fun _ => False)) :
    ∃ E2 W2 F2, St0 K N (backE own ρ1 ρ) σ H Z E2 W2 F2 h ∧ (∀ j, j ∉ own → E2 j = E j ∧ W2 j = W j ∧ F2 j = F j) ∧ ∀ j, j ∈ own → F2 j = [] := by
  have hn := S.hN
  have dc : ∀ j, j ∈ own ∨ j ∉ own := fun j => Classical.em _
  refine ⟨fun j => if j ∈ own then E1 j else E j, fun j => if j ∈ own then W1 j else W j, fun j => if j ∈ own then [] else F j, ⟨hn, by rw [backE_length]; exact S.lρ, S1.lσ, fun j hj => ?_, fun j hj => ?_, fun j hj => ?_, fun j => ?_, fun j => ?_, fun j k b hb hk => ?_, fun j b hb => ?_, S.al⟩, fun j hj => ⟨if_neg hj, if_neg hj, if_neg hj⟩, fun j hj => if_pos hj⟩
  · rcases dc j with e | e
    · simp only [if_pos e]; rw [gt_back_in e (by rw [S.lρ]; exact hj)]; exact S1.env j hj
    · simp only [if_neg e]; rw [gt_back_out e]; exact S.env j hj
  · rcases dc j with e | e
    · simp only [if_pos e]; exact S1.val j hj
    · simp only [if_neg e]; rw [← wipe_out e]; exact S.val j hj
  · rcases dc j with e | e
    · have := oN j e; omega
    · simp only [if_neg e]; exact S.top j hj
  · rcases dc j with e | e
    · simp only [if_pos e]
      have hj := oN j e
      rcases S1.rep j with q | ⟨v, q1, q2⟩
      · exact .inl ⟨q.1, trivial⟩
      · have p : pu (E1 j) = true := by
          rw [S1.env j hj]
          unfold puAt at pa
          exact List.all_eq_true.mp pa j e
        exact .inr ⟨v, q1, Rep.stab st _ _ _ (q2.pure0 p) fun _ z => nomatch z⟩
    · simp only [if_neg e]; exact S.rep j
  · rcases dc j with e | e
    · simp only [if_pos e]; exact List.nodup_nil
    · simp only [if_neg e]; exact S.nd j
  · rcases dc j with e | e
    · simp only [if_pos e] at hb; exact (nomatch hb)
    · rcases dc k with e2 | e2
      · simp only [if_pos e2] at hk; exact (nomatch hk)
      · simp only [if_neg e] at hb; simp only [if_neg e2] at hk; exact S.dj j k b hb hk
  · rcases dc j with e | e
    · simp only [if_pos e] at hb; exact (nomatch hb)
    · simp only [if_neg e] at hb; exact S.nz j b hb
/-- the new list gets what lies on top -/
theorem St0.appTop (S : St0 K N ρ σ H Z E W F (h + 2)) (hN : N ≤ h) {acc : List D} {e : D} {a : Addr} {y : V} (e1 : E h = .lst true acc) (w1 : W h = some (.ref a)) (e2 : E (h + 1) = e) (w2 : W (h + 1) = some y) (nu : e ≠ .un) :
    ∃ vs, H a = some (.lst vs) ∧ vs.length = acc.length ∧ ∃ E2 W2 F2, St0 K N ρ σ (upd H a (.lst (vs ++ [y]))) Z E2 W2 F2 (h + 1) ∧ E2 h = .lst true (acc ++ [e]) ∧ W2 h = some (.ref a) ∧ Out (fun i => h ≤ i) H Z E W F (h + 2) (upd H a (.lst (vs ++ [y]))) Z E2 W2 F2 := by
  have r1 := rep_at S e1 w1 (fun z => nomatch z)
  have r2 := rep_at S e2 w2 nu
  obtain ⟨a', vs, T, ea, ha, fh, rs⟩ := rep_own r1
  cases ea
  have ai : a ∈ F h := by rw [fh]; exact List.mem_cons_self
  have nz := S.nz h a ai
  have st := stab_write (ys := vs ++ [y]) ha nz
  have na : ∀ i, i ≠ h → a ∉ F i := fun i hi q => hi (S.dj i h a q ai)
  have ndh := S.nd h
  rw [fh, List.nodup_cons] at ndh
  have fT : ∀ b ∈ T, b ∈ F h := fun b hb => by rw [fh]; exact List.mem_cons_of_mem _ hb
  refine ⟨vs, ha, Reps.length rs, fun i => if i = h then .lst true (acc ++ [e]) else if i = h + 1 then .un else E i, fun i => W i, fun i => if i = h then a :: (T ++ F (h + 1)) else if i = h + 1 then [] else F i, ⟨by omega, S.lρ, S.lσ, fun j hj => ?_, S.val, fun j hj => ?_, fun j => ?_, fun j => ?_, fun j k b hb hk => ?_, fun j b hb => ?_, al_upd S.al⟩, if_pos rfl, w1, ⟨?_, fun i hi t => ?_, fun _ _ _ => rfl, fun i b hb => ?_⟩⟩
  · simp only [if_neg (show j ≠ h by omega), if_neg (show j ≠ h + 1 by omega)]; exact S.env j hj
  · simp only [if_neg (show j ≠ h by omega)]
    by_cases q : j = h + 1
    · simp only [if_pos q]
    · simp only [if_neg q]; exact S.top j (by omega)
  · by_cases q : j = h
    · subst q
      simp only [if_pos]
      refine .inr ⟨.ref a, w1, ?_⟩
      rw [Rep]
      refine ⟨a, vs ++ [y], T ++ F (j + 1), rfl, upd_same, rfl, ?_⟩
      exact Reps.append (Reps.stab st _ _ _ rs fun b hb z => ndh.1 (z ▸ hb)) (Reps.one (Rep.stab st _ _ _ r2 fun b hb z => na (j + 1) (by omega) (z ▸ hb)))
    · by_cases q2 : j = h + 1
      · simp only [if_neg q, if_pos q2]; exact .inl ⟨trivial, trivial⟩
      · simp only [if_neg q, if_neg q2]
        rcases S.rep j with z | ⟨v, z1, z2⟩
        · exact .inl z
        · exact .inr ⟨v, z1, Rep.stab st _ _ _ z2 fun b hb z => na j q (z ▸ hb)⟩
  · by_cases q : j = h
    · simp only [if_pos q]
      rw [List.nodup_cons, List.nodup_append]
      refine ⟨fun m => ?_, ndh.2, S.nd (h + 1), fun b hb c hc z => ?_⟩
      · rcases List.mem_append.mp m with m | m
        · exact ndh.1 m
        · exact na (h + 1) (by omega) m
      · subst z
        have := S.dj h (h + 1) b (fT b hb) hc; omega
    · by_cases q2 : j = h + 1
      · simp only [if_neg q, if_pos q2]; exact List.nodup_nil
      · simp only [if_neg q, if_neg q2]; exact S.nd j
  · have src : ∀ j, b ∈ (if j = h then a :: (T ++ F (h + 1)) else if j = h + 1 then [] else F j) → (j = h ∧ (b ∈ F h ∨ b ∈ F (h + 1))) ∨ (j ≠ h ∧ j ≠ h + 1 ∧ b ∈ F j) := fun j hb => by
      by_cases q : j = h
      · rw [if_pos q] at hb
        refine .inl ⟨q, ?_⟩
        rcases List.mem_cons.mp hb with hb | hb
        · rw [hb]; exact .inl ai
        · exact (List.mem_append.mp hb).imp (fT b) id
      · by_cases q2 : j = h + 1
        · rw [if_neg q, if_pos q2] at hb; exact (nomatch hb)
        · rw [if_neg q, if_neg q2] at hb; exact .inr ⟨q, q2, hb⟩
    rcases src j hb with ⟨p1, p2⟩ | ⟨p1, p2, p3⟩ <;> rcases src k hk with ⟨q1, q2⟩ | ⟨q1, q2, q3⟩
    · rw [p1, q1]
    · rcases p2 with p2 | p2
      · exact absurd (S.dj h k b p2 q3).symm q1
      · exact absurd (S.dj (h + 1) k b p2 q3).symm q2
    · rcases q2 with q2 | q2
      · exact absurd (S.dj h j b q2 p3).symm p1
      · exact absurd (S.dj (h + 1) j b q2 p3).symm p2
    · exact S.dj j k b p3 q3
  · by_cases q : j = h
    · simp only [if_pos q] at hb
      rcases List.mem_cons.mp hb with hb | hb
      · rw [hb]; exact nz
      · rcases List.mem_append.mp hb with hb | hb
        · exact S.nz h b (fT b hb)
        · exact S.nz (h + 1) b hb
    · by_cases q2 : j = h + 1
      · simp only [if_neg q, if_pos q2] at hb; exact (nomatch hb)
      · simp only [if_neg q, if_neg q2] at hb; exact S.nz j b hb
  · exact Ext.write ha ⟨h, by omega, Nat.le_refl _, ai⟩
  · simp only [if_neg (show i ≠ h by omega), if_neg (show i ≠ h + 1 by omega)]
    exact ⟨trivial, trivial⟩
  · by_cases q : i = h
    · simp only [if_pos q] at hb
      rcases List.mem_cons.mp hb with hb | hb
      · rw [hb]; exact .inl ⟨h, by omega, Nat.le_refl _, ai⟩
      · rcases List.mem_append.mp hb with hb | hb
        · exact .inl ⟨h, by omega, Nat.le_refl _, fT b hb⟩
        · exact .inl ⟨h + 1, by omega, by omega, hb⟩
    · by_cases q2 : i = h + 1
      · simp only [if_neg q, if_pos q2] at hb; exact (nomatch hb)
      · simp only [if_neg q, if_neg q2] at hb
        by_cases hl : i < h
        · exact .inr (.inr ⟨by omega, by omega, hb⟩)
        · rw [S.nil (by omega)] at hb; exact (nomatch hb)
end

section
variable {K : PySem.W.Frag} {N : Nat}
theorem t_lc {own : List Nat} {tg it cond elt : IR} (oN : ∀ i ∈ own, i < N) (tO : ∀ i, tch tg i = true → i ∈ own) (ok : ∀ i, srcs it i = true → tch cond i = false ∧ tch elt i = false) {σ : L2.St} {H : Hp} {Q : VK} (w : tE K N (.lc own tg it cond elt) σ H Q) :
    tLc (tI K N it) (gT K tg) (tT K N cond) (tE K N elt) own σ H Q := by
  obtain ⟨ρ, Z, E, W, F, h, q, S, w, k⟩ := w
  have hN := S.hN
  refine ⟨ρ, Z, E, W, F, h, _, S, w, fun J ds ρ1 H1 Z1 E1 W1 F1 S1 o1 iok ⟨pa, q1⟩ => fun L hL => ?_⟩
  obtain ⟨G, Y, wk, sG, yl⟩ := iok.ok
  have tN : ∀ i, tch tg i = true → i < N := fun i t => oN i (tO i t)
  let T0 : Nat → Prop := Tc N (.lc own tg it cond elt)
  have tow : ∀ i, i ∈ own → T0 i := fun i m => ⟨oN i m, by rw [tch, List.contains_iff_mem.mpr m]; rfl⟩
  have tco : ∀ i, Tc N cond i → T0 i := fun i m => ⟨m.1, by rw [tch, m.2]; simp⟩
  have tel : ∀ i, Tc N elt i → T0 i := fun i m => ⟨m.1, by rw [tch, m.2]; simp⟩
  let TL : Nat → Prop := fun i => i < N ∧ (i ∈ own ∨ tch cond i = true ∨ tch elt i = true)
  have tl0 : ∀ i, TL i → T0 i := fun i m => ⟨m.1, by
    rw [tch]
    rcases m.2 with z | z | z
    · rw [List.contains_iff_mem.mpr z]; rfl
    · rw [z]; simp
    · rw [z]; simp⟩
  obtain ⟨Ew, Ww, Fw, Sw, aw, bw⟩ := S1.wipes oN
  have ow := S1.outW Sw aw bw
  -- from the start of the walk on
  have stab : ∀ {H2 Z2 E2 W2 F2}, Out TL H1 Z1 E1 W1 F1 h H2 Z2 E2 W2 F2 → Stab Z1 H1 Z2 H2 (Kp it H1 F1 h) := fun o => by
    refine (o.ext.stab fun c z ⟨i, _, _, m⟩ => S1.nz i c m z).mono fun c kc ⟨i, hi, t, m⟩ => ?_
    rcases t.2 with z | z
    · have hi2 := oN i z
      have p : pu (E1 i) = true := by
        rw [S1.env i hi2]
        unfold puAt at pa
        exact List.all_eq_true.mp pa i z
      rcases S1.rep i with r | ⟨v, _, r⟩
      · rw [r.2] at m; exact (nomatch m)
      · rw [Rep.pure _ _ _ r p] at m; exact (nomatch m)
    · refine kc.2 i hi ?_ m
      cases sr : srcs it i with
      | false => rfl
      | true =>
        obtain ⟨n1, n2⟩ := ok i sr
        rcases z with t | t
        · rw [n1] at t; cases t
        · rw [n2] at t; cases t
  refine lc_it wk (fun i H2 => ∃ ρ2 Z2 E2 W2 F2 acc, St0 K N ρ2 (wipe σ own) H2 Z2 E2 W2 F2 (h + 1) ∧ E2 h = .lst true acc ∧ W2 h = some (.ref L) ∧ Out TL H1 Z1 E1 W1 F1 h H2 Z2 E2 W2 F2 ∧
    lcL own (fun d ρ2 k => bindT tg d ρ2 fun ρ3 => (sm cond).T ρ3 fun b ρ4 => if b = true then (sm elt).E ρ4 fun e ρ5 => k (some e) ρ5 else k none ρ4) (ds.drop i) ρ2 acc fun acc ρ' => q (.lst true acc) (backE own ρ1 ρ')) ?_ ?_ ?_ ?_
  · obtain ⟨E2, W2, F2, S2, e1, e2, o2⟩ := Sw.pushNew (T := TL) (laid_same (o := .lst []) hL) (new_lst hL Reps.nil) (by simp) (fun b hb => by rw [List.mem_singleton] at hb; rw [hb]; exact hL)
    exact ⟨_, _, E2, W2, F2, [], S2, e1, e2, (ow.mono fun i _ t => ⟨oN i t, .inl t⟩).trans o2 (Nat.le_refl _), by rw [List.drop_zero]; exact q1⟩
  · rintro i H2 hi ⟨ρ2, Z2, E2, W2, F2, acc, S2, e1, e2, o2, q2⟩
    exact sG Z2 H2 (stab o2)
  · rintro i x H2 H3 hi ⟨ρ2, Z2, E2, W2, F2, acc, S2, e1, e2, o2, q2⟩ y
    obtain ⟨d, hd, r, nu, keep⟩ := yl i Z2 H2 x H3 hi (stab o2) y
    obtain ⟨E3, W3, F3, S3, f1, f2, o3⟩ := S2.pushNew (T := fun i => h + 1 ≤ i) keep r List.nodup_nil (fun _ q => nomatch q)
    have hdrop : ds.drop i = d :: ds.drop (i + 1) := by
      rw [List.drop_eq_getElem_cons hi]
      rw [List.getElem?_eq_getElem hi] at hd
      cases hd; rfl
    rw [hdrop] at q2
    refine bind_ok S3 (Nat.le_succ_of_le hN) f1 f2 nu tN q2 fun ρ4 σ4 E4 W4 F4 S4 o4 q4 => ?_
    have w4 : ∀ j, j < N → j ∉ own → W4 j = (W2 j) := fun j hj n => by
      rw [o4.w j hj (fun t => n (tO j t)), o3.w j (by omega) (by omega)]
    have wip : wipe σ4 own = wipe σ own := by
      apply List.ext_getElem?
      intro j
      by_cases m : j ∈ own
      · rw [wipe_in m (by rw [S4.lσ]; exact oN j m), wipe_in m (by rw [S1.lσ]; exact oN j m)]
      · rw [wipe_out m, wipe_out m]
        by_cases hj : j < N
        · rw [S4.val j hj, w4 j hj m, ← wipe_out (vs := own) m, S2.val j hj]
        · rw [List.getElem?_eq_none (by rw [S4.lσ]; omega), List.getElem?_eq_none (by rw [S1.lσ]; omega)]
    have o34 : Out (fun i => TL i ∨ h + 1 ≤ i) H2 Z2 E2 W2 F2 (h + 1) H3 Z2 E4 W4 F4 := (o3.mono fun i _ t => .inr t).trans (o4.o.mono fun i _ t => t.imp (fun t => ⟨tN i t, .inl (tO i t)⟩) id) (Nat.le_succ _)
    have e4 : E4 h = .lst true acc ∧ W4 h = some (.ref L) := by
      have n3 : ¬ (TL h ∨ h + 1 ≤ h) := fun z => z.elim (fun z => by have := z.1; omega) (by omega)
      exact ⟨(o34.same h (by omega) n3).1.trans e1, (o34.w h (by omega) n3).trans e2⟩
    have fin : ∀ {ρ5 : Env} {H5 Z5 E5 W5 F5} {acc' : List D} {i' : Nat}, St0 K N ρ5 σ4 H5 Z5 E5 W5 F5 (h + 1) → E5 h = .lst true acc' → W5 h = some (.ref L) → Out TL H1 Z1 E1 W1 F1 h H5 Z5 E5 W5 F5 →
        lcL own (fun d ρ2 k => bindT tg d ρ2 fun ρ3 => (sm cond).T ρ3 fun b ρ4 => if b = true then (sm elt).E ρ4 fun e ρ5 => k (some e) ρ5 else k none ρ4) (ds.drop i') (wipeE ρ5 own) acc' (fun acc ρ' => q (.lst true acc) (backE own ρ1 ρ')) →
        ∃ ρ2 Z2 E2 W2 F2 acc, St0 K N ρ2 (wipe σ own) H5 Z2 E2 W2 F2 (h + 1) ∧ E2 h = .lst true acc ∧ W2 h = some (.ref L) ∧ Out TL H1 Z1 E1 W1 F1 h H5 Z2 E2 W2 F2 ∧
          lcL own (fun d ρ2 k => bindT tg d ρ2 fun ρ3 => (sm cond).T ρ3 fun b ρ4 => if b = true then (sm elt).E ρ4 fun e ρ5 => k (some e) ρ5 else k none ρ4) (ds.drop i') ρ2 acc fun acc ρ' => q (.lst true acc) (backE own ρ1 ρ') := fun S5 g1 g2 o5 q5 => by
      obtain ⟨E6, W6, F6, S6, a6, b6⟩ := S5.wipes oN
      rw [wip] at S6
      have nh : h ∉ own := fun m => by have := oN h m; omega
      have o6 : Out (fun i => i ∈ own) _ _ _ _ _ _ _ _ _ _ _ := S5.outW S6 a6 b6
      exact ⟨_, _, E6, W6, F6, _, S6, (a6 h nh).1.trans g1, (a6 h nh).2.1.trans g2, o5.trans (o6.mono fun i _ m => ⟨oN i m, .inl m⟩) (Nat.le_succ h), q5⟩
    have o14 : Out TL H1 Z1 E1 W1 F1 h H3 Z2 E4 W4 F4 := ((o2.mono (T2 := fun i => TL i ∨ h ≤ i) fun i _ t => .inl t).trans (o34.mono fun i _ t => t.imp id (by omega)) (Nat.le_succ h)).mono fun i hi t => t.elim id (by omega)
    refine ⟨wip, ρ4, Z2, E4, W4, F4, h + 1, _, S4, q4, fun b ρ5 H5 Z5 E5 W5 F5 S5 o5 q5 => ?_⟩
    have ncond : ¬ Tc N cond h := fun z => by have := z.1; omega
    have nelt : ¬ Tc N elt h := fun z => by have := z.1; omega
    have e5 := e4.1
    have o15 : Out TL H1 Z1 E1 W1 F1 h H5 Z5 E5 W5 F5 := o14.trans (o5.mono fun i _ t => ⟨t.1, .inr (.inl t.2)⟩) (Nat.le_succ h)
    have g1 : E5 h = .lst true acc := (o5.same h (by omega) ncond).1.trans e4.1
    have g2 : W5 h = some (.ref L) := (o5.w h (by omega) ncond).trans e4.2
    cases b with
    | false => exact fin S5 g1 g2 o15 q5
    | true =>
      refine ⟨ρ5, Z5, E5, W5, F5, h + 1, _, S5, q5, fun u e ρ6 H6 Z6 E6 W6 F6 S6 o6 k1 k2 nu6 q6 => ?_⟩
      have l1 : E6 h = .lst true acc := (o6.same h (by omega) nelt).1.trans g1
      have l2 : W6 h = some (.ref L) := (o6.w h (by omega) nelt).trans g2
      obtain ⟨vs, hv, hl, E7, W7, F7, S7, m1, m2, o7⟩ := S6.appTop hN l1 l2 k1 k2 nu6
      refine ⟨vs, hv, by rw [hl]; exact q6.1, fin S7 m1 m2 ?_ q6.2⟩
      have c1 : Out (fun i => TL i ∨ h ≤ i) H1 Z1 E1 W1 F1 h H6 Z6 E6 W6 F6 := (o15.mono fun i _ t => .inl t).trans (o6.mono fun i _ t => .inl ⟨t.1, .inr (.inr t.2)⟩) (Nat.le_succ h)
      exact (c1.trans (o7.mono fun i _ t => .inr t) (by omega)).mono fun i hi t => t.elim id (by omega)
  · rintro H2 ⟨ρ2, Z2, E2, W2, F2, acc, S2, e1, e2, o2, q2⟩
    rw [List.drop_length] at q2
    obtain ⟨E3, W3, F3, S3, a3, b3⟩ := S1.back S2 oN pa ((stab o2).mono fun _ z => z.elim)
    have nh : h ∉ own := fun m => by have := oN h m; omega
    have o3 : Out (fun i => i ∈ own) _ _ _ _ _ _ _ _ _ _ _ := S2.outW S3 a3 b3
    refine k _ _ _ _ _ _ _ _ S3 ?_ ((a3 h nh).1.trans e1) ((a3 h nh).2.1.trans e2) (fun z => nomatch z) q2
    have c1 : Out T0 H Z E W F h H1 Z1 E1 W1 F1 := o1.mono fun i _ t => ⟨t.1, by rw [tch, t.2]; simp⟩
    exact (c1.trans (o2.mono fun i _ t => tl0 i t) (Nat.le_refl _)).trans (o3.mono fun i _ t => tow i t) (Nat.le_succ h)
end
/-! ### that a body is what the language says: a check by reckoning -/
structure Ct where
  N : List Str
  sc : Scope
  st : Str → Bool
def nmOk (x : Str) : Bool := !(x == ("__debug__" : Str)) && !(x == ("__classdict__" : Str))
def isVis : Option NameKind → Bool
  | some .local => true | some .cell => true | some .free => true | _ => false
def isLocal : Option NameKind → Bool
  | some .local => true | _ => false
def isLoc : Option NameKind → Bool
  | some .local => true | some .cell => true | _ => false
def isGl : Option NameKind → Bool
  | some .globalImplicit => true | _ => false
def Ct.slot (c : Ct) (i : Nat) (x : Str) : Bool := decide (c.N[i]? = some x) && (isVis (c.sc.names.lookup x) && nmOk x)
def Ct.put (c : Ct) (i : Nat) (x : Str) : Bool := decide (c.N[i]? = some x) && c.st x
def Ct.gl (c : Ct) (x : Str) : Bool := isGl (c.sc.names.lookup x)
def blkSt (scope : Scope) (x : Str) : Bool := isLoc (scope.names.lookup x)
def Ct.blk (c : Ct) (scope : Scope) : Ct := { N := c.N, sc := relS scope c.sc, st := blkSt scope }
def isPlain : Expr → Bool
  | .UnaryOp .Not _ _ => false | .BoolOp .. => false | .IfExp .. => false | .Compare .. => false | _ => true
def isBr : IR → Bool
  | .br _ => true | _ => false
def safeB (a r : IR) : Bool := match bslot a with
  | none => true
  | some i => isBr a || !tch r i
def notSet : Expr → Bool
  | .Set .. => false | _ => true
def tgS : IR → List Nat
  | .tn i => [i] | .tt is => is | _ => []
def srcL : IR → List Nat
  | .itS a => (bslot a).toList
  | .itE a => (bslot a).toList
  | .itZ a b => (bslot a).toList ++ (bslot b).toList
  | _ => []
def isYes : IR → Bool
  | .cst (.bl true) => true | _ => false
def isNilI : IR → Bool
  | .nil => true | _ => false

structure Ck where
  E : Ct → Expr → Bool := fun _ _ => false
  L : Ct → Expr → Bool := fun _ _ => false
  A : Ct → List Expr → Bool := fun _ _ => false
  C : Ct → List Expr → Bool := fun _ _ => false
  T : Ct → Expr → Bool := fun _ _ => false
  B : Ct → BoolOp → List Expr → Bool := fun _ _ _ => false
  BT : Ct → BoolOp → List Expr → Bool := fun _ _ _ => false
  I : Ct → Expr → Expr → Bool := fun _ _ _ => false
  G : Ct → Expr → Bool := fun _ _ => false
  S : Ct → Stmt → Bool := fun _ _ => false
  SS : Ct → List Stmt → Bool := fun _ _ => false
def one (f : Ct → Expr → Bool) : Ct → BoolOp → List Expr → Bool := fun ct _ es => match es with | [x] => f ct x | _ => false
def ckE (f : Ct → Expr → Bool) : Ck where
  E := f
  L := f
  T := fun ct x => f ct x && isPlain x
  B := one f
  BT := one fun ct x => f ct x && isPlain x
/-- .. with a test of its own -/
def ckT (f t : Ct → Expr → Bool) : Ck where
  E := f
  L := f
  T := t
  B := one f
  BT := one t
def cCst (d : D) (_ : Ct) : Expr → Bool
  | .Constant (.int i) _ _ => (match d with | .int j => decide (i = j) | _ => false)
  | .Constant (.str i) _ _ => (match d with | .str j => decide (i = j) | _ => false)
  | .Constant (.bool i) _ _ => (match d with | .bl j => decide (i = j) | _ => false)
  | .Constant .none _ _ => (match d with | .non => true | _ => false)
  | _ => false
def cGlb (x : Str) (ct : Ct) : Expr → Bool
  | .Name y _ => decide (y = x) && ct.gl x
  | _ => false
def cNm (i : Nat) (ct : Ct) : Expr → Bool
  | .Name y _ => ct.slot i y
  | _ => false
def cPlc (b x : IR) (kb kx : Ck) (ct : Ct) : Expr → Bool
  | .Subscript l r _ => kb.L ct l && (kx.E ct r && (notSlice r && (match bslot b with | some i => !tch x i | none => false)))
  | _ => false
def cSlc (a lo hi : IR) (ka kl kh : Ck) (ct : Ct) : Expr → Bool
  | .Subscript l (.Slice (some e1) (some e2) none _) _ => ka.L ct l && (kl.E ct e1 && (kh.E ct e2 && (safeB a lo && safeB a hi)))
  | _ => false
def cBin (op : Operator) (as : Ck) (ct : Ct) : Expr → Bool
  | .BinOp l op' r _ => decide (op' = op) && as.A ct [l, r]
  | _ => false
def cUna (op : UnaryOp) (as : Ck) (ct : Ct) : Expr → Bool
  | .UnaryOp op' l _ => decide (op' = op) && as.A ct [l]
  | _ => false
def cCmp (op : CmpOp) (as : Ck) (ct : Ct) : Expr → Bool
  | .Compare l [op'] [r] _ => decide (op' = op) && (as.A ct [l, r] && !behindInMarks op r)
  | _ => false
def cIdx (as : Ck) (ct : Ct) : Expr → Bool
  | .Subscript l r _ => notSlice r && as.A ct [l, r]
  | _ => false
def cSl (b1 b2 : Bool) (as : Ck) (ct : Ct) : Expr → Bool
  | .Subscript l (.Slice lo hi none _) _ => (match b1, b2, lo, hi with
    | false, false, none, none => as.A ct [l]
    | true, false, some e, none => as.A ct [l, e]
    | false, true, none, some e => as.A ct [l, e]
    | _, _, _, _ => false)
  | _ => false
def cTup (as : IR) (ka : Ck) (ct : Ct) : Expr → Bool
  | .Tuple es _ _ => ka.A ct es && (lentL as).isEmpty
  | _ => false
def cLst (as : IR) (ka : Ck) (ct : Ct) : Expr → Bool
  | .List es _ => ka.A ct es && (lentL as).isEmpty
  | _ => false
def cBif (f : BF) (as : Ck) (ct : Ct) : Expr → Bool
  | .Call (.Name x _) (e :: es) [] _ => decide (x = f.name) && (ct.gl x && as.A ct (e :: es))
  | _ => false
def cIsi (t : TY) (as : Ck) (ct : Ct) : Expr → Bool
  | .Call (.Name x _) [e, .Name y _] [] _ => decide (x = "isinstance") && (decide (y = t.name) && (ct.gl x && (ct.gl y && as.A ct [e])))
  | _ => false
def cDctE (as : IR) (_ : Ct) : Expr → Bool
  | .Dict [] [] _ => isNilI as
  | _ => false
def cRng (tp : Bool) (as : Ck) (ct : Ct) : Expr → Bool
  | .Call (.Name f _) [.Call (.Name r _) [e] [] _] [] _ => decide (f = if tp = true then "tuple" else "list") && (decide (r = "range") && (ct.gl f && (ct.gl r && as.A ct [e])))
  | _ => false
def cRev (z : Bool) (as : Ck) (ct : Ct) : Expr → Bool
  | .Subscript l (.Slice none hi (some (.UnaryOp .USub (.Constant (.int 1) _ _) _)) _) _ => (match z, hi with
    | false, none => as.A ct [l]
    | true, some (.Constant (.int 0) _ _) => as.A ct [l]
    | _, _ => false)
  | _ => false
def cLenSet (as : Ck) (ct : Ct) : Expr → Bool
  | .Call (.Name f _) [.Call (.Name r _) [e] [] _] [] _ => decide (f = "len") && (decide (r = "set") && (ct.gl f && (ct.gl r && as.A ct [e])))
  | _ => false
def cKslc (as : Ck) (ct : Ct) : Expr → Bool
  | .Subscript l (.Slice none (some e) none _) _ => as.A ct [l, e]
  | _ => false
def cIsE (as : Ck) (ct : Ct) : Expr → Bool
  | .Compare l [.Eq] [.Tuple [] _ _] _ => as.A ct [l]
  | _ => false
def cStp (lo : Option Int) (as : Ck) (ct : Ct) : Expr → Bool
  | .Subscript l (.Slice none none (some e) _) _ => (match lo with | none => as.A ct [l, e] | _ => false)
  | .Subscript l (.Slice (some (.Constant (.int k) _ _)) none (some e) _) _ => decide (lo = some k) && as.A ct [l, e]
  | .Subscript l (.Slice (some (.UnaryOp .USub (.Constant (.int k) _ _) _)) none (some e) _) _ => decide (lo = some (-k)) && as.A ct [l, e]
  | _ => false
def cAt1 (a : IR) (ct : Ct) : Expr → Bool
  | .Name x _ => (match a with | .rd i => ct.slot i x | _ => false)
  | .Constant (.int i) _ _ => (match a with | .cst (.int j) => decide (i = j) | _ => false)
  | .Constant (.str i) _ _ => (match a with | .cst (.str j) => decide (i = j) | _ => false)
  | .Constant (.bool i) _ _ => (match a with | .cst (.bl j) => decide (i = j) | _ => false)
  | _ => false
def cPrs : IR → Ct → List (Option Expr) → List Expr → Bool
  | .nil, _, [], [] => true
  | .cons a (.cons b r), ct, some k :: ks, v :: vs => cAt1 a ct k && (cAt1 b ct v && cPrs r ct ks vs)
  | _, _, _, _ => false
def cDctD (as : IR) (ct : Ct) : Expr → Bool
  | .Dict (k :: ks) vs _ => cPrs as ct (k :: ks) vs && decide ((k :: ks).length ≤ 15)
  | _ => false
def cFp : IR → Ct → List Expr → Bool
  | .nil, _, [] => true
  | .cons (.rd i) r, ct, .FormattedValue (.Name x _) c none _ :: es => decide (c = -1) && (ct.slot i x && cFp r ct es)
  | .cons (.cst (.str j)) r, ct, .Constant (.str i) _ _ :: es => decide (i = j) && cFp r ct es
  | _, _, _ => false
def cFstr (as : IR) (ct : Ct) : Expr → Bool
  | .JoinedStr (v1 :: v2 :: rest) _ => cFp as ct (v1 :: v2 :: rest)
  | _ => false
def cAp (k : PK) (as : IR) (ka : Ck) : Ct → Expr → Bool := match k with
  | .bin op => cBin op ka | .una op => cUna op ka | .cmp op => cCmp op ka | .idx => cIdx ka | .slc a b => cSl a b ka | .tup => cTup as ka | .lst => cLst as ka | .bif f => cBif f ka | .isi t => cIsi t ka | .dctE _ => cDctE as | .rng tp => cRng tp ka | .rev z => cRev z ka | .lenset => cLenSet ka | .ptp => cTup as ka | .kslc => cKslc ka | .isE => cIsE ka | .dctD => cDctD as | .stp lo => cStp lo ka | .fstr => cFstr as | .signs => fun _ _ => false
def cMeth (m : ME) (o as : IR) (ko ka : Ck) (ct : Ct) : Expr → Bool
  | .Call (.Attribute eo y apos) es [] cpos => decide (y = m.name) && (ko.L ct eo && (decide ((lentL (.cons o as)).Nodup) && (noSuper eo && ((apos.endLine == cpos.line) && (match es with
    | [] => (match m with | .pop => isNilI as | _ => false)
    | e :: es => ka.A ct (e :: es) && (safeB o as && decide ((e :: es).length < 30)))))))
  | _ => false
def cCall (x : Str) (as : IR) (ka : Ck) (ct : Ct) : Expr → Bool
  | .Call (.Name y _) (e :: es) [] _ => decide (y = x) && (ct.gl x && (!(x == ("__debug__" : Str)) && (ka.A ct (e :: es) && decide ((lentL as).Nodup))))
  | _ => false
def cBool (o : BoolOp) (a : Ct → Expr → Bool) (b : Ct → BoolOp → List Expr → Bool) (ct : Ct) (o' : BoolOp) : List Expr → Bool
  | x :: y :: r => decide (o' = o) && (a ct x && b ct o (y :: r))
  | _ => false
def cBO (f : Ct → BoolOp → List Expr → Bool) (ct : Ct) : Expr → Bool
  | .BoolOp o es _ => f ct o es
  | _ => false
def ckB (o : BoolOp) (a b : Ck) : Ck where
  E := cBO (cBool o a.E b.B)
  L := cBO (cBool o a.E b.B)
  T := cBO (cBool o a.T b.BT)
  B := fun ct o' es => cBool o a.E b.B ct o' es || one (cBO (cBool o a.E b.B)) ct o' es
  BT := fun ct o' es => cBool o a.T b.BT ct o' es || one (cBO (cBool o a.T b.BT)) ct o' es
def cNot (a : Ct → Expr → Bool) (ct : Ct) : Expr → Bool
  | .UnaryOp .Not e _ => a ct e
  | _ => false
def cIte (c a b : Ck) (ct : Ct) : Expr → Bool
  | .IfExp x y z _ => c.T ct x && (a.E ct y && b.E ct z)
  | _ => false
def cChn (ops : List CmpOp) (a r : Ck) (ct : Ct) : Expr → Bool
  | .Compare ea (op :: op' :: os) (e1 :: e2 :: es) _ => decide (op :: op' :: os = ops) && (a.E ct ea && (r.C ct (e1 :: e2 :: es) && (decide (os.length = es.length) && !lastMarks (op :: op' :: os) (e1 :: e2 :: es))))
  | _ => false
def ownL (ct : Ct) (own : List Nat) : List (Str × Nat) := own.map fun i => ((ct.N[i]?).getD "", i)
def cLc (own : List Nat) (tg it cond elt : IR) (kg ki kc ke : Ck) (ct : Ct) : Expr → Bool
  | .ListComp ex [⟨tgt, iter, ifs, 0⟩] scope _ => blkC ct.N ct.sc scope (ownL ct own) && ((own.all fun i => decide (i < ct.N.length)) && (((tgS tg).all fun i => own.contains i) && (((srcL it).all fun i => !tch cond i && !tch elt i) && (notSet iter &&
      (ki.I ct tgt iter && (kg.G (ct.blk scope) tgt && ((match ifs with | [] => isYes cond | [c] => kc.T (ct.blk scope) c | _ => false) && ke.E (ct.blk scope) ex)))))))
  | _ => false
def cAt (ct : Ct) : List Nat → List Expr → Bool
  | [], [] => true
  | i :: is, .Name x _ :: es => ct.put i x && cAt ct is es
  | _, _ => false
def cTn (i : Nat) (ct : Ct) : Expr → Bool
  | .Name x _ => ct.put i x
  | _ => false
def cTt (is : List Nat) (ct : Ct) : Expr → Bool
  | .Tuple es _ _ => cAt ct is es
  | _ => false
def isTupE : Expr → Bool
  | .Tuple .. => true | _ => false
def cItS (a : Ck) (ct : Ct) (_ : Expr) (e : Expr) : Bool := a.L ct e
def cItR (as : Ck) (ct : Ct) (_ : Expr) : Expr → Bool
  | .Call (.Name x _) [a] [] _ => decide (x = "range") && (ct.gl x && as.A ct [a])
  | .Call (.Name x _) [a, b] [] _ => decide (x = "range") && (ct.gl x && as.A ct [a, b])
  | .Call (.Name x _) [a, b, c] [] _ => decide (x = "range") && (ct.gl x && (notStar a && (notStar b && (notStar c && as.A ct [a, b, c]))))
  | _ => false
def cItE (k : Ck) (ct : Ct) (tg : Expr) : Expr → Bool
  | .Call (.Name x _) [a] [] _ => decide (x = "enumerate") && (ct.gl x && (isTupE tg && (k.L ct a && notStar a)))
  | _ => false
def cItZ (ia ib : IR) (ka kb : Ck) (ct : Ct) (tg : Expr) : Expr → Bool
  | .Call (.Name x _) [a, b] [] _ => decide (x = "zip") && (ct.gl x && (isTupE tg && (ka.L ct a && (kb.L ct b && (notStar a && (notStar b && safeB ia ib))))))
  | _ => false
def cA (a r : IR) (ka kr : Ck) (ct : Ct) : List Expr → Bool
  | e :: es => ka.L ct e && (notStar e && (safeB a r && kr.A ct es))
  | [] => false
def cC (ka kr : Ck) (ct : Ct) : List Expr → Bool
  | e :: es => ka.E ct e && kr.C ct es
  | [] => false
def cSS (ka kr : Ck) (ct : Ct) : List Stmt → Bool
  | e :: es => ka.S ct e && kr.SS ct es
  | [] => false
def isLC : Expr → Bool
  | .ListComp .. => true | _ => false
/-- a comprehension stored in a name changes places with it -/
def swB (ct : Ct) (y : Str) (p : Pos) : Expr → Bool
  | .ListComp _ _ scope pos => isLocal (ct.sc.names.lookup y) && ((p.line == pos.line) && !(scope.names.any fun (n, k) => n == y && (k == .local || k == .cell)))
  | _ => false
def isLcI : IR → Bool
  | .lc .. => true | _ => false
def cSA (tg a : IR) (kg k : Ck) (ct : Ct) : Stmt → Bool
  | .Assign [.Name x p] e _ => (match tg with | .tn _ => kg.G ct (.Name x p) && (k.E ct e && (noComp e || (isLC e && isLcI a))) | _ => false)
  | .Assign [.Tuple es n p] e _ => (match tg with | .tt is => kg.G ct (.Tuple es n p) && (k.E ct e && (noComp e && (noPair e || (match e with | .Tuple vs _ _ => decide (swN es vs ct.sc = some none) | _ => false)))) | _ => false)
  | _ => false
def loc1 (ct : Ct) (x : Str) : Bool := isLocal (ct.sc.names.lookup x)
def cSP (is : List Nat) (k : Ck) (ct : Ct) : Stmt → Bool
  | .Assign [.Tuple [.Name x px, .Name y py] _ _] (.Tuple [a, b] _ _) _ => (match is with
    | [i, j] => decide (ct.N[i]? = some x) && (decide (ct.N[j]? = some y) && (decide (i ≠ j) && (loc1 ct x && (loc1 ct y && (k.A ct [a, b] && decide (swN [.Name x px, .Name y py] [a, b] ct.sc = some (some [x, y])))))))
    | _ => false)
  | .Assign [.Tuple [.Name x px, .Name y py, .Name z pz] _ _] (.Tuple [a, b, c] _ _) _ => (match is with
    | [i, j, l] => decide (ct.N[i]? = some x) && (decide (ct.N[j]? = some y) && (decide (ct.N[l]? = some z) && (decide (i ≠ j) && (decide (i ≠ l) && (decide (j ≠ l) && (loc1 ct x && (loc1 ct y && (loc1 ct z && (k.A ct [a, b, c] && decide (swN [.Name x px, .Name y py, .Name z pz] [a, b, c] ct.sc = some (some [x, y, z])))))))))))
    | _ => false)
  | _ => false
def cSI (as : IR) (k : Ck) (ct : Ct) : Stmt → Bool
  | .Assign [.Subscript b c _] a _ => k.A ct [a, b, c] && (decide ((lentL as).Nodup) && (noComp a && notSlice c))
  | _ => false
def cSU (i : Nat) (op : Operator) (k : Ck) (ct : Ct) : Stmt → Bool
  | .AugAssign (.Name x _) op' e _ => ct.put i x && (decide (op' = op) && (augOp op && k.E ct e))
  | _ => false
def cSIf (c t e : Ck) (ct : Ct) : Stmt → Bool
  | .If x ss us _ => c.T ct x && (t.SS ct ss && e.SS ct us)
  | _ => false
def cSFor (tg it b : IR) (kg ki kb : Ck) (ct : Ct) : Stmt → Bool
  | .For tgE itE ss [] _ => ki.I ct tgE itE && (kg.G ct tgE && (kb.SS ct ss && (notSet itE && ((srcL it).all fun i => !tch tg i && !tch b i))))
  | _ => false
def cSWh (c b : Ck) (ct : Ct) : Stmt → Bool
  | .While x ss [] _ => c.T ct x && b.SS ct ss
  | _ => false
def cSE (k : Ck) (ct : Ct) : Stmt → Bool
  | .Expr e _ => k.E ct e && noComp e
  | _ => false
def cSRet (k : Ck) (ct : Ct) : Stmt → Bool
  | .Return (some e) _ => k.E ct e
  | _ => false
/-- xs[i], xs[j] = xs[j], xs[i] -/
def cIx (x : IR) (ct : Ct) : Expr → Bool
  | .Name y _ => (match x with | .rd j => ct.slot j y | _ => false)
  | .Constant (.int n) _ _ => (match x with | .cst (.int k) => decide (n = k) | _ => false)
  | .UnaryOp .USub (.Constant (.int n) _ _) _ => (match x with | .cst (.int k) => decide (-n = k) | _ => false)
  | _ => false
def cSW (b : Nat) (i j : IR) (ct : Ct) : Stmt → Bool
  | .Assign [.Tuple [.Subscript (.Name y1 p1) ei q1, .Subscript (.Name y2 p2) ej q2] _ _] (.Tuple [.Subscript (.Name y3 p3) ej2 q3, .Subscript (.Name y4 p4) ei2 q4] _ _) _ =>
    ct.slot b y1 && (decide (y2 = y1) && (decide (y3 = y1) && (decide (y4 = y1) && (cIx i ct ei && (cIx j ct ej && (cIx i ct ei2 && (cIx j ct ej2 &&
      decide (swN [.Subscript (.Name y1 p1) ei q1, .Subscript (.Name y2 p2) ej q2] [.Subscript (.Name y3 p3) ej2 q3, .Subscript (.Name y4 p4) ei2 q4] ct.sc = some none))))))))
  | _ => false
def cSRetN : Stmt → Bool
  | .Return none _ => true | _ => false
def cSPass : Stmt → Bool
  | .Pass _ => true | .Expr (.Constant (.str _) _ _) _ => true | _ => false
def cSBrk : Stmt → Bool
  | .Break _ => true | _ => false
def cSCnt : Stmt → Bool
  | .Continue _ => true | _ => false

def ck : IR → Ck
  | .cst d => ckE (cCst d)
  | .glb x _ => ckE (cGlb x)
  | .rd i => ckE (cNm i)
  | .mv i => ckE (cNm i)
  | .fr i => ckE (cNm i)
  | .fzv a => ckE fun ct e => (ck a).E ct e
  | .br i => { L := cNm i, T := cNm i, BT := one (cNm i) }
  | .plc b x => { L := cPlc b x (ck b) (ck x) }
  | .slc a lo hi => ckE (cSlc a lo hi (ck a) (ck lo) (ck hi))
  | .ap (.cmp op) as => ckT (cCmp op (ck as)) (cCmp op (ck as))
  | .ap .isE as => ckT (cIsE (ck as)) (cIsE (ck as))
  | .ap k as => ckE (cAp k as (ck as))
  | .meth m o as => ckE (cMeth m o as (ck o) (ck as))
  | .call x _ as => ckE (cCall x as (ck as))
  | .land a b => ckB .And (ck a) (ck b)
  | .lor a b => ckB .Or (ck a) (ck b)
  | .lnot a => ckT (cNot (ck a).E) (cNot (ck a).T)
  | .ite c a b => ckE (cIte (ck c) (ck a) (ck b))
  | .chn a ops r => ckT (cChn ops (ck a) (ck r)) (cChn ops (ck a) (ck r))
  | .lc own tg it cond elt => ckE (cLc own tg it cond elt (ck tg) (ck it) (ck cond) (ck elt))
  | .itS (.ap .signs as) => { I := fun ct _ e => (ck as).A ct [e] }
  | .itS a => { I := cItS (ck a) }
  | .itR as => { I := cItR (ck as) }
  | .itE a => { I := cItE (ck a) }
  | .itZ a b => { I := cItZ a b (ck a) (ck b) }
  | .tn i => { G := cTn i }
  | .tt is => { G := cTt is }
  | .nil => { A := fun _ es => es.isEmpty, C := fun _ es => es.isEmpty, SS := fun _ ss => ss.isEmpty }
  | .cons a r => { A := cA a r (ck a) (ck r), C := cC (ck a) (ck r), SS := cSS (ck a) (ck r) }
  | .sE e => { S := cSE (ck e) }
  | .sA tg e => { S := cSA tg e (ck tg) (ck e) }
  | .sP is as => { S := cSP is (ck as) }
  | .sI as => { S := cSI as (ck as) }
  | .sU i op e => { S := cSU i op (ck e) }
  | .sUI .nil .nil _ .nil => { S := fun _ _ => true }
  | .sUI _ _ _ _ => {}
  | .sIf c t e => { S := cSIf (ck c) (ck t) (ck e) }
  | .sFor tg it body => { S := cSFor tg it body (ck tg) (ck it) (ck body) }
  | .sWh c body => { S := cSWh (ck c) (ck body) }
  | .sRet e => { S := cSRet (ck e) }
  | .sRetN => { S := fun _ => cSRetN }
  | .sPass => { S := fun _ => cSPass }
  | .sBrk => { S := fun _ => cSBrk }
  | .sCnt => { S := fun _ => cSCnt }
  | .sW b i j => { S := cSW b i j }
def bltN : List Str := ["len", "abs", "int", "min", "max", "tuple", "list", "sorted", "all", "any", "sum", "repr", "isinstance", "range", "enumerate", "zip", "bool", "str", "dict", "set"]
structure CtxOk (X : Cx) (ct : Ct) : Prop where
  N : X.N = ct.N
  nd : ct.N.Nodup
  sc : X.env.scope = ct.sc
  kind : ct.sc.kind = .function
  st : ∀ x, ct.st x = true → Stor X x
  calm : X.calm = true
  guards : X.A.guards = some []
  units : X.A.units + 128 < cLine
  blt : ∀ x ∈ bltN, X.mg x = none
def GlbX (X : Cx) (x : Str) (d : D) : Prop := ∃ u v, X.mg x = some u ∧ RelV v u ∧ (∀ Z H, Rep X.K Z H d v []) ∧ d ≠ .un ∧ (x == ("__debug__" : Str)) = false
def Known (G : Str → D → Prop) (C : Str → Spec → Prop) : IR → Prop
  | .glb x d => G x d
  | .fzv a => Known G C a
  | .plc b x => Known G C b ∧ Known G C x
  | .slc a lo hi => Known G C a ∧ Known G C lo ∧ Known G C hi
  | .ap _ as => Known G C as
  | .meth _ o as => Known G C o ∧ Known G C as
  | .call x sp as => C x sp ∧ Known G C as
  | .land a b => Known G C a ∧ Known G C b
  | .lor a b => Known G C a ∧ Known G C b
  | .lnot a => Known G C a
  | .ite c a b => Known G C c ∧ Known G C a ∧ Known G C b
  | .chn a _ r => Known G C a ∧ Known G C r
  | .lc _ tg it cond elt => Known G C tg ∧ Known G C it ∧ Known G C cond ∧ Known G C elt
  | .itS a => Known G C a
  | .itR as => Known G C as
  | .itE a => Known G C a
  | .itZ a b => Known G C a ∧ Known G C b
  | .cons a r => Known G C a ∧ Known G C r
  | .sE e => Known G C e
  | .sA tg e => Known G C tg ∧ Known G C e
  | .sP _ as => Known G C as
  | .sI as => Known G C as
  | .sU _ _ e => Known G C e
  | .sIf c t e => Known G C c ∧ Known G C t ∧ Known G C e
  | .sFor tg it b => Known G C tg ∧ Known G C it ∧ Known G C b
  | .sWh c b => Known G C c ∧ Known G C b
  | .sRet e => Known G C e
  | _ => True

section
variable {X : Cx} {ct : Ct}
theorem vis_of {sc : Scope} {x : Str} (h : isVis (sc.names.lookup x) = true) : Vis sc x := by
  unfold isVis at h
  unfold Vis
  split at h <;> first | exact .inl ‹_› | exact .inr (.inl ‹_›) | exact .inr (.inr ‹_›) | cases h
theorem local_of {sc : Scope} {x : Str} (h : isLocal (sc.names.lookup x) = true) : sc.names.lookup x = some .local := by
  unfold isLocal at h
  split at h
  · assumption
  · cases h
theorem CtxOk.gl (ok : CtxOk X ct) {x : Str} (h : ct.gl x = true) : Gl X x := by
  unfold Ct.gl isGl at h
  unfold Gl Env.kindOf
  rw [ok.sc]
  split at h
  · assumption
  · cases h
theorem CtxOk.slot (ok : CtxOk X ct) {i : Nat} {x : Str} {p : Pos} (h : ct.slot i x = true) : PE X (.Name x p) (tVar i) ∧ i < ct.N.length := by
  unfold Ct.slot nmOk at h
  simp only [Bool.and_eq_true, decide_eq_true_eq, Bool.not_eq_true'] at h
  obtain ⟨h1, h2, h3, h4⟩ := h
  exact ⟨pe_var (by rw [ok.N]; exact h1) (by rw [ok.sc]; exact vis_of h2) h3 h4, (List.getElem?_eq_some_iff.mp h1).1⟩
theorem CtxOk.put (ok : CtxOk X ct) {i : Nat} {x : Str} (h : ct.put i x = true) : X.N[i]? = some x ∧ Stor X x ∧ i < ct.N.length := by
  unfold Ct.put at h
  simp only [Bool.and_eq_true, decide_eq_true_eq] at h
  exact ⟨by rw [ok.N]; exact h.1, ok.st x h.2, (List.getElem?_eq_some_iff.mp h.1).1⟩
theorem CtxOk.ndX (ok : CtxOk X ct) : X.N.Nodup := by rw [ok.N]; exact ok.nd
theorem safe_of {a r : IR} (h : safeB a r = true) : Safe a r := fun i e => by
  unfold safeB at h
  rw [e] at h
  simp only [Bool.or_eq_true, Bool.not_eq_true'] at h
  rcases h with h | h
  · cases a <;> first | exact .inl ⟨_, rfl⟩ | cases h
  · exact .inr h
theorem plain_test {e : Expr} {env : PySem.Env} (h : isPlain e = true) : ∀ whole, isTrue e env whole = (do let v ← whole; standAt e.pos; holding [v] (truthy v)) := by
  intro whole
  cases e <;> first | rfl | (cases h; done) | skip
  case UnaryOp op e p => cases op <;> first | rfl | cases h
theorem notSet_ok {e : Expr} {env : PySem.Env} (h : notSet e = true) : ∀ x, foldedSetIterable e env x = pure x := by
  intro x
  cases e <;> first | rfl | cases h
theorem ownL_map (own : List Nat) : (ownL ct own).map (·.2) = own := by
  unfold ownL
  rw [List.map_map]
  show own.map (fun i => i) = own
  exact List.map_id' own
theorem CtxOk.blk (ok : CtxOk X ct) {scope : Scope} (hk : scope.kind = .function) (s : Shared) (H : Hp) (C : Addr) (cl : List (Str × Addr)) (fp : List Addr) : CtxOk (X.blk s H scope (compEnvC scope cl C X.env) fp) (ct.blk scope) where
  N := ok.N
  nd := ok.nd
  sc := by show relS scope X.env.scope = relS scope ct.sc; rw [ok.sc]
  kind := hk
  st := fun x h => by
    have h : isLoc (scope.names.lookup x) = true := h
    unfold isLoc at h
    split at h
    · rename_i e
      exact ⟨.inl (lookup_relS_keep (sc := X.env.scope) (fun z => nomatch z) e), .inr (lookup_relS_keep (sc := X.env.scope) (fun z => nomatch z) e)⟩
    · rename_i e
      exact ⟨.inr (lookup_relS_keep (sc := X.env.scope) (fun z => nomatch z) e), .inl (by show (scope.names.lookup x == some .cell) = true; rw [e]; rfl)⟩
    · cases h
  calm := ok.calm
  guards := ok.guards
  units := ok.units
  blt := ok.blt

structure Snd (X : Cx) (ct : Ct) (ir : IR) : Prop where
  E : ∀ e, (ck ir).E ct e = true → PE X e (tE X.K ct.N.length ir)
  L : ∀ e, (ck ir).L ct e = true → PE X e (tL X.K ct.N.length ir)
  A : ∀ es, (ck ir).A ct es = true → Els X ct.N.length ir es
  C : ∀ es, (ck ir).C ct es = true → Els1 X ct.N.length ir es
  T : ∀ e, (ck ir).T ct e = true → PT X e (tT X.K ct.N.length ir)
  B : ∀ o es p, (ck ir).B ct o es = true → PE X (.BoolOp o es p) (tE X.K ct.N.length ir)
  BT : ∀ o es p, (ck ir).BT ct o es = true → PW X (.BoolOp o es p) (tT X.K ct.N.length ir)
  I : ∀ tg e, (ck ir).I ct tg e = true → PI X tg e (tI X.K ct.N.length ir)
  G : ∀ e, (ck ir).G ct e = true → PG X e (gT X.K ir) ∧ ∀ i, tch ir i = true → i ∈ tgS ir ∧ i < ct.N.length
  S : PassesOwn (model X.prog X.w) X.A X.env X.xe → ∀ st, (ck ir).S ct st = true → PS X st (tS X.K ct.N.length ir)
  SS : PassesOwn (model X.prog X.w) X.A X.env X.xe → ∀ ss, (ck ir).SS ct ss = true → PSs X ss (tS X.K ct.N.length ir)
theorem one_inv {f : Ct → Expr → Bool} {o : BoolOp} {es : List Expr} (h : one f ct o es = true) : ∃ x, es = [x] ∧ f ct x = true := by
  unfold one at h
  split at h
  · exact ⟨_, rfl, h⟩
  · cases h
theorem pw_one {o : BoolOp} {x : Expr} {p : Pos} {t : TT} (h : PT X x t) : PW X (.BoolOp o [x] p) t := by
  cases o
  · exact pw_and1 h
  · exact pw_or1 h
theorem Snd.ofT {ir : IR} {f t : Ct → Expr → Bool} (e : ck ir = ckT f t) (pl : isPlace ir = false) (h : ∀ e, f ct e = true → PE X e (tE X.K ct.N.length ir)) (ht : ∀ e, t ct e = true → PT X e (tT X.K ct.N.length ir)) : Snd X ct ir := by
  constructor
  · rw [e]; exact h
  · rw [e]; exact fun x hx => s_val (h x hx) pl
  · rw [e]; exact fun _ q => nomatch q
  · rw [e]; exact fun _ q => nomatch q
  · rw [e]; exact ht
  · rw [e]; intro o es p q; obtain ⟨x, rfl, q⟩ := one_inv (o := o) q; exact pe_one (h x q)
  · rw [e]; intro o es p q; obtain ⟨x, rfl, q⟩ := one_inv (o := o) q; exact pw_one (ht x q)
  · rw [e]; exact fun _ _ q => nomatch q
  · rw [e]; exact fun _ q => nomatch q
  · rw [e]; exact fun _ _ q => nomatch q
  · rw [e]; exact fun _ _ q => nomatch q
theorem Snd.ofE {ir : IR} {f : Ct → Expr → Bool} (e : ck ir = ckE f) (pl : isPlace ir = false) (iv : isVal ir = true) (h : ∀ e, f ct e = true → PE X e (tE X.K ct.N.length ir)) : Snd X ct ir :=
  Snd.ofT (f := f) (t := fun ct x => f ct x && isPlain x) e pl h fun x hx => by
    rw [Bool.and_eq_true] at hx
    exact t_val (h x hx.1) iv (plain_test hx.2)
theorem Snd.ofS {ir : IR} {f : Ct → Stmt → Bool} (e : ck ir = { S := f }) (h : PassesOwn (model X.prog X.w) X.A X.env X.xe → ∀ st, f ct st = true → PS X st (tS X.K ct.N.length ir)) : Snd X ct ir := by
  constructor
  · rw [e]; exact fun _ q => nomatch q
  · rw [e]; exact fun _ q => nomatch q
  · rw [e]; exact fun _ q => nomatch q
  · rw [e]; exact fun _ q => nomatch q
  · rw [e]; exact fun _ q => nomatch q
  · rw [e]; exact fun _ _ _ q => nomatch q
  · rw [e]; exact fun _ _ _ q => nomatch q
  · rw [e]; exact fun _ _ q => nomatch q
  · rw [e]; exact fun _ q => nomatch q
  · rw [e]; exact h
  · rw [e]; exact fun _ _ q => nomatch q
theorem Snd.ofI {ir : IR} {f : Ct → Expr → Expr → Bool} (e : ck ir = { I := f }) (h : ∀ tg x, f ct tg x = true → PI X tg x (tI X.K ct.N.length ir)) : Snd X ct ir := by
  constructor
  · rw [e]; exact fun _ q => nomatch q
  · rw [e]; exact fun _ q => nomatch q
  · rw [e]; exact fun _ q => nomatch q
  · rw [e]; exact fun _ q => nomatch q
  · rw [e]; exact fun _ q => nomatch q
  · rw [e]; exact fun _ _ _ q => nomatch q
  · rw [e]; exact fun _ _ _ q => nomatch q
  · rw [e]; exact h
  · rw [e]; exact fun _ q => nomatch q
  · rw [e]; exact fun _ _ q => nomatch q
  · rw [e]; exact fun _ _ q => nomatch q
theorem Snd.ofG {ir : IR} {f : Ct → Expr → Bool} (e : ck ir = { G := f }) (h : ∀ x, f ct x = true → PG X x (gT X.K ir) ∧ ∀ i, tch ir i = true → i ∈ tgS ir ∧ i < ct.N.length) : Snd X ct ir := by
  constructor
  · rw [e]; exact fun _ q => nomatch q
  · rw [e]; exact fun _ q => nomatch q
  · rw [e]; exact fun _ q => nomatch q
  · rw [e]; exact fun _ q => nomatch q
  · rw [e]; exact fun _ q => nomatch q
  · rw [e]; exact fun _ _ _ q => nomatch q
  · rw [e]; exact fun _ _ _ q => nomatch q
  · rw [e]; exact fun _ _ q => nomatch q
  · rw [e]; exact h
  · rw [e]; exact fun _ _ q => nomatch q
  · rw [e]; exact fun _ _ q => nomatch q
theorem Snd.ofLT {ir : IR} {f t : Ct → Expr → Bool} {b : Ct → BoolOp → List Expr → Bool} (e : ck ir = { L := f, T := t, BT := b }) (h : ∀ x, f ct x = true → PE X x (tL X.K ct.N.length ir)) (ht : ∀ x, t ct x = true → PT X x (tT X.K ct.N.length ir)) (hb : ∀ o es p, b ct o es = true → PW X (.BoolOp o es p) (tT X.K ct.N.length ir)) : Snd X ct ir := by
  constructor
  · rw [e]; exact fun _ q => nomatch q
  · rw [e]; exact h
  · rw [e]; exact fun _ q => nomatch q
  · rw [e]; exact fun _ q => nomatch q
  · rw [e]; exact ht
  · rw [e]; exact fun _ _ _ q => nomatch q
  · rw [e]; exact hb
  · rw [e]; exact fun _ _ q => nomatch q
  · rw [e]; exact fun _ q => nomatch q
  · rw [e]; exact fun _ _ q => nomatch q
  · rw [e]; exact fun _ _ q => nomatch q
theorem Snd.ofACS {ir : IR} {a c : Ct → List Expr → Bool} {s : Ct → List Stmt → Bool} (e : ck ir = { A := a, C := c, SS := s }) (ha : ∀ es, a ct es = true → Els X ct.N.length ir es) (hc : ∀ es, c ct es = true → Els1 X ct.N.length ir es)
    (hs : PassesOwn (model X.prog X.w) X.A X.env X.xe → ∀ ss, s ct ss = true → PSs X ss (tS X.K ct.N.length ir)) : Snd X ct ir := by
  constructor
  · rw [e]; exact fun _ q => nomatch q
  · rw [e]; exact fun _ q => nomatch q
  · rw [e]; exact ha
  · rw [e]; exact hc
  · rw [e]; exact fun _ q => nomatch q
  · rw [e]; exact fun _ _ _ q => nomatch q
  · rw [e]; exact fun _ _ _ q => nomatch q
  · rw [e]; exact fun _ _ q => nomatch q
  · rw [e]; exact fun _ q => nomatch q
  · rw [e]; exact fun _ _ q => nomatch q
  · rw [e]; exact hs
theorem els1 {N : Nat} {as : IR} {x : Expr} (h : Els X N as [x]) : ∃ a, as = .cons a .nil ∧ PE X x (tL X.K N a) ∧ notStar x = true := by
  cases as <;> first | (exact False.elim h) | skip
  case nil => cases h
  case cons a r =>
    obtain ⟨e, er, q, h1, h2, h3, h4⟩ := h
    cases q
    cases r <;> first | (exact False.elim h4) | skip
    case nil => exact ⟨a, rfl, h1, h2⟩
    case cons b r => obtain ⟨e', er', q, _⟩ := h4; cases q
theorem els2 {N : Nat} {as : IR} {x y : Expr} (h : Els X N as [x, y]) : ∃ a b, as = .cons a (.cons b .nil) ∧ PE X x (tL X.K N a) ∧ PE X y (tL X.K N b) ∧ Safe a (.cons b .nil) ∧ notStar x = true ∧ notStar y = true := by
  cases as <;> first | (exact False.elim h) | skip
  case nil => cases h
  case cons a r =>
    obtain ⟨e, er, q, h1, h2, h3, h4⟩ := h
    cases q
    obtain ⟨b, rfl, h5, h6⟩ := els1 h4
    exact ⟨a, b, rfl, h1, h5, h3, h2, h6⟩
theorem els3 {N : Nat} {as : IR} {x y z : Expr} (h : Els X N as [x, y, z]) : ∃ a b c, as = .cons a (.cons b (.cons c .nil)) ∧ PE X x (tL X.K N a) ∧ PE X y (tL X.K N b) ∧ PE X z (tL X.K N c) ∧ Safe a (.cons b (.cons c .nil)) ∧ Safe b (.cons c .nil) := by
  cases as <;> first | (exact False.elim h) | skip
  case nil => cases h
  case cons a r =>
    obtain ⟨e, er, q, h1, h2, h3, h4⟩ := h
    cases q
    obtain ⟨b, c, rfl, h5, h6, h7, h8, h9⟩ := els2 h4
    exact ⟨a, b, c, rfl, h1, h5, h6, h3, h7⟩
theorem at_ok (ok : CtxOk X ct) : ∀ {is : List Nat} {es : List Expr}, cAt ct is es = true → NmAt X is es ∧ ∀ i ∈ is, i < ct.N.length
  | [], [], _ => ⟨rfl, fun _ q => nomatch q⟩
  | i :: is, .Name x p :: es, h => by
    unfold cAt at h
    rw [Bool.and_eq_true] at h
    obtain ⟨h1, h2, h3⟩ := ok.put h.1
    obtain ⟨h4, h5⟩ := at_ok ok h.2
    exact ⟨⟨x, p, es, rfl, h1, h2, h4⟩, fun j hj => (List.mem_cons.mp hj).elim (fun e => e ▸ h3) (h5 j)⟩
  | [], _ :: _, h => by cases h
  | _ :: _, [], h => by cases h
  | i :: is, e :: es, h => by
    cases e <;> first | (cases h; done) | skip
    case Name x p =>
      unfold cAt at h
      rw [Bool.and_eq_true] at h
      obtain ⟨h1, h2, h3⟩ := ok.put h.1
      obtain ⟨h4, h5⟩ := at_ok ok h.2
      exact ⟨⟨x, p, es, rfl, h1, h2, h4⟩, fun j hj => (List.mem_cons.mp hj).elim (fun e => e ▸ h3) (h5 j)⟩
end
abbrev Ih (ir : IR) : Prop := ∀ (X : Cx) (ct : Ct), CtxOk X ct → Known (GlbX X) (Callee X) ir → Snd X ct ir
section
variable {X : Cx} {ct : Ct}
theorem k_cst (d : D) (ok : CtxOk X ct) : Snd X ct (.cst d) := Snd.ofE rfl rfl rfl fun e h => by
  have h : cCst d ct e = true := h
  unfold cCst at h
  split at h
  · split at h
    · rw [decide_eq_true_eq] at h; subst h; exact s_cst pe_int (fun _ _ => int_rep) (fun z => nomatch z)
    · cases h
  · split at h
    · rw [decide_eq_true_eq] at h; subst h; exact s_cst pe_str (fun _ _ => str_rep) (fun z => nomatch z)
    · cases h
  · split at h
    · rw [decide_eq_true_eq] at h; subst h; exact s_cst pe_bl (fun _ _ => bl_rep) (fun z => nomatch z)
    · cases h
  · split at h
    · exact s_cst pe_non (fun _ _ => non_rep) (fun z => nomatch z)
    · cases h
  · cases h
theorem k_glb (x : Str) (d : D) (ok : CtxOk X ct) (kn : GlbX X x d) : Snd X ct (.glb x d) := Snd.ofE rfl rfl rfl fun e h => by
  have h : cGlb x ct e = true := h
  unfold cGlb at h
  split at h
  · rw [Bool.and_eq_true, decide_eq_true_eq] at h
    obtain ⟨rfl, h⟩ := h
    obtain ⟨u, v, h1, h2, h3, h4, h5⟩ := kn
    exact s_glb (pe_glob (ok.gl h) h1 h2 h5) h3 h4
  · cases h
theorem cNm_inv {i : Nat} {e : Expr} (h : cNm i ct e = true) : ∃ x p, e = .Name x p ∧ ct.slot i x = true := by
  unfold cNm at h
  split at h
  · exact ⟨_, _, rfl, h⟩
  · cases h
theorem k_rd (i : Nat) (ok : CtxOk X ct) : Snd X ct (.rd i) := Snd.ofE rfl rfl rfl fun e h => by
  obtain ⟨x, p, rfl, h⟩ := cNm_inv h
  exact s_rd (ok.slot h).1 (ok.slot (p := p) h).2
theorem k_mv (i : Nat) (ok : CtxOk X ct) : Snd X ct (.mv i) := Snd.ofE rfl rfl rfl fun e h => by
  obtain ⟨x, p, rfl, h⟩ := cNm_inv h
  exact s_mv (ok.slot h).1 (ok.slot (p := p) h).2
theorem k_fr (i : Nat) (ok : CtxOk X ct) : Snd X ct (.fr i) := Snd.ofE rfl rfl rfl fun e h => by
  obtain ⟨x, p, rfl, h⟩ := cNm_inv h
  exact s_fr (ok.slot h).1 (ok.slot (p := p) h).2
theorem k_br (i : Nat) (ok : CtxOk X ct) : Snd X ct (.br i) := Snd.ofLT rfl (fun e h => by
  obtain ⟨x, p, rfl, h⟩ := cNm_inv h
  exact s_br (ok.slot h).1 (ok.slot (p := p) h).2) (fun e h => by
  obtain ⟨x, p, rfl, h⟩ := cNm_inv h
  exact t_br (ok.slot h).1 (ok.slot (p := p) h).2) (fun o es p h => by
  obtain ⟨e, rfl, h⟩ := one_inv (o := o) h
  obtain ⟨x, p, rfl, h⟩ := cNm_inv h
  exact pw_one (t_br (ok.slot h).1 (ok.slot (p := p) h).2))
theorem k_plc {b x : IR} (sb : Snd X ct b) (sx : Snd X ct x) : Snd X ct (.plc b x) := Snd.ofLT (t := fun _ _ => false) (b := fun _ _ _ => false) rfl (fun e h => by
  have h : cPlc b x (ck b) (ck x) ct e = true := h
  unfold cPlc at h
  split at h
  · simp only [Bool.and_eq_true] at h
    obtain ⟨h1, h2, h3, h4⟩ := h
    refine s_plc (sb.L _ h1) (sx.E _ h2) h3 ?_
    split at h4
    · rename_i i hi
      exact ⟨i, hi, by simpa using h4⟩
    · cases h4
  · cases h) (fun _ h => nomatch h) (fun _ _ _ h => nomatch h)
theorem k_slc {a lo hi : IR} (sa : Snd X ct a) (sl : Snd X ct lo) (sh : Snd X ct hi) : Snd X ct (.slc a lo hi) := Snd.ofE rfl rfl rfl fun e h => by
  have h : cSlc a lo hi (ck a) (ck lo) (ck hi) ct e = true := h
  unfold cSlc at h
  split at h
  · simp only [Bool.and_eq_true] at h
    obtain ⟨h1, h2, h3, h4, h5⟩ := h
    exact s_slc11 (sa.L _ h1) (sl.E _ h2) (sh.E _ h3) (safe_of h4) (safe_of h5)
  · cases h
theorem nil_of {l : List Nat} (h : l.isEmpty = true) : l = [] := by cases l <;> first | rfl | cases h
theorem bif_in (f : BF) : f.name ∈ bltN := by
  cases f <;> decide +kernel
theorem ty_in (f : TY) : f.name ∈ bltN := by
  cases f <;> decide +kernel
theorem at1_ok {X : Cx} {ct : Ct} {a : IR} {e : Expr} (ok : CtxOk X ct) (h : cAt1 a ct e = true) : PE X e (tAt a) ∧ isAt a = true ∧ (∀ i, a = .rd i → i < ct.N.length) ∧ ∀ d, a = .cst d → ∃ v, cV d = some v := by
  unfold cAt1 at h
  split at h
  · split at h
    · obtain ⟨h1, h2⟩ := ok.slot h
      exact ⟨h1, rfl, fun j e => by cases e; exact h2, fun d e => nomatch e⟩
    · cases h
  · split at h
    · rw [decide_eq_true_eq] at h
      subst h
      exact ⟨pe_weak pe_int fun σ H Q ⟨x, e, q⟩ => by cases e; exact q, rfl, (fun j e => nomatch e), fun d e => by cases e; exact ⟨_, rfl⟩⟩
    · cases h
  · split at h
    · rw [decide_eq_true_eq] at h
      subst h
      exact ⟨pe_weak pe_str fun σ H Q ⟨x, e, q⟩ => by cases e; exact q, rfl, (fun j e => nomatch e), fun d e => by cases e; exact ⟨_, rfl⟩⟩
    · cases h
  · split at h
    · rw [decide_eq_true_eq] at h
      subst h
      exact ⟨pe_weak pe_bl fun σ H Q ⟨x, e, q⟩ => by cases e; exact q, rfl, (fun j e => nomatch e), fun d e => by cases e; exact ⟨_, rfl⟩⟩
    · cases h
  · cases h
theorem prs_ok {X : Cx} {ct : Ct} (ok : CtxOk X ct) : ∀ {as : IR} {ks : List (Option Expr)} {vs : List Expr} {pos : Pos}, cPrs as ct ks vs = true → PPs X pos ks vs (prsT as) ∧ ks.all (·.isSome) = true ∧ ks.length = vs.length ∧ atOk ct.N.length as := by
  intro as
  induction as using prsT.induct with
  | case1 a b r ih =>
    intro ks vs pos h
    match ks, vs, h with
    | some k :: ks, v :: vs, h =>
      unfold cPrs at h
      rw [Bool.and_eq_true, Bool.and_eq_true] at h
      obtain ⟨h1, h2, h3⟩ := h
      obtain ⟨a1, a2, a3, a4⟩ := at1_ok ok h1
      obtain ⟨b1, b2, b3, b4⟩ := at1_ok ok h2
      obtain ⟨i1, i2, i3, i4⟩ := ih (pos := pos) h3
      refine ⟨pps_cons a1 b1 i1, ?_, ?_, ⟨a2, a3, a4⟩, ⟨b2, b3, b4⟩, i4⟩
      · rw [List.all_cons, i2]; rfl
      · rw [List.length_cons, List.length_cons, i3]
  | case2 as hn =>
    intro ks vs pos h
    unfold cPrs at h
    split at h
    · exact ⟨pps_nil, rfl, rfl, trivial⟩
    · exact absurd rfl (hn _ _ _)
    · cases h
theorem fp_ok {X : Cx} {ct : Ct} (ok : CtxOk X ct) : ∀ (es : List Expr) (as : IR), cFp as ct es = true → PJ X es (tFp as) ∧ fpOk ct.N.length as
  | [], as, h => by
    unfold cFp at h
    split at h
    · exact ⟨.nil, trivial⟩
    · rename_i e2; cases e2
    · rename_i e2; cases e2
    · cases h
  | e :: es, as, h => by
    unfold cFp at h
    split at h
    · rename_i e2; cases e2
    · rename_i i r x p c q es' e2
      cases e2
      simp only [Bool.and_eq_true, decide_eq_true_eq] at h
      obtain ⟨rfl, h1, h2⟩ := h
      obtain ⟨g1, g2⟩ := ok.slot h1
      obtain ⟨i1, i2⟩ := fp_ok ok es r h2
      exact ⟨.cons (pe_fmt g1) i1, g2, i2⟩
    · rename_i j r i k p es' e2
      cases e2
      rw [Bool.and_eq_true, decide_eq_true_eq] at h
      obtain ⟨rfl, h2⟩ := h
      obtain ⟨i1, i2⟩ := fp_ok ok es r h2
      exact ⟨.cons (pe_weak pe_str fun σ H Q ⟨x, e, q⟩ => by cases e; exact q) i1, i2⟩
    · cases h
theorem k_ap {k : PK} {as : IR} (ok : CtxOk X ct) (sa : Snd X ct as) : Snd X ct (.ap k as) := by
  have hu : X.A.units + 65 < cLine := by have := ok.units; omega
  cases k with
  | cmp op =>
    refine Snd.ofT (ir := .ap (.cmp op) as) rfl rfl (fun e h => ?_) (fun e h => ?_)
    · unfold cCmp at h
      split at h
      · simp only [Bool.and_eq_true, decide_eq_true_eq, Bool.not_eq_true'] at h
        obtain ⟨rfl, h2, h3⟩ := h
        obtain ⟨a, b, rfl, p1, p2, p3, _⟩ := els2 (sa.A _ h2)
        exact s_cmp hu p1 p2 p3 h3
      · cases h
    · unfold cCmp at h
      split at h
      · simp only [Bool.and_eq_true, decide_eq_true_eq, Bool.not_eq_true'] at h
        obtain ⟨rfl, h2, h3⟩ := h
        obtain ⟨a, b, rfl, p1, p2, p3, _⟩ := els2 (sa.A _ h2)
        exact t_cmp hu p1 p2 p3 h3
      · cases h
  | bin op =>
    refine Snd.ofE (ir := .ap (.bin op) as) rfl rfl rfl fun e h => ?_
    have h : cBin op (ck as) ct e = true := h
    unfold cBin at h
    split at h
    · simp only [Bool.and_eq_true, decide_eq_true_eq] at h
      obtain ⟨rfl, h2⟩ := h
      obtain ⟨a, b, rfl, p1, p2, p3, _⟩ := els2 (sa.A _ h2)
      exact s_bin p1 p2 p3
    · cases h
  | una op =>
    refine Snd.ofE (ir := .ap (.una op) as) rfl rfl rfl fun e h => ?_
    have h : cUna op (ck as) ct e = true := h
    unfold cUna at h
    split at h
    · simp only [Bool.and_eq_true, decide_eq_true_eq] at h
      obtain ⟨rfl, h2⟩ := h
      obtain ⟨a, rfl, p1, _⟩ := els1 (sa.A _ h2)
      exact s_una p1
    · cases h
  | idx =>
    refine Snd.ofE (ir := .ap .idx as) rfl rfl rfl fun e h => ?_
    have h : cIdx (ck as) ct e = true := h
    unfold cIdx at h
    split at h
    · simp only [Bool.and_eq_true] at h
      obtain ⟨h1, h2⟩ := h
      obtain ⟨a, b, rfl, p1, p2, p3, _⟩ := els2 (sa.A _ h2)
      exact s_idx hu p1 p2 p3 h1
    · cases h
  | slc b1 b2 =>
    refine Snd.ofE (ir := .ap (.slc b1 b2) as) rfl rfl rfl fun e h => ?_
    have h : cSl b1 b2 (ck as) ct e = true := h
    unfold cSl at h
    split at h
    · split at h
      · obtain ⟨a, rfl, p1, _⟩ := els1 (sa.A _ h)
        exact s_slc00 p1
      · obtain ⟨a, b, rfl, p1, p2, p3, _⟩ := els2 (sa.A _ h)
        exact s_slc10 p1 p2 p3
      · obtain ⟨a, b, rfl, p1, p2, p3, _⟩ := els2 (sa.A _ h)
        exact s_slc01 p1 p2 p3
      · cases h
    · cases h
  | tup =>
    refine Snd.ofE (ir := .ap .tup as) rfl rfl rfl fun e h => ?_
    have h : cTup as (ck as) ct e = true := h
    unfold cTup at h
    split at h
    · rw [Bool.and_eq_true] at h
      exact s_tup (Els.pa (sa.A _ h.1)).1 (nil_of h.2)
    · cases h
  | ptp =>
    refine Snd.ofE (ir := .ap .ptp as) rfl rfl rfl fun e h => ?_
    have h : cTup as (ck as) ct e = true := h
    unfold cTup at h
    split at h
    · rw [Bool.and_eq_true] at h
      exact s_ptp (Els.pa (sa.A _ h.1)).1 (nil_of h.2)
    · cases h
  | isE =>
    refine Snd.ofT (ir := .ap .isE as) rfl rfl (fun e h => ?_) (fun e h => ?_)
    · unfold cIsE at h
      split at h
      · obtain ⟨a, rfl, p1, _⟩ := els1 (sa.A _ h)
        exact s_isE (by omega) p1
      · cases h
    · unfold cIsE at h
      split at h
      · obtain ⟨a, rfl, p1, _⟩ := els1 (sa.A _ h)
        exact t_isE (by omega) p1
      · cases h
  | dctD =>
    refine Snd.ofE (ir := .ap .dctD as) rfl rfl rfl fun e h => ?_
    have h : cDctD as ct e = true := h
    unfold cDctD at h
    split at h
    · rw [Bool.and_eq_true, decide_eq_true_eq] at h
      obtain ⟨g1, g2, g3, g4⟩ := prs_ok ok h.1
      exact s_dctD g1 g2 g3 (fun e => nomatch e) h.2 g4
    · cases h
  | signs => exact Snd.ofE (ir := .ap .signs as) rfl rfl rfl fun e h => nomatch h
  | fstr =>
    refine Snd.ofE (ir := .ap .fstr as) rfl rfl rfl fun e h => ?_
    have h : cFstr as ct e = true := h
    unfold cFstr at h
    split at h
    · obtain ⟨g1, g2⟩ := fp_ok ok _ _ h
      exact s_fstr g1 g2
    · cases h
  | stp lo =>
    refine Snd.ofE (ir := .ap (.stp lo) as) rfl rfl rfl fun e h => ?_
    have h : cStp lo (ck as) ct e = true := h
    unfold cStp at h
    split at h
    · split at h
      · obtain ⟨a, b, rfl, p1, p2, p3, _⟩ := els2 (sa.A _ h)
        exact s_stp po_none (fun _ _ _ q => q) p1 p2 p3
      · cases h
    · rw [Bool.and_eq_true, decide_eq_true_eq] at h
      obtain ⟨h1, h2⟩ := h
      subst h1
      obtain ⟨a, b, rfl, p1, p2, p3, _⟩ := els2 (sa.A _ h2)
      exact s_stp (po_some pe_int) (fun _ _ _ q => ⟨_, rfl, q⟩) p1 p2 p3
    · rw [Bool.and_eq_true, decide_eq_true_eq] at h
      obtain ⟨h1, h2⟩ := h
      subst h1
      obtain ⟨a, b, rfl, p1, p2, p3, _⟩ := els2 (sa.A _ h2)
      exact s_stp (po_some (pe_un un_neg pe_int)) (fun _ _ _ q => ⟨_, rfl, _, rfl, q⟩) p1 p2 p3
    · cases h
  | kslc =>
    refine Snd.ofE (ir := .ap .kslc as) rfl rfl rfl fun e h => ?_
    have h : cKslc (ck as) ct e = true := h
    unfold cKslc at h
    split at h
    · obtain ⟨a, b, rfl, p1, p2, p3, _⟩ := els2 (sa.A _ h)
      exact s_kslc p1 p2 p3
    · cases h
  | lst =>
    refine Snd.ofE (ir := .ap .lst as) rfl rfl rfl fun e h => ?_
    have h : cLst as (ck as) ct e = true := h
    unfold cLst at h
    split at h
    · rw [Bool.and_eq_true] at h
      exact s_lst (Els.pa (sa.A _ h.1)).1 (nil_of h.2)
    · cases h
  | «bif» f =>
    refine Snd.ofE (ir := .ap (.bif f) as) rfl rfl rfl fun e h => ?_
    have h : cBif f (ck as) ct e = true := h
    unfold cBif at h
    split at h
    · simp only [Bool.and_eq_true, decide_eq_true_eq] at h
      obtain ⟨h1, h2, h3⟩ := h
      obtain ⟨q1, q2⟩ := Els.pa (sa.A _ h3)
      exact s_bif h1 ok.calm ok.guards ok.units (ok.gl h2) (by rw [h1]; exact ok.blt _ (bif_in f)) q1 q2
    · cases h
  | isi t =>
    refine Snd.ofE (ir := .ap (.isi t) as) rfl rfl rfl fun e h => ?_
    have h : cIsi t (ck as) ct e = true := h
    unfold cIsi at h
    split at h
    · simp only [Bool.and_eq_true, decide_eq_true_eq] at h
      obtain ⟨h1, h2, h3, h4, h5⟩ := h
      obtain ⟨a, rfl, p1, p2⟩ := els1 (sa.A _ h5)
      exact s_isi h1 h2 (ok.gl h3) (by rw [h1]; exact ok.blt _ (by decide +kernel)) (ok.gl h4) (by rw [h2]; exact ok.blt _ (ty_in t)) p1 p2
    · cases h
  | rev z =>
    refine Snd.ofE (ir := .ap (.rev z) as) rfl rfl rfl fun e h => ?_
    have h : cRev z (ck as) ct e = true := h
    unfold cRev at h
    split at h
    · split at h
      · obtain ⟨a, rfl, p1, _⟩ := els1 (sa.A _ h)
        exact s_rev po_none (fun _ _ _ q => q) p1
      · obtain ⟨a, rfl, p1, _⟩ := els1 (sa.A _ h)
        exact s_rev (po_some pe_int) (fun _ _ _ q => ⟨0, rfl, q⟩) p1
      · cases h
    · cases h
  | dctE t =>
    refine Snd.ofE (ir := .ap (.dctE t) as) rfl rfl rfl fun e h => ?_
    have h : cDctE as ct e = true := h
    unfold cDctE at h
    split at h
    · have : as = .nil := by cases as <;> first | rfl | cases h
      subst this
      exact s_dctE
    · cases h
  | lenset =>
    refine Snd.ofE (ir := .ap .lenset as) rfl rfl rfl fun e h => ?_
    have h : cLenSet (ck as) ct e = true := h
    unfold cLenSet at h
    split at h
    · simp only [Bool.and_eq_true, decide_eq_true_eq] at h
      obtain ⟨h1, h2, h3, h4, h5⟩ := h
      obtain ⟨a, rfl, p1, p2⟩ := els1 (sa.A _ h5)
      subst h1
      subst h2
      exact s_lenset ok.calm (ok.gl h3) (ok.blt _ (by decide +kernel)) (ok.gl h4) (ok.blt _ (by decide +kernel)) p1 p2
    · cases h
  | rng tp =>
    refine Snd.ofE (ir := .ap (.rng tp) as) rfl rfl rfl fun e h => ?_
    have h : cRng tp (ck as) ct e = true := h
    unfold cRng at h
    split at h
    · simp only [Bool.and_eq_true, decide_eq_true_eq] at h
      obtain ⟨h1, h2, h3, h4, h5⟩ := h
      obtain ⟨a, rfl, p1, p2⟩ := els1 (sa.A _ h5)
      subst h2
      exact s_rng h1 ok.calm (ok.gl h3) (by rw [h1]; cases tp <;> exact ok.blt _ (by decide +kernel)) (ok.gl h4) (ok.blt _ (by decide +kernel)) p1 p2
    · cases h
theorem k_meth {m : ME} {o as : IR} (ok : CtxOk X ct) (so : Snd X ct o) (sa : Snd X ct as) : Snd X ct (.meth m o as) := Snd.ofE rfl rfl rfl fun e h => by
  have h : cMeth m o as (ck o) (ck as) ct e = true := h
  unfold cMeth at h
  split at h
  · simp only [Bool.and_eq_true, decide_eq_true_eq] at h
    obtain ⟨h1, h2, h3, h4, h5, h6⟩ := h
    subst h1
    split at h6
    · split at h6
      · cases as <;> first | (cases h6; done) | skip
        exact s_pop0 (so.L _ h2) h3 h4 h5
      · cases h6
    · simp only [Bool.and_eq_true, decide_eq_true_eq] at h6
      obtain ⟨g1, g2, g3⟩ := h6
      obtain ⟨q1, q2⟩ := Els.pa (sa.A _ g1)
      exact s_meth ok.units (so.L _ h2) q1 q2 h3 (safe_of g2) h4 h5 g3
  · cases h
theorem k_call {x : Str} {sp : Spec} {as : IR} (ok : CtxOk X ct) (cl : Callee X x sp) (sa : Snd X ct as) : Snd X ct (.call x sp as) := Snd.ofE rfl rfl rfl fun e h => by
  have h : cCall x as (ck as) ct e = true := h
  unfold cCall at h
  split at h
  · simp only [Bool.and_eq_true, decide_eq_true_eq, Bool.not_eq_true'] at h
    obtain ⟨rfl, h2, h3, h4, h5⟩ := h
    obtain ⟨q1, q2⟩ := Els.pa (sa.A _ h4)
    exact s_call (ok.gl h2) ok.guards h3 cl q1 q2 h5
  · cases h
theorem bool_inv {o o' : BoolOp} {f : Ct → Expr → Bool} {g : Ct → BoolOp → List Expr → Bool} {es : List Expr} (h : cBool o f g ct o' es = true) : ∃ x y r, es = x :: y :: r ∧ o' = o ∧ f ct x = true ∧ g ct o (y :: r) = true := by
  unfold cBool at h
  split at h
  · simp only [Bool.and_eq_true, decide_eq_true_eq] at h
    exact ⟨_, _, _, rfl, h.1, h.2.1, h.2.2⟩
  · cases h
theorem bo_inv {f : Ct → BoolOp → List Expr → Bool} {e : Expr} (h : cBO f ct e = true) : ∃ o es p, e = .BoolOp o es p ∧ f ct o es = true := by
  unfold cBO at h
  split at h
  · exact ⟨_, _, _, rfl, h⟩
  · cases h
theorem k_bool {o : BoolOp} {ir a b : IR} (e : ck ir = ckB o (ck a) (ck b)) (pl : isPlace ir = false) (sa : Snd X ct a) (sb : Snd X ct b)
    (hE : ∀ x y r p, PE X x (tE X.K ct.N.length a) → PE X (.BoolOp o (y :: r) p) (tE X.K ct.N.length b) → PE X (.BoolOp o (x :: y :: r) p) (tE X.K ct.N.length ir))
    (hT : ∀ x y r p, PT X x (tT X.K ct.N.length a) → PW X (.BoolOp o (y :: r) p) (tT X.K ct.N.length b) → PW X (.BoolOp o (x :: y :: r) p) (tT X.K ct.N.length ir)) : Snd X ct ir := by
  have cE : ∀ o' es p, cBool o (ck a).E (ck b).B ct o' es = true → PE X (.BoolOp o' es p) (tE X.K ct.N.length ir) := fun o' es p h => by
    obtain ⟨x, y, r, rfl, rfl, h1, h2⟩ := bool_inv h
    exact hE x y r p (sa.E _ h1) (sb.B _ _ _ h2)
  have cT : ∀ o' es p, cBool o (ck a).T (ck b).BT ct o' es = true → PW X (.BoolOp o' es p) (tT X.K ct.N.length ir) := fun o' es p h => by
    obtain ⟨x, y, r, rfl, rfl, h1, h2⟩ := bool_inv h
    exact hT x y r p (sa.T _ h1) (sb.BT _ _ _ h2)
  have E : ∀ x, cBO (cBool o (ck a).E (ck b).B) ct x = true → PE X x (tE X.K ct.N.length ir) := fun x h => by
    obtain ⟨o', es, p, rfl, h⟩ := bo_inv h
    exact cE _ _ _ h
  have T : ∀ x, cBO (cBool o (ck a).T (ck b).BT) ct x = true → PT X x (tT X.K ct.N.length ir) := fun x h => by
    obtain ⟨o', es, p, rfl, h⟩ := bo_inv h
    exact (cT _ _ _ h).pt
  constructor
  · rw [e]; exact E
  · rw [e]; exact fun x h => s_val (E x h) pl
  · rw [e]; exact fun _ q => nomatch q
  · rw [e]; exact fun _ q => nomatch q
  · rw [e]; exact T
  · rw [e]; intro o' es p h
    have h : (cBool o (ck a).E (ck b).B ct o' es || one (cBO (cBool o (ck a).E (ck b).B)) ct o' es) = true := h
    rw [Bool.or_eq_true] at h
    rcases h with h | h
    · exact cE _ _ _ h
    · obtain ⟨x, rfl, h⟩ := one_inv h; exact pe_one (E x h)
  · rw [e]; intro o' es p h
    have h : (cBool o (ck a).T (ck b).BT ct o' es || one (cBO (cBool o (ck a).T (ck b).BT)) ct o' es) = true := h
    rw [Bool.or_eq_true] at h
    rcases h with h | h
    · exact cT _ _ _ h
    · obtain ⟨x, rfl, h⟩ := one_inv h; exact pw_one (T x h)
  · rw [e]; exact fun _ _ q => nomatch q
  · rw [e]; exact fun _ q => nomatch q
  · rw [e]; exact fun _ _ q => nomatch q
  · rw [e]; exact fun _ _ q => nomatch q
theorem k_not {a : IR} (sa : Snd X ct a) : Snd X ct (.lnot a) := Snd.ofT rfl rfl (fun e h => by
  unfold cNot at h
  split at h
  · exact s_not (sa.E _ h)
  · cases h) fun e h => by
  unfold cNot at h
  split at h
  · exact t_not (sa.T _ h)
  · cases h
theorem k_ite {c a b : IR} (sc : Snd X ct c) (sa : Snd X ct a) (sb : Snd X ct b) : Snd X ct (.ite c a b) := Snd.ofE rfl rfl rfl fun e h => by
  have h : cIte (ck c) (ck a) (ck b) ct e = true := h
  unfold cIte at h
  split at h
  · simp only [Bool.and_eq_true] at h
    exact s_ite (sc.T _ h.1) (sa.E _ h.2.1) (sb.E _ h.2.2)
  · cases h
theorem k_chn {a r : IR} {ops : List CmpOp} (sa : Snd X ct a) (sr : Snd X ct r) : Snd X ct (.chn a ops r) := Snd.ofT rfl rfl (fun e h => by
  unfold cChn at h
  split at h
  · simp only [Bool.and_eq_true, decide_eq_true_eq, Bool.not_eq_true'] at h
    obtain ⟨rfl, h2, h3, h4, h5⟩ := h
    exact s_chn (sa.E _ h2) (sr.C _ h3) h4 h5
  · cases h) fun e h => by
  unfold cChn at h
  split at h
  · simp only [Bool.and_eq_true, decide_eq_true_eq, Bool.not_eq_true'] at h
    obtain ⟨rfl, h2, h3, h4, h5⟩ := h
    exact t_chn (sa.E _ h2) (sr.C _ h3) h4 h5
  · cases h
theorem srcs_mem {it : IR} {i : Nat} (h : srcs it i = true) : i ∈ srcL it := by
  cases it <;> first | (cases h; done) | skip
  case itS a => rw [srcs] at h; rw [srcL, Option.mem_toList]; simpa using h
  case itE a => rw [srcs] at h; rw [srcL, Option.mem_toList]; simpa using h
  case itZ a b =>
    rw [srcs, Bool.or_eq_true] at h
    rw [srcL, List.mem_append, Option.mem_toList, Option.mem_toList]
    exact h.imp (fun h => by simpa using h) (fun h => by simpa using h)
theorem yes_cst {c : IR} (h : isYes c = true) : c = .cst (.bl true) := by
  unfold isYes at h
  split at h
  · rfl
  · cases h
theorem tT_yes {K : PySem.W.Frag} {N : Nat} {σ : L2.St} {H : Hp} {Q : Bool → Hp → Prop} (w : tT K N (.cst (.bl true)) σ H Q) : tYes σ H Q := by
  obtain ⟨ρ, Z, E, W, F, h, q, S, w, k⟩ := w
  obtain ⟨b, e, w⟩ : ∃ b, tru (.bl true) = some b ∧ q b ρ := w
  cases e
  exact k true _ _ _ _ _ _ S (Out.refl S) w
/-- a comprehension's parts -/
theorem lc_parts {own : List Nat} {tg it cond elt : IR} (ok : CtxOk X ct) (hg : Ih tg) (hi : Snd X ct it) (hc : Ih cond) (he : Ih elt) (kg : Known (GlbX X) (Callee X) tg) (kc : Known (GlbX X) (Callee X) cond) (ke : Known (GlbX X) (Callee X) elt) {e : Expr} (h : cLc own tg it cond elt (ck tg) (ck it) (ck cond) (ck elt) ct e = true) :
    ∃ ex tgt iter ifs scope p, e = .ListComp ex [⟨tgt, iter, ifs, 0⟩] scope p ∧ PI X tgt iter (tI X.K ct.N.length it) ∧ BlkOk X.N X.env.scope scope (ownL ct own) ∧
      (∀ (s : Shared) (H : Hp) (C : Addr) (cl : List (Str × Addr)) (fp : List Addr), PG (X.blk s H scope (compEnvC scope cl C X.env) fp) tgt (gT X.K tg)) ∧
      (∀ (s : Shared) (H : Hp) (C : Addr) (cl : List (Str × Addr)) (fp : List Addr), PTs (X.blk s H scope (compEnvC scope cl C X.env) fp) ifs (tT X.K ct.N.length cond)) ∧
      (∀ (s : Shared) (H : Hp) (C : Addr) (cl : List (Str × Addr)) (fp : List Addr), PE (X.blk s H scope (compEnvC scope cl C X.env) fp) ex (tE X.K ct.N.length elt)) ∧
      (∀ x, foldedSetIterable iter X.env x = pure x) ∧ ∀ σ H Q, tE X.K ct.N.length (.lc own tg it cond elt) σ H Q → tLc (tI X.K ct.N.length it) (gT X.K tg) (tT X.K ct.N.length cond) (tE X.K ct.N.length elt) ((ownL ct own).map (·.2)) σ H Q := by
  unfold cLc at h
  split at h
  · rename_i ex tgt iter ifs scope p
    simp only [Bool.and_eq_true] at h
    obtain ⟨h1, h2, h3, h4, h5, h6, h7, h8, h9⟩ := h
    have bk := blkOk_by h1
    have cx := fun (s : Shared) (H : Hp) (C : Addr) (cl : List (Str × Addr)) (fp : List Addr) => ok.blk bk.kind s H C cl fp
    refine ⟨ex, tgt, iter, ifs, scope, p, rfl, hi.I _ _ h6, by rw [ok.N, ok.sc]; exact bk, fun s H C cl fp => ?_, fun s H C cl fp => ?_, fun s H C cl fp => ?_, notSet_ok h5, fun σ H Q w => ?_⟩
    · exact ((hg _ _ (cx s H C cl fp) kg).G _ h7).1
    · have sc := hc _ _ (cx s H C cl fp) kc
      split at h8
      · rw [yes_cst h8]
        exact ⟨fun pins s σ H Q I w => pts_nil.run pins s σ H Q I (tT_yes w)⟩
      · exact pts_one (sc.T _ h8)
      · cases h8
    · exact (he _ _ (cx s H C cl fp) ke).E _ h9
    · rw [ownL_map]
      have g := ((hg _ _ (cx X.s_0 X.H_0 0 [] []) kg).G _ h7).2
      refine t_lc (fun i m => by simpa using List.all_eq_true.mp h2 i m) (fun i t => by simpa using List.all_eq_true.mp h3 i (g i t).1) (fun i t => ?_) w
      have := List.all_eq_true.mp h4 i (srcs_mem t)
      simpa using this
  · cases h
end
section
variable {X : Cx} {ct : Ct}
theorem k_lc {own : List Nat} {tg it cond elt : IR} (ok : CtxOk X ct) (hg : Ih tg) (hi : Snd X ct it) (hc : Ih cond) (he : Ih elt) (kg : Known (GlbX X) (Callee X) tg) (kc : Known (GlbX X) (Callee X) cond) (ke : Known (GlbX X) (Callee X) elt) : Snd X ct (.lc own tg it cond elt) := Snd.ofE rfl rfl rfl fun e h => by
  obtain ⟨ex, tgt, iter, ifs, scope, p, rfl, h1, h2, h3, h4, h5, h6, h7⟩ := lc_parts ok hg hi hc he kg kc ke h
  exact pe_weak (pe_lc ok.calm ok.ndX h1 h2 h3 h4 h5 h6) h7
theorem k_fzv {a : IR} (sa : Snd X ct a) : Snd X ct (.fzv a) := Snd.ofE rfl rfl rfl fun e h => by
  exact s_fzv (sa.E _ h)
theorem k_itS {a : IR} (sa : Snd X ct a) (sb : ∀ k as, a = .ap k as → Snd X ct as) : Snd X ct (.itS a) := by
  have go : ck (.itS a) = { I := cItS (ck a) } → Snd X ct (.itS a) := fun e => Snd.ofI e fun tg e h => s_itS (sa.L _ h)
  cases a with
  | ap k as =>
    cases k with
    | signs =>
      exact Snd.ofI rfl fun tg e h => by
        obtain ⟨a, rfl, p1, _⟩ := els1 ((sb _ _ rfl).A _ h)
        exact s_itC p1
    | _ => exact go rfl
  | _ => exact go rfl
theorem k_sUI {a i e : IR} {op : Operator} : Snd X ct (.sUI a i op e) := by
  have go : ck (.sUI a i op e) = {} → Snd X ct (.sUI a i op e) := fun e => Snd.ofS (f := fun _ _ => false) (by rw [e]) (fun _ _ h => nomatch h)
  have no : ∀ {K : PySem.W.Frag} {N : Nat} {D : Ends} {σ : L2.St} {H : Hp}, tS K N (.sUI a i op e) D σ H → False := fun ⟨ρ, Z, E, W, F, P, S, w, k⟩ => w
  cases a with
  | nil =>
    cases i with
    | nil =>
      cases e with
      | nil => exact Snd.ofS rfl fun _ st _ => ⟨fun pins s σ H D I h => (no h).elim⟩
      | _ => exact go rfl
    | _ => exact go rfl
  | _ => exact go rfl
theorem k_itR {as : IR} (ok : CtxOk X ct) (sa : Snd X ct as) : Snd X ct (.itR as) := Snd.ofI rfl fun tg e h => by
  have h : cItR (ck as) ct tg e = true := h
  unfold cItR at h
  split at h
  · simp only [Bool.and_eq_true, decide_eq_true_eq] at h
    obtain ⟨h1, h2, h3⟩ := h
    obtain ⟨a, rfl, p1, p2⟩ := els1 (sa.A _ h3)
    exact s_itR1 h1 (ok.gl h2) (by rw [h1]; exact ok.blt _ (by decide +kernel)) p1 p2
  · simp only [Bool.and_eq_true, decide_eq_true_eq] at h
    obtain ⟨h1, h2, h3⟩ := h
    obtain ⟨a, b, rfl, p1, p2, p3, p4, p5⟩ := els2 (sa.A _ h3)
    refine s_itR2 h1 (ok.gl h2) (by rw [h1]; exact ok.blt _ (by decide +kernel)) p1 p2 p4 p5 fun i e => ?_
    rcases p3 i e with q | q
    · exact .inl q
    · rw [tch, Bool.or_eq_false_iff] at q; exact .inr q.1
  · simp only [Bool.and_eq_true, decide_eq_true_eq] at h
    obtain ⟨h1, h2, n1, n2, n3, h3⟩ := h
    obtain ⟨a, b, c, rfl, p1, p2, p3, p4, p5⟩ := els3 (sa.A _ h3)
    exact s_itR3 h1 (ok.gl h2) (by rw [h1]; exact ok.blt _ (by decide +kernel)) p1 p2 p3 n1 n2 n3 p4 p5
  · cases h
theorem tupE {e : Expr} (h : isTupE e = true) : ∃ es k p, e = .Tuple es k p := by
  cases e <;> first | (cases h; done) | exact ⟨_, _, _, rfl⟩
theorem k_itE {a : IR} (ok : CtxOk X ct) (sa : Snd X ct a) : Snd X ct (.itE a) := Snd.ofI rfl fun tg e h => by
  have h : cItE (ck a) ct tg e = true := h
  unfold cItE at h
  split at h
  · simp only [Bool.and_eq_true, decide_eq_true_eq] at h
    obtain ⟨h1, h2, h3, h4, h5⟩ := h
    obtain ⟨es, k, p, rfl⟩ := tupE h3
    exact s_itE h1 (ok.gl h2) (by rw [h1]; exact ok.blt _ (by decide +kernel)) (sa.L _ h4) h5
  · cases h
theorem k_itZ {a b : IR} (ok : CtxOk X ct) (sa : Snd X ct a) (sb : Snd X ct b) : Snd X ct (.itZ a b) := Snd.ofI rfl fun tg e h => by
  have h : cItZ a b (ck a) (ck b) ct tg e = true := h
  unfold cItZ at h
  split at h
  · simp only [Bool.and_eq_true, decide_eq_true_eq] at h
    obtain ⟨h1, h2, h3, h4, h5, h6, h7, h8⟩ := h
    obtain ⟨es, k, p, rfl⟩ := tupE h3
    exact s_itZ h1 (ok.gl h2) (by rw [h1]; exact ok.blt _ (by decide +kernel)) (sa.L _ h4) (sb.L _ h5) h6 h7 (safe_of h8)
  · cases h
theorem k_tn (i : Nat) (ok : CtxOk X ct) : Snd X ct (.tn i) := Snd.ofG rfl fun e h => by
  unfold cTn at h
  split at h
  · obtain ⟨h1, h2, h3⟩ := ok.put h
    refine ⟨pg_tn ok.ndX h1 h2, fun j t => ?_⟩
    rw [tch, beq_iff_eq] at t
    subst t
    exact ⟨List.mem_singleton.mpr rfl, h3⟩
  · cases h
theorem k_tt (is : List Nat) (ok : CtxOk X ct) : Snd X ct (.tt is) := Snd.ofG rfl fun e h => by
  unfold cTt at h
  split at h
  · obtain ⟨h1, h2⟩ := at_ok ok h
    refine ⟨pg_ttup ok.calm ok.ndX h1, fun j t => ?_⟩
    rw [tch, List.contains_iff_mem] at t
    exact ⟨t, h2 j t⟩
  · cases h
theorem emp {α : Type} {l : List α} (h : l.isEmpty = true) : l = [] := by cases l <;> first | rfl | cases h
theorem k_nil : Snd X ct .nil := Snd.ofACS rfl (fun es h => emp h) (fun es h => emp h) (fun _ ss h => by rw [emp h]; exact ss_nil)
theorem k_cons {a r : IR} (sa : Snd X ct a) (sr : Snd X ct r) : Snd X ct (.cons a r) := Snd.ofACS rfl (fun es h => by
  unfold cA at h
  split at h
  · simp only [Bool.and_eq_true] at h
    exact ⟨_, _, rfl, sa.L _ h.1, h.2.1, safe_of h.2.2.1, sr.A _ h.2.2.2⟩
  · cases h) (fun es h => by
  unfold cC at h
  split at h
  · simp only [Bool.and_eq_true] at h
    exact ⟨_, _, rfl, sa.E _ h.1, sr.C _ h.2⟩
  · cases h) (fun hp ss h => by
  unfold cSS at h
  split at h
  · simp only [Bool.and_eq_true] at h
    exact ss_cons (sa.S hp _ h.1) (sr.SS hp _ h.2)
  · cases h)
theorem k_sE {a : IR} (sa : Snd X ct a) : Snd X ct (.sE a) := Snd.ofS rfl fun hp st h => by
  unfold cSE at h
  split at h
  · rw [Bool.and_eq_true] at h; exact s_expr (sa.E _ h.1) h.2
  · cases h
theorem k_sRet {a : IR} (sa : Snd X ct a) : Snd X ct (.sRet a) := Snd.ofS rfl fun hp st h => by
  unfold cSRet at h
  split at h
  · exact s_ret (sa.E _ h)
  · cases h
theorem k_sRetN : Snd X ct .sRetN := Snd.ofS rfl fun hp st h => by
  unfold cSRetN at h
  split at h
  · exact s_retN
  · cases h
theorem k_sPass : Snd X ct .sPass := Snd.ofS rfl fun hp st h => by
  unfold cSPass at h
  split at h
  · exact s_pass
  · exact s_doc
  · cases h
theorem k_sBrk : Snd X ct .sBrk := Snd.ofS rfl fun hp st h => by
  unfold cSBrk at h
  split at h
  · exact s_brk
  · cases h
theorem k_sCnt : Snd X ct .sCnt := Snd.ofS rfl fun hp st h => by
  unfold cSCnt at h
  split at h
  · exact s_cnt
  · cases h
theorem k_sIf {c t e : IR} (sc : Snd X ct c) (s1 : Snd X ct t) (s2 : Snd X ct e) : Snd X ct (.sIf c t e) := Snd.ofS rfl fun hp st h => by
  unfold cSIf at h
  split at h
  · simp only [Bool.and_eq_true] at h
    exact s_if (sc.T _ h.1) (s1.SS hp _ h.2.1) (s2.SS hp _ h.2.2)
  · cases h
theorem k_sWh {c b : IR} (sc : Snd X ct c) (s1 : Snd X ct b) : Snd X ct (.sWh c b) := Snd.ofS rfl fun hp st h => by
  unfold cSWh at h
  split at h
  · simp only [Bool.and_eq_true] at h
    exact s_while hp (sc.T _ h.1) (s1.SS hp _ h.2)
  · cases h
theorem k_sFor {tg it b : IR} (ok : CtxOk X ct) (sg : Snd X ct tg) (si : Snd X ct it) (s1 : Snd X ct b) : Snd X ct (.sFor tg it b) := Snd.ofS rfl fun hp st h => by
  unfold cSFor at h
  split at h
  · simp only [Bool.and_eq_true] at h
    obtain ⟨h1, h2, h3, h4, h5⟩ := h
    obtain ⟨g1, g2⟩ := sg.G _ h2
    refine s_for hp ok.calm (si.I _ _ h1) g1 (s1.SS hp _ h3) (notSet_ok h4) (fun i t => ?_) fun i t => (g2 i t).2
    have := List.all_eq_true.mp h5 i (srcs_mem t)
    simpa using this
  · cases h
theorem k_sU {i : Nat} {op : Operator} {a : IR} (ok : CtxOk X ct) (sa : Snd X ct a) : Snd X ct (.sU i op a) := Snd.ofS rfl fun hp st h => by
  unfold cSU at h
  split at h
  · simp only [Bool.and_eq_true, decide_eq_true_eq] at h
    obtain ⟨h1, rfl, h3, h4⟩ := h
    obtain ⟨g1, g2, g3⟩ := ok.put h1
    exact s_aug ok.ndX g1 g2 (sa.E _ h4) h3 g3
  · cases h
theorem k_sI {as : IR} (ok : CtxOk X ct) (sa : Snd X ct as) : Snd X ct (.sI as) := Snd.ofS rfl fun hp st h => by
  unfold cSI at h
  split at h
  · simp only [Bool.and_eq_true, decide_eq_true_eq] at h
    obtain ⟨h1, h2, h3, h4⟩ := h
    obtain ⟨a, b, c, rfl, p1, p2, p3, p4, p5⟩ := els3 (sa.A _ h1)
    exact s_sub (by have := ok.units; omega) p1 p2 p3 p4 p5 h2 h3 h4
  · cases h
theorem ix_ok {x : IR} {e : Expr} (ok : CtxOk X ct) (h : cIx x ct e = true) : PE X e (tIx x) ∧ (∀ j, x = .rd j → j < ct.N.length) ∧ notSlice e = true := by
  unfold cIx at h
  split at h
  · split at h
    · obtain ⟨h1, h2⟩ := ok.slot h
      exact ⟨pe_tIx_rd h1, fun j e => by cases e; exact h2, rfl⟩
    · cases h
  · split at h
    · rw [decide_eq_true_eq] at h
      subst h
      exact ⟨pe_tIx_n, fun j e => (nomatch e), rfl⟩
    · cases h
  · split at h
    · rw [decide_eq_true_eq] at h
      subst h
      exact ⟨pe_tIx_neg, fun j e => (nomatch e), rfl⟩
    · cases h
  · cases h
theorem CtxOk.fk (ok : CtxOk X ct) : X.env.scope.kind = .function := by rw [ok.sc]; exact ok.kind
theorem lt_of_at {i : Nat} {x : Str} (h : ct.N[i]? = some x) : i < ct.N.length := (List.getElem?_eq_some_iff.mp h).1
theorem k_sP {is : List Nat} {as : IR} (ok : CtxOk X ct) (sa : Snd X ct as) : Snd X ct (.sP is as) := Snd.ofS rfl fun hp st h => by
  have ll : ∀ {x : Str}, loc1 ct x = true → X.env.scope.names.lookup x = some .local := fun h => by
    rw [ok.sc]; exact local_of h
  unfold cSP at h
  split at h
  · split at h
    · simp only [Bool.and_eq_true, decide_eq_true_eq] at h
      obtain ⟨h1, h2, h3, h4, h5, h6, h7⟩ := h
      exact s_par2 ok.calm ok.ndX (by rw [ok.N]; exact h1) (by rw [ok.N]; exact h2) h3 (lt_of_at h1) (lt_of_at h2) (ll h4) (ll h5) (Els.pa (sa.A _ h6)).1 (sw_par ok.fk (by rw [ok.sc]; exact h7))
    · cases h
  · split at h
    · simp only [Bool.and_eq_true, decide_eq_true_eq] at h
      obtain ⟨h1, h2, h3, h4, h5, h6, h7, h8, h9, h10, h11⟩ := h
      exact s_par3 ok.calm ok.ndX (by rw [ok.N]; exact h1) (by rw [ok.N]; exact h2) (by rw [ok.N]; exact h3) h4 h5 h6 (lt_of_at h1) (lt_of_at h2) (lt_of_at h3) (ll h7) (ll h8) (ll h9) (Els.pa (sa.A _ h10)).1 (sw_par ok.fk (by rw [ok.sc]; exact h11))
    · cases h
  · cases h
theorem k_sW {b : Nat} {i j : IR} (ok : CtxOk X ct) : Snd X ct (.sW b i j) := Snd.ofS rfl fun hp st h => by
  have h : cSW b i j ct st = true := h
  unfold cSW at h
  split at h
  · simp only [Bool.and_eq_true, decide_eq_true_eq] at h
    obtain ⟨h1, rfl, rfl, rfl, h5, h6, h7, h8, h9⟩ := h
    obtain ⟨a1, a2, a3⟩ := ix_ok ok h5
    obtain ⟨b1, b2, b3⟩ := ix_ok ok h6
    obtain ⟨c1, c2, c3⟩ := ix_ok ok h7
    obtain ⟨d1, d2, d3⟩ := ix_ok ok h8
    exact s_swap ok.calm (ok.slot (p := ⟨0, 0, 0, 0⟩) h1).2 (fun p => (ok.slot h1).1) a1 b1 c1 d1 a2 b2 a3 b3 c3 d3 (sw_par ok.fk (by rw [ok.sc]; exact h9))
  · cases h
/-- a store in one name -/
theorem s_set2 {a : IR} {ea : Expr} {i : Nat} {x : Str} {pos pos' : Pos} (hN : X.N.Nodup) (hi : X.N[i]? = some x) (hx : Stor X x) (h : PE X ea (tE X.K ct.N.length a)) (nc : swapsWith ea (some (.Name x pos')) pos.line X.env = pure false) (iN : i < ct.N.length) :
    PS X (.Assign [.Name x pos'] ea pos) (tS X.K ct.N.length (.sA (.tn i) a)) :=
  ps_weak (ps_set hN hi hx.1 h nc hx.2) fun D σ H w => asg_w (tg := .tn i) (fun j q => by rw [tch] at q; rw [← beq_iff_eq.mp q]; exact iN) w
theorem tn_inv {i : Nat} {x : Str} {p : Pos} (h : cTn i ct (.Name x p) = true) : ct.put i x = true := h
theorem kind_b {x : Str} {env : PySem.Env} : (env.kindOf x == some .local) = isLocal (env.scope.names.lookup x) := by
  show (env.scope.names.lookup x == some .local) = _
  cases env.scope.names.lookup x with
  | none => rfl
  | some k => cases k <;> rfl
theorem k_sA {tg a : IR} (ok : CtxOk X ct) (sg : Snd X ct tg) (sa : Snd X ct a)
    (lc : ∀ own tg' it cond elt, a = .lc own tg' it cond elt → ∀ e, (ck a).E ct e = true → ∃ ex tgt iter ifs scope p, e = .ListComp ex [⟨tgt, iter, ifs, 0⟩] scope p ∧ PI X tgt iter (tI X.K ct.N.length it) ∧ BlkOk X.N X.env.scope scope (ownL ct own) ∧
      (∀ (s : Shared) (H : Hp) (C : Addr) (cl : List (Str × Addr)) (fp : List Addr), PG (X.blk s H scope (compEnvC scope cl C X.env) fp) tgt (gT X.K tg')) ∧
      (∀ (s : Shared) (H : Hp) (C : Addr) (cl : List (Str × Addr)) (fp : List Addr), PTs (X.blk s H scope (compEnvC scope cl C X.env) fp) ifs (tT X.K ct.N.length cond)) ∧
      (∀ (s : Shared) (H : Hp) (C : Addr) (cl : List (Str × Addr)) (fp : List Addr), PE (X.blk s H scope (compEnvC scope cl C X.env) fp) ex (tE X.K ct.N.length elt)) ∧
      (∀ x, foldedSetIterable iter X.env x = pure x) ∧ ∀ σ H Q, tE X.K ct.N.length (.lc own tg' it cond elt) σ H Q → tLc (tI X.K ct.N.length it) (gT X.K tg') (tT X.K ct.N.length cond) (tE X.K ct.N.length elt) ((ownL ct own).map (·.2)) σ H Q)
    (isl : isLcI a = true → ∃ own tg' it cond elt, a = .lc own tg' it cond elt) : Snd X ct (.sA tg a) := Snd.ofS rfl fun hp st h => by
  unfold cSA at h
  split at h
  · rename_i x p e q
    split at h
    · rename_i i
      simp only [Bool.and_eq_true, Bool.or_eq_true] at h
      obtain ⟨h1, h2, h3⟩ := h
      obtain ⟨g1, g2, g3⟩ := ok.put (tn_inv (p := p) h1)
      rcases h3 with h3 | h3
      · exact s_set ok.ndX g1 g2 (sa.E _ h2) h3 g3
      · obtain ⟨own, tg', it, cond, elt, rfl⟩ := isl h3.2
        obtain ⟨ex, tgt, iter, ifs, scope, pp, rfl, p1, p2, p3, p4, p5, p6, p7⟩ := lc _ _ _ _ _ rfl e h2
        have hb : X.env.blockKind = .function := by unfold Env.blockKind; rw [ok.fk]; rfl
        cases sw : swB ct x p (.ListComp ex [⟨tgt, iter, ifs, 0⟩] scope pp) with
        | true =>
          unfold swB at sw
          simp only [Bool.and_eq_true, Bool.not_eq_true'] at sw
          have lx : X.env.scope.names.lookup x = some .local := by rw [ok.sc]; exact local_of sw.1
          refine ps_weak (ps_setLc ok.calm ok.ndX g1 lx (sw_true ok.fk lx sw.2.1 sw.2.2) p1 p2 p3 p4 p5 p6) fun D σ H w => ?_
          exact p7 _ _ _ (asg_w (tg := .tn i) (fun j q => by rw [tch] at q; rw [← beq_iff_eq.mp q]; exact g3) w)
        | false =>
          refine s_set2 ok.ndX g1 g2 (sa.E _ h2) ?_ g3
          unfold swB at sw
          unfold swapsWith
          have hk : (X.env.kindOf x == some .local) = isLocal (ct.sc.names.lookup x) := by rw [kind_b, ok.sc]
          show (pure (X.env.blockKind == .function && X.env.kindOf x == some .local && p.line == pp.line && !(scope.names.any fun (n, k) => n == x && (k == .local || k == .cell))) : Sem Bool) = pure false
          rw [hb, hk]
          have e0 : (ScopeKind.function == ScopeKind.function) = true := by decide
          have sw : (isLocal (ct.sc.names.lookup x) && ((p.line == pp.line) && !(scope.names.any fun (n, k) => n == x && (k == .local || k == .cell)))) = false := sw
          rw [e0, Bool.true_and, Bool.and_assoc, sw]
    · cases h
  · rename_i es n p e q
    split at h
    · rename_i is
      simp only [Bool.and_eq_true, Bool.or_eq_true] at h
      obtain ⟨h1, h2, h3, h4⟩ := h
      obtain ⟨g1, g2⟩ := sg.G _ h1
      refine s_asgT g1 (sa.E _ h2) h3 ?_ fun i m => (g2 i (by rw [tch]; exact List.contains_iff_mem.mpr m)).2
      rcases h4 with h4 | h4
      · exact no_pair h4
      · split at h4
        · rw [decide_eq_true_eq] at h4
          exact sw_par ok.fk (by rw [ok.sc]; exact h4)
        · cases h4
    · cases h
  · cases h
theorem lc_only {a : IR} (l : isLcI a = true) : ∃ own tg' it cond elt, a = .lc own tg' it cond elt := by
  cases a <;> first | exact ⟨_, _, _, _, _, rfl⟩ | cases l
def LcI (ir : IR) : Prop := (∀ own tg it cond elt, ir = .lc own tg it cond elt → Ih tg ∧ Ih it ∧ Ih cond ∧ Ih elt) ∧ ∀ k as, ir = .ap k as → Ih as
theorem snd2 (ir : IR) : Ih ir ∧ LcI ir := by
  induction ir with
  | cst d => exact ⟨fun X ct ok kn => k_cst d ok, ⟨(fun _ _ _ _ _ e => nomatch e), (fun _ _ e => nomatch e)⟩⟩
  | glb x d => exact ⟨fun X ct ok kn => k_glb x d ok kn, ⟨(fun _ _ _ _ _ e => nomatch e), (fun _ _ e => nomatch e)⟩⟩
  | rd i => exact ⟨fun X ct ok kn => k_rd i ok, ⟨(fun _ _ _ _ _ e => nomatch e), (fun _ _ e => nomatch e)⟩⟩
  | mv i => exact ⟨fun X ct ok kn => k_mv i ok, ⟨(fun _ _ _ _ _ e => nomatch e), (fun _ _ e => nomatch e)⟩⟩
  | fr i => exact ⟨fun X ct ok kn => k_fr i ok, ⟨(fun _ _ _ _ _ e => nomatch e), (fun _ _ e => nomatch e)⟩⟩
  | fzv a h => exact ⟨fun X ct ok kn => k_fzv (h.1 X ct ok kn), ⟨(fun _ _ _ _ _ e => nomatch e), (fun _ _ e => nomatch e)⟩⟩
  | br i => exact ⟨fun X ct ok kn => k_br i ok, ⟨(fun _ _ _ _ _ e => nomatch e), (fun _ _ e => nomatch e)⟩⟩
  | plc b x h1 h2 => exact ⟨fun X ct ok kn => k_plc (h1.1 X ct ok kn.1) (h2.1 X ct ok kn.2), ⟨(fun _ _ _ _ _ e => nomatch e), (fun _ _ e => nomatch e)⟩⟩
  | slc a lo hi h1 h2 h3 => exact ⟨fun X ct ok kn => k_slc (h1.1 X ct ok kn.1) (h2.1 X ct ok kn.2.1) (h3.1 X ct ok kn.2.2), ⟨(fun _ _ _ _ _ e => nomatch e), (fun _ _ e => nomatch e)⟩⟩
  | ap k as h => exact ⟨fun X ct ok kn => k_ap ok (h.1 X ct ok kn), ⟨fun _ _ _ _ _ e => (nomatch e), fun _ _ e => by cases e; exact h.1⟩⟩
  | meth m o as h1 h2 => exact ⟨fun X ct ok kn => k_meth ok (h1.1 X ct ok kn.1) (h2.1 X ct ok kn.2), ⟨(fun _ _ _ _ _ e => nomatch e), (fun _ _ e => nomatch e)⟩⟩
  | call x sp as h => exact ⟨fun X ct ok kn => k_call ok kn.1 (h.1 X ct ok kn.2), ⟨(fun _ _ _ _ _ e => nomatch e), (fun _ _ e => nomatch e)⟩⟩
  | land a b h1 h2 => exact ⟨fun X ct ok kn => k_bool rfl rfl (h1.1 X ct ok kn.1) (h2.1 X ct ok kn.2) (fun _ _ _ _ p q => s_and p q) (fun _ _ _ _ p q => t_and p q), ⟨(fun _ _ _ _ _ e => nomatch e), (fun _ _ e => nomatch e)⟩⟩
  | lor a b h1 h2 => exact ⟨fun X ct ok kn => k_bool rfl rfl (h1.1 X ct ok kn.1) (h2.1 X ct ok kn.2) (fun _ _ _ _ p q => s_or p q) (fun _ _ _ _ p q => t_or p q), ⟨(fun _ _ _ _ _ e => nomatch e), (fun _ _ e => nomatch e)⟩⟩
  | lnot a h => exact ⟨fun X ct ok kn => k_not (h.1 X ct ok kn), ⟨(fun _ _ _ _ _ e => nomatch e), (fun _ _ e => nomatch e)⟩⟩
  | ite c a b h1 h2 h3 => exact ⟨fun X ct ok kn => k_ite (h1.1 X ct ok kn.1) (h2.1 X ct ok kn.2.1) (h3.1 X ct ok kn.2.2), ⟨(fun _ _ _ _ _ e => nomatch e), (fun _ _ e => nomatch e)⟩⟩
  | chn a ops r h1 h2 => exact ⟨fun X ct ok kn => k_chn (h1.1 X ct ok kn.1) (h2.1 X ct ok kn.2), ⟨(fun _ _ _ _ _ e => nomatch e), (fun _ _ e => nomatch e)⟩⟩
  | lc own tg it cond elt h1 h2 h3 h4 => exact ⟨fun X ct ok kn => k_lc ok h1.1 (h2.1 X ct ok kn.2.1) h3.1 h4.1 kn.1 kn.2.2.1 kn.2.2.2, ⟨fun _ _ _ _ _ e => by cases e; exact ⟨h1.1, h2.1, h3.1, h4.1⟩, fun _ _ e => (nomatch e)⟩⟩
  | itS a h => exact ⟨fun X ct ok kn => k_itS (h.1 X ct ok kn) (fun k as e => h.2.2 k as e X ct ok (by subst e; exact kn)), ⟨(fun _ _ _ _ _ e => nomatch e), (fun _ _ e => nomatch e)⟩⟩
  | itR a h => exact ⟨fun X ct ok kn => k_itR ok (h.1 X ct ok kn), ⟨(fun _ _ _ _ _ e => nomatch e), (fun _ _ e => nomatch e)⟩⟩
  | itE a h => exact ⟨fun X ct ok kn => k_itE ok (h.1 X ct ok kn), ⟨(fun _ _ _ _ _ e => nomatch e), (fun _ _ e => nomatch e)⟩⟩
  | itZ a b h1 h2 => exact ⟨fun X ct ok kn => k_itZ ok (h1.1 X ct ok kn.1) (h2.1 X ct ok kn.2), ⟨(fun _ _ _ _ _ e => nomatch e), (fun _ _ e => nomatch e)⟩⟩
  | tn i => exact ⟨fun X ct ok kn => k_tn i ok, ⟨(fun _ _ _ _ _ e => nomatch e), (fun _ _ e => nomatch e)⟩⟩
  | tt is => exact ⟨fun X ct ok kn => k_tt is ok, ⟨(fun _ _ _ _ _ e => nomatch e), (fun _ _ e => nomatch e)⟩⟩
  | nil => exact ⟨fun X ct ok kn => k_nil, ⟨(fun _ _ _ _ _ e => nomatch e), (fun _ _ e => nomatch e)⟩⟩
  | cons a r h1 h2 => exact ⟨fun X ct ok kn => k_cons (h1.1 X ct ok kn.1) (h2.1 X ct ok kn.2), ⟨(fun _ _ _ _ _ e => nomatch e), (fun _ _ e => nomatch e)⟩⟩
  | sE e h => exact ⟨fun X ct ok kn => k_sE (h.1 X ct ok kn), ⟨(fun _ _ _ _ _ e => nomatch e), (fun _ _ e => nomatch e)⟩⟩
  | sA tg a h1 h2 =>
    refine ⟨fun X ct ok kn => ?_, ⟨(fun _ _ _ _ _ e => nomatch e), (fun _ _ e => nomatch e)⟩⟩
    refine k_sA ok (h1.1 X ct ok kn.1) (h2.1 X ct ok kn.2) (fun own tg' it cond elt e x hx => ?_) lc_only
    obtain ⟨g1, g2, g3, g4⟩ := h2.2.1 _ _ _ _ _ e
    subst e
    have kn := kn.2
    exact lc_parts ok g1 (g2 X ct ok kn.2.1) g3 g4 kn.1 kn.2.2.1 kn.2.2.2 hx
  | sP is as h => exact ⟨fun X ct ok kn => k_sP ok (h.1 X ct ok kn), ⟨(fun _ _ _ _ _ e => nomatch e), (fun _ _ e => nomatch e)⟩⟩
  | sI as h => exact ⟨fun X ct ok kn => k_sI ok (h.1 X ct ok kn), ⟨(fun _ _ _ _ _ e => nomatch e), (fun _ _ e => nomatch e)⟩⟩
  | sU i op e h => exact ⟨fun X ct ok kn => k_sU ok (h.1 X ct ok kn), ⟨(fun _ _ _ _ _ e => nomatch e), (fun _ _ e => nomatch e)⟩⟩
  | sUI a i op e _ _ _ => exact ⟨fun X ct ok kn => k_sUI, ⟨(fun _ _ _ _ _ e => nomatch e), (fun _ _ e => nomatch e)⟩⟩
  | sIf c t e h1 h2 h3 => exact ⟨fun X ct ok kn => k_sIf (h1.1 X ct ok kn.1) (h2.1 X ct ok kn.2.1) (h3.1 X ct ok kn.2.2), ⟨(fun _ _ _ _ _ e => nomatch e), (fun _ _ e => nomatch e)⟩⟩
  | sFor tg it b h1 h2 h3 => exact ⟨fun X ct ok kn => k_sFor ok (h1.1 X ct ok kn.1) (h2.1 X ct ok kn.2.1) (h3.1 X ct ok kn.2.2), ⟨(fun _ _ _ _ _ e => nomatch e), (fun _ _ e => nomatch e)⟩⟩
  | sWh c b h1 h2 => exact ⟨fun X ct ok kn => k_sWh (h1.1 X ct ok kn.1) (h2.1 X ct ok kn.2), ⟨(fun _ _ _ _ _ e => nomatch e), (fun _ _ e => nomatch e)⟩⟩
  | sRet e h => exact ⟨fun X ct ok kn => k_sRet (h.1 X ct ok kn), ⟨(fun _ _ _ _ _ e => nomatch e), (fun _ _ e => nomatch e)⟩⟩
  | sRetN => exact ⟨fun X ct ok kn => k_sRetN, ⟨(fun _ _ _ _ _ e => nomatch e), (fun _ _ e => nomatch e)⟩⟩
  | sPass => exact ⟨fun X ct ok kn => k_sPass, ⟨(fun _ _ _ _ _ e => nomatch e), (fun _ _ e => nomatch e)⟩⟩
  | sBrk => exact ⟨fun X ct ok kn => k_sBrk, ⟨(fun _ _ _ _ _ e => nomatch e), (fun _ _ e => nomatch e)⟩⟩
  | sCnt => exact ⟨fun X ct ok kn => k_sCnt, ⟨(fun _ _ _ _ _ e => nomatch e), (fun _ _ e => nomatch e)⟩⟩
  | sW b i j _ _ => exact ⟨fun X ct ok kn => k_sW ok, ⟨(fun _ _ _ _ _ e => nomatch e), (fun _ _ e => nomatch e)⟩⟩
theorem snd (ir : IR) : Ih ir := (snd2 ir).1
end
/-! ### from a body to a def -/
def backA (ir : IR) (n : Nat) (ρ : Env) : List D := (List.range n).map fun i => if asgd ir i = true then .un else gt ρ i
def postOf (ir : IR) (n : Nat) (post : D → List D → Prop) : Post := { nx := fun ρ => post .non (backA ir n ρ), rt := fun d ρ => post d (backA ir n ρ) }
section
variable {K : PySem.W.Frag} {Z : Addr → Prop} {H : Hp}
theorem RepL.at_ : ∀ {ds : List D} {vs : List V} {Ss : List (List Addr)} (i : Nat), RepL K Z H ds vs Ss → i < ds.length → ∃ v, vs[i]? = some v ∧ Rep K Z H (ds.getD i .un) v (Ss.getD i [])
  | d :: ds, _, _, i, ⟨v, ws, S, Us, rfl, rfl, r, t⟩, hi => by
    cases i with
    | zero => exact ⟨v, rfl, r⟩
    | succ i =>
      obtain ⟨u, h1, h2⟩ := RepL.at_ i t (by simpa using hi)
      exact ⟨u, by simpa using h1, by simpa using h2⟩
  | [], _, _, i, _, hi => by simp at hi
theorem RepL.lenS : ∀ {ds : List D} {vs : List V} {Ss : List (List Addr)}, RepL K Z H ds vs Ss → Ss.length = ds.length
  | [], _, _, ⟨_, e⟩ => by rw [e]; rfl
  | d :: ds, _, _, ⟨v, ws, S, Us, _, e, _, t⟩ => by rw [e, List.length_cons, List.length_cons, RepL.lenS t]
theorem flat_mem : ∀ {Ss : List (List Addr)} {i : Nat} {b : Addr}, b ∈ Ss.getD i [] → b ∈ Ss.flatten
  | S :: Ss, i, b, h => by
    rw [List.flatten_cons, List.mem_append]
    cases i with
    | zero => exact .inl (by simpa using h)
    | succ i => exact .inr (flat_mem (i := i) (by simpa using h))
  | [], i, b, h => by simp at h
theorem flat_one : ∀ {Ss : List (List Addr)} (i : Nat), Ss.flatten.Nodup → (Ss.getD i []).Nodup
  | S :: Ss, i, h => by
    rw [List.flatten_cons, List.nodup_append] at h
    cases i with
    | zero => simpa using h.1
    | succ i => simpa using flat_one i h.2.1
  | [], i, h => by simp
theorem flat_dj : ∀ {Ss : List (List Addr)} {i j : Nat} {b : Addr}, Ss.flatten.Nodup → b ∈ Ss.getD i [] → b ∈ Ss.getD j [] → i = j
  | S :: Ss, i, j, b, h, h1, h2 => by
    rw [List.flatten_cons, List.nodup_append] at h
    cases i with
    | zero => cases j with
      | zero => rfl
      | succ j => exact absurd rfl (h.2.2 b (by simpa using h1) b (flat_mem (i := j) (by simpa using h2)))
    | succ i => cases j with
      | zero => exact absurd rfl (h.2.2 b (by simpa using h2) b (flat_mem (i := i) (by simpa using h1)))
      | succ j => rw [flat_dj (i := i) (j := j) h.2.1 (by simpa using h1) (by simpa using h2)]
  | [], i, j, b, h, h1, h2 => by simp at h1
theorem entry {ds : List D} {vs : List V} {Ss : List (List Addr)} {m : Nat} (r : RepL K Z H ds vs Ss) (nd : Ss.flatten.Nodup) (nz : ∀ b ∈ Ss.flatten, ¬ Z b) (al : ∀ b, Z b → ∃ o, H b = some o) (hm : ds.length ≤ m) :
    St0 K m (ds ++ List.replicate (m - ds.length) .un) (vs.map some ++ List.replicate (m - vs.length) none) H Z (fun i => ds.getD i .un) (fun i => vs[i]?) (fun i => Ss.getD i []) m := by
  have lv : vs.length = ds.length := RepL.length r
  have lS := RepL.lenS r
  refine ⟨Nat.le_refl _, by simp; omega, by simp; omega, fun i hi => ?_, fun i hi => ?_, fun i hi => ?_, fun i => ?_, fun i => flat_one i nd, fun i j b h1 h2 => flat_dj nd h1 h2, fun i b h1 => nz b (flat_mem h1), al⟩
  · show ds.getD i .un = gt _ i
    unfold gt
    rw [List.getD_eq_getElem?_getD, List.getD_eq_getElem?_getD]
    by_cases h : i < ds.length
    · rw [List.getElem?_append_left h]
    · rw [List.getElem?_append_right (by omega), List.getElem?_eq_none (by omega), List.getElem?_replicate]
      split <;> rfl
  · by_cases h : i < vs.length
    · rw [List.getElem?_append_left (by simpa using h), List.getElem?_map, List.getElem?_eq_getElem h]; rfl
    · rw [List.getElem?_append_right (by simpa using h), List.getElem?_replicate, if_pos (by simp; omega), (List.getElem?_eq_none (by omega) : vs[i]? = none)]
  · show ds.getD i .un = .un
    rw [List.getD_eq_getElem?_getD, List.getElem?_eq_none (by omega)]; rfl
  · by_cases h : i < ds.length
    · obtain ⟨v, h1, h2⟩ := RepL.at_ i r h
      exact .inr ⟨v, h1, h2⟩
    · refine .inl ⟨?_, ?_⟩
      · show ds.getD i .un = .un
        rw [List.getD_eq_getElem?_getD, List.getElem?_eq_none (by omega)]; rfl
      · show Ss.getD i [] = []
        rw [List.getD_eq_getElem?_getD, List.getElem?_eq_none (by omega)]; rfl
theorem repUL_of : ∀ (n : Nat) {vs : List V} {f : Nat → D} {g : Nat → List Addr}, vs.length = n → (∀ i v, vs[i]? = some v → RepU K Z H (f i) v (g i)) → RepUL K Z H ((List.range n).map f) vs ((List.range n).map g)
  | 0, [], f, g, _, _ => ⟨rfl, rfl⟩
  | n + 1, v :: vs, f, g, l, h => by
    rw [List.range_succ_eq_map, List.map_cons, List.map_cons, List.map_map, List.map_map]
    exact ⟨v, vs, g 0, _, rfl, rfl, h 0 v rfl, repUL_of n (f := f ∘ Nat.succ) (g := g ∘ Nat.succ) (by simpa using l) fun i u e => h (i + 1) u (by simpa using e)⟩
  | 0, _ :: _, _, _, l, _ => by simp at l
  | _ + 1, [], _, _, l, _ => by simp at l
theorem flat_map_mem {n : Nat} {g : Nat → List Addr} {b : Addr} : b ∈ ((List.range n).map g).flatten ↔ ∃ i, i < n ∧ b ∈ g i := by
  rw [List.mem_flatten]
  constructor
  · rintro ⟨l, hl, hb⟩
    obtain ⟨i, hi, rfl⟩ := List.mem_map.mp hl
    exact ⟨i, List.mem_range.mp hi, hb⟩
  · rintro ⟨i, hi, hb⟩
    exact ⟨g i, List.mem_map.mpr ⟨i, List.mem_range.mpr hi, rfl⟩, hb⟩
theorem flat_map_nodup {g : Nat → List Addr} (h1 : ∀ i, (g i).Nodup) (h2 : ∀ i j b, b ∈ g i → b ∈ g j → i = j) : ∀ n : Nat, ((List.range n).map g).flatten.Nodup
  | 0 => List.nodup_nil
  | n + 1 => by
    rw [List.range_succ, List.map_append, List.flatten_append, List.nodup_append]
    refine ⟨flat_map_nodup h1 h2 n, by simpa using h1 n, fun a ha b hb e => ?_⟩
    subst e
    obtain ⟨i, hi, h⟩ := flat_map_mem.mp ha
    have := h2 i n a h (by simpa using hb)
    omega
theorem exit_ok {ds : List D} {vs : List V} {Ss : List (List Addr)} {m : Nat} {ir : IR} {v : V} {d : D} {ρ' : Env} {σ' : L2.St} {H' : Hp} {Z' : Addr → Prop} {E' : Nat → D} {W' : Nat → Option V} {F' : Nat → List Addr} (r : RepL K Z H ds vs Ss) (hm : ds.length ≤ m)
    (S' : St0 K m ρ' σ' H' Z' E' W' F' (m + 1)) (o : OutS m (Tc m ir) (Ac ir) H Z (fun i => ds.getD i .un) (fun i => vs[i]?) (fun i => Ss.getD i []) m H' Z' E' W' F') (e : E' m = d) (w : W' m = some v) (nu : d ≠ .un) :
    ∃ S0 S1, OutC K Z H vs Ss d (backA ir ds.length ρ') v H' Z' S0 S1 := by
  have lv : vs.length = ds.length := RepL.length r
  have un : ∀ i b, b ∈ (if asgd ir i = true then [] else F' i) → b ∈ F' i := fun i b h => by
    by_cases a : asgd ir i = true
    · rw [if_pos a] at h; cases h
    · rw [if_neg a] at h; exact h
  refine ⟨F' m, (List.range ds.length).map fun i => if asgd ir i = true then [] else F' i, ?_, rep_at S' e w nu, ?_, fun b hb => ?_, fun b hb => ?_, o.o.ext.mono fun b ⟨i, _, _, q⟩ => .inl (flat_mem q), S'.al⟩
  · refine repUL_of _ lv fun i u hu => ?_
    have hi : i < vs.length := (List.getElem?_eq_some_iff.mp hu).1
    by_cases a : asgd ir i = true
    · rw [if_pos a, if_pos a]; exact .inl ⟨rfl, rfl⟩
    · rw [if_neg a, if_neg a]
      rw [← S'.env i (by omega)]
      rcases S'.rep i with q | ⟨u', q1, q2⟩
      · exact .inl q
      · have := o.w i (by omega) a
        rw [this] at q1
        have q1 : vs[i]? = some u' := q1
        rw [hu] at q1; cases q1
        exact .inr q2
  · rw [List.nodup_append]
    refine ⟨S'.nd m, flat_map_nodup (fun i => ?_) (fun i j b h1 h2 => ?_) _, fun a ha b hb e => ?_⟩
    · split
      · exact List.nodup_nil
      · exact S'.nd i
    · exact S'.dj i j b (un i b h1) (un j b h2)
    · subst e
      obtain ⟨i, hi, h⟩ := flat_map_mem.mp hb
      have := S'.dj m i a ha (un i a h); omega
  · rcases List.mem_append.mp hb with hb | hb
    · exact S'.nz m b hb
    · obtain ⟨i, hi, h⟩ := flat_map_mem.mp hb
      exact S'.nz i b (un i b h)
  · have go : ∀ i, b ∈ F' i → b ∈ Ss.flatten ∨ H b = none := fun i hi => by
      rcases o.o.new i b hi with ⟨j, _, _, q⟩ | q | ⟨_, _, q⟩
      · exact .inl (flat_mem q)
      · exact .inr q
      · exact .inl (flat_mem q)
    rcases List.mem_append.mp hb with hb | hb
    · exact go m hb
    · obtain ⟨i, hi, h⟩ := flat_map_mem.mp hb
      exact go i (un i b h)
/-- THE LINK: a promise by data, kept by the reckoning of a body, is kept by the body -/
theorem body_ok {N : List Str} {n : Nat} {sp : Spec} {ir : IR} {vs : List V} {Q : VK} (hn : n ≤ N.length) (hw : ∀ ds post, ds.length = n → sp ds post → wpS ir (ds ++ List.replicate (N.length - n) .un) (postOf ir n post)) (h : spD K n sp vs H Q E0) :
    tS K N.length ir { nx := fun _ H' => Q .non H', rt := Q } (start N vs) H := by
  obtain ⟨hl, ds, Ss, Z, post, r, nd, nz, al, sd, k⟩ := h
  have lv : vs.length = ds.length := RepL.length r
  have hd : ds.length = n := by omega
  subst hd
  have S := entry r nd nz al hn
  have fin : ∀ {v d ρ' σ' H' Z' E' W' F'}, St0 K N.length ρ' σ' H' Z' E' W' F' (N.length + 1) → OutS N.length (Tc N.length ir) (Ac ir) H Z (fun i => ds.getD i .un) (fun i => vs[i]?) (fun i => Ss.getD i []) N.length H' Z' E' W' F' → E' N.length = d → W' N.length = some v → d ≠ .un → post d (backA ir ds.length ρ') → Q v H' := fun S' o e w nu q => by
    obtain ⟨S0, S1, oc⟩ := exit_ok r hn S' o e w nu
    exact k _ _ _ _ _ _ _ oc q
  refine ⟨_, Z, _, _, _, postOf ir ds.length post, S, hw ds post rfl sd, ⟨fun ρ' σ' H' Z' E' W' F' S' o q => ?_, fun _ _ _ _ _ _ _ _ _ q => q.elim, fun _ _ _ _ _ _ _ _ _ q => q.elim, fun v d ρ' σ' H' Z' E' W' F' S' o e w nu q => fin S' o e w nu q⟩⟩
  obtain ⟨E2, W2, F2, S2, e1, e2, o2⟩ := S'.push (T := Tc N.length ir) (non_rep (K := K) (Z := Z') (H := H'))
  refine fin S2 ⟨o.o.trans o2 (Nat.le_refl _), fun i hi a => ?_⟩ e1 e2 (fun z => nomatch z) q
  rw [S'.sameW S2 i hi]; exact o.w i hi a
end
section
variable {P : Program} {w : World} {K : PySem.W.Frag} {mg : Str → Option Value} {base : Heap}
/-- a def that a body keeps; no text is being made around it -/
theorem fnG_body {x qual : Str} {ds : Stmt} {f : Addr} {fd : FuncData} {N ps : List Str} {k : Nat} {sp : Spec} (Fx : Fun K x qual ds f fd) (SC : FnScope N ps (defScope ds))
    (hb : ∀ (cd : Value) (B : Around) (out : List PySem.Env) (t : Shared) (G : Hp) (ws : List V) (R : VK), B.guards = some [] → Room k (B.deeper (envOfC qual (defScope ds) t.heap.objs.size f cd)) → spD K ps.length sp ws G R E0 →
      ∃ u, PSs (cxOf CX0 P w K mg base N qual (defScope ds) f cd B out t G E0).nox (defBody ds) u ∧ u { nx := fun _ G' => R .non G', rt := R } (start N ws) G) : FnG P w K mg base (k + 1) f fd ps sp := by
  obtain ⟨oc, od, kV, doc, pm, an, cd, cc, sl, rfl, look, hcd⟩ := Fx.ex
  refine ⟨fun B out t G args us ws R hg room en bind rel pr => ?_⟩
  have hlen := pr.1
  have inK : K.In t.heap := en.mod.kin.keeps fun b o e => (en.bs b o e).1
  have lim := en.mod.nolimit.keeps (h' := t.heap) fun b o e => (en.bs b o e).1
  have kinds : ∀ q ∈ ps.zip us, (defScope ds).names.lookup q.1 = some .local ∨ ((defScope ds).names.lookup q.1 = some .cell ∧ ((cellsFrom (t.heap.objs.size + 1) (defScope ds).names []).lookup q.1).isSome = true) := by
    rintro ⟨n, v⟩ hq
    exact (SC.par n (List.of_mem_zip hq).1).imp id fun z => ⟨z, PySem.W.cellsFrom_some _ _ _ (.inl z)⟩
  refine codeAny_call_function room.depth (inK _ _ look) rfl SC.co SC.gen rfl (PySem.W.codeRec_of inK hcd) (bind _ _ _ _ (wpAny_newFunctionEnv_cells SC.kind kinds fun env he t1 xx => ?_))
  subst he
  refine ⟨lim.keeps xx.toInCall.keep, codeAny_func ?_⟩
  obtain ⟨u, hu, hq⟩ := hb cd B out t G ws R hg (room.deeper _) pr
  have J0 := inv_start (CX := CX0) (E := E0) (cd := cd) SC room.hd en hlen rel xx
  refine wpAny_mono (hu.nox.run [] t1 (start N ws) G _ J0 hq) (fun fl t2 hs => ?_) fun e t2 hs => hs
  cases fl with
  | ret z =>
    obtain ⟨v, σ2, G2, J, rv, q⟩ := hs
    exact ⟨v, G2, J.os, J.bare, J.base, J.hok, rv, q⟩
  | next =>
    obtain ⟨σ2, G2, J, q⟩ := hs
    exact ⟨V.non, G2, J.os, J.bare, J.base, J.hok, rfl, q⟩
  | brk => exact hs.elim fun _ hs => hs.elim fun _ hs => hs.2.elim
  | cont => exact hs.elim fun _ hs => hs.elim fun _ hs => hs.2.elim

def ctOf (N : List Str) (ds : Stmt) : Ct := { N := N, sc := defScope ds, st := fun x => isLoc ((defScope ds).names.lookup x) }
/-- names of defs here: how each keeps its promise -/
structure DefX (P : Program) (w : World) (K : PySem.W.Frag) (mg : Str → Option Value) (base : Heap) (k : Nat) (x : Str) (sp : Spec) : Prop where
  ex : ∃ (f : Addr) (fd : FuncData) (ps : List Str), mg x = some (.ref f) ∧ FnG P w K mg base k f fd ps sp ∧ PySem.W.keepIn K (.ref f) = true ∧ Binds K fd ps [] ∧ ∀ (ds : List D) (post : D → List D → Prop), sp ds post → ds.length = ps.length
def GlbK (K : PySem.W.Frag) (mg : Str → Option Value) (x : Str) (d : D) : Prop := ∃ u v, mg x = some u ∧ RelV v u ∧ (∀ Z H, Rep K Z H d v []) ∧ d ≠ .un ∧ (x == ("__debug__" : Str)) = false
theorem FnG.up {j k : Nat} {f : Addr} {fd : FuncData} {ps : List Str} {sp : Spec} (F : FnG P w K mg base j f fd ps sp) (h : j ≤ k) : FnG P w K mg base k f fd ps sp := ⟨fun A o s H a us vs Q hg hr => F.run A o s H a us vs Q hg (hr.mono h)⟩
theorem Known.imp {G G' : Str → D → Prop} {C C' : Str → Spec → Prop} (hG : ∀ x d, G x d → G' x d) (hC : ∀ x s, C x s → C' x s) : ∀ ir : IR, Known G C ir → Known G' C' ir := by
  intro ir
  induction ir with
  | glb x d => exact hG x d
  | fzv a h => exact h
  | plc b x h1 h2 => exact fun k => ⟨h1 k.1, h2 k.2⟩
  | slc a lo hi h1 h2 h3 => exact fun k => ⟨h1 k.1, h2 k.2.1, h3 k.2.2⟩
  | ap k as h => exact h
  | meth m o as h1 h2 => exact fun k => ⟨h1 k.1, h2 k.2⟩
  | call x sp as h => exact fun k => ⟨hC x sp k.1, h k.2⟩
  | land a b h1 h2 => exact fun k => ⟨h1 k.1, h2 k.2⟩
  | lor a b h1 h2 => exact fun k => ⟨h1 k.1, h2 k.2⟩
  | lnot a h => exact h
  | ite c a b h1 h2 h3 => exact fun k => ⟨h1 k.1, h2 k.2.1, h3 k.2.2⟩
  | chn a ops r h1 h2 => exact fun k => ⟨h1 k.1, h2 k.2⟩
  | lc own tg it cond elt h1 h2 h3 h4 => exact fun k => ⟨h1 k.1, h2 k.2.1, h3 k.2.2.1, h4 k.2.2.2⟩
  | itS a h => exact h
  | itR a h => exact h
  | itE a h => exact h
  | itZ a b h1 h2 => exact fun k => ⟨h1 k.1, h2 k.2⟩
  | cons a r h1 h2 => exact fun k => ⟨h1 k.1, h2 k.2⟩
  | sE e h => exact h
  | sA tg a h1 h2 => exact fun k => ⟨h1 k.1, h2 k.2⟩
  | sP is as h => exact h
  | sI as h => exact h
  | sU i op e h => exact h
  | sIf c t e h1 h2 h3 => exact fun k => ⟨h1 k.1, h2 k.2.1, h3 k.2.2⟩
  | sFor tg it b h1 h2 h3 => exact fun k => ⟨h1 k.1, h2 k.2.1, h3 k.2.2⟩
  | sWh c b h1 h2 => exact fun k => ⟨h1 k.1, h2 k.2⟩
  | sRet e h => exact h
  | _ => exact fun _ => trivial
/-- THE RULE for a def: its body's picture checked, the promise kept by reckoning -/
theorem fnG_ir {x qual : Str} {ds : Stmt} {f : Addr} {fd : FuncData} {N ps : List Str} {k : Nat} {sp : Spec} {ir : IR} (Fx : Fun K x qual ds f fd) (SC : FnScope N ps (defScope ds)) (hb : ∀ x ∈ bltN, mg x = none)
    (hc : (ck ir).SS (ctOf N ds) (defBody ds) = true) (kn : Known (GlbK K mg) (DefX P w K mg base k) ir) (hw : ∀ as post, as.length = ps.length → sp as post → wpS ir (as ++ List.replicate (N.length - ps.length) .un) (postOf ir ps.length post)) : FnG P w K mg base (k + 1) f fd ps sp := by
  refine fnG_body Fx SC fun cd B out t G ws R hg room pr => ?_
  have hpl : ps.length ≤ N.length := by have := congrArg List.length SC.pre; rw [List.length_take] at this; omega
  have ok : CtxOk (cxOf CX0 P w K mg base N qual (defScope ds) f cd B out t G E0).nox (ctOf N ds) := {
    N := rfl
    nd := SC.nd
    sc := rfl
    kind := SC.kind
    st := fun y hy => by
      have hy : isLoc ((defScope ds).names.lookup y) = true := hy
      unfold isLoc at hy
      refine ⟨?_, .inl rfl⟩
      split at hy
      · exact .inl ‹_›
      · exact .inr ‹_›
      · cases hy
    calm := rfl
    guards := hg
    units := by have := room.un; show (B.deeper _).units + 128 < cLine; omega
    blt := hb }
  refine ⟨_, (snd ir _ _ ok (Known.imp (fun _ _ z => z) (fun y s z => ?_) ir kn)).SS PassesOwn.never _ hc, body_ok hpl hw pr⟩
  obtain ⟨g, gd, qs, h1, h2, h3, h4, h5⟩ := z.ex
  exact ⟨g, gd, qs, k, h1, h2, h3, h4, room, h5⟩
end
def scriptD (ns : List Int) : D := .scr (ns.map .int)
/-- a heap in which the script alone is seen -/
theorem script_heap {P : Program} {w : World} {K : PySem.W.Frag} {t : Shared} {a : Addr} {us : List Value} {ns : List Int} (inK : K.In t.heap) (here : t.heap.get? a = some { cls := .type "list", data := .seq us.toArray }) (rel : IntsAre us ns) (small : ns.length ≤ sizeLine) :
    ∃ G : Hp, Only G ∧ FzL K (fun _ => False) G a (ns.map V.int) ∧ HOk P w G t.heap ∧ (∀ b, G b ≠ none → b = a) ∧ (G a ≠ none → K.lookup a = none) := by
  have rv := vals_ints rel
  cases look : K.lookup a with
  | some o =>
    have e := (inK a o look).symm.trans here
    cases e
    exact ⟨fun _ => none, fun _ => .inl rfl, .inr (.inr ⟨_, us.toArray, _, look, rfl, rfl, rfl, by rw [List.size_toArray, rel.length]; exact small, by simpa using rv⟩), fun _ _ z => (Option.some_ne_none _ z.symm).elim, fun _ z => (z rfl).elim, fun z => (z rfl).elim⟩
  | none =>
    let one : HO := .frz { cls := .type "list", data := .seq us.toArray } (.lst (ns.map V.int))
    have at_ : ∀ b, (if b = a then some one else none) ≠ none → b = a := fun b z => Classical.byContradiction fun n => z (if_neg n)
    refine ⟨fun b => if b = a then some one else none, fun b => ?_, .inr (.inl ⟨_, if_pos rfl⟩), fun b u z => ?_, at_, fun _ => rfl⟩
    · by_cases e : b = a
      · exact .inr ⟨_, _, if_pos e⟩
      · exact .inl (if_neg e)
    · have z : (if b = a then some one else none) = some u := z
      have e : b = a := at_ b (by rw [z]; exact Option.some_ne_none u)
      subst e
      rw [if_pos rfl] at z
      cases z
      exact ⟨here, by rw [List.length_map]; exact small, us, _, rv, here⟩
/-- the law, called with a script -/
theorem law_go {P : Program} {w : World} {K : PySem.W.Frag} {mg mb : Str → Option Value} {k : Nat} {fa a : Addr} {fd : FuncData} {x : Str} {sp : Spec} {t : Shared} {us : List Value} {ns : List Int} (inK : K.In t.heap) (nG : t.heap.Ns mainGlobals mg) (nB : t.heap.Ns builtinsNs mb)
    (boot : ∀ y : Str, y ≠ "__name__" → mb y = bootBuiltins y) (lim : t.heap.NoLimit) (gens : t.gens = #[]) (here : t.heap.get? a = some { cls := .type "list", data := .seq us.toArray }) (rel : IntsAre us ns) (small : ns.length ≤ sizeLine) (room : Room k callerA)
    (FG : ∀ base : Heap, K.In base → base.Ns mainGlobals mg → FnG P w K mg base k fa fd [x] sp) (bind : ∀ (s : Shared) (u : Value), BindsTo s fd ⟨[u], []⟩ [(x, u)]) (keeps : sp [scriptD ns] fun d _ => d = .bl true) :
    codeAny (model P w) callerA (.call (.ref fa) ⟨[.ref a], []⟩) (fun r t2 => r = .ok (.ret (.bool true)) ∧ OldK t.heap t2.heap ∧ t2.os = t.os ∧ AllBare t2.gens) t := by
  obtain ⟨G, only, fz, okG, seen, free⟩ := script_heap (P := P) (w := w) inK here rel small
  have noD : ∀ {b : Addr} {o : Obj} {es : Array DictEntry} {ep : Nat}, t.heap.get? b = some o → o.data = .dict es ep → G b = none := fun {b o es ep} e d => by
    refine Classical.byContradiction fun z => ?_
    cases seen b z
    cases e.symm.trans here
    cases d
  have nsH : ∀ {b : Addr} {m : Str → Option Value}, t.heap.Ns b m → (hidT t.heap G).Ns b m := fun {b m} ⟨o, es, ep, e, d, q⟩ => ⟨o, es, ep, hidT_get e (noD e d), d, q⟩
  have kH : K.In (hidT t.heap G) := fun b o e => hidT_get (inK b o e) (Classical.byContradiction fun z => by
    cases seen b z
    cases e.symm.trans (free z))
  have md : Mod K mg (hidT t.heap G) := ⟨kH, nsH nG, ⟨mb, nsH nB, boot⟩, lim.elim fun mc q => ⟨mc, nsH q.1, q.2⟩⟩
  have en : Env0 P w K mg (hidT t.heap G) callerA [] t G := ⟨rfl, md, fun b o e => of_hidT e, Nat.le_of_eq (hidT_size _ _), trivial, (fun b hb => absurd hb (List.not_mem_nil)), okG, .of_eq gens⟩
  have pr : spD K [x].length sp [.ref a] G (fun v _ => v = .bl true) E0 := by
    refine ⟨rfl, [scriptD ns], [[]], fun _ => False, fun d _ => d = .bl true, ⟨_, _, _, _, rfl, rfl, ?_, rfl, rfl⟩, by simp, fun b hb => by simp at hb, fun _ z => z.elim, keeps, fun rd ds' v G' Z' S' Ss' oc q => ?_⟩
    · unfold scriptD
      rw [Rep]
      exact ⟨a, ns.map V.int, rfl, fz, rfl, ints_reps⟩
    · subst q
      exact rep_bl oc.rep
  refine codeAny_mono ((FG _ kH (nsH nG)).run callerA [] t G ⟨[.ref a], []⟩ [.ref a] [.ref a] _ rfl room en (bind t (.ref a)) (.cons rfl .nil) pr) fun r t2 hq => ?_
  match r, hq with
  | .error e, hq => exact hq.elim
  | .ok .next, hq => exact hq.elim
  | .ok .brk, hq => exact hq.elim
  | .ok .cont, hq => exact hq.elim
  | .ok (.ret u), hq =>
    obtain ⟨v, G2, os, bare, un, ok2, rv, q⟩ := hq
    cases (show v = .bl true from q)
    cases (show u = Value.bool true from rv)
    refine ⟨rfl, OldK.of_keep fun b o e => ?_, os, bare⟩
    cases z : G b with
    | none => exact un.keep b o e z (fun hb => by cases hb) (fun hb => by cases hb)
    | some u =>
      rcases only b with q | ⟨ob, zs, q⟩
      · cases z.symm.trans q
      · cases e.symm.trans (okG b _ q).1
        exact (ok2 b _ (un.frzs b _ _ q)).1
/-- the goal that the head of a law leaves -/
theorem walk_g {l : PySem.W.OpenLaw} {n k : Nat} {q : Program} {loose : List Str} {XP : (Str → Option Value) → Heap → Prop} {YP : World → Heap → Prop} {d : DefRec} {K : Params → PySem.W.Frag} {sp : Spec} {x : Str} (most : l.most = some n) (small : n ≤ sizeLine) (nodef : d.params.defaults = [])
    (room : Room k callerA) (inY : ∀ (w : World) (h : Heap), YP w h → (K w.params).In h)
    (F : ∀ (w : World) (mg : Str → Option Value) (fa : Addr) (h : Heap), (K w.params).In h → h.Ns mainGlobals mg → mg d.name = some (.ref fa) →
      ∃ fd : FuncData, (∀ (s : Shared) (u : Value), BindsTo s fd ⟨[u], []⟩ [(x, u)]) ∧ ∀ base : Heap, (K w.params).In base → base.Ns mainGlobals mg → FnG l.prog w (K w.params) mg base k fa fd [x] sp)
    (keeps : ∀ ns : List Int, ns.length ≤ n → (∀ z ∈ ns, Builtin.Int.intBits z ≤ 1048576) → sp [scriptD ns] fun d _ => d = .bl true) : PySem.W.WalkO q loose XP YP l.row.toRowW d [] (fun f vs => PySem.call f vs) := by
  refine Att.attach_callB most nodef fun w s0 t mg mb fa o pm cd doc a us ns G Y _ _ _ hmg here rel len bits gens => ?_
  obtain ⟨fd, bind, FG⟩ := F w mg fa _ (inY w _ Y) G.T.g hmg
  exact law_go (inY w _ Y) G.T.g G.T.b G.T.builtins G.T.nolimit gens here rel (Nat.le_trans len small) room FG bind (keeps ns len bits)
/-! ### words for reckoning -/
theorem gt0 (d : D) (r : Env) : gt (d :: r) 0 = d := rfl
theorem gt1 (d : D) (r : Env) (n : Nat) : gt (d :: r) (n + 1) = gt r n := rfl
theorem getD0 (d e : D) (r : List D) : (d :: r).getD 0 e = d := rfl
theorem getD1 (d e : D) (r : List D) (n : Nat) : (d :: r).getD (n + 1) e = r.getD n e := rfl
theorem wp_cons {s r : IR} {ρ : Env} {P : Post} (h : ∀ K : Env → Prop, (∀ ρ1, wpS r ρ1 P → K ρ1) → wpS s ρ { P with nx := K }) : wpS (.cons s r) ρ P := h _ fun _ h => h
theorem wp_nil {ρ : Env} {P : Post} (h : P.nx ρ) : wpS .nil ρ P := h
theorem wp_if2 {c t e : IR} {ρ : Env} {P : Post} (h : ∀ K : Bool → Env → Prop, (∀ ρ1, wpS t ρ1 P → K true ρ1) → (∀ ρ1, wpS e ρ1 P → K false ρ1) → wpT c ρ K) : wpS (.sIf c t e) ρ P := h _ (fun _ h => h) (fun _ h => h)
theorem log2_le {n : Nat} {k : Nat} (h : n < 2 ^ k) (hk : 0 < k) : n.log2 < k := by
  by_cases z : n = 0
  · subst z; simpa using hk
  · exact (Nat.log2_lt z).mpr h
theorem mul_ok {i j : Int} {k l : Nat} (h1 : i.natAbs < 2 ^ k) (h2 : j.natAbs < 2 ^ l) (hk : 0 < k) (hl : 0 < l) (h : k + l < 1000000) : MulOk i j := by
  have a := log2_le h1 hk
  have b := log2_le h2 hl
  exact .inl (by omega)
theorem mul_1 {i j : Int} (h : -(2 ^ 64) < j ∧ j < 2 ^ 64) : MulOk i j := .inr h
theorem atI_of {α : Type} {xs : List α} {i : Int} {x : α} (h0 : 0 ≤ i) (h : xs[i.toNat]? = some x) : atI xs i = some x := by
  have := (List.getElem?_eq_some_iff.mp h).1
  unfold atI ixN
  rw [if_pos h0, if_pos (by omega)]
  exact h
theorem ixN_of {n : Nat} {i : Int} (h0 : 0 ≤ i) (h : i < n) : ixN n i = some i.toNat := by
  unfold ixN
  rw [if_pos h0, if_pos h]
theorem b01 (b : Bool) : (if b = true then (1 : Int) else 0).natAbs < 2 ^ 1 := by cases b <;> decide
theorem b0 (b : Bool) : (0 : Int) ≤ if b = true then 1 else 0 := by cases b <;> decide
theorem pus_ints : ∀ ns : List Int, pus (ns.map D.int) = true
  | [] => rfl
  | t :: ts => by rw [List.map_cons, pus, pus_ints ts]; rfl
theorem eqD_int (x y : Int) : eqD (.int x) (.int y) = decide (x = y) := by
  simp [eqD, toP, PyData.eqv]; rfl
theorem eqD_str (x y : Str) : eqD (.str x) (.str y) = decide (x = y) := by
  simp [eqD, toP, PyData.eqv]; rfl
theorem eqD_tup2 (x y u v : Int) : eqD (.tup [.int x, .int y]) (.tup [.int u, .int v]) = (decide (x = u) && decide (y = v)) := by
  simp [eqD, toP, toPs, PyData.eqv, PyData.eqvAll]
  rfl
theorem eq_ok2 (x y : Int) : eqOk (.tup [.int x, .int y]) := ⟨rfl, rfl⟩
/-- a walk by an invariant of what is left -/
theorem for_inv {step : D → Env → Post → Prop} {P : Post} (I : List D → Env → Prop)
    (hs : ∀ d ds ρ (P' : Post), I (d :: ds) ρ → (∀ ρ1, I ds ρ1 → P'.nx ρ1) → (∀ ρ1, I ds ρ1 → P'.ct ρ1) → (∀ ρ1, P.nx ρ1 → P'.bk ρ1) → (∀ v ρ1, P.rt v ρ1 → P'.rt v ρ1) → step d ρ P') (hd : ∀ ρ, I [] ρ → P.nx ρ) : ∀ ds ρ, I ds ρ → forL step ds ρ P
  | [], ρ, h => hd ρ h
  | d :: ds, ρ, h => hs d ds ρ _ h (fun ρ1 q => for_inv I hs hd ds ρ1 q) (fun ρ1 q => for_inv I hs hd ds ρ1 q) (fun _ q => q) (fun _ _ q => q)
theorem rng_nil {lo hi : Int} (h : hi ≤ lo) : rngL lo hi = [] := by
  unfold rngL
  rw [show (hi - lo).toNat = 0 by omega]; rfl
theorem rng_cons {lo hi : Int} (h : lo < hi) : rngL lo hi = .int lo :: rngL (lo + 1) hi := by
  unfold rngL
  rw [show (hi - lo).toNat = (hi - (lo + 1)).toNat + 1 by omega, List.range_succ_eq_map, List.map_cons, List.map_map]
  congr 1
  · simp
  · apply List.map_congr_left
    intro i _
    show D.int _ = D.int _
    congr 1
    simp only [Nat.succ_eq_add_one]
    omega
/-- a walk over a range -/
theorem for_rng {step : D → Env → Post → Prop} {P : Post} (hi : Int) (I : Int → Env → Prop) : ∀ (m : Nat) (lo : Int) (ρ : Env), (hi - lo).toNat = m → I lo ρ →
    (∀ i ρ (P' : Post), lo ≤ i → i < hi → I i ρ → (∀ ρ1, I (i + 1) ρ1 → P'.nx ρ1) → (∀ ρ1, I (i + 1) ρ1 → P'.ct ρ1) → (∀ ρ1, P.nx ρ1 → P'.bk ρ1) → (∀ v ρ1, P.rt v ρ1 → P'.rt v ρ1) → step (.int i) ρ P') →
    (∀ i ρ, hi ≤ i → lo ≤ i → (lo ≤ hi → i = hi) → I i ρ → P.nx ρ) → forL step (rngL lo hi) ρ P
  | 0, lo, ρ, hm, h, hs, hd => by
    rw [rng_nil (by omega)]
    exact hd lo ρ (by omega) (Int.le_refl _) (by omega) h
  | m + 1, lo, ρ, hm, h, hs, hd => by
    rw [rng_cons (by omega)]
    have go : ∀ ρ1, I (lo + 1) ρ1 → forL step (rngL (lo + 1) hi) ρ1 P := fun ρ1 q =>
      for_rng hi I m (lo + 1) ρ1 (by omega) q (fun i ρ P' h1 h2 => hs i ρ P' (by omega) h2) (fun i ρ h1 h2 h3 => hd i ρ h1 (by omega) (by omega))
    exact hs lo ρ _ (Int.le_refl _) (by omega) h go go (fun _ q => q) (fun _ _ q => q)
/-- a comprehension's walk: those that f takes, by g -/
theorem lc_map {α : Type} (inj : α → D) {step : D → Env → (Option D → Env → Prop) → Prop} {q : List D → Env → Prop} (f : α → Bool) (g : α → D) (own : List Nat) (ρ0 : Env) : ∀ (ts : List α) (acc : List D),
    (∀ (t : α), t ∈ ts → ∀ (k : Option D → Env → Prop), (∀ ρ1, wipeE ρ1 own = ρ0 → k (if f t = true then some (g t) else none) ρ1) → step (inj t) ρ0 k) → acc.length + ts.length ≤ sizeLine →
    q (acc ++ (ts.filter f).map g) ρ0 → lcL own step (ts.map inj) ρ0 acc q
  | [], acc, _, _, h => by
    show q acc ρ0
    simpa using h
  | t :: ts, acc, hs, hz, h => by
    refine hs t List.mem_cons_self _ fun ρ1 e => ?_
    rw [List.length_cons] at hz
    have hs' := fun s hm => hs s (List.mem_cons_of_mem t hm)
    cases c : f t with
    | true =>
      rw [if_pos rfl]
      refine ⟨by omega, ?_⟩
      rw [e]
      exact lc_map inj f g own ρ0 ts (acc ++ [g t]) hs' (by simp; omega) (q := q) (by rw [List.filter_cons, if_pos c] at h; simpa using h)
    | false =>
      rw [if_neg (by decide), e]
      exact lc_map inj f g own ρ0 ts acc hs' (by omega) (by rw [List.filter_cons, if_neg (by simp [c])] at h; exact h)
/-! ### texts of data: how long -/
mutual
def sz : D → Nat
  | .tup ds => 1 + szs ds
  | .ptp ds => 1 + szs ds
  | .lst _ ds => 1 + szs ds
  | .scr ds => 1 + szs ds
  | .str s => 1 + (reprText s).length
  | .un => 1 | .non => 1 | .bl _ => 1 | .int _ => 1 | .raw _ => 1 | .dct _ _ _ _ => 1 | .ins _ _ _ _ => 1
def szs : List D → Nat
  | [] => 0
  | d :: ds => sz d + szs ds
end
theorem szs_le {n : Nat} : ∀ ds : List D, (∀ d ∈ ds, sz d ≤ n) → szs ds ≤ n * ds.length
  | [], _ => by rw [szs]; exact Nat.zero_le _
  | d :: ds, h => by
    rw [szs, List.length_cons, Nat.mul_succ]
    have := szs_le ds fun x hx => h x (List.mem_cons_of_mem _ hx)
    have := h d List.mem_cons_self
    omega
theorem list_text_len (ts : List Str) : (listText ts).length ≤ 2 + piled ts := by
  have : ∀ (ts : List Str) (k : Nat) (acc : Str), (textFrom k acc ts).length ≤ acc.length + piled ts := by
    intro ts
    induction ts with
    | nil => intro k acc; show acc.length ≤ _; omega
    | cons t r ih =>
      intro k acc
      have e := ih (k + 1) (acc ++ (if k > 0 then ", " else "" : String) ++ t)
      have e2 : (acc ++ (if k > 0 then ", " else "" : String) ++ t).length ≤ acc.length + 2 + t.length := by
        rw [strLen_append, strLen_append]
        have : ((if k > 0 then ", " else "" : String) : Str).length ≤ 2 := by split <;> decide
        omega
      rw [piled_cons]
      show (textFrom (k + 1) _ r).length ≤ _
      omega
  unfold listText
  rw [strLen_append]
  have h := this ts 0 ("[" : Str)
  have e1 : (("[" : String) : Str).length = 1 := rfl
  have e2 : (("]" : String) : Str).length = 1 := rfl
  omega
theorem tuple_text_len (ts : List Str) : (tupleText ts).length ≤ 3 + piled ts := by
  unfold tupleText
  rw [strLen_append, strLen_append]
  have e1 : (("(" : String) : Str).length = 1 := rfl
  have e3 : (((if ts.length == 1 then ",)" else ")" : String) : Str)).length ≤ 2 := by split <;> decide
  by_cases h : ts = []
  · subst h
    have : (Str.join ", " ([] : List Str)).length = 0 := rfl
    omega
  · have := join_length_add ts h
    omega
mutual
theorem repr_len : ∀ d : D, isP d = true → (toP d).showable = true → (shownD d).length + 2 ≤ 2000 * sz d
  | .un, h, _ => by cases h
  | .raw _, h, _ => by cases h
  | .dct _ _ _ _, h, _ => by cases h
  | .ins _ _ _ _, h, _ => by cases h
  | .non, _, _ => by
    have : (shownD .non).length = 4 := rfl
    rw [this, sz]; omega
  | .bl true, _, _ => by
    have : (shownD (.bl true)).length = 4 := rfl
    rw [this, sz]; omega
  | .bl false, _, _ => by
    have : (shownD (.bl false)).length = 5 := rfl
    rw [this, sz]; omega
  | .int i, _, h => by
    have h : i.natAbs.log2 < 1920 := of_decide_eq_true (by simpa [toP, PyData.showable] using h)
    have := int_text_len_1921 h
    have e : (shownD (.int i)).length = (Str.ofString (toString i)).length := rfl
    rw [e, sz]; omega
  | .str s, _, _ => by
    have e : (shownD (.str s)).length = (reprText s).length := rfl
    rw [e, sz]; omega
  | .tup ds, h, g => by
    have e : shownD (.tup ds) = tupleText (PyData.shownAll (toPs ds)) := rfl
    have l := tuple_text_len (PyData.shownAll (toPs ds))
    have := repr_lens ds (by simpa [isP] using h) (by simpa [toP, PyData.showable] using g)
    rw [e, sz]; omega
  | .ptp ds, h, g => by
    have e : shownD (.ptp ds) = tupleText (PyData.shownAll (toPs ds)) := rfl
    have l := tuple_text_len (PyData.shownAll (toPs ds))
    have := repr_lens ds (by simpa [isP] using h) (by simpa [toP, PyData.showable] using g)
    rw [e, sz]; omega
  | .lst _ ds, h, g => by
    have l := list_text_len (PyData.shownAll (toPs ds))
    have := repr_lens ds (by simpa [isP] using h) (by simpa [toP, PyData.showable] using g)
    rw [sz]
    show (listText (PyData.shownAll (toPs ds))).length + 2 ≤ _
    omega
  | .scr ds, h, g => by
    have l := list_text_len (PyData.shownAll (toPs ds))
    have := repr_lens ds (by simpa [isP] using h) (by simpa [toP, PyData.showable] using g)
    rw [sz]
    show (listText (PyData.shownAll (toPs ds))).length + 2 ≤ _
    omega
theorem repr_lens : ∀ ds : List D, isPs ds = true → PyData.showableAll (toPs ds) = true → piled (PyData.shownAll (toPs ds)) ≤ 2000 * szs ds
  | [], _, _ => Nat.zero_le _
  | d :: ds, h, g => by
    rw [isPs, Bool.and_eq_true] at h
    rw [toPs, PyData.showableAll, Bool.and_eq_true] at g
    have a := repr_len d h.1 g.1
    have b := repr_lens ds h.2 g.2
    rw [toPs, PyData.shownAll, piled_cons, szs]
    have : (shownD d).length = ((toP d).shown).length := rfl
    omega
end
/-- data whose text may be made -/
structure RO (n k : Nat) (d : D) : Prop where
  p : isP d = true
  s : (toP d).showable = true
  z : sz d ≤ n
  d : (toP d).depth ≤ k
theorem RO.up {n k m l : Nat} {d : D} (h : RO n k d) (a : n ≤ m) (b : k ≤ l) : RO m l d := ⟨h.p, h.s, Nat.le_trans h.z a, Nat.le_trans h.d b⟩
theorem reprS_of {n k : Nat} {d : D} {q : D → Prop} (h : RO n k d) (hn : n ≤ 8000) (hk : k ≤ 64) (g : q (.str (shownD d))) : reprS d q := by
  refine ⟨h.p, h.s, ?_, Nat.le_trans h.d hk, g⟩
  have := repr_len d h.p h.s
  have := h.z
  have : 16000000 ≤ sizeLine := by decide
  omega
theorem bif_repr {n k : Nat} {d : D} {q : D → Prop} (h : RO n k d) (hn : n ≤ 8000) (hk : k ≤ 64) (g : q (.str (shownD d))) : pkS (.bif .repr) [d] q := reprS_of h hn hk g
theorem RO.int64 {i : Int} (h : i.natAbs < 2 ^ 64) : RO 1 0 (.int i) := ⟨rfl, decide_eq_true (Nat.lt_of_lt_of_le (log2_le h (by decide)) (by decide)), Nat.le_refl _, Nat.le_refl _⟩
theorem RO.non : RO 1 0 .non := ⟨rfl, rfl, Nat.le_refl _, Nat.le_refl _⟩
theorem RO.bl {b : Bool} : RO 1 0 (.bl b) := ⟨rfl, rfl, Nat.le_refl _, Nat.le_refl _⟩
theorem ro_all {n k : Nat} : ∀ ds : List D, (∀ d ∈ ds, RO n k d) → isPs ds = true ∧ PyData.showableAll (toPs ds) = true ∧ szs ds ≤ n * ds.length ∧ PyData.depthAll (toPs ds) ≤ k
  | [], _ => ⟨rfl, rfl, Nat.zero_le _, Nat.zero_le _⟩
  | d :: ds, h => by
    obtain ⟨a, b, c, e⟩ := ro_all ds fun x hx => h x (List.mem_cons_of_mem _ hx)
    have h1 := h d List.mem_cons_self
    refine ⟨by rw [isPs, h1.p, a]; rfl, by rw [toPs, PyData.showableAll, h1.s, b]; rfl, ?_, ?_⟩
    · rw [szs, List.length_cons, Nat.mul_succ]; have := h1.z; omega
    · rw [toPs, PyData.depthAll]; have := h1.d; omega
theorem RO.tup {n k : Nat} {ds : List D} (h : ∀ d ∈ ds, RO n k d) : RO (1 + n * ds.length) (k + 1) (.tup ds) := by
  obtain ⟨a, b, c, e⟩ := ro_all ds h
  exact ⟨a, b, by rw [sz]; omega, by show PyData.depthAll (toPs ds) + 1 ≤ _; omega⟩
theorem RO.lst {n k : Nat} {o : Bool} {ds : List D} (h : ∀ d ∈ ds, RO n k d) : RO (1 + n * ds.length) (k + 1) (.lst o ds) := by
  obtain ⟨a, b, c, e⟩ := ro_all ds h
  exact ⟨a, b, by rw [sz]; omega, by show PyData.depthAll (toPs ds) + 1 ≤ _; omega⟩
theorem RO.ints {ns : List Int} (h : ∀ n ∈ ns, n.natAbs < 2 ^ 64) : RO (1 + ns.length) 1 (.tup (ns.map D.int)) := by
  have := RO.tup (n := 1) (k := 0) (ds := ns.map D.int) fun d hd => by
    obtain ⟨n, hn, rfl⟩ := List.mem_map.mp hd
    exact RO.int64 (h n hn)
  rw [List.length_map, Nat.one_mul] at this
  exact this

/-! ### what is sorted -/
theorem isPs_ints : ∀ ns : List Int, isPs (ns.map D.int) = true
  | [] => rfl
  | n :: ns => by rw [List.map_cons, isPs, isPs_ints ns]; rfl
theorem sortD_map {α : Type} (inj : α → D) (le : α → α → Bool) (xs : List α) (h : ∀ a ∈ xs, ∀ b ∈ xs, le a b = PySem.W.dataLe false toP (inj a) (inj b)) : sortD (xs.map inj) = (xs.mergeSort le).map inj :=
  (List.map_mergeSort h).symm
theorem le_int (a b : Int) : PySem.W.dataLe false toP (.int a) (.int b) = decide (a ≤ b) :=
  congrFun (congrFun (PySem.W.dataLe_int (β := Int) id) a) b
theorem sortD_ints (ns : List Int) : sortD (ns.map D.int) = (ns.mergeSort fun a b => decide (a ≤ b)).map D.int :=
  sortD_map D.int _ ns fun a _ b _ => (le_int a b).symm
theorem sortOk_ints (ns : List Int) : SortOk (ns.map D.int) where
  pu := pus_ints ns
  p := isPs_ints ns
  al := fun d hd d' hd' => by
    rw [List.map_map] at hd hd'
    obtain ⟨a, _, rfl⟩ := List.mem_map.mp hd
    obtain ⟨b, _, rfl⟩ := List.mem_map.mp hd'
    rfl
  so := .inr fun d hd => by
    rw [List.map_map] at hd
    obtain ⟨a, _, rfl⟩ := List.mem_map.mp hd
    exact ⟨(fun e => nomatch e), fun xs e => nomatch e⟩
  de := fun d hd => by
    obtain ⟨a, _, rfl⟩ := List.mem_map.mp hd
    exact Nat.zero_le _
/-- sorted(xs), whole numbers -/
theorem bif_sorted {o : Bool} {ns : List Int} {ds : List D} {q : D → Prop} (e : ds = ns.map D.int) (h : ∀ ms : List Int, ms.Perm ns → ms.Pairwise (· ≤ ·) → q (.lst true (ms.map D.int))) : pkS (.bif .sorted) [.lst o ds] q := by
  subst e
  refine ⟨sortOk_ints ns, ?_⟩
  rw [sortD_ints]
  refine h _ (List.mergeSort_perm _ _) ?_
  have := List.pairwise_mergeSort (le := fun a b : Int => decide (a ≤ b)) (fun a b c h1 h2 => by
    have h1 := of_decide_eq_true h1
    have h2 := of_decide_eq_true h2
    exact decide_eq_true (Int.le_trans h1 h2)) (fun a b => by
    rcases Int.le_total a b with h | h
    · rw [decide_eq_true h]; rfl
    · rw [decide_eq_true h, Bool.or_true]) ns
  exact this.imp fun h => of_decide_eq_true h
/-! ### the join -/
section
variable {P : Program} {w : World} {K : PySem.W.Frag} {mg : Str → Option Value} {base : Heap}
/-- a def stands at its name -/
def Here (K : PySem.W.Frag) (mg : Str → Option Value) (x : Str) (st : Stmt) : Prop := ∃ f fd, mg x = some (.ref f) ∧ Fun K x x st f fd
theorem here_mk {h : Heap} (X : K.In h) (G : h.Ns mainGlobals mg) {x : Str} {st : Stmt} {f : Addr} {oc : Value} {od an : Option Addr} {osl : Array (Option Value)} {kV doc pm cdv ct : Value} (a : PySem.W.nsIn K mainGlobals x = some (some (.ref f)))
    (l : K.lookup f = some ⟨oc, od, .func (PySem.W.fnOf x x (defArgs st) (defBody st) (defScope st) .none kV doc pm an cdv ct), osl⟩) (c : PySem.W.codeIn K cdv x = true) (k : PySem.W.keepIn K (.ref f) = true) : Here K mg x st :=
  ⟨f, _, PySem.W.mg_of X G a, fun_mk l c k⟩
/-- how the arguments of a def bind -/
def BindOk (x : Str) (st : Stmt) (ps : List Str) : Prop := ∀ (kV doc pm : Value) (an : Option Addr) (cdv ct : Value) (us : List Value), us.length = ps.length → bindArgs (PySem.W.fnOf x x (defArgs st) (defBody st) (defScope st) .none kV doc pm an cdv ct) ⟨us, []⟩ = pure (ps.zip us)
theorem DefX.up {j k : Nat} {x : Str} {sp : Spec} (X : DefX P w K mg base j x sp) (h : j ≤ k) : DefX P w K mg base k x sp := by
  obtain ⟨f, fd, ps, h1, h2, h3, h4, h5⟩ := X.ex
  exact ⟨f, fd, ps, h1, h2.up h, h3, h4, h5⟩
theorem defX_mk {x : Str} {st : Stmt} {N ps : List Str} {k : Nat} {sp : Spec} {ir : IR} (H : Here K mg x st) (hb : ∀ x ∈ bltN, mg x = none) (B : BindOk x st ps) (S : FnScope N ps (defScope st))
    (hc : (ck ir).SS (ctOf N st) (defBody st) = true) (kn : Known (GlbK K mg) (DefX P w K mg base k) ir) (hl : ∀ ds post, sp ds post → ds.length = ps.length)
    (hw : ∀ ds post, ds.length = ps.length → sp ds post → wpS ir (ds ++ List.replicate (N.length - ps.length) .un) (postOf ir ps.length post)) : DefX P w K mg base (k + 1) x sp := by
  obtain ⟨f, fd, hm, F⟩ := H
  exact ⟨f, fd, ps, hm, fnG_ir F S hb hc kn hw, F.kp, F.binds B, hl⟩
end
/-! ### membership -/
theorem kIx_isSome {x : List Key} {ks : List (List Key)} : (kIx ks x).isSome = true ↔ x ∈ ks := by
  cases e : kIx ks x with
  | none => exact ⟨fun h => (nomatch h), fun h => absurd h (kIx_none e)⟩
  | some j => exact ⟨fun _ => List.mem_of_getElem? (kIx_at e), fun _ => rfl⟩
theorem has_key {x : List Key} {ks : List (List Key)} {p : Prop} [Decidable p] (h : x ∈ ks ↔ p) : (kIx ks x).isSome = decide p := by
  cases e : (kIx ks x).isSome with
  | true => exact (decide_eq_true (h.mp (kIx_isSome.mp e))).symm
  | false => exact (decide_eq_false fun q => by rw [kIx_isSome.mpr (h.mpr q)] at e; cases e).symm
theorem any_int (x : Int) : ∀ ns : List Int, ((ns.map D.int).any fun z => eqD z (.int x)) = decide (x ∈ ns)
  | [] => rfl
  | n :: ns => by
    rw [List.map_cons, List.any_cons, any_int x ns, eqD_int]
    by_cases e : n = x
    · subst e; simp
    · rw [decide_eq_false e, Bool.false_or]
      apply decide_eq_decide.mpr
      constructor
      · exact fun h => List.mem_cons_of_mem _ h
      · intro h
        rcases List.mem_cons.mp h with q | q
        · exact absurd q.symm e
        · exact q
theorem canLay_ints : ∀ ns : List Int, PyData.canLayAll0 (toPs (ns.map D.int)) = true
  | [] => rfl
  | n :: ns => by rw [List.map_cons, toPs, PyData.canLayAll0, canLay_ints ns]; rfl
theorem depth_intsD : ∀ ns : List Int, PyData.depthAll (toPs (ns.map D.int)) = 0
  | [] => rfl
  | n :: ns => by rw [List.map_cons, toPs, PyData.depthAll, depth_intsD ns]; rfl
theorem eqOk_int (i : Int) : eqOk (.int i) := ⟨rfl, rfl⟩
theorem shaped_mk {d : PyData} (h : d.canLay0 = true) (k : d.depth ≤ 64) : SeqAt.shaped d = true := by
  unfold SeqAt.shaped; rw [h, decide_eq_true k]; rfl
theorem eqOk_tupI (ns : List Int) : eqOk (.tup (ns.map D.int)) := ⟨isPs_ints ns, shaped_mk (canLay_ints ns) (by show PyData.depthAll (toPs (ns.map D.int)) + 1 ≤ 64; rw [depth_intsD]; decide)⟩
theorem eqOk_lstI (o : Bool) (ns : List Int) : eqOk (.lst o (ns.map D.int)) := ⟨isPs_ints ns, shaped_mk (canLay_ints ns) (by show PyData.depthAll (toPs (ns.map D.int)) + 1 ≤ 64; rw [depth_intsD]; decide)⟩
theorem in_tupI {x : Int} {ns : List Int} {q : Bool → Prop} (h : q (decide (x ∈ ns))) : cmp2 .In [.int x, .tup (ns.map D.int)] q := ⟨eqOk_int x, eqOk_tupI ns, by rw [any_int]; exact h⟩
theorem in_lstI {x : Int} {o : Bool} {ns : List Int} {q : Bool → Prop} (h : q (decide (x ∈ ns))) : cmp2 .In [.int x, .lst o (ns.map D.int)] q := ⟨eqOk_int x, eqOk_lstI o ns, by rw [any_int]; exact h⟩
theorem notIn_tupI {x : Int} {ns : List Int} {q : Bool → Prop} (h : q (!decide (x ∈ ns))) : cmp2 .NotIn [.int x, .tup (ns.map D.int)] q := ⟨eqOk_int x, eqOk_tupI ns, by rw [any_int]; exact h⟩
theorem notIn_lstI {x : Int} {o : Bool} {ns : List Int} {q : Bool → Prop} (h : q (!decide (x ∈ ns))) : cmp2 .NotIn [.int x, .lst o (ns.map D.int)] q := ⟨eqOk_int x, eqOk_lstI o ns, by rw [any_int]; exact h⟩
theorem in_dct {x : D} {k : List Key} {o t : Bool} {ks : List (List Key)} {ds : List D} {q : Bool → Prop} {p : Prop} [Decidable p] (e : keyD t x = some k) (hp : k ∈ ks ↔ p) (h : q (decide p)) : cmp2 .In [x, .dct o t ks ds] q := by
  cases x <;> exact ⟨k, e, by rw [has_key hp]; exact h⟩
theorem notIn_dct {x : D} {k : List Key} {o t : Bool} {ks : List (List Key)} {ds : List D} {q : Bool → Prop} {p : Prop} [Decidable p] (e : keyD t x = some k) (hp : k ∈ ks ↔ p) (h : q (!decide p)) : cmp2 .NotIn [x, .dct o t ks ds] q := by
  cases x <;> exact ⟨k, e, by rw [has_key hp]; exact h⟩

/-! ### dicts -/
theorem mem_put {ks : List (List Key)} {k x : List Key} : x ∈ dPutK ks k ↔ x ∈ ks ∨ x = k := by
  unfold dPutK
  cases e : kIx ks k with
  | some j =>
    have hm : k ∈ ks := List.mem_of_getElem? (kIx_at e)
    constructor
    · exact .inl
    · rintro (h | rfl)
      · exact h
      · exact hm
  | none => simp
theorem dGet_cons {c x : List Key} {ks : List (List Key)} {d : D} {ds : List D} : dGet (c :: ks) (d :: ds) x = if c = x then some d else dGet ks ds x := by
  unfold dGet
  rw [kIx]
  by_cases e : c = x
  · rw [if_pos e, if_pos e]; rfl
  · rw [if_neg e, if_neg e]
    cases kIx ks x <;> rfl
theorem put_pos {c k : List Key} {ks : List (List Key)} {d v : D} {ds : List D} (e : c = k) : dPutK (c :: ks) k = c :: ks ∧ dPutV (c :: ks) (d :: ds) k v = v :: ds := by
  unfold dPutK dPutV
  rw [kIx, if_pos e]
  exact ⟨rfl, rfl⟩
theorem put_neg {c k : List Key} {ks : List (List Key)} {d v : D} {ds : List D} (e : ¬ c = k) : dPutK (c :: ks) k = c :: dPutK ks k ∧ dPutV (c :: ks) (d :: ds) k v = d :: dPutV ks ds k v := by
  unfold dPutK dPutV
  rw [kIx, if_neg e]
  cases kIx ks k <;> exact ⟨rfl, rfl⟩
theorem get_put {k : List Key} {v : D} (x : List Key) : ∀ {ks : List (List Key)} {ds : List D}, ks.length = ds.length → dGet (dPutK ks k) (dPutV ks ds k v) x = if x = k then some v else dGet ks ds x
  | [], [], _ => by
    show dGet [k] [v] x = _
    rw [dGet_cons]
    by_cases e : k = x
    · rw [if_pos e, if_pos e.symm]
    · rw [if_neg e, if_neg fun h => e h.symm]
  | c :: ks, d :: ds, hl => by
    by_cases e : c = k
    · obtain ⟨e1, e2⟩ := put_pos (ks := ks) (d := d) (v := v) (ds := ds) e
      rw [e1, e2, dGet_cons, dGet_cons]
      by_cases e3 : c = x
      · rw [if_pos e3, if_pos (e3.symm.trans e)]
      · rw [if_neg e3, if_neg fun h => e3 (e.trans h.symm), if_neg e3]
    · obtain ⟨e1, e2⟩ := put_neg (ks := ks) (d := d) (v := v) (ds := ds) e
      rw [e1, e2, dGet_cons, dGet_cons, get_put x (by simpa using hl)]
      by_cases e3 : c = x
      · rw [if_pos e3, if_pos e3, if_neg fun h => e (e3.trans h)]
      · rw [if_neg e3, if_neg e3]
  | [], _ :: _, h => by simp at h
  | _ :: _, [], h => by simp at h
theorem len_putD {ks : List (List Key)} {ds : List D} {k : List Key} {v : D} (hl : ks.length = ds.length) : (dPutK ks k).length = (dPutV ks ds k v).length := by
  unfold dPutK dPutV
  cases kIx ks k <;> simp [hl]
theorem put_vals {ks : List (List Key)} {ds : List D} {k : List Key} {v d : D} (h : d ∈ dPutV ks ds k v) : d ∈ ds ∨ d = v := by
  unfold dPutV at h
  cases e : kIx ks k with
  | none => rw [e] at h; simpa using h
  | some j => rw [e] at h; exact List.mem_or_eq_of_mem_set h
/-- what a dict of pairs holds: the last one's -/
def lookL (ps : List (List Key × D)) (f : List Key → Option D) : List Key → Option D := ps.foldl (fun f p x => if x = p.1 then some p.2 else f x) f
theorem mkDct_is {t : Bool} : ∀ (ps : List (List Key × D)) (ks : List (List Key)) (ds : List D), ks.length = ds.length →
    ∃ ks' ds', mkDct t ps ks ds = .dct true t ks' ds' ∧ ks'.length = ds'.length ∧ (∀ x, dGet ks' ds' x = lookL ps (dGet ks ds) x) ∧ (∀ x, x ∈ ks' ↔ x ∈ ks ∨ x ∈ ps.map (·.1)) ∧ (∀ d ∈ ds', d ∈ ds ∨ d ∈ ps.map (·.2)) ∧ ks'.length ≤ ks.length + ps.length
  | [], ks, ds, hl => ⟨ks, ds, rfl, hl, fun x => rfl, fun x => by simp, fun d h => .inl h, Nat.le_refl _⟩
  | (k, v) :: ps, ks, ds, hl => by
    obtain ⟨ks', ds', h1, h2, h3, h4, h5, h6⟩ := mkDct_is (t := t) ps (dPutK ks k) (dPutV ks ds k v) (len_putD hl)
    refine ⟨ks', ds', h1, h2, fun x => ?_, fun x => ?_, fun d hd => ?_, ?_⟩
    · rw [h3]
      show lookL ps _ x = lookL ps (fun x => if x = k then some v else dGet ks ds x) x
      have : dGet (dPutK ks k) (dPutV ks ds k v) = fun x => if x = k then some v else dGet ks ds x := funext fun x => get_put x hl
      rw [this]
    · rw [h4, mem_put, List.map_cons, List.mem_cons, or_assoc]
    · rcases h5 d hd with h | h
      · rcases put_vals h with h | h
        · exact .inl h
        · exact .inr (by rw [h]; exact List.mem_cons_self)
      · exact .inr (List.mem_cons_of_mem _ h)
    · have : (dPutK ks k).length ≤ ks.length + 1 := by
        unfold dPutK
        cases kIx ks k <;> simp
      rw [List.length_cons]; omega
/-- keys that are whole numbers, values that are pure -/
theorem pairsD_ints (f : Int → D) : ∀ ns : List Int, pairsD false (ns.map fun n => .ptp [.int n, f n]) = some (ns.map fun n => ([.inl n], f n))
  | [] => rfl
  | n :: ns => by rw [List.map_cons, pairsD, pairsD_ints f ns]; rfl
/-- a comprehension's walk over a range, by an invariant of what is made so far -/
theorem lc_rng {own : List Nat} {step : D → Env → (Option D → Env → Prop) → Prop} {q : List D → Env → Prop} (hi : Int) (I : Int → List D → Env → Prop) : ∀ (m : Nat) (lo : Int) (acc : List D) (ρ : Env), (hi - lo).toNat = m → I lo acc ρ →
    (∀ i acc ρ (k : Option D → Env → Prop), lo ≤ i → i < hi → I i acc ρ → (∀ x ρ1, I (i + 1) (acc ++ [x]) (wipeE ρ1 own) → k (some x) ρ1) → (∀ ρ1, I (i + 1) acc (wipeE ρ1 own) → k none ρ1) → step (.int i) ρ k) →
    (∀ i acc ρ, lo ≤ i → i < hi → I i acc ρ → acc.length < sizeLine) → (∀ i acc ρ, hi ≤ i → lo ≤ i → (lo ≤ hi → i = hi) → I i acc ρ → q acc ρ) → lcL own step (rngL lo hi) ρ acc q
  | 0, lo, acc, ρ, hm, h, hs, hz, hd => by
    rw [rng_nil (by omega)]
    exact hd lo acc ρ (by omega) (Int.le_refl _) (by omega) h
  | m + 1, lo, acc, ρ, hm, h, hs, hz, hd => by
    rw [rng_cons (by omega)]
    have go : ∀ acc ρ1, I (lo + 1) acc ρ1 → lcL own step (rngL (lo + 1) hi) ρ1 acc q := fun acc ρ1 h1 =>
      lc_rng hi I m (lo + 1) acc ρ1 (by omega) h1 (fun i acc ρ k a b => hs i acc ρ k (by omega) b) (fun i acc ρ a b => hz i acc ρ (by omega) b) (fun i acc ρ a b c => hd i acc ρ a (by omega) (by omega))
    exact hs lo acc ρ _ (Int.le_refl _) (by omega) h (fun x ρ1 h1 => ⟨hz lo acc ρ (Int.le_refl _) (by omega) h, go _ _ h1⟩) (fun ρ1 h1 => go _ _ h1)
theorem filter_yes {α : Type} (l : List α) : l.filter (fun _ => true) = l := List.filter_eq_self.mpr fun _ _ => rfl
/-- a comprehension without a test -/
theorem lc_all {α : Type} (inj : α → D) {step : D → Env → (Option D → Env → Prop) → Prop} {q : List D → Env → Prop} (g : α → D) (own : List Nat) (ρ0 : Env) (ts : List α)
    (hs : ∀ (t : α), t ∈ ts → ∀ (k : Option D → Env → Prop), (∀ ρ1, wipeE ρ1 own = ρ0 → k (some (g t)) ρ1) → step (inj t) ρ0 k) (hz : ts.length ≤ sizeLine) (h : q (ts.map g) ρ0) : lcL own step (ts.map inj) ρ0 [] q :=
  lc_map inj (fun _ => true) g own ρ0 ts [] (fun t ht k hk => hs t ht k fun ρ1 e => hk ρ1 e) (by simpa using hz) (by rw [filter_yes]; exact h)
/-! ### small rules -/
def pairD (p : Int × Int) : D := .tup [.int p.1, .int p.2]
def prD (p : Int × Int) : D := .ptp [.int p.1, .int p.2]
theorem pus_prs : ∀ ps : List (Int × Int), pus (ps.map prD) = true
  | [] => rfl
  | p :: ps => by rw [List.map_cons, pus, pus_prs ps]; rfl
theorem pus_pairs : ∀ ps : List (Int × Int), pus (ps.map pairD) = true
  | [] => rfl
  | p :: ps => by rw [List.map_cons, pus, pus_pairs ps]; rfl
theorem isPs_pairs : ∀ ps : List (Int × Int), isPs (ps.map pairD) = true
  | [] => rfl
  | p :: ps => by rw [List.map_cons, isPs, isPs_pairs ps]; rfl
theorem canLay_pairs : ∀ ps : List (Int × Int), PyData.canLayAll0 (toPs (ps.map pairD)) = true
  | [] => rfl
  | p :: ps => by rw [List.map_cons, toPs, PyData.canLayAll0, canLay_pairs ps]; rfl
theorem depth_pairs : ∀ ps : List (Int × Int), PyData.depthAll (toPs (ps.map pairD)) ≤ 1
  | [] => Nat.zero_le _
  | p :: ps => by
    have := depth_pairs ps
    rw [List.map_cons, toPs, PyData.depthAll]
    have e : (toP (pairD p)).depth = 1 := rfl
    rw [e]
    omega
theorem eqOk_pairs (o : Bool) (ps : List (Int × Int)) : eqOk (.lst o (ps.map pairD)) := ⟨isPs_pairs ps, shaped_mk (canLay_pairs ps) (by
  show PyData.depthAll (toPs (ps.map pairD)) + 1 ≤ 64
  have := depth_pairs ps
  omega)⟩
theorem in_pairs {x y : Int} {o : Bool} {ps : List (Int × Int)} {q : Bool → Prop} (h : ∀ b, q b) : cmp2 .In [.tup [.int x, .int y], .lst o (ps.map pairD)] q := ⟨eq_ok2 x y, eqOk_pairs o ps, h _⟩
theorem emod2 (a b : Int) (h : 0 < b) : 0 ≤ a % b ∧ a % b < b := ⟨Int.emod_nonneg _ (by omega), Int.emod_lt_of_pos _ h⟩
theorem log60 {m : Int} (h : m.natAbs < 2 ^ 60) : m.natAbs.log2 < 9000 := by
  have := log2_le (n := m.natAbs) (k := 60) h (by decide)
  omega
/-- a while by an invariant and a measure -/
theorem wh_inv {c : Env → (Bool → Env → Prop) → Prop} {b : Env → Post → Prop} {P : Post} (I : Nat → Env → Prop)
    (hs : ∀ (m : Nat) (ρ : Env) (K : Bool → Env → Prop), I m ρ → (∀ ρ1, (∀ P' : Post, (∀ j ρ2, j < m → I j ρ2 → P'.nx ρ2) → (∀ j ρ2, j < m → I j ρ2 → P'.ct ρ2) → (∀ ρ2, P.nx ρ2 → P'.bk ρ2) → (∀ v ρ2, P.rt v ρ2 → P'.rt v ρ2) → b ρ1 P') → K true ρ1) →
      (∀ ρ1, P.nx ρ1 → K false ρ1) → c ρ K) : ∀ (n m : Nat) (ρ : Env), m < n → I m ρ → whL c b n ρ P
  | 0, m, ρ, h, _ => absurd h (Nat.not_lt_zero m)
  | n + 1, m, ρ, h, hI => by
    refine hs m ρ _ hI (fun ρ1 hb => ?_) (fun ρ1 hn => ?_)
    · rw [if_pos rfl]
      exact hb _ (fun j ρ2 hj hI => wh_inv I hs n j ρ2 (by omega) hI) (fun j ρ2 hj hI => wh_inv I hs n j ρ2 (by omega) hI) (fun _ q => q) (fun _ _ q => q)
    · rw [if_neg (by decide)]; exact hn
/-- a part of a list -/
def cutX {α : Type} (xs : List α) (lo hi : Option Int) : List α := (xs.drop (HT.sIx xs.length 0 lo)).take (HT.sIx xs.length xs.length hi - HT.sIx xs.length 0 lo)
theorem cutD_map {α : Type} (f : α → D) (xs : List α) (lo hi : Option Int) : cutD (xs.map f) lo hi = (cutX xs lo hi).map f := by
  unfold cutD cutX
  rw [List.length_map, List.map_take, List.map_drop]
theorem cutX_len {α : Type} (xs : List α) (lo hi : Option Int) : (cutX xs lo hi).length ≤ xs.length := by
  unfold cutX
  rw [List.length_take, List.length_drop]; omega
theorem cutX_mem {α : Type} {xs : List α} {lo hi : Option Int} {x : α} (h : x ∈ cutX xs lo hi) : x ∈ xs := List.mem_of_mem_drop (List.mem_of_mem_take h)
theorem zip_pairs (us ws : List Int) : zipL (us.map D.int) (ws.map D.int) = (us.zip ws).map prD := by
  unfold zipL
  induction us generalizing ws with
  | nil => rfl
  | cons u us ih =>
    cases ws with
    | nil => rfl
    | cons w ws => simp only [List.map_cons, List.zipWith_cons_cons, List.zip_cons_cons]; rw [ih]; rfl
theorem b01s (b : Bool) : -(2 ^ 64) < (if b = true then (1 : Int) else 0) ∧ (if b = true then (1 : Int) else 0) < 2 ^ 64 := by cases b <;> decide
theorem sIx_of {n d : Nat} {i : Int} (h : 0 ≤ i) : HT.sIx n d (some i) = min i.toNat n := if_neg (by omega)
theorem orV_bl {b : Env → (D → Env → Prop) → Prop} {k : Bool} {ρ : Env} {q : D → Env → Prop} (h1 : k = true → q (.bl true) ρ) (h2 : k = false → b ρ q) : orV b (.bl k) ρ q := by
  cases k with
  | true => exact h1 rfl
  | false => exact h2 rfl
theorem andV_bl {b : Env → (D → Env → Prop) → Prop} {k : Bool} {ρ : Env} {q : D → Env → Prop} (h1 : k = true → b ρ q) (h2 : k = false → q (.bl false) ρ) : andV b (.bl k) ρ q := by
  cases k with
  | true => exact h1 rfl
  | false => exact h2 rfl
theorem cmp_eq_bl {k l : Bool} {q : Bool → Prop} (e : k = l) (h : q true) : cmp2 .Eq [.bl k, .bl l] q := by
  subst e
  cases k
  · exact ⟨⟨rfl, rfl⟩, ⟨rfl, rfl⟩, h⟩
  · exact ⟨⟨rfl, rfl⟩, ⟨rfl, rfl⟩, h⟩
/-- the whole numbers below n -/
def belowL (n : Int) : List Int := (List.range n.toNat).map fun i : Nat => (i : Int)
theorem below_len (n : Int) : (belowL n).length = n.toNat := by unfold belowL; simp
theorem mem_below {n x : Int} : x ∈ belowL n ↔ 0 ≤ x ∧ x < n := by
  unfold belowL
  rw [List.mem_map]
  constructor
  · rintro ⟨i, hi, rfl⟩
    have := List.mem_range.mp hi; omega
  · rintro ⟨h0, h1⟩
    exact ⟨x.toNat, List.mem_range.mpr (by omega), by omega⟩
theorem rng_below (n : Int) : rngL 0 n = (belowL n).map D.int := by
  unfold rngL belowL
  rw [List.map_map, Int.sub_zero]
  apply List.map_congr_left
  intro i _
  show D.int (0 + (i : Int)) = D.int (i : Int)
  rw [Int.zero_add]
theorem map_erase {α : Type} (f : α → D) : ∀ (xs : List α) (j : Nat), (xs.map f).eraseIdx j = (xs.eraseIdx j).map f
  | [], _ => rfl
  | x :: xs, 0 => rfl
  | x :: xs, j + 1 => by rw [List.map_cons, List.eraseIdx_cons_succ, List.eraseIdx_cons_succ, List.map_cons, map_erase f xs j]
theorem erase_perm {α : Type} : ∀ (xs : List α) (j : Nat) (h : j < xs.length), (xs[j] :: xs.eraseIdx j).Perm xs
  | [], _, h => nomatch h
  | x :: xs, 0, h => .refl _
  | x :: xs, j + 1, h => by
    have := erase_perm xs j (Nat.lt_of_succ_lt_succ h)
    rw [List.eraseIdx_cons_succ, List.getElem_cons_succ]
    exact (List.Perm.swap _ _ _).trans (this.cons x)
theorem lc_id {step : D → Env → (Option D → Env → Prop) → Prop} {q : List D → Env → Prop} (g : D → D) (own : List Nat) (ρ0 : Env) (ts : List D)
    (hs : ∀ (t : D), t ∈ ts → ∀ (k : Option D → Env → Prop), (∀ ρ1, wipeE ρ1 own = ρ0 → k (some (g t)) ρ1) → step t ρ0 k) (hz : ts.length ≤ sizeLine) (h : q (ts.map g) ρ0) : lcL own step ts ρ0 [] q := by
  have := lc_all id g own ρ0 ts hs hz h
  rwa [List.map_id] at this
/-- a whole number of the module -/
theorem glb_int {K : PySem.W.Frag} {h : Heap} {mg : Str → Option Value} (X : K.In h) (G : h.Ns mainGlobals mg) {x : Str} {i : Int} {t} (e : PySem.W.nsIn K mainGlobals x = some (some (.int i t))) (hd : (x == ("__debug__" : Str)) = false := by decide) : GlbK K mg x (.int i) :=
  ⟨_, .int i, PySem.W.mg_of X G e, ⟨_, rfl⟩, fun _ _ => int_rep, (fun z => nomatch z), hd⟩
/-! ### tables -/
def tabL (n : Nat) (f : Nat → D) : List D := (List.range n).map f
def tabD (o : Bool) (n : Nat) (F : Nat → Nat → Int) : D := .lst o (tabL n fun i => .lst o (tabL n fun j => .int (F i j)))
theorem tabL_len (n : Nat) (f : Nat → D) : (tabL n f).length = n := by unfold tabL; simp
theorem tabL_get {n : Nat} {f : Nat → D} {j : Nat} (h : j < n) : (tabL n f)[j]? = some (f j) := by unfold tabL; simp [h]
theorem tabL_getD {n : Nat} {f : Nat → D} {j : Nat} (h : j < n) : (tabL n f).getD j .un = f j := by rw [List.getD_eq_getElem?_getD, tabL_get h]; rfl
theorem tabL_set (n : Nat) (f : Nat → D) (j : Nat) (v : D) : (tabL n f).set j v = tabL n (fun i => if i = j then v else f i) := by
  apply List.ext_getElem
  · simp [tabL]
  · intro i h1 h2
    simp [tabL, List.getElem_set]
    by_cases e : j = i
    · subst e; simp
    · rw [if_neg e, if_neg (fun h => e h.symm)]
theorem tabL_at {n : Nat} {f : Nat → D} {i : Int} (h0 : 0 ≤ i) (h : i.toNat < n) : atI (tabL n f) i = some (f i.toNat) := atI_of h0 (tabL_get h)
theorem tabL_congr {n : Nat} {f g : Nat → D} (h : ∀ i, i < n → f i = g i) : tabL n f = tabL n g := by
  unfold tabL
  exact List.map_congr_left fun i hi => h i (List.mem_range.mp hi)
theorem tabL_succ (n : Nat) (f : Nat → D) : tabL (n + 1) f = tabL n f ++ [f n] := by
  unfold tabL
  rw [List.range_succ, List.map_append]; rfl
theorem pus_tabI (n : Nat) (f : Nat → Int) : pus (tabL n fun i => .int (f i)) = true := by
  rw [pus_all, List.all_eq_true]
  intro d hd
  unfold tabL at hd
  obtain ⟨i, _, rfl⟩ := List.mem_map.mp hd
  rfl
theorem pus_tabR (n m : Nat) (F : Nat → Nat → Int) : pus (tabL n fun i => .lst false (tabL m fun j => .int (F i j))) = true := by
  rw [pus_all, List.all_eq_true]
  intro d hd
  unfold tabL at hd
  obtain ⟨i, _, rfl⟩ := List.mem_map.mp hd
  have := pus_tabI m (fun j => F i j)
  unfold tabL at this
  show (!false && pus ((List.range m).map fun j => D.int (F i j))) = true
  rw [this]; rfl
theorem fz_tabI (n : Nat) (f : Nat → Int) : fzs (tabL n fun i => .int (f i)) = tabL n fun i => .int (f i) := by
  rw [fzs_map]; unfold tabL; rw [List.map_map]; rfl
theorem fz_tab (o : Bool) (n : Nat) (F : Nat → Nat → Int) : fz (tabD o n F) = tabD false n F := by
  unfold tabD
  rw [fz, fzs_map]
  unfold tabL
  rw [List.map_map]
  congr 1
  apply List.map_congr_left
  intro i _
  show fz (.lst o (tabL n fun j => .int (F i j))) = _
  rw [fz, fz_tabI]; rfl
/-- rows of rows, drawn place by place -/
theorem lc_two {S : Type} (E : S → D → D → Env) (a b : Nat) (m : Int) (I : Nat → S → Prop) (elt : IR) (q : D → Env → Prop) (s : S) (u : Nat)
    (h1 : ∀ s x y, gt (E s x y) 1 = .int m) (hm : 0 ≤ m ∧ m ≤ 900)
    (ha : ∀ s x y z, (E s x y).set a z = E s z y) (hb : ∀ s x y z, (E s x y).set b z = E s x z) (ga : ∀ s x y, gt (E s x y) a = x) (gb : ∀ s x y, gt (E s x y) b = y) (hI : I u s)
    (hs : ∀ k s i j (K : D → Env → Prop), k < u + m.toNat * m.toNat → I k s → 0 ≤ i → i < m → 0 ≤ j → j < m → (∀ v s', I (k + 1) s' → K (.int v) (E s' (.int i) (.int j))) → (sm elt).E (E s (.int i) (.int j)) K)
    (hq : ∀ F s', I (u + m.toNat * m.toNat) s' → q (tabD true m.toNat F) (E s' .un .un)) :
    wpE (.lc [a] (.tn a) (.itR (.cons (.br 1) .nil)) (.cst (.bl true)) (.lc [b] (.tn b) (.itR (.cons (.br 1) .nil)) (.cst (.bl true)) elt)) (E s .un .un) q := by
  have big : 900 < sizeLine := by decide
  have nu : ∀ s x y, isUn (gt (E s x y) 1) = false := fun s x y => by rw [h1]; rfl
  refine ⟨nu _ _ _, ?_⟩
  show rngS [gt (E s .un .un) 1] _
  rw [h1]
  refine ⟨by omega, by omega, ?_⟩
  refine ⟨by unfold puAt; rw [List.all_cons, ga]; rfl, ?_⟩
  have e1 : ∀ s x y, wipeE (E s x y) [a] = E s .un y := fun s x y => ha s x y .un
  have e2 : ∀ s x y, wipeE (E s x y) [b] = E s x .un := fun s x y => hb s x y .un
  rw [e1]
  refine lc_rng m (fun i acc ρ => ∃ (s' : S) (F : Nat → Nat → Int), I (u + i.toNat * m.toNat) s' ∧ acc = tabL i.toNat (fun x => .lst true (tabL m.toNat fun y => .int (F x y))) ∧ ρ = E s' .un .un) _ 0 _ _ rfl ⟨s, fun _ _ => 0, by simpa using hI, rfl, rfl⟩ ?_ ?_ ?_
  · rintro i _ _ C i0 i1 ⟨s1, F, hI1, rfl, rfl⟩ hT hF
    show bindT (.tn a) (.int i) (E s1 .un .un) _
    refine (show (fun ρ3 => (sm (.cst (.bl true))).T ρ3 _) ((E s1 .un .un).set a (.int i)) from ?_)
    rw [ha]
    refine ⟨true, rfl, ?_⟩
    refine (show (sm (.lc [b] (.tn b) (.itR (.cons (.br 1) .nil)) (.cst (.bl true)) elt)).E (E s1 (.int i) .un) (fun e ρ5 => C (some e) ρ5) from ?_)
    refine ⟨nu _ _ _, ?_⟩
    show rngS [gt (E s1 (.int i) .un) 1] _
    rw [h1]
    refine ⟨by omega, by omega, ?_⟩
    refine ⟨by unfold puAt; rw [List.all_cons, gb]; rfl, ?_⟩
    rw [e2]
    refine lc_rng m (fun j acc ρ => ∃ (s' : S) (G : Nat → Int), I (u + i.toNat * m.toNat + j.toNat) s' ∧ acc = tabL j.toNat (fun y => .int (G y)) ∧ ρ = E s' (.int i) .un) _ 0 _ _ rfl ⟨s1, fun _ => 0, hI1, rfl, rfl⟩ ?_ ?_ ?_
    · rintro j _ _ C2 j0 j1 ⟨s2, G, hI2, rfl, rfl⟩ hT2 hF2
      refine (show (fun ρ3 => (sm (.cst (.bl true))).T ρ3 _) ((E s2 (.int i) .un).set b (.int j)) from ?_)
      rw [hb]
      refine ⟨true, rfl, ?_⟩
      refine (show (sm elt).E (E s2 (.int i) (.int j)) (fun e ρ5 => C2 (some e) ρ5) from ?_)
      have lt : u + i.toNat * m.toNat + j.toNat < u + m.toNat * m.toNat := by
        have : (i.toNat + 1) * m.toNat ≤ m.toNat * m.toNat := Nat.mul_le_mul_right _ (by omega)
        rw [Nat.add_mul] at this
        omega
      refine hs _ s2 i j _ lt hI2 i0 i1 j0 j1 fun v s3 hI3 => hT2 _ _ ⟨s3, fun y => if y = j.toNat then v else G y, ?_, ?_, by rw [e2]⟩
      · have e : (j + 1).toNat = j.toNat + 1 := by omega
        rw [e]; exact hI3
      · have e : (j + 1).toNat = j.toNat + 1 := by omega
        rw [e, tabL_succ]
        dsimp only
        rw [if_pos rfl]
        congr 1
        exact tabL_congr fun y hy => by rw [if_neg (by omega)]
    · rintro j _ _ j0 j1 ⟨s2, G, hI2, rfl, rfl⟩
      rw [tabL_len]; omega
    · rintro j _ _ j0 j1 j2 ⟨s2, G, hI2, rfl, rfl⟩
      have hj := j2 (by omega)
      subst hj
      have eb : backE [b] (E s1 (.int i) .un) (E s2 (.int i) .un) = E s2 (.int i) .un := by
        show (E s2 (.int i) .un).set b (gt (E s1 (.int i) .un) b) = _
        rw [gb, hb]
      rw [eb]
      refine hT _ _ ⟨s2, fun x => if x = i.toNat then G else F x, ?_, ?_, by rw [e1]⟩
      · have e : u + (i + 1).toNat * j.toNat = u + i.toNat * j.toNat + j.toNat := by
          have : (i + 1).toNat = i.toNat + 1 := by omega
          rw [this, Nat.add_mul]; omega
        rw [e]; exact hI2
      · have e : (i + 1).toNat = i.toNat + 1 := by omega
        rw [e, tabL_succ]
        dsimp only
        rw [if_pos rfl]
        congr 1
        exact tabL_congr fun y hy => by rw [if_neg (by omega)]
  · rintro i _ _ i0 i1 ⟨s1, F, hI1, rfl, rfl⟩
    rw [tabL_len]; omega
  · rintro i _ _ i0 i1 i2 ⟨s1, F, hI1, rfl, rfl⟩
    have hi := i2 (by omega)
    subst hi
    have eb : backE [a] (E s .un .un) (E s1 .un .un) = E s1 .un .un := by
      show (E s1 .un .un).set a (gt (E s .un .un) a) = _
      rw [ga, ha]
    rw [eb]
    exact hq F s1 hI1
/-! ### what all laws share: hands of draws, webs, plain data, rows -/
abbrev Hs := Int × Int × Int
def handD (s : Hs) : D := .lst true [.int s.1, .int s.2.1, .int s.2.2]
structure HOk (n : Nat) (s : Hs) : Prop where
  a : 0 ≤ s.1
  b : 0 ≤ s.2.1 ∧ s.2.1 < 2 ^ 63
  c : 0 ≤ s.2.2 ∧ s.2.2 ≤ n
theorem HOk.up {n m : Nat} {s : Hs} (h : HOk n s) (l : n ≤ m) : HOk m s := ⟨h.a, h.b, h.c.1, by have := h.c.2; omega⟩
def sp_law_hand : Spec := fun ds post => ∃ (ns : List Int) (k : Int), ds = [scriptD ns, .int k] ∧ 0 ≤ k ∧ k < 64 ∧ ∀ s, HOk 0 s → post (handD s) [scriptD ns, .int k]
def sp_law_take : Spec := fun ds post => ∃ n s m, ds = [handD s, .int m] ∧ HOk n s ∧ n ≤ 1000000000 ∧ 0 < m ∧ m ≤ 10000000000000000000000000000000000000000 ∧ ∀ r s', 0 ≤ r → r < m → HOk (n + 1) s' → post (.int r) [handD s', .int m]
/-- one of some things -/
def sp_law_pick : Spec := fun ds post => ∃ n s o xs, ds = [handD s, .lst o xs] ∧ HOk n s ∧ n ≤ 1000000000 ∧ xs ≠ [] ∧ pus xs = true ∧ xs.length ≤ 1000000 ∧ ∀ x s', x ∈ xs → HOk (n + 1) s' → post x [handD s', .lst o xs]
theorem m40 {m : Int} (h0 : 0 < m) (h : m ≤ 10000000000000000000000000000000000000000) : m.natAbs.log2 < 9000 := by
  have := log2_le (n := m.natAbs) (k := 140) (by omega) (by decide)
  omega
abbrev Tie := Int × Int × Int
def tieD (t : Tie) : D := .tup [.int t.1, .int t.2.1, .int t.2.2]
def webD (n : Int) (ts : List Tie) : D := .tup [.int n, .tup (ts.map tieD)]
def lotD (lot : List Int) : D := .tup (lot.map D.int)
def rowsD (rs : List (List Int)) : List D := rs.map lotD
/-- a web: ties of places below n, each two once, rising -/
structure WebOk (n : Int) (ts : List Tie) : Prop where
  n1 : 1 ≤ n
  n30 : n ≤ 30
  low : ∀ t ∈ ts, 0 ≤ t.1 ∧ t.1 < t.2.1 ∧ t.2.1 < n ∧ 0 ≤ t.2.2 ∧ t.2.2 ≤ 1000000000
  inc : ts.Pairwise fun s t => s.1 < t.1 ∨ (s.1 = t.1 ∧ s.2.1 < t.2.1)
theorem pus_ties : ∀ ts : List Tie, pus (ts.map tieD) = true
  | [] => rfl
  | t :: ts => by rw [List.map_cons, pus, pus_ties ts]; rfl
theorem pu_web (n : Int) (ts : List Tie) : pu (webD n ts) = true := by unfold webD; rw [pu, pus, pus, pus, pu, pus_ties]; rfl
theorem pu_lot (l : List Int) : pu (lotD l) = true := by unfold lotD; rw [pu, pus_ints]
theorem pus_lots : ∀ rs : List (List Int), pus (rs.map lotD) = true
  | [] => rfl
  | r :: rs => by rw [List.map_cons, pus, pus_lots rs, pu_lot]; rfl
theorem fz_ints : ∀ ns : List Int, fzs (ns.map D.int) = ns.map D.int
  | [] => rfl
  | n :: ns => by rw [List.map_cons, fzs, fz_ints ns]; rfl
theorem at_ints {ns : List Int} {r : Int} (h0 : 0 ≤ r) (h : r < ns.length) : ∃ x, x ∈ ns ∧ atI (ns.map D.int) r = some (.int x) := by
  have hr : r.toNat < ns.length := by omega
  exact ⟨ns[r.toNat], List.getElem_mem hr, atI_of h0 (by rw [List.getElem?_map, List.getElem?_eq_getElem hr]; rfl)⟩
/-- what lies at a place of a list -/
theorem at_mem {xs : List D} {r : Int} (h0 : 0 ≤ r) (h : r < xs.length) : ∃ x, x ∈ xs ∧ atI xs r = some x := by
  have hr : r.toNat < xs.length := by omega
  exact ⟨xs[r.toNat], List.getElem_mem hr, atI_of h0 (List.getElem?_eq_getElem hr)⟩
theorem at_get {xs : List D} {r : Int} (h0 : 0 ≤ r) (h : r < xs.length) : ∃ x, x ∈ xs ∧ xs[r.toNat]? = some x := by
  have hr : r.toNat < xs.length := by omega
  exact ⟨xs[r.toNat], List.getElem_mem hr, List.getElem?_eq_getElem hr⟩
theorem at_map {α : Type} (f : α → D) {xs : List α} {r : Int} (h0 : 0 ≤ r) (h : r < xs.length) : ∃ x, x ∈ xs ∧ xs[r.toNat]? = some x ∧ atI (xs.map f) r = some (f x) := by
  have hr : r.toNat < xs.length := by omega
  exact ⟨xs[r.toNat], List.getElem_mem hr, List.getElem?_eq_getElem hr, atI_of h0 (by rw [List.getElem?_map, List.getElem?_eq_getElem hr]; rfl)⟩
theorem pus_mem {xs : List D} (h : pus xs = true) {x : D} (hx : x ∈ xs) : pu x = true := by
  rw [pus_all] at h
  exact List.all_eq_true.mp h x hx
theorem pus_append {xs ys : List D} (h1 : pus xs = true) (h2 : pus ys = true) : pus (xs ++ ys) = true := by
  rw [pus_all] at *
  rw [List.all_append, h1, h2]; rfl
theorem pus_map {α : Type} {f : α → D} {xs : List α} (h : ∀ x ∈ xs, pu (f x) = true) : pus (xs.map f) = true := by
  rw [pus_all, List.all_eq_true]
  intro d hd
  obtain ⟨x, hx, rfl⟩ := List.mem_map.mp hd
  exact h x hx
theorem pw_len : ∀ (ns : List Int) (lo hi : Int), ns.Pairwise (· < ·) → (∀ x ∈ ns, lo ≤ x ∧ x < hi) → lo ≤ hi → (ns.length : Int) ≤ hi - lo
  | [], lo, hi, _, _, h => by simp; omega
  | x :: xs, lo, hi, hp, hb, h => by
    rw [List.pairwise_cons] at hp
    have hx := hb x List.mem_cons_self
    have := pw_len xs (x + 1) hi hp.2 (fun y hy => ⟨hp.1 y hy, (hb y (List.mem_cons_of_mem _ hy)).2⟩) (by omega)
    rw [List.length_cons]; omega
theorem WebOk.few {n : Int} {ts : List Tie} (w : WebOk n ts) : ts.length ≤ 900 := by
  have := pw_len (ts.map fun t => t.1 * 30 + t.2.1) 0 900 (by
    rw [List.pairwise_map]
    refine w.inc.imp_of_mem fun {s t} hs ht h => ?_
    have h1 := w.low s hs
    have h2 := w.low t ht
    have := w.n30
    omega) (fun x hx => by
    obtain ⟨t, ht, rfl⟩ := List.mem_map.mp hx
    have h2 := w.low t ht
    have := w.n30
    omega) (by decide)
  rw [List.length_map] at this; omega
/-- ties drawn so far: all below (i, j) -/
structure Drawn (n : Int) (i j : Int) (ts : List Tie) : Prop where
  low : ∀ t ∈ ts, 0 ≤ t.1 ∧ t.1 < t.2.1 ∧ t.2.1 < n ∧ 0 ≤ t.2.2 ∧ t.2.2 ≤ 1000000000
  inc : ts.Pairwise fun s t => s.1 < t.1 ∨ (s.1 = t.1 ∧ s.2.1 < t.2.1)
  beh : ∀ t ∈ ts, t.1 < i ∨ (t.1 = i ∧ t.2.1 < j)
theorem Drawn.nil (n i j : Int) : Drawn n i j [] := ⟨fun t ht => (nomatch ht), .nil, fun t ht => (nomatch ht)⟩
theorem Drawn.up {n i j k l : Int} {ts : List Tie} (d : Drawn n i j ts) (h : i < k ∨ (i = k ∧ j ≤ l)) : Drawn n k l ts :=
  ⟨d.low, d.inc, fun t ht => by have := d.beh t ht; omega⟩
theorem Drawn.push {n i j f : Int} {ts : List Tie} (d : Drawn n i j ts) (h0 : 0 ≤ i) (h1 : i < j) (h2 : j < n) (h3 : 0 ≤ f) (h4 : f ≤ 1000000000) : Drawn n i (j + 1) (ts ++ [(i, j, f)]) := by
  refine ⟨fun t ht => ?_, ?_, fun t ht => ?_⟩
  · rcases List.mem_append.mp ht with ht | ht
    · exact d.low t ht
    · rw [List.mem_singleton] at ht; subst ht; exact ⟨h0, h1, h2, h3, h4⟩
  · rw [List.pairwise_append]
    refine ⟨d.inc, List.pairwise_singleton _ _, fun s hs t ht => ?_⟩
    rw [List.mem_singleton] at ht; subst ht
    exact d.beh s hs
  · rcases List.mem_append.mp ht with ht | ht
    · have := d.beh t ht; omega
    · rw [List.mem_singleton] at ht; subst ht
      exact .inr ⟨rfl, by show j < j + 1; omega⟩
theorem Drawn.ok {n i j : Int} {ts : List Tie} (d : Drawn n i j ts) (h1 : 1 ≤ n) (h30 : n ≤ 30) : WebOk n ts := ⟨h1, h30, d.low, d.inc⟩
theorem Drawn.few {n i j : Int} {ts : List Tie} (d : Drawn n i j ts) (h : n ≤ 30) : ts.length ≤ 900 := by
  by_cases e : 1 ≤ n
  · exact WebOk.few (n := n) ⟨e, h, d.low, d.inc⟩
  · cases ts with
    | nil => exact Nat.zero_le _
    | cons t r => have := d.low t List.mem_cons_self; omega

/-! ### plain data of any kind -/
mutual
def fine : D → Bool
  | .un => false | .raw _ => false | .ins _ _ _ _ => false
  | .non => true | .bl _ => true | .int _ => true | .str _ => true
  | .tup ds => decide (ds.length ≤ 1000) && fines ds
  | .ptp _ => false
  | .lst o ds => !o && (decide (ds.length ≤ 1000) && fines ds)
  | .scr ds => decide (ds.length ≤ 1000) && fines ds
  | .dct o _ _ ds => !o && fines ds
def fines : List D → Bool
  | [] => true
  | d :: ds => fine d && fines ds
end
theorem fines_all : ∀ ds : List D, fines ds = ds.all fine
  | [] => rfl
  | d :: ds => by rw [fines, List.all_cons, fines_all ds]
theorem fines_mem {ds : List D} (h : fines ds = true) {d : D} (hd : d ∈ ds) : fine d = true := by
  rw [fines_all] at h
  exact List.all_eq_true.mp h d hd
theorem fines_of {ds : List D} (h : ∀ d ∈ ds, fine d = true) : fines ds = true := by
  rw [fines_all]
  exact List.all_eq_true.mpr h
theorem fine_tup {ds : List D} : fine (.tup ds) = true ↔ ds.length ≤ 1000 ∧ fines ds = true := by
  rw [fine, Bool.and_eq_true, decide_eq_true_eq]
mutual
theorem fine_pu : ∀ d : D, fine d = true → pu d = true
  | .un, h => by cases h
  | .raw _, h => by cases h
  | .ins _ _ _ _, h => by cases h
  | .ptp _, h => by cases h
  | .non, _ => rfl | .bl _, _ => rfl | .int _, _ => rfl | .str _, _ => rfl
  | .tup ds, h => by rw [fine, Bool.and_eq_true] at h; rw [pu]; exact fines_pus ds h.2
  | .lst o ds, h => by rw [fine, Bool.and_eq_true, Bool.and_eq_true] at h; rw [pu, h.1, fines_pus ds h.2.2]; rfl
  | .scr ds, h => by rw [fine, Bool.and_eq_true] at h; rw [pu]; exact fines_pus ds h.2
  | .dct o _ _ ds, h => by rw [fine, Bool.and_eq_true] at h; rw [pu, h.1, fines_pus ds h.2]; rfl
theorem fines_pus : ∀ ds : List D, fines ds = true → pus ds = true
  | [], _ => rfl
  | d :: ds, h => by rw [fines, Bool.and_eq_true] at h; rw [pus, fine_pu d h.1, fines_pus ds h.2]; rfl
end
theorem fine_nu {d : D} (h : fine d = true) : isUn d = false := by cases d <;> first | rfl | cases h
theorem fine_fz {d : D} (h : fine d = true) : fz d = d := fz_pu d (fine_pu d h)
def tyB (t : TY) (d : D) : Bool := (typeIs t d).getD false
theorem fine_ty {d : D} (h : fine d = true) (t : TY) : typeIs t d = some (tyB t d) := by
  cases d <;> first | rfl | cases h
theorem fine_lot (l : List Int) (h : l.length ≤ 1000) : fine (lotD l) = true := by
  unfold lotD
  rw [fine_tup, List.length_map]
  refine ⟨h, fines_of fun d hd => ?_⟩
  obtain ⟨i, _, rfl⟩ := List.mem_map.mp hd
  rfl
theorem fine_ties (ts : List Tie) (h : ts.length ≤ 1000) : fine (.tup (ts.map tieD)) = true := by
  rw [fine_tup, List.length_map]
  refine ⟨h, fines_of fun d hd => ?_⟩
  obtain ⟨i, _, rfl⟩ := List.mem_map.mp hd
  rfl
theorem fine_web {n : Int} {ts : List Tie} (h : ts.length ≤ 1000) : fine (webD n ts) = true := by
  have := fine_ties ts h
  unfold webD
  rw [fine_tup, fines, fines, fines, this]
  exact ⟨(show 2 ≤ 1000 by decide), rfl⟩
theorem nu1 {d : D} (h : isUn d = false) : noUn [d] := by unfold noUn; simp [h]
theorem nu2 {c d : D} (h : isUn c = false) (h2 : isUn d = false) : noUn [c, d] := by unfold noUn; simp [h, h2]
theorem nu3 {b c d : D} (h0 : isUn b = false) (h : isUn c = false) (h2 : isUn d = false) : noUn [b, c, d] := by unfold noUn; simp [h0, h, h2]

/-! ### what may be sorted -/
theorem isPs_map {α : Type} {f : α → D} {xs : List α} (h : ∀ x ∈ xs, isP (f x) = true) : isPs (xs.map f) = true := by
  induction xs with
  | nil => rfl
  | cons x xs ih =>
    rw [List.map_cons, isPs, h x List.mem_cons_self, ih fun y hy => h y (List.mem_cons_of_mem _ hy)]; rfl
theorem toPs_ints : ∀ l : List Int, toPs (l.map D.int) = l.map PyData.int
  | [] => rfl
  | n :: ns => by rw [List.map_cons, toPs, toPs_ints ns]; rfl
theorem toP_lot (l : List Int) : toP (lotD l) = .tuple (l.map PyData.int) := by unfold lotD; rw [toP, toPs_ints]
theorem alike_ints : ∀ l m : List Int, W.alikeAll (l.map PyData.int) (m.map PyData.int) = true
  | [], [] => rfl | [], _ :: _ => rfl | _ :: _, [] => rfl
  | n :: l, k :: m => by
    have := alike_ints l m
    show (true && W.alikeAll _ _) = true
    rw [this]; rfl
theorem depth_ints : ∀ l : List Int, PyData.depthAll (l.map PyData.int) = 0
  | [] => rfl
  | n :: l => by
    show max 0 (PyData.depthAll (l.map PyData.int)) = 0
    rw [depth_ints l]; rfl
/-- rows of whole numbers, none empty, may be sorted -/
theorem sortOk_lots (rs : List (List Int)) (h : ∀ r ∈ rs, r ≠ []) : SortOk (rs.map lotD) where
  pu := pus_lots rs
  p := isPs_map fun r _ => by unfold lotD; rw [isP]; exact isPs_ints r
  al := fun d hd d' hd' => by
    rw [List.map_map] at hd hd'
    obtain ⟨a, _, rfl⟩ := List.mem_map.mp hd
    obtain ⟨b, _, rfl⟩ := List.mem_map.mp hd'
    show W.alike (toP (lotD a)) (toP (lotD b)) = true
    rw [toP_lot, toP_lot]
    exact alike_ints a b
  so := .inl fun d hd => by
    rw [List.map_map] at hd
    obtain ⟨a, ha, rfl⟩ := List.mem_map.mp hd
    cases a with
    | nil => exact absurd rfl (h _ ha)
    | cons x r => exact ⟨.int x, r.map .int, toP_lot (x :: r)⟩
  de := fun d hd => by
    obtain ⟨a, _, rfl⟩ := List.mem_map.mp hd
    rw [toP_lot]
    show PyData.depthAll (a.map PyData.int) + 1 ≤ 32
    rw [depth_ints]; decide
theorem sortOk_ties (ts : List Tie) : SortOk (ts.map tieD) := by
  have := sortOk_lots (ts.map fun t => [t.1, t.2.1, t.2.2]) (fun r hr => by obtain ⟨t, _, rfl⟩ := List.mem_map.mp hr; exact fun e => nomatch e)
  rw [List.map_map] at this
  exact this
theorem sortD_perm (ds : List D) : (sortD ds).Perm ds := List.mergeSort_perm _ _
theorem fines_perm {ds es : List D} (p : ds.Perm es) (h : fines es = true) : fines ds = true := fines_of fun d hd => fines_mem h (p.mem_iff.mp hd)
/-! ### rules for common forms -/
/-- all([.. for ..]) -/
theorem all_lc {α : Type} (inj : α → D) (f : α → Bool) (xs : List α) (ρ0 : Env) {own : List Nat} {tg it elt : IR} {ρ : Env} {q : D → Env → Prop}
    (hit : ∀ k : List D → Env → Prop, k (xs.map inj) ρ → (sm it).I ρ k) (hp : puAt own ρ) (hw : wipeE ρ own = ρ0)
    (hs : ∀ t ∈ xs, ∀ k : D → Env → Prop, (∀ ρ1, wipeE ρ1 own = ρ0 → k (.bl (f t)) ρ1) → bindT tg (inj t) ρ0 fun ρ3 => (sm elt).E ρ3 k) (hz : xs.length ≤ sizeLine)
    (h : q (.bl (xs.all f)) (backE own ρ ρ0)) : (sm (.ap (.bif .all) (.cons (.lc own tg it (.cst (.bl true)) elt) .nil))).E ρ q := by
  refine hit _ ⟨hp, ?_⟩
  rw [hw]
  refine lc_all inj (fun t => .bl (f t)) own ρ0 xs (fun t ht k hk => ?_) hz ?_
  · have := hs t ht (fun d ρ1 => k (some d) ρ1) fun ρ1 e => hk ρ1 e
    have tr : ∀ (tg : IR) (d : D) (ρ : Env) (P Q : Env → Prop), (∀ ρ, P ρ → Q ρ) → bindT tg d ρ P → bindT tg d ρ Q := by
      intro tg d ρ P Q hPQ hb
      cases tg <;> first | exact hPQ _ hb | exact hb.elim | (unfold bindT at hb ⊢; cases d <;> first | exact ⟨hb.1, hPQ _ hb.2⟩ | exact hb.elim)
    exact tr _ _ _ _ _ (fun ρ3 h3 => ⟨true, rfl, h3⟩) this
  · refine ⟨rfl, xs.map f, by rw [List.map_map]; rfl, ?_⟩
    rw [List.all_map]
    exact h
/-- each is less than the next -/
def risB {α : Type} (lt : α → α → Bool) : List α → Bool
  | a :: b :: r => lt a b && risB lt (b :: r)
  | _ => true
theorem risB_zip {α : Type} (lt : α → α → Bool) : ∀ xs : List α, ((xs.zip (xs.drop 1)).all fun p => lt p.1 p.2) = risB lt xs
  | [] => rfl
  | [_] => rfl
  | a :: b :: r => by
    have := risB_zip lt (b :: r)
    show (lt a b && _) = (lt a b && _)
    rw [← this]; rfl
theorem risB_pw {α : Type} {lt : α → α → Bool} (tr : ∀ a b c, lt a b = true → lt b c = true → lt a c = true) : ∀ xs : List α, risB lt xs = true ↔ xs.Pairwise fun a b => lt a b = true
  | [] => ⟨fun _ => .nil, fun _ => rfl⟩
  | [_] => ⟨fun _ => List.pairwise_singleton _ _, fun _ => rfl⟩
  | a :: b :: r => by
    rw [List.pairwise_cons, risB, Bool.and_eq_true, risB_pw tr (b :: r)]
    constructor
    · rintro ⟨h1, h2⟩
      refine ⟨fun c hc => ?_, h2⟩
      rcases List.mem_cons.mp hc with rfl | hc
      · exact h1
      · exact tr a b c h1 ((List.pairwise_cons.mp h2).1 c hc)
    · rintro ⟨h1, h2⟩
      exact ⟨h1 b List.mem_cons_self, h2⟩
theorem cut_tail {α : Type} (xs : List α) : cutX xs (some 1) none = xs.drop 1 := by
  unfold cutX
  have e : HT.sIx xs.length xs.length none = xs.length := rfl
  rw [sIx_of (by decide), e]
  cases xs with
  | nil => rfl
  | cons x xs =>
    have : min (Int.toNat 1) (x :: xs).length = 1 := by simp
    rw [this, List.take_of_length_le (by simp)]
theorem zipL_map {α β : Type} (f : α → D) (g : β → D) (us : List α) (ws : List β) : zipL (us.map f) (ws.map g) = (us.zip ws).map fun p => .ptp [f p.1, g p.2] := by
  unfold zipL
  induction us generalizing ws with
  | nil => rfl
  | cons u us ih =>
    cases ws with
    | nil => rfl
    | cons w ws => simp only [List.map_cons, List.zipWith_cons_cons, List.zip_cons_cons]; rw [ih]
theorem cmp_eq_tt {k l : Bool} {q : Bool → Prop} (h : q (decide (k = l))) : cmp2 .Eq [.bl k, .bl l] q := by
  cases k <;> cases l <;> exact ⟨⟨rfl, rfl⟩, ⟨rfl, rfl⟩, h⟩
theorem cmp_ne_tt {k l : Bool} {q : Bool → Prop} (h : q (!decide (k = l))) : cmp2 .NotEq [.bl k, .bl l] q := by
  cases k <;> cases l <;> exact ⟨⟨rfl, rfl⟩, ⟨rfl, rfl⟩, h⟩

theorem eqD_bl (b : Bool) : eqD (.bl b) (.bl b) = true := by cases b <;> rfl
theorem canLay_lots : ∀ rs : List (List Int), PyData.canLayAll0 (toPs (rs.map lotD)) = true
  | [] => rfl
  | r :: rs => by
    rw [List.map_cons, toPs, PyData.canLayAll0, canLay_lots rs, toP_lot]
    have := canLay_ints r
    rw [show (PyData.tuple (r.map PyData.int)).canLay0 = true from by rw [← toPs_ints]; exact this]; rfl
theorem depth_lots : ∀ rs : List (List Int), PyData.depthAll (toPs (rs.map lotD)) ≤ 1
  | [] => Nat.zero_le _
  | r :: rs => by
    have := depth_lots rs
    rw [List.map_cons, toPs, PyData.depthAll, toP_lot]
    have e : (PyData.tuple (r.map PyData.int)).depth = 1 := by
      show PyData.depthAll (r.map PyData.int) + 1 = 1
      rw [depth_ints]
    rw [e]
    omega
theorem isPs_lots (rs : List (List Int)) : isPs (rs.map lotD) = true := isPs_map fun r _ => by unfold lotD; rw [isP]; exact isPs_ints r
theorem eqOk_lots (rs : List (List Int)) : eqOk (.tup (rs.map lotD)) := ⟨isPs_lots rs, shaped_mk (canLay_lots rs) (by
  show PyData.depthAll (toPs (rs.map lotD)) + 1 ≤ 64
  have := depth_lots rs
  omega)⟩
theorem eqOk_lotsL (o : Bool) (rs : List (List Int)) : eqOk (.lst o (rs.map lotD)) := ⟨isPs_lots rs, shaped_mk (canLay_lots rs) (by
  show PyData.depthAll (toPs (rs.map lotD)) + 1 ≤ 64
  have := depth_lots rs
  omega)⟩
theorem eqOk_ties (ts : List Tie) : eqOk (.tup (ts.map tieD)) := by
  have := eqOk_lots (ts.map fun t => [t.1, t.2.1, t.2.2])
  rw [List.map_map] at this
  exact this
theorem eq_empT {ds : List D} {q : Bool → Prop} (ok : eqOk (.tup ds)) (h : q ds.isEmpty) : cmp2 .Eq [.tup ds, .tup []] q := by
  refine ⟨ok, eqOk_tupI [], ?_⟩
  cases ds with
  | nil => exact h
  | cons d ds => exact h
theorem pus1 {x : D} (h : fine x = true) : pus [x] = true := by rw [pus, pus, fine_pu _ h]; rfl
theorem fine3 {a b c : D} (h : fine a = true) (h2 : fine b = true) (h3 : fine c = true) : fine (.tup [a, b, c]) = true := by
  rw [fine_tup]
  refine ⟨(show 3 ≤ 1000 by decide), ?_⟩
  rw [fines, fines, fines, fines, h, h2, h3]; rfl
theorem fine2 {a b : D} (h : fine a = true) (h2 : fine b = true) : fine (.tup [a, b]) = true := by
  rw [fine_tup]
  refine ⟨(show 2 ≤ 1000 by decide), ?_⟩
  rw [fines, fines, fines, h, h2]; rfl
theorem ix_fine {o : Bool} {xs : List D} {r : Int} {q : D → Prop} (h : fines xs = true) (h0 : 0 ≤ r) (h1 : r < xs.length) (k : ∀ x, fine x = true → q x) : pkS .idx [.lst o xs, .int r] q := by
  obtain ⟨x, hx, e⟩ := at_mem h0 h1
  have f := fines_mem h hx
  exact ⟨x, e, fine_pu _ f, k x f⟩
theorem ix_fineT {xs : List D} {r : Int} {q : D → Prop} (h : fines xs = true) (h0 : 0 ≤ r) (h1 : r < xs.length) (k : ∀ x, fine x = true → q x) : pkS .idx [.tup xs, .int r] q := by
  obtain ⟨x, hx, e⟩ := at_mem h0 h1
  have f := fines_mem h hx
  exact ⟨x, e, fine_pu _ f, k x f⟩
/-! ### what closes by itself: pure, fine, few -/
theorem cut_sub {ds : List D} {lo hi : Option Int} {d : D} (h : d ∈ cutD ds lo hi) : d ∈ ds := List.mem_of_mem_drop (List.mem_of_mem_take h)
theorem cut_le {ds : List D} (lo hi : Option Int) : (cutD ds lo hi).length ≤ ds.length := by
  unfold cutD
  simp only [List.length_take, List.length_drop]
  omega
theorem pus_cut {ds : List D} {lo hi : Option Int} (h : pus ds = true) : pus (cutD ds lo hi) = true := by
  rw [pus_all, List.all_eq_true] at *
  exact fun d hd => h d (cut_sub hd)
theorem fines_cut {ds : List D} {lo hi : Option Int} (h : fines ds = true) : fines (cutD ds lo hi) = true := fines_of fun d hd => fines_mem h (cut_sub hd)
theorem fines_app {ds es : List D} (h : fines ds = true) (k : fines es = true) : fines (ds ++ es) = true := fines_of fun d hd => by
  rcases List.mem_append.mp hd with hd | hd
  · exact fines_mem h hd
  · exact fines_mem k hd
theorem fines_con {d : D} {ds : List D} (h : fine d = true) (k : fines ds = true) : fines (d :: ds) = true := by rw [fines, h, k]; rfl
theorem fines_nil : fines [] = true := rfl
theorem fines_rev {ds : List D} (h : fines ds = true) : fines ds.reverse = true := fines_of fun d hd => fines_mem h (List.mem_reverse.mp hd)
theorem pus_con {d : D} {ds : List D} (h : pu d = true) (k : pus ds = true) : pus (d :: ds) = true := by rw [pus, h, k]; rfl
theorem pus_rev {ds : List D} (h : pus ds = true) : pus ds.reverse = true := by
  rw [pus_all, List.all_eq_true] at *
  exact fun d hd => h d (List.mem_reverse.mp hd)
theorem pu_tup {ds : List D} (h : pus ds = true) : pu (.tup ds) = true := h
theorem pu_lst {ds : List D} (h : pus ds = true) : pu (.lst false ds) = true := by rw [pu, h]; rfl
theorem fine_lst {ds : List D} {n : Nat} (h : ds.length ≤ n) (hn : n ≤ 1000) (k : fines ds = true) : fine (.lst false ds) = true := by rw [fine, k, decide_eq_true (Nat.le_trans h hn)]; rfl
theorem fine_tp {ds : List D} {n : Nat} (h : ds.length ≤ n) (hn : n ≤ 1000) (k : fines ds = true) : fine (.tup ds) = true := fine_tup.mpr ⟨Nat.le_trans h hn, k⟩
theorem fine_fzl {o : Bool} {ds : List D} {n : Nat} (h : ds.length ≤ n) (hn : n ≤ 1000) (k : fines ds = true) : fine (fz (.lst o ds)) = true := by
  have e : fz (.lst o ds) = .lst false ds := by rw [fz, fzs_pus ds (fines_pus ds k)]
  rw [e]; exact fine_lst h hn k
theorem fines_set {ds : List D} {i : Nat} {x : D} (h : fines ds = true) (k : fine x = true) : fines (ds.set i x) = true := fines_of fun d hd => by
  rcases List.mem_or_eq_of_mem_set hd with hd | rfl
  · exact fines_mem h hd
  · exact k
theorem pus_set {ds : List D} {i : Nat} {x : D} (h : pus ds = true) (k : pu x = true) : pus (ds.set i x) = true := by
  rw [pus_all, List.all_eq_true] at *
  intro d hd
  rcases List.mem_or_eq_of_mem_set hd with hd | rfl
  · exact h d hd
  · exact k
theorem fw_set {ds : List D} {i : Nat} {x : D} {a : Nat} (h : ds.length ≤ a) : (ds.set i x).length ≤ a := by rw [List.length_set]; exact h
theorem fines_drop {ds : List D} {n : Nat} (h : fines ds = true) : fines (ds.drop n) = true := fines_of fun d hd => fines_mem h (List.mem_of_mem_drop hd)
theorem pus_drop {ds : List D} {n : Nat} (h : pus ds = true) : pus (ds.drop n) = true := by
  rw [pus_all, List.all_eq_true] at *
  exact fun d hd => h d (List.mem_of_mem_drop hd)
theorem fw_drop {ds : List D} {n a : Nat} (h : ds.length ≤ a) : (ds.drop n).length ≤ a := by rw [List.length_drop]; omega
def badD : D → Bool
  | .un => true | .raw _ => true | .ins _ _ _ _ => true | .ptp _ => true | _ => false
theorem fine_no {d : D} (f : fine d = true) (h : badD d = true) : False := by cases d <;> first | (cases f; done) | cases h
theorem fw_app {ds es : List D} {a b : Nat} (h : ds.length ≤ a) (k : es.length ≤ b) : (ds ++ es).length ≤ a + b := by rw [List.length_append]; omega
theorem fw_cut {ds : List D} {lo hi : Option Int} {a : Nat} (h : ds.length ≤ a) : (cutD ds lo hi).length ≤ a := Nat.le_trans (cut_le _ _) h
theorem fw_con {d : D} {ds : List D} {a : Nat} (h : ds.length ≤ a) : (d :: ds).length ≤ a + 1 := Nat.succ_le_succ h
theorem fw_nil : ([] : List D).length ≤ 0 := Nat.le_refl 0
theorem fw_rev {ds : List D} {a : Nat} (h : ds.length ≤ a) : ds.reverse.length ≤ a := by rw [List.length_reverse]; exact h
theorem fw_map {α : Type} {f : α → D} {xs : List α} {a : Nat} (h : xs.length ≤ a) : (xs.map f).length ≤ a := by rw [List.length_map]; exact h
theorem fw_cat {ds es : List D} {a b : Nat} (h : ds.length ≤ a) (k : es.length ≤ b) (l : a + b ≤ sizeLine) : ds.length + es.length ≤ sizeLine := by omega
theorem fw_one {ds : List D} {a : Nat} (h : ds.length ≤ a) (l : a ≤ sizeLine) : ds.length ≤ sizeLine := Nat.le_trans h l
/-! ### walking on by itself -/
/-- what follows -/
def Gx (K G : Env → Prop) : Prop := ∀ ρ1, G ρ1 → K ρ1
theorem nxt {K G : Env → Prop} {ρ : Env} (h : Gx K G) (g : G ρ) : K ρ := h ρ g
theorem wpc {s r : IR} {ρ : Env} {P : Post} (h : ∀ K : Env → Prop, Gx K (fun ρ => wpS r ρ P) → wpS s ρ { P with nx := K }) : wpS (.cons s r) ρ P := h _ fun _ h => h
theorem wpi {c t e : IR} {ρ : Env} {P : Post} (h : ∀ C : Bool → Env → Prop, Gx (C true) (fun ρ => wpS t ρ P) → Gx (C false) (fun ρ => wpS e ρ P) → (sm c).T ρ C) : wpS (.sIf c t e) ρ P := h _ (fun _ h => h) (fun _ h => h)
theorem u_or {a b : IR} {ρ : Env} {q : Bool → Env → Prop} (h : ∀ C : Bool → Env → Prop, Gx (C true) (q true) → Gx (C false) (fun ρ => (sm b).T ρ q) → (sm a).T ρ C) : (sm (.lor a b)).T ρ q := h _ (fun _ h => h) (fun _ h => h)
theorem u_and {a b : IR} {ρ : Env} {q : Bool → Env → Prop} (h : ∀ C : Bool → Env → Prop, Gx (C true) (fun ρ => (sm b).T ρ q) → Gx (C false) (q false) → (sm a).T ρ C) : (sm (.land a b)).T ρ q := h _ (fun _ h => h) (fun _ h => h)
theorem u_not {a : IR} {ρ : Env} {q : Bool → Env → Prop} (h : ∀ C : Bool → Env → Prop, Gx (C true) (q false) → Gx (C false) (q true) → (sm a).T ρ C) : (sm (.lnot a)).T ρ q := by
  have e : (sm (.lnot a)).T ρ q = (sm a).T ρ fun k ρ1 => q (!k) ρ1 := rfl
  rw [e]
  exact h (fun k => q (!k)) (fun _ h => h) (fun _ h => h)
theorem v_or {b : Env → (D → Env → Prop) → Prop} {k : Bool} {ρ : Env} {q : D → Env → Prop} (h : ∀ C : Bool → Env → Prop, Gx (C true) (q (.bl true)) → Gx (C false) (fun ρ => b ρ q) → C k ρ) : orV b (.bl k) ρ q := by
  have := h (fun k ρ => if k = true then q (.bl true) ρ else b ρ q) (fun _ h => h) (fun _ h => h)
  cases k <;> exact this
theorem v_and {b : Env → (D → Env → Prop) → Prop} {k : Bool} {ρ : Env} {q : D → Env → Prop} (h : ∀ C : Bool → Env → Prop, Gx (C true) (fun ρ => b ρ q) → Gx (C false) (q (.bl false)) → C k ρ) : andV b (.bl k) ρ q := by
  have := h (fun k ρ => if k = true then b ρ q else q (.bl false) ρ) (fun _ h => h) (fun _ h => h)
  cases k <;> exact this
/-- where the walk halts -/
@[irreducible] def Stop (p : Prop) : Prop := p
theorem stop {p : Prop} (h : p) : Stop p := by unfold Stop; exact h
theorem unstop {p : Prop} (h : Stop p) : p := by unfold Stop at h; exact h
theorem forS {tg it body : IR} {ρ : Env} {P : Post} (h : wpI it ρ fun ds ρ1 => Stop (forL (fun d ρ2 P' => bindT tg d ρ2 fun ρ3 => wpS body ρ3 P') ds ρ1 P)) : wpS (.sFor tg it body) ρ P := by
  unfold Stop at h
  exact h
theorem whS {c body : IR} {ρ : Env} {P : Post} (h : Stop (∃ n, whL (wpT c) (wpS body) n ρ P)) : wpS (.sWh c body) ρ P := by
  unfold Stop at h
  exact h
theorem dC {C : Bool → Env → Prop} {p : Prop} [Decidable p] {ρ : Env} (h1 : p → C true ρ) (h2 : ¬ p → C false ρ) : C (decide p) ρ := by
  by_cases e : p
  · rw [decide_eq_true e]; exact h1 e
  · rw [decide_eq_false e]; exact h2 e
theorem dN {C : Bool → Env → Prop} {p : Prop} [Decidable p] {ρ : Env} (h1 : p → C false ρ) (h2 : ¬ p → C true ρ) : C (!decide p) ρ := by
  by_cases e : p
  · rw [decide_eq_true e]; exact h1 e
  · rw [decide_eq_false e]; exact h2 e
theorem nxb (b' : Bool) {C : Bool → Env → Prop} {b : Bool} {G : Env → Prop} {ρ : Env} (h : Gx (C b') G) (e : b = b') (g : G ρ) : C b ρ := h ρ g |> fun z => by rw [e]; exact z
theorem iC {p : Prop} [Decidable p] {A B : Prop} (h1 : p → A) (h2 : ¬ p → B) : if decide p = true then A else B := by
  by_cases e : p
  · rw [if_pos (decide_eq_true e)]; exact h1 e
  · rw [if_neg (by rw [decide_eq_false e]; decide)]; exact h2 e
theorem iB {b : Bool} {A B : Prop} (h1 : b = true → A) (h2 : b = false → B) : if b = true then A else B := by
  cases b
  · exact h2 rfl
  · exact h1 rfl
theorem bC {C : Bool → Env → Prop} {b : Bool} {ρ : Env} (h1 : b = true → C true ρ) (h2 : b = false → C false ρ) : C b ρ := by
  cases b
  · exact h2 rfl
  · exact h1 rfl
theorem pk_all {α : Type} (f : α → Bool) (xs : List α) {q : D → Prop} (h : q (.bl (xs.all f))) : pkS (.bif .all) [.lst true (xs.map fun t => .bl (f t))] q := by
  refine ⟨xs.map f, by rw [List.map_map]; rfl, ?_⟩
  rw [List.all_map]
  exact h
theorem pk_any {α : Type} (f : α → Bool) (xs : List α) {q : D → Prop} (h : q (.bl (xs.any f))) : pkS (.bif .any) [.lst true (xs.map fun t => .bl (f t))] q := by
  refine ⟨xs.map f, by rw [List.map_map]; rfl, ?_⟩
  rw [List.any_map]
  exact h
/-- what a comprehension's step must answer -/
def Gk (own : List Nat) (ρ0 : Env) (k : Option D → Env → Prop) (o : Option D) : Prop := ∀ ρ1, wipeE ρ1 own = ρ0 → k o ρ1
theorem gk {own : List Nat} {ρ0 ρ1 : Env} {k : Option D → Env → Prop} {o o' : Option D} (h : Gk own ρ0 k o) (e : wipeE ρ1 own = ρ0) (e' : o' = o) : k o' ρ1 := by rw [e']; exact h ρ1 e
theorem lcG {α : Type} (inj : α → D) (g : α → D) {step : D → Env → (Option D → Env → Prop) → Prop} {q : List D → Env → Prop} {own : List Nat} {ρ0 : Env} (ts : List α)
    (hs : ∀ (t : α), t ∈ ts → ∀ (k : Option D → Env → Prop), Gk own ρ0 k (some (g t)) → step (inj t) ρ0 k) (hz : ts.length ≤ sizeLine) (h : q (ts.map g) ρ0) : lcL own step (ts.map inj) ρ0 [] q :=
  lc_all inj g own ρ0 ts (fun t ht k hk => hs t ht k hk) hz h
theorem lcI (g : D → D) {step : D → Env → (Option D → Env → Prop) → Prop} {q : List D → Env → Prop} {own : List Nat} {ρ0 : Env} (ts : List D)
    (hs : ∀ (t : D), t ∈ ts → ∀ (k : Option D → Env → Prop), Gk own ρ0 k (some (g t)) → step t ρ0 k) (hz : ts.length ≤ sizeLine) (h : q (ts.map g) ρ0) : lcL own step ts ρ0 [] q :=
  lc_id g own ρ0 ts (fun t ht k hk => hs t ht k hk) hz h
theorem lcF {α : Type} (inj : α → D) (f : α → Bool) (g : α → D) {step : D → Env → (Option D → Env → Prop) → Prop} {q : List D → Env → Prop} {own : List Nat} {ρ0 : Env} (ts : List α)
    (hs : ∀ (t : α), t ∈ ts → ∀ (k : Option D → Env → Prop), Gk own ρ0 k (if f t = true then some (g t) else none) → step (inj t) ρ0 k) (hz : ts.length ≤ sizeLine) (h : q ((ts.filter f).map g) ρ0) : lcL own step (ts.map inj) ρ0 [] q :=
  lc_map inj f g own ρ0 ts [] (fun t ht k hk => hs t ht k hk) (by simpa using hz) h
theorem ifT {A B : Prop} (h : A) : if true = true then A else B := h
theorem bt {i : Nat} {d : D} {ρ : Env} {q : Env → Prop} (h : q (ρ.set i d)) : bindT (.tn i) d ρ q := h
/-! ### texts -/
/-- the text of a whole number -/
def nT (i : Int) : Str := toString i
theorem app_nil (x : Str) : x ++ Str.empty = x := TL.ext_tl (by rw [TL.tl_append]; exact List.append_nil _)
theorem nil_app (x : Str) : Str.empty ++ x = x := TL.ext_tl (by rw [TL.tl_append]; rfl)
theorem app_as (x y z : Str) : x ++ y ++ z = x ++ (y ++ z) := TL.ext_tl (by rw [TL.tl_append, TL.tl_append, TL.tl_append, TL.tl_append, List.append_assoc])
theorem len_app (x y : Str) : (x ++ y).length = x.length + y.length := by rw [TL.len_tl, TL.len_tl, TL.len_tl, TL.tl_append, List.length_append]
theorem len_empty : Str.empty.length = 0 := rfl
theorem tl_nT {i : Int} (h : 0 ≤ i) : TL.tl (nT i) = TL.numL i.toNat := by
  obtain ⟨n, rfl⟩ := Int.eq_ofNat_of_zero_le h
  exact TL.tl_num n
theorem len_nT {i : Int} {k : Nat} (h : 0 ≤ i) (hk : 0 < k) (hi : i < 10 ^ k) : 1 ≤ (nT i).length ∧ (nT i).length ≤ k := by
  have e : (nT i).length = (TL.numL i.toNat).length := by rw [TL.len_tl, tl_nT h]
  have h1 := TL.numL_ne i.toNat
  have h2 : i.toNat < 10 ^ k := by
    have : ((i.toNat : Nat) : Int) < ((10 ^ k : Nat) : Int) := by rw [Int.toNat_of_nonneg h, Int.natCast_pow]; exact hi
    exact Int.ofNat_lt.mp this
  have h3 := TL.numL_len hk h2
  have h4 : 0 < (TL.numL i.toNat).length := List.length_pos_iff.mpr h1
  omega
theorem tlen12 {i : Int} (h : 0 ≤ i) (hi : i < 1000000000000) : 1 ≤ (nT i).length ∧ (nT i).length ≤ 12 := len_nT h (by decide) (by simpa using hi)
theorem tlen2 {i : Int} (h : 0 ≤ i) (hi : i < 100) : 1 ≤ (nT i).length ∧ (nT i).length ≤ 2 := len_nT h (by decide) (by simpa using hi)
theorem log12 {i : Int} (h : 0 ≤ i) (hi : i < 1000000000000) : i.natAbs.log2 < 1920 := by
  have := log2_le (n := i.natAbs) (k := 40) (by omega) (by decide)
  omega
theorem free_nT {i : Int} {s : Nat} (h : 0 ≤ i) (hs : s < 48 ∨ 57 < s) : s ∉ TL.tl (nT i) := by rw [tl_nT h]; exact TL.numL_free hs
theorem int_nT {i : Int} (h : 0 ≤ i) (hi : i < 1000000000000) : intText? (nT i) = some i := by
  have hl := tlen12 h hi
  have e : (nT i).length = (TL.numL i.toNat).length := by rw [TL.len_tl, tl_nT h]
  obtain ⟨n, rfl⟩ := Int.eq_ofNat_of_zero_le h
  exact TL.int_num (by
    have : ((n : Int)).toNat = n := rfl
    rw [this] at e; omega)
theorem digit_nT {i : Int} (h : 0 ≤ i) : ∀ c ∈ (nT i).cps.toList, 48 ≤ c ∧ c ≤ 57 := by
  intro c hc
  have : c ∈ TL.numL i.toNat := by rw [← tl_nT h]; exact hc
  exact TL.numL_digits _ c this
theorem numL_head : ∀ n : Nat, 0 < n → ∃ c r, TL.numL n = c :: r ∧ c ≠ 48 := by
  intro n
  induction n using Nat.strongRecOn with
  | _ n ih =>
    intro h0
    by_cases h : n < 10
    · exact ⟨48 + n, [], TL.numL_lt h, by omega⟩
    · obtain ⟨c, r, e, hc⟩ := ih (n / 10) (by omega) (by omega)
      exact ⟨c, r ++ [48 + n % 10], by rw [TL.numL_step (by omega), e]; rfl, hc⟩
theorem tl_lit (s : String) : TL.tl (Str.ofString s) = s.toList.map Char.toNat := TL.tl_ofString s
/-- the first sign of a number above nought -/
theorem head_nT {i : Int} (h : 0 ≤ i) (h0 : ¬ decide (nT i = Str.ofString "0") = true) : ∃ c, atI (nT i).cps.toList 0 = some c ∧ decide ((⟨#[c]⟩ : Str) = Str.ofString "0") = false := by
  have hn : 0 < i.toNat := by
    rcases Nat.eq_zero_or_pos i.toNat with e | e
    · exfalso
      apply h0
      rw [decide_eq_true_eq]
      have : i = 0 := by omega
      subst this
      decide +kernel
    · exact e
  obtain ⟨c, r, e, hc⟩ := numL_head _ hn
  have et : (nT i).cps.toList = c :: r := (tl_nT h).trans e
  refine ⟨c, by rw [et]; exact atI_of (by decide) rfl, ?_⟩
  rw [decide_eq_false_iff_not]
  intro e2
  have := congrArg TL.tl e2
  rw [tl_lit] at this
  injection this with h1 _
  exact hc h1
/-! ### cut in two, in many -/
theorem join2 (y a b : Str) : Txt.join y [a, b] = a ++ y ++ b := by
  rw [TL.join_eq]
  exact TL.ext_tl (by rw [TL.tl_join, TL.tl_append, TL.tl_append, List.append_assoc]; rfl)
theorem split2 {y : Str} {s : Nat} {S : List Nat} (ey : TL.tl y = s :: S) (hk : y.cps.all (· < 256) = true) {a b : Str} (ha : s ∉ TL.tl a) (hb : s ∉ TL.tl b) : Txt.split (a ++ y ++ b) y = [a, b] := by
  rw [← join2]
  exact TL.split_join ey hk (by simp) fun p hp => by
    rcases List.mem_cons.mp hp with rfl | hp
    · exact ha
    · rw [List.mem_singleton.mp hp]; exact hb
theorem joinL_len (S : List Nat) (m : Nat) : ∀ ps : List (List Nat), (∀ p ∈ ps, p.length ≤ m) → (TL.joinL S ps).length ≤ ps.length * (m + S.length)
  | [], _ => Nat.zero_le _
  | [p], h => by
    have := h p List.mem_cons_self
    show p.length ≤ 1 * _
    omega
  | p :: q :: r, h => by
    have h1 := h p List.mem_cons_self
    have h2 := joinL_len S m (q :: r) fun z hz => h z (List.mem_cons_of_mem _ hz)
    show (p ++ (S ++ TL.joinL S (q :: r))).length ≤ _
    rw [List.length_append, List.length_append, List.length_cons (a := p), Nat.succ_mul]
    omega
theorem join_len {y : Str} {m : Nat} {ps : List Str} (h : ∀ p ∈ ps, p.length ≤ m) : (Txt.join y ps).length ≤ ps.length * (m + y.length) := by
  rw [TL.join_eq, TL.len_tl, TL.tl_join, TL.len_tl y]
  refine Nat.le_trans (joinL_len _ m _ fun p hp => ?_) (by rw [List.length_map]; exact Nat.le_refl _)
  obtain ⟨z, hz, rfl⟩ := List.mem_map.mp hp
  rw [← TL.len_tl]; exact h z hz
theorem sum_len {m : Nat} : ∀ {ps : List Str}, (∀ p ∈ ps, p.length ≤ m) → (ps.map (·.length)).sum ≤ ps.length * m
  | [], _ => Nat.zero_le _
  | p :: ps, h => by
    have h1 := h p List.mem_cons_self
    have h2 := sum_len (ps := ps) fun z hz => h z (List.mem_cons_of_mem _ hz)
    rw [List.map_cons, List.sum_cons, List.length_cons, Nat.succ_mul]
    omega
/-- a join is within bounds -/
theorem join_ok {y : Str} {m : Nat} {ps : List Str} (h : ∀ p ∈ ps, p.length ≤ m) (hl : ps.length * (m + y.length) ≤ 16777216) : (ps.map (·.length)).sum + ps.length * y.length ≤ 16777216 := by
  have := sum_len h
  rw [Nat.mul_add] at hl
  omega
theorem strs_map {α : Type} (f : α → Str) (xs : List α) : xs.map (fun x => D.str (f x)) = (xs.map f).map D.str := by rw [List.map_map]; rfl
theorem pus_strs : ∀ ys : List Str, pus (ys.map D.str) = true
  | [] => rfl
  | y :: ys => by rw [List.map_cons, pus, pus_strs ys]; rfl
theorem pus_signs (z : Str) : pus (signsL z) = true := by
  unfold signsL
  induction z.cps.toList with
  | nil => rfl
  | cons c l ih => rw [List.map_cons, pus, ih]; rfl
/-! ### ties, webs -/
def tieT (t : Tie) : Str := nT t.1 ++ "-" ++ nT t.2.1 ++ " " ++ nT t.2.2
def tailT (ts : List Tie) : Str := if ts = [] then Str.empty else " " ++ Txt.join ", " (ts.map tieT)
def webT (n : Int) (ts : List Tie) : Str := nT n ++ ":" ++ tailT ts
structure TieLow (t : Tie) : Prop where
  a : 0 ≤ t.1
  b : t.1 < t.2.1
  c : t.2.1 < 30
  d : 0 ≤ t.2.2
  e : t.2.2 ≤ 1000000000
theorem WebOk.tl {n : Int} {ts : List Tie} (w : WebOk n ts) : ∀ t ∈ ts, TieLow t := fun t ht => by
  have := w.low t ht
  have := w.n30
  exact ⟨by omega, by omega, by omega, by omega, by omega⟩
theorem tie_len {t : Tie} (h : TieLow t) : (tieT t).length ≤ 20 := by
  have h1 := tlen2 (i := t.1) h.a (by have := h.b; have := h.c; omega)
  have h2 := tlen2 (i := t.2.1) (by have := h.a; have := h.b; omega) (by have := h.c; omega)
  have h3 := tlen12 (i := t.2.2) h.d (by have := h.e; omega)
  unfold tieT
  rw [len_app, len_app, len_app, len_app]
  have e1 : (Str.ofString "-").length = 1 := by decide +kernel
  have e2 : (Str.ofString " ").length = 1 := by decide +kernel
  rw [e1, e2]
  omega
theorem ends_free {a b : Int} (ha : 0 ≤ a) (hb : 0 ≤ b) : 32 ∉ TL.tl (nT a ++ "-" ++ nT b) := by
  rw [TL.tl_append, TL.tl_append, tl_lit]
  simp only [List.mem_append, not_or]
  exact ⟨⟨free_nT ha (by decide), by decide⟩, free_nT hb (by decide)⟩
theorem tie_split {t : Tie} (h : TieLow t) : Txt.split (tieT t) " " = [nT t.1 ++ "-" ++ nT t.2.1, nT t.2.2] := by
  have hb : 0 ≤ t.2.1 := by have := h.a; have := h.b; omega
  exact split2 (s := 32) (S := []) (by decide +kernel) (by decide +kernel) (ends_free h.a hb) (free_nT h.d (by decide))
theorem ends_split {a b : Int} (ha : 0 ≤ a) (hb : 0 ≤ b) : Txt.split (nT a ++ "-" ++ nT b) "-" = [nT a, nT b] :=
  split2 (s := 45) (S := []) (by decide +kernel) (by decide +kernel) (free_nT ha (by decide)) (free_nT hb (by decide))
theorem tie_free {t : Tie} (h : TieLow t) : 44 ∉ TL.tl (tieT t) := by
  have hb : 0 ≤ t.2.1 := by have := h.a; have := h.b; omega
  unfold tieT
  rw [TL.tl_append, TL.tl_append, TL.tl_append, TL.tl_append, tl_lit, tl_lit]
  simp only [List.mem_append, not_or]
  exact ⟨⟨⟨⟨free_nT h.a (by decide), by decide⟩, free_nT hb (by decide)⟩, by decide⟩, free_nT h.d (by decide)⟩
theorem ties_split {ts : List Tie} (h : ∀ t ∈ ts, TieLow t) (h0 : ts ≠ []) : Txt.split (Txt.join ", " (ts.map tieT)) ", " = ts.map tieT :=
  TL.split_join (s := 44) (S := [32]) (by decide +kernel) (by decide +kernel) (fun e => h0 (List.map_eq_nil_iff.mp e)) fun p hp => by
    obtain ⟨t, ht, rfl⟩ := List.mem_map.mp hp
    exact tie_free (h t ht)
theorem ties_len {ts : List Tie} (h : ∀ t ∈ ts, TieLow t) (hl : ts.length ≤ 900) : (Txt.join ", " (ts.map tieT)).length ≤ 19800 := by
  have := join_len (y := ", ") (m := 20) (ps := ts.map tieT) fun p hp => by
    obtain ⟨t, ht, rfl⟩ := List.mem_map.mp hp
    exact tie_len (h t ht)
  have e2 : (Str.ofString ", ").length = 2 := by decide +kernel
  rw [List.length_map, e2] at this
  omega
theorem tail_len {ts : List Tie} (h : ∀ t ∈ ts, TieLow t) (hl : ts.length ≤ 900) : (tailT ts).length ≤ 19801 := by
  unfold tailT
  split
  · exact Nat.zero_le _
  · have := ties_len h hl
    have e2 : (Str.ofString " ").length = 1 := by decide +kernel
    rw [len_app, e2]; omega
theorem web_len {n : Int} {ts : List Tie} (w : WebOk n ts) : (webT n ts).length ≤ 20000 := by
  have h1 := tlen2 (i := n) (by have := w.n1; omega) (by have := w.n30; omega)
  have h2 := tail_len w.tl w.few
  unfold webT
  have e2 : (Str.ofString ":").length = 1 := by decide +kernel
  rw [len_app, len_app, e2]; omega
theorem web_part {n : Int} {ts : List Tie} (h : 0 ≤ n) : Txt.partition (webT n ts) ":" = (nT n, (":" : Str), tailT ts) :=
  TL.partition_app (y := ":") (s := 58) (S := []) (by decide +kernel) (free_nT h (by decide))
theorem tail_ne {ts : List Tie} (h : ts ≠ []) : tailT ts ≠ Str.ofString "" := by
  unfold tailT
  rw [if_neg h]
  intro e
  have := congrArg TL.tl e
  rw [TL.tl_append, tl_lit, tl_lit] at this
  cases this
theorem tail_head {ts : List Tie} (h : ts ≠ []) : atI (tailT ts).cps.toList 0 = some 32 := by
  have : (tailT ts).cps.toList = 32 :: TL.tl (Txt.join ", " (ts.map tieT)) := by
    unfold tailT
    rw [if_neg h]
    show TL.tl (_ ++ _) = _
    rw [TL.tl_append, tl_lit]; rfl
  rw [this]; exact atI_of (by decide) rfl
theorem tail_cut {ts : List Tie} (h : ts ≠ []) : cutS (tailT ts) (some 1) none = Txt.join ", " (ts.map tieT) := by
  rw [C8.cutS_slice]
  unfold tailT
  rw [if_neg h]
  have e : (Str.ofString " " ++ Txt.join ", " (ts.map tieT)) = SX.S ([32] ++ TL.tl (Txt.join ", " (ts.map tieT))) := by
    apply TL.ext_tl
    rw [TL.tl_append, tl_lit]; rfl
  rw [show (↑" " : Str) = Str.ofString " " from rfl, e, SX.slice_from (by decide)]
  exact TL.mk_tl _
/-! ### the draws of the first laws (k01 to k12, k66 to k74, k85) -/
def sp_law_fee : Spec := fun ds post => ∃ n s k, ds = [handD s, .int k] ∧ HOk n s ∧ n ≤ 999999999 ∧ 0 ≤ k ∧ k ≤ 4 ∧ ∀ f s', 0 ≤ f → f ≤ 1000000000 → HOk (n + 2) s' → post (.int f) [handD s', .int k]
def sp_law_web : Spec := fun ds post => ∃ n s m, ds = [handD s, .int m] ∧ HOk n s ∧ n ≤ 900000000 ∧ 0 < m ∧ m ≤ 30 ∧ ∀ k ts s', k ≤ m → WebOk k ts → HOk (n + 10000) s' → post (webD k ts) [handD s', .int m]
/-- _law_hand: 0=_law_script 1=_law_k 2=_law_cell 3=_law_own; changes [] -/
def ir_law_hand : IR := (.cons (.sA (.tn 2) (.cst (.int 0)))
  (.cons (.sIf (.ap (.cmp .Lt) (.cons (.br 1) (.cons (.ap (.bif .len) (.cons (.br 0) .nil)) .nil)))
  (.cons (.sA (.tn 2) (.ap .idx (.cons (.br 0) (.cons (.br 1) .nil))))
  .nil)
  .nil)
  (.cons (.sA (.tn 3) (.ap (.bin .Mult) (.cons (.ap (.bin .Mod) (.cons (.ap (.bif .abs) (.cons (.br 2) .nil)) (.cons (.ap (.bin .Mult) (.cons (.ap (.bin .Pow) (.cons (.cst (.int 10)) (.cons (.cst (.int 45)) .nil))) (.cons (.ap (.bin .Pow) (.cons (.cst (.int 10)) (.cons (.cst (.int 45)) .nil))) .nil))) .nil))) (.cons (.ap (.bif .int) (.cons (.ap (.cmp .GtE) (.cons (.ap (.bif .abs) (.cons (.br 2) .nil)) (.cons (.ap (.bin .Pow) (.cons (.cst (.int 10)) (.cons (.cst (.int 18)) .nil))) .nil))) .nil)) .nil))))
  (.cons (.sRet (.ap .lst (.cons (.rd 3) (.cons (.ap (.bin .Add) (.cons (.ap (.bin .Add) (.cons (.ap (.bin .Mod) (.cons (.br 2) (.cons (.cst (.int 2305843009213693951)) .nil))) (.cons (.ap (.bin .Mult) (.cons (.cst (.int 7919)) (.cons (.br 1) .nil))) .nil))) (.cons (.cst (.int 1)) .nil))) (.cons (.cst (.int 0)) .nil)))))
  .nil))))
abbrev nm_law_hand : List Str := ["_law_script", "_law_k", "_law_cell", "_law_own"]
abbrev pm_law_hand : List Str := ["_law_script", "_law_k"]
/-- _law_take: 0=_law_hand_here 1=_law_many 2=_law_digit 3=_law_primes 4=_law_once; changes [0] -/
def ir_law_take : IR := (.cons (.sIf (.ap (.cmp .Gt) (.cons (.ap .idx (.cons (.br 0) (.cons (.cst (.int 0)) .nil))) (.cons (.cst (.int 0)) .nil)))
  (.cons (.sA (.tn 2) (.ap (.bin .Mod) (.cons (.ap .idx (.cons (.br 0) (.cons (.cst (.int 0)) .nil))) (.cons (.br 1) .nil))))
  (.cons (.sI (.cons (.ap (.bin .FloorDiv) (.cons (.ap .idx (.cons (.br 0) (.cons (.cst (.int 0)) .nil))) (.cons (.br 1) .nil))) (.cons (.br 0) (.cons (.cst (.int 0)) .nil))))
  (.cons (.sRet (.rd 2))
  .nil)))
  .nil)
  (.cons (.sI (.cons (.ap (.bin .Add) (.cons (.ap .idx (.cons (.br 0) (.cons (.cst (.int 2)) .nil))) (.cons (.cst (.int 1)) .nil))) (.cons (.br 0) (.cons (.cst (.int 2)) .nil))))
  (.cons (.sA (.tn 3) (.ap .tup (.cons (.cst (.int 2147483647)) (.cons (.cst (.int 2147483629)) (.cons (.cst (.int 2147483587)) (.cons (.cst (.int 2147483579)) (.cons (.cst (.int 2147483563)) (.cons (.cst (.int 2147483549)) (.cons (.cst (.int 2147483543)) .nil)))))))))
  (.cons (.sA (.tn 4) (.ap (.bin .Mod) (.cons (.ap (.bin .Mult) (.cons (.ap .idx (.cons (.br 0) (.cons (.cst (.int 1)) .nil))) (.cons (.ap (.bin .Add) (.cons (.ap (.bin .Mult) (.cons (.ap .idx (.cons (.br 0) (.cons (.cst (.int 2)) .nil))) (.cons (.ap .idx (.cons (.br 0) (.cons (.cst (.int 2)) .nil))) .nil))) (.cons (.cst (.int 48271)) .nil))) .nil))) (.cons (.ap .idx (.cons (.br 3) (.cons (.ap (.bin .Mod) (.cons (.ap .idx (.cons (.br 0) (.cons (.cst (.int 2)) .nil))) (.cons (.cst (.int 7)) .nil))) .nil))) .nil))))
  (.cons (.sRet (.ap (.bin .Mod) (.cons (.ap (.bin .FloorDiv) (.cons (.ap (.bin .Mod) (.cons (.ap (.bin .Pow) (.cons (.br 4) (.cons (.cst (.int 5)) .nil))) (.cons (.ap .idx (.cons (.br 3) (.cons (.ap (.bin .Mod) (.cons (.ap (.bin .Add) (.cons (.ap .idx (.cons (.br 0) (.cons (.cst (.int 2)) .nil))) (.cons (.cst (.int 3)) .nil))) (.cons (.cst (.int 7)) .nil))) .nil))) .nil))) (.cons (.cst (.int 64)) .nil))) (.cons (.br 1) .nil))))
  .nil)))))
abbrev nm_law_take : List Str := ["_law_hand_here", "_law_many", "_law_digit", "_law_primes", "_law_once"]
abbrev pm_law_take : List Str := ["_law_hand_here", "_law_many"]
/-- _law_pick: 0=_law_hand_here 1=_law_some; changes [0] -/
def ir_law_pick : IR := (.cons (.sRet (.ap .idx (.cons (.br 1) (.cons (.call "_law_take" sp_law_take (.cons (.br 0) (.cons (.ap (.bif .len) (.cons (.br 1) .nil)) .nil))) .nil))))
  .nil)
abbrev nm_law_pick : List Str := ["_law_hand_here", "_law_some"]
abbrev pm_law_pick : List Str := ["_law_hand_here", "_law_some"]
/-- _law_fee: 0=_law_hand_here 1=_law_sort; changes [0] -/
def ir_law_fee : IR := (.cons (.sIf (.ap (.cmp .Eq) (.cons (.br 1) (.cons (.cst (.int 4)) .nil)))
  (.cons (.sRet (.ap (.bin .Add) (.cons (.ap (.bin .Mult) (.cons (.call "_law_take" sp_law_take (.cons (.br 0) (.cons (.cst (.int 32000)) .nil))) (.cons (.cst (.int 31250)) .nil))) (.cons (.call "_law_take" sp_law_take (.cons (.br 0) (.cons (.cst (.int 31251)) .nil))) .nil))))
  .nil)
  .nil)
  (.cons (.sRet (.ap .idx (.cons (.ap .lst (.cons (.cst (.int 0)) (.cons (.cst (.int 1)) (.cons (.call "_law_take" sp_law_take (.cons (.br 0) (.cons (.cst (.int 7)) .nil))) (.cons (.cst (.int 5)) .nil))))) (.cons (.br 1) .nil))))
  .nil))
abbrev nm_law_fee : List Str := ["_law_hand_here", "_law_sort"]
abbrev pm_law_fee : List Str := ["_law_hand_here", "_law_sort"]
/-- _law_web: 0=_law_hand_here 1=_law_many 2=_law_share 3=_law_sort 4=_law_n 5=_law_ties 6=_law_a 7=_law_b; changes [0] -/
def ir_law_web : IR := (.cons (.sP [2, 3, 4] (.cons (.ap .idx (.cons (.ap .lst (.cons (.cst (.int 0)) (.cons (.cst (.int 1)) (.cons (.cst (.int 2)) (.cons (.cst (.int 3)) (.cons (.cst (.int 4)) (.cons (.cst (.int 2)) .nil))))))) (.cons (.call "_law_take" sp_law_take (.cons (.br 0) (.cons (.cst (.int 6)) .nil))) .nil))) (.cons (.call "_law_take" sp_law_take (.cons (.br 0) (.cons (.cst (.int 5)) .nil))) (.cons (.ap (.bin .Add) (.cons (.cst (.int 1)) (.cons (.call "_law_take" sp_law_take (.cons (.br 0) (.cons (.rd 1) .nil))) .nil))) .nil))))
  (.cons (.sA (.tn 5) (.ap .lst .nil))
  (.cons (.sFor (.tn 6) (.itR (.cons (.br 4) .nil))
  (.cons (.sFor (.tn 7) (.itR (.cons (.ap (.bin .Add) (.cons (.br 6) (.cons (.cst (.int 1)) .nil))) (.cons (.br 4) .nil)))
  (.cons (.sIf (.ap (.cmp .Lt) (.cons (.call "_law_take" sp_law_take (.cons (.br 0) (.cons (.cst (.int 4)) .nil))) (.cons (.br 2) .nil)))
  (.cons (.sE (.meth .append (.br 5) (.cons (.ap .tup (.cons (.rd 6) (.cons (.rd 7) (.cons (.call "_law_fee" sp_law_fee (.cons (.br 0) (.cons (.rd 3) .nil))) .nil)))) .nil)))
  .nil)
  .nil)
  .nil))
  .nil))
  (.cons (.sRet (.ap .tup (.cons (.rd 4) (.cons (.ap (.bif .tuple) (.cons (.br 5) .nil)) .nil))))
  .nil))))
abbrev nm_law_web : List Str := ["_law_hand_here", "_law_many", "_law_share", "_law_sort", "_law_n", "_law_ties", "_law_a", "_law_b"]
abbrev pm_law_web : List Str := ["_law_hand_here", "_law_many"]
def primesL : List Int := [2147483647, 2147483629, 2147483587, 2147483579, 2147483563, 2147483549, 2147483543]
theorem primes_at {i : Int} (h0 : 0 ≤ i) (h7 : i < 7) : ∃ p : Int, atI (primesL.map D.int) i = some (.int p) ∧ 0 < p ∧ p < 2 ^ 31 := by
  have h : i = 0 ∨ i = 1 ∨ i = 2 ∨ i = 3 ∨ i = 4 ∨ i = 5 ∨ i = 6 := by omega
  rcases h with rfl | rfl | rfl | rfl | rfl | rfl | rfl <;> exact ⟨_, rfl, by decide, by decide⟩
theorem wp_law_take (ds : List D) (post) (hl : ds.length = 2) (h : sp_law_take ds post) : wpS ir_law_take (ds ++ List.replicate 3 .un) (postOf ir_law_take 2 post) := by
  obtain ⟨n, ⟨a, b, c⟩, m, rfl, hs, hn, hm, hm2, k⟩ := h
  have k' : ∀ r s' x y z, 0 ≤ r → r < m → HOk (n + 1) s' → (postOf ir_law_take 2 post).rt (.int r) [handD s', .int m, x, y, z] := fun r s' x y z h1 h2 h3 => k r s' h1 h2 h3
  generalize postOf ir_law_take 2 post = P at k' ⊢
  have ha := hs.a
  have hb := hs.b
  have hc := hs.c
  dsimp only at ha hb hc
  refine wp_cons fun K hK => wp_if2 fun C hT hF => ?_
  refine ⟨rfl, rfl, .int a, rfl, rfl, rfl, ?_⟩
  show C (decide (0 < a)) _
  by_cases c1 : 0 < a
  · rw [decide_eq_true c1]
    refine hT _ (wp_cons fun K2 hK2 => ?_)
    refine ⟨rfl, rfl, .int a, rfl, rfl, rfl, rfl, hm, hK2 _ ?_⟩
    refine wp_cons fun K3 hK3 => ?_
    refine ⟨rfl, rfl, .int a, rfl, rfl, rfl, rfl, ⟨hm, m40 hm hm2, ?_⟩⟩
    refine ⟨rfl, rfl, 0, rfl, rfl, hK3 _ ?_⟩
    refine wp_cons fun K4 hK4 => ?_
    refine ⟨rfl, rfl, k' (a % m) (a / m, b, c) _ _ _ (Int.emod_nonneg _ (by omega)) (Int.emod_lt_of_pos _ hm) ⟨Int.ediv_nonneg ha (by omega), hb, hc.1, by dsimp only; omega⟩⟩
  · rw [decide_eq_false c1]
    refine hF _ (hK _ ?_)
    refine wp_cons fun K2 hK2 => ?_
    refine ⟨rfl, rfl, .int c, rfl, rfl, rfl, rfl, rfl, 2, rfl, rfl, hK2 _ ?_⟩
    refine wp_cons fun K3 hK3 => ?_
    refine ⟨rfl, (show 7 ≤ sizeLine by decide), hK3 _ ?_⟩
    refine wp_cons fun K4 hK4 => ?_
    have h7 : 0 ≤ (c + 1) % 7 ∧ (c + 1) % 7 < 7 := ⟨Int.emod_nonneg _ (by decide), Int.emod_lt_of_pos _ (by decide)⟩
    obtain ⟨p, p1, p2, p3⟩ := primes_at h7.1 h7.2
    have h7' : 0 ≤ (c + 1 + 3) % 7 ∧ (c + 1 + 3) % 7 < 7 := ⟨Int.emod_nonneg _ (by decide), Int.emod_lt_of_pos _ (by decide)⟩
    obtain ⟨r, r1, r2, r3⟩ := primes_at h7'.1 h7'.2
    have hcN : (c + 1).natAbs < 2 ^ 40 := by omega
    have hq : ((c + 1) * (c + 1)).natAbs < 2 ^ 80 := by
      rw [Int.natAbs_mul, show (80 : Nat) = 40 + 40 from rfl, Nat.pow_add]
      exact Nat.mul_lt_mul'' hcN hcN
    have hq2 : ((c + 1) * (c + 1) + 48271).natAbs < 2 ^ 81 := by omega
    refine ⟨rfl, rfl, .int b, rfl, rfl, rfl, rfl, .int (c + 1), rfl, rfl, rfl, rfl, .int (c + 1), rfl, rfl, rfl, mul_ok hcN hcN (by decide) (by decide) (by decide), rfl, rfl, mul_ok (k := 64) (l := 81) (by omega) hq2 (by decide) (by decide) (by decide), ?_⟩
    refine ⟨rfl, rfl, rfl, .int (c + 1), rfl, rfl, rfl, by decide, rfl, .int p, p1, rfl, rfl, p2, hK4 _ ?_⟩
    refine wp_cons fun K5 hK5 => ?_
    have o1 := Int.emod_nonneg (b * ((c + 1) * (c + 1) + 48271)) (Int.ne_of_gt p2)
    have o2 := Int.emod_lt_of_pos (b * ((c + 1) * (c + 1) + 48271)) p2
    generalize b * ((c + 1) * (c + 1) + 48271) % p = o at o1 o2 ⊢
    refine ⟨rfl, rfl, by decide, by decide, by omega, rfl, rfl, rfl, .int (c + 1), rfl, rfl, rfl, rfl, by decide, rfl, .int r, r1, rfl, rfl, r2, rfl, by decide, by decide, rfl, rfl, hm, ?_⟩
    exact k' _ (a, b, c + 1) _ _ _ (Int.emod_nonneg _ (by omega)) (Int.emod_lt_of_pos _ hm) ⟨ha, hb, by dsimp only; omega, by dsimp only; omega⟩
theorem wp_law_pick (ds : List D) (post) (hl : ds.length = 2) (h : sp_law_pick ds post) : wpS ir_law_pick (ds ++ List.replicate 0 .un) (postOf ir_law_pick 2 post) := by
  obtain ⟨n, s, o, xs, rfl, hs, hn, hx, hp, hz, k⟩ := h
  have hm : 0 < xs.length := List.length_pos_iff.mpr hx
  refine wp_cons fun K hK => ?_
  refine ⟨rfl, rfl, rfl, rfl, rfl, n, s, xs.length, rfl, hs, hn, by omega, by omega, fun r s' r0 r1 hs' => ⟨rfl, rfl, ?_⟩⟩
  obtain ⟨x, x1, x2⟩ := at_mem r0 r1
  exact ⟨_, x2, pus_mem hp x1, k _ _ x1 hs'⟩
theorem wp_law_fee (ds : List D) (post) (hl : ds.length = 2) (h : sp_law_fee ds post) : wpS ir_law_fee (ds ++ List.replicate 0 .un) (postOf ir_law_fee 2 post) := by
  obtain ⟨n, s, j, rfl, hs, hn, j0, j4, k⟩ := h
  refine wp_cons fun K hK => wp_if2 fun C hT hF => ?_
  refine ⟨rfl, rfl, ?_⟩
  show C (decide (j = 4)) _
  cases he : decide (j = 4) with
  | true =>
    refine hT _ (wp_cons fun K2 hK2 => ?_)
    refine ⟨rfl, rfl, n, s, 32000, rfl, hs, by omega, by decide, by decide, fun r s' r0 r1 hs' => ⟨rfl, ?_⟩⟩
    refine ⟨rfl, mul_1 (by decide), ?_⟩
    refine ⟨rfl, rfl, n + 1, s', 31251, rfl, hs', by omega, by decide, by decide, fun r2 s2 r20 r21 hs2 => ⟨rfl, rfl, ?_⟩⟩
    exact k _ _ (by omega) (by omega) hs2
  | false =>
    have s3 : j ≤ 3 := by
      have := of_decide_eq_false he
      omega
    refine hF _ (hK _ (wp_cons fun K2 hK2 => ?_))
    refine ⟨rfl, rfl, n, s, 7, rfl, hs, by omega, by decide, by decide, fun r s' r0 r1 hs' => ⟨rfl, ?_⟩⟩
    refine ⟨rfl, (show 4 ≤ sizeLine by decide), rfl, rfl, ?_⟩
    have hj : j = 0 ∨ j = 1 ∨ j = 2 ∨ j = 3 := by omega
    have hu := hs'.up (m := n + 2) (by omega)
    rcases hj with rfl | rfl | rfl | rfl
    · exact ⟨.int 0, rfl, rfl, k _ _ (by decide) (by decide) hu⟩
    · exact ⟨.int 1, rfl, rfl, k _ _ (by decide) (by decide) hu⟩
    · exact ⟨.int r, rfl, rfl, k _ _ r0 (by omega) hu⟩
    · exact ⟨.int 5, rfl, rfl, k _ _ (by decide) (by decide) hu⟩
theorem wp_law_hand (ds : List D) (post) (hl : ds.length = 2) (h : sp_law_hand ds post) : wpS ir_law_hand (ds ++ List.replicate 2 .un) (postOf ir_law_hand 2 post) := by
  obtain ⟨ns, j, rfl, j0, j1, k⟩ := h
  refine wp_cons fun K hK => hK _ ?_
  refine wp_cons fun K2 hK2 => wp_if2 fun C hT hF => ?_
  have tail : ∀ z : Int, K2 [scriptD ns, .int j, .int z, .un] := fun z => hK2 _ (by
    refine wp_cons fun K3 hK3 => ?_
    have hp : (0 : Int) < 10 ^ Int.toNat 45 * 10 ^ Int.toNat 45 := by decide +kernel
    have az : (0 : Int) ≤ (if z < 0 then -z else z) := by split <;> omega
    have m1 := Int.emod_nonneg (if z < 0 then -z else z) (Int.ne_of_gt hp)
    refine ⟨rfl, rfl, rfl, by decide, by decide, by decide, rfl, by decide, by decide, by decide, rfl, mul_ok (k := 150) (l := 150) (by decide +kernel) (by decide +kernel) (by decide) (by decide) (by decide), rfl, hp, ?_⟩
    refine ⟨rfl, rfl, rfl, by decide, by decide, by decide, rfl, rfl, rfl, mul_1 (b01s _), hK3 _ ?_⟩
    refine wp_cons fun K4 hK4 => ?_
    have c1 := Int.emod_nonneg z (show (2305843009213693951 : Int) ≠ 0 by decide)
    have c2 := Int.emod_lt_of_pos z (show (0 : Int) < 2305843009213693951 by decide)
    refine ⟨rfl, rfl, rfl, rfl, by decide, rfl, rfl, mul_1 (by omega), rfl, rfl, rfl, (show 3 ≤ sizeLine by decide), ?_⟩
    exact k (_, _, 0) ⟨Int.mul_nonneg m1 (b0 _), ⟨by dsimp only; omega, by dsimp only; omega⟩, ⟨Int.le_refl 0, Int.le_refl 0⟩⟩)
  refine ⟨rfl, rfl, rfl, rfl, ?_⟩
  show C (decide (j < ((ns.map D.int).length : Int))) _
  by_cases c1 : j < ((ns.map D.int).length : Int)
  · rw [decide_eq_true c1]
    obtain ⟨x, x1, x2⟩ := at_ints j0 (by rw [List.length_map] at c1; exact c1)
    refine hT _ (wp_cons fun K3 hK3 => ?_)
    exact ⟨rfl, rfl, rfl, .int x, x2, rfl, hK3 _ (tail _)⟩
  · rw [decide_eq_false c1]
    exact hF _ (tail _)
theorem wp_law_web (ds : List D) (post) (hl : ds.length = 2) (h : sp_law_web ds post) : wpS ir_law_web (ds ++ List.replicate 6 .un) (postOf ir_law_web 2 post) := by
  obtain ⟨n, s, m, rfl, hs, hn, m0, m30, k⟩ := h
  have k' : ∀ kk ts s' a b c d e f, kk ≤ m → WebOk kk ts → HOk (n + 10000) s' → (postOf ir_law_web 2 post).rt (webD kk ts) [handD s', .int m, a, b, c, d, e, f] := fun _ _ _ _ _ _ _ _ _ h1 h2 h3 => k _ _ _ h1 h2 h3
  generalize postOf ir_law_web 2 post = P at k' ⊢
  have big : 900 < sizeLine := by decide
  refine wp_cons fun K hK => ?_
  refine ⟨rfl, (show 6 ≤ sizeLine by decide), rfl, rfl, n, s, 6, rfl, hs, by omega, by decide, by decide, fun r s1 r0 r1 hs1 => ⟨rfl, rfl, ?_⟩⟩
  obtain ⟨sh, sh1, sh2⟩ := at_ints (ns := [0, 1, 2, 3, 4, 2]) r0 r1
  have sh3 : 0 ≤ sh ∧ sh ≤ 4 := by simp at sh1; omega
  refine ⟨.int sh, sh2, rfl, ?_⟩
  refine ⟨rfl, rfl, n + 1, s1, 5, rfl, hs1, by omega, by decide, by decide, fun so s2 so0 so1 hs2 => ⟨rfl, ?_⟩⟩
  refine ⟨rfl, rfl, rfl, rfl, n + 2, s2, m, rfl, hs2, by omega, m0, by omega, fun kk s3 k0 k1 hs3 => ⟨rfl, rfl, ?_⟩⟩
  refine ⟨_, rfl, rfl, hK _ ?_⟩
  refine wp_cons fun K2 hK2 => ?_
  refine ⟨rfl, (show 0 ≤ sizeLine by decide), hK2 _ ?_⟩
  refine wp_cons fun K3 hK3 => ?_
  refine ⟨rfl, by omega, by omega, ?_⟩
  refine for_rng (1 + kk) (fun i ρ => ∃ q s' ts x y, ρ = [handD s', .int m, .int sh, .int so, .int (1 + kk), .lst true (ts.map tieD), x, y] ∧ HOk q s' ∧ q ≤ n + 3 + 100 * i.toNat ∧ Drawn (1 + kk) i 0 ts) _ 0 _ rfl ?_ ?_ ?_
  · exact ⟨n + 3, s3, [], _, _, rfl, hs3, by omega, .nil _ _ _⟩
  · rintro i _ P' i0 i1 ⟨q, s', ts, x, y, rfl, hq, hq2, dr⟩ nx ct bk rt
    refine wp_cons fun K4 hK4 => ?_
    refine ⟨rfl, rfl, rfl, by omega, by omega, by omega, by omega, ?_⟩
    refine for_rng (1 + kk) (fun j ρ => ∃ q s' ts y, ρ = [handD s', .int m, .int sh, .int so, .int (1 + kk), .lst true (ts.map tieD), .int i, y] ∧ HOk q s' ∧ q ≤ n + 3 + 100 * i.toNat + 3 * j.toNat ∧ Drawn (1 + kk) i j ts) _ (i + 1) _ rfl ?_ ?_ ?_
    · exact ⟨q, _, ts, _, rfl, hq, by omega, dr.up (by omega)⟩
    · rintro j _ P2 j0 j1 ⟨q, s', ts, y, rfl, hq, hq2, dr⟩ nx2 ct2 bk2 rt2
      refine wp_cons fun K5 hK5 => wp_if2 fun C hT hF => ?_
      refine ⟨rfl, rfl, q, s', 4, rfl, hq, by omega, by decide, by decide, fun r s1 r0 r1 hs1 => ⟨rfl, rfl, rfl, ?_⟩⟩
      show C (decide (r < sh)) _
      by_cases c1 : r < sh
      · rw [decide_eq_true c1]
        refine hT _ (wp_cons fun K6 hK6 => ?_)
        refine ⟨rfl, rfl, rfl, rfl, rfl, rfl, rfl, rfl, rfl, rfl, q + 1, s1, so, rfl, hs1, by omega, so0, by omega, fun f s2 f0 f1 hs2 => ⟨rfl, ?_⟩⟩
        have fw := dr.few (by omega)
        refine ⟨rfl, (show 3 ≤ sizeLine by decide), rfl, by rw [List.length_map]; omega, rfl, hK6 _ (hK5 _ (nx2 _ ?_))⟩
        exact ⟨_, _, ts ++ [(i, j, f)], _, by rw [List.map_append]; rfl, hs2, by omega, dr.push (by omega) (by omega) j1 f0 f1⟩
      · rw [decide_eq_false c1]
        refine hF _ (hK5 _ (nx2 _ ?_))
        exact ⟨_, _, ts, _, rfl, hs1, by omega, dr.up (by omega)⟩
    · rintro j ρ j0 j1 j2 ⟨q, s', ts, y, rfl, hq, hq2, dr⟩
      refine hK4 _ (nx _ ⟨q, s', ts, _, _, rfl, hq, by omega, dr.up (by omega)⟩)
  · rintro i ρ i0 i1 i2 ⟨q, s', ts, x, y, rfl, hq, hq2, dr⟩
    refine hK3 _ (wp_cons fun K4 hK4 => ?_)
    refine ⟨rfl, rfl, rfl, rfl, pus_ties ts, ?_⟩
    refine ⟨rfl, (show 2 ≤ sizeLine by decide), ?_⟩
    exact k' _ _ _ _ _ _ _ _ _ (by omega) ⟨by omega, by omega, dr.low, dr.inc⟩ (hq.up (by omega))
/-! ### a def at another name than its own -/
section
variable {P : Program} {w : World} {K : PySem.W.Frag} {mg : Str → Option Value} {base : Heap}
/-- the def called x stands at the name a -/
def HereA (K : PySem.W.Frag) (mg : Str → Option Value) (a x : Str) (st : Stmt) : Prop := ∃ f fd, mg a = some (.ref f) ∧ Fun K x x st f fd
theorem here_mkA {h : Heap} (X : K.In h) (G : h.Ns mainGlobals mg) {z x : Str} {st : Stmt} {f : Addr} {oc : Value} {od an : Option Addr} {osl : Array (Option Value)} {kV doc pm cdv ct : Value} (a : PySem.W.nsIn K mainGlobals z = some (some (.ref f)))
    (l : K.lookup f = some ⟨oc, od, .func (PySem.W.fnOf x x (defArgs st) (defBody st) (defScope st) .none kV doc pm an cdv ct), osl⟩) (c : PySem.W.codeIn K cdv x = true) (k : PySem.W.keepIn K (.ref f) = true) : HereA K mg z x st :=
  ⟨f, _, PySem.W.mg_of X G a, fun_mk l c k⟩
theorem defX_mkA {z x : Str} {st : Stmt} {N ps : List Str} {k : Nat} {sp : Spec} {ir : IR} (H : HereA K mg z x st) (hb : ∀ x ∈ bltN, mg x = none) (B : BindOk x st ps) (S : FnScope N ps (defScope st))
    (hc : (ck ir).SS (ctOf N st) (defBody st) = true) (kn : Known (GlbK K mg) (DefX P w K mg base k) ir) (hl : ∀ ds post, sp ds post → ds.length = ps.length)
    (hw : ∀ ds post, ds.length = ps.length → sp ds post → wpS ir (ds ++ List.replicate (N.length - ps.length) .un) (postOf ir ps.length post)) : DefX P w K mg base (k + 1) z sp := by
  obtain ⟨f, fd, hm, F⟩ := H
  exact ⟨f, fd, ps, hm, fnG_ir F S hb hc kn hw, F.kp, F.binds B, hl⟩
end
/-! ### a def that calls itself: its promise by depth -/
/-- nothing is promised -/
def spNo : Spec := fun _ _ => False
section
variable {P : Program} {w : World} {K : PySem.W.Frag} {mg : Str → Option Value} {base : Heap}
theorem defX_no {x : Str} {st : Stmt} {ps : List Str} {k : Nat} {sp : Spec} (H : Here K mg x st) (B : BindOk x st ps) (no : ∀ ds post, ¬ sp ds post) : DefX P w K mg base k x sp := by
  obtain ⟨f, fd, hm, F⟩ := H
  refine ⟨f, fd, ps, hm, ⟨fun A outer s H args us vs Q hg hr he hb hv h => ?_⟩, F.kp, F.binds B, fun ds post h => (no ds post h).elim⟩
  obtain ⟨_, ds, _, _, post, _, _, _, _, w, _⟩ := h
  exact (no ds post w).elim
end
end DL
namespace DL
open PySem PySem.Spec PyProof.Rows L2
/-! ### more of what all laws share: walks, cuts, equal tuples -/
theorem for_pre {α : Type} (inj : α → D) {step : D → Env → Post → Prop} {P : Post} (xs : List α) (I : List α → Env → Prop) {ρ : Env} (h0 : I [] ρ)
    (hs : ∀ (pre : List α) (t : α) (post : List α) ρ (P' : Post), xs = pre ++ t :: post → I pre ρ → Gx P'.nx (I (pre ++ [t])) → Gx P'.ct (I (pre ++ [t])) → Gx P'.bk P.nx → (∀ v ρ1, P.rt v ρ1 → P'.rt v ρ1) → step (inj t) ρ P')
    (hd : ∀ ρ, I xs ρ → P.nx ρ) : forL step (xs.map inj) ρ P := by
  refine for_inv (fun ds ρ => ∃ pre post, xs = pre ++ post ∧ ds = post.map inj ∧ I pre ρ) ?_ ?_ _ _ ⟨[], xs, rfl, rfl, h0⟩
  · rintro d ds ρ P' ⟨pre, post, e1, e2, hI⟩ nx ct bk rt
    cases post with
    | nil => cases e2
    | cons t post =>
      rw [List.map_cons] at e2
      cases e2
      exact hs pre t post ρ P' e1 hI (fun ρ1 h => nx ρ1 ⟨pre ++ [t], post, by rw [e1]; simp, rfl, h⟩) (fun ρ1 h => ct ρ1 ⟨pre ++ [t], post, by rw [e1]; simp, rfl, h⟩) bk rt
  · rintro ρ ⟨pre, post, e1, e2, hI⟩
    cases post with
    | nil =>
      rw [List.append_nil] at e1
      rw [← e1] at hI
      exact hd ρ hI
    | cons t post => cases e2
/-- a walk over a range -/
theorem for_to {step : D → Env → Post → Prop} {P : Post} (lo hi : Int) (I : Int → Env → Prop) {ρ : Env} (h : I lo ρ)
    (hs : ∀ i ρ (P' : Post), lo ≤ i → i < hi → I i ρ → Gx P'.nx (I (i + 1)) → Gx P'.ct (I (i + 1)) → Gx P'.bk P.nx → (∀ v ρ1, P.rt v ρ1 → P'.rt v ρ1) → step (.int i) ρ P')
    (hd : ∀ i ρ, hi ≤ i → lo ≤ i → (lo ≤ hi → i = hi) → I i ρ → P.nx ρ) : forL step (rngL lo hi) ρ P :=
  for_rng hi I _ lo ρ rfl h (fun i ρ P' a b c d e f g => hs i ρ P' a b c d e f g) hd
theorem rngL_map (n : Int) : rngL 0 n = (List.range n.toNat).map fun i : Nat => D.int (i : Int) := by
  rw [rng_below]; unfold belowL; rw [List.map_map]; rfl
theorem lcR (g : Nat → D) {step : D → Env → (Option D → Env → Prop) → Prop} {q : List D → Env → Prop} {own : List Nat} {ρ0 : Env} {n : Int}
    (hs : ∀ i : Nat, (i : Int) < n → ∀ (k : Option D → Env → Prop), Gk own ρ0 k (some (g i)) → step (.int (i : Int)) ρ0 k) (hz : n.toNat ≤ sizeLine) (h : q ((List.range n.toNat).map g) ρ0) : lcL own step (rngL 0 n) ρ0 [] q := by
  rw [rngL_map]
  exact lcG (fun i : Nat => D.int (i : Int)) g _ (fun i hi k hk => hs i (by have := List.mem_range.mp hi; omega) k hk) (by rw [List.length_range]; exact hz) h
theorem lcRF (f : Nat → Bool) (g : Nat → D) {step : D → Env → (Option D → Env → Prop) → Prop} {q : List D → Env → Prop} {own : List Nat} {ρ0 : Env} {n : Int}
    (hs : ∀ i : Nat, (i : Int) < n → ∀ (k : Option D → Env → Prop), Gk own ρ0 k (if f i = true then some (g i) else none) → step (.int (i : Int)) ρ0 k) (hz : n.toNat ≤ sizeLine) (h : q (((List.range n.toNat).filter f).map g) ρ0) : lcL own step (rngL 0 n) ρ0 [] q := by
  rw [rngL_map]
  exact lcF (fun i : Nat => D.int (i : Int)) f g _ (fun i hi k hk => hs i (by have := List.mem_range.mp hi; omega) k hk) (by rw [List.length_range]; exact hz) h
theorem cutD_eq (ds : List D) (lo hi : Option Int) : cutD ds lo hi = cutX ds lo hi := rfl
theorem cut_take {α : Type} (xs : List α) {i : Int} (h : 0 ≤ i) : cutX xs none (some i) = xs.take i.toNat := by
  unfold cutX
  have e : HT.sIx xs.length 0 none = 0 := rfl
  rw [sIx_of h, e, List.drop_zero, Nat.sub_zero]
  by_cases c : i.toNat ≤ xs.length
  · rw [Nat.min_eq_left c]
  · rw [Nat.min_eq_right (by omega), List.take_of_length_le (Nat.le_refl _), List.take_of_length_le (by omega)]
theorem cut_drop {α : Type} (xs : List α) {i : Int} (h : 0 ≤ i) : cutX xs (some i) none = xs.drop i.toNat := by
  unfold cutX
  have e : HT.sIx xs.length xs.length none = xs.length := rfl
  rw [sIx_of h, e]
  by_cases c : i.toNat ≤ xs.length
  · rw [Nat.min_eq_left c, List.take_of_length_le (by rw [List.length_drop]; omega)]
  · rw [Nat.min_eq_right (by omega), List.drop_of_length_le (Nat.le_refl _), List.drop_of_length_le (by omega), List.take_nil]
theorem cutD_take {α : Type} (f : α → D) (xs : List α) {i : Int} (h : 0 ≤ i) : cutD (xs.map f) none (some i) = (xs.take i.toNat).map f := by rw [cutD_map, cut_take _ h]
theorem cutD_drop {α : Type} (f : α → D) (xs : List α) {i : Int} (h : 0 ≤ i) : cutD (xs.map f) (some i) none = (xs.drop i.toNat).map f := by rw [cutD_map, cut_drop _ h]
theorem cutDt (ds : List D) {i : Int} (h : 0 ≤ i) : cutD ds none (some i) = ds.take i.toNat := by rw [cutD_eq, cut_take _ h]
theorem cutDd (ds : List D) {i : Int} (h : 0 ≤ i) : cutD ds (some i) none = ds.drop i.toNat := by rw [cutD_eq, cut_drop _ h]
theorem at_neg {α : Type} {xs : List α} {i : Int} {x : α} (h0 : i < 0) (h1 : -(xs.length : Int) ≤ i) (h : xs[(i + xs.length).toNat]? = some x) : atI xs i = some x := by
  unfold atI ixN
  rw [if_neg (by omega), if_pos h1]
  exact h
theorem eqvAll_ints : ∀ a b : List Int, PyData.eqvAll (a.map PyData.int) (b.map PyData.int) = decide (a = b)
  | [], [] => by simp [PyData.eqvAll]
  | [], _ :: _ => by simp [PyData.eqvAll]
  | _ :: _, [] => by simp [PyData.eqvAll]
  | x :: a, y :: b => by
    have := eqvAll_ints a b
    rw [List.map_cons, List.map_cons, PyData.eqvAll, this]
    have e : PyData.eqv (.int x) (.int y) = decide (x = y) := eqD_int x y
    rw [e]
    by_cases c1 : x = y <;> by_cases c2 : a = b <;> simp [c1, c2]
theorem eqD_lot (a b : List Int) : eqD (lotD a) (lotD b) = decide (a = b) := by
  unfold eqD
  rw [toP_lot, toP_lot, PyData.eqv, eqvAll_ints]
theorem eqP_lot {a b : List Int} {q : Bool → Prop} (h : q (decide (a = b))) : cmp2 .Eq [lotD a, lotD b] q := ⟨eqOk_tupI a, eqOk_tupI b, by rw [eqD_lot]; exact h⟩
theorem eqP_tup {xs ys : List D} (a b : List Int) (e1 : xs = a.map D.int) (e2 : ys = b.map D.int) {q : Bool → Prop} (h : q (decide (a = b))) : cmp2 .Eq [.tup xs, .tup ys] q := by
  subst e1; subst e2; exact eqP_lot h
theorem lx_lex : ∀ a b : List Int, HT.lexLt a b = lx a b
  | [], [] => rfl | [], _ :: _ => rfl | _ :: _, [] => rfl
  | x :: a, y :: b => by
    show (if x = y then HT.lexLt a b else decide (x < y)) = (if x = y then lx a b else decide (x < y))
    rw [lx_lex a b]
theorem lt_lot {a b : List Int} {q : Bool → Prop} (h : q (lx a b)) : cmpS .Lt (lotD a) (lotD b) q := ⟨a, b, rfl, rfl, by rw [lx_lex]; exact h⟩
theorem lx_lt : ∀ a b : List Int, lx a b = decide (a < b)
  | [], [] => by simp [lx]
  | [], _ :: _ => by simp [lx]
  | _ :: _, [] => by simp [lx]
  | x :: a, y :: b => by
    rw [lx, lx_lt a b]
    by_cases c : x = y
    · subst c; simp [List.cons_lt_cons_iff]
    · simp [c, List.cons_lt_cons_iff]
theorem le_lots (a b : List Int) : PySem.W.dataLe false toP (lotD a) (lotD b) = !lx b a := by
  show (!PySem.W.dataLt (toP (lotD b)) (toP (lotD a))) = _
  rw [toP_lot, toP_lot, PySem.W.dataLt_tuple]
  show (!PySem.W.rowLt (b.map .int) (a.map .int)) = _
  rw [PySem.W.dataLt_ints, lx_lt]
def sortL (rs : List (List Int)) : List (List Int) := rs.mergeSort fun a b => !lx b a
theorem sortD_lots (rs : List (List Int)) : sortD (rs.map lotD) = (sortL rs).map lotD := sortD_map lotD _ rs fun a _ b _ => (le_lots a b).symm
theorem sortL_perm (rs : List (List Int)) : (sortL rs).Perm rs := List.mergeSort_perm _ _
theorem sortL_pw (rs : List (List Int)) : (sortL rs).Pairwise fun a b => lx b a = false := by
  have := List.pairwise_mergeSort (le := fun a b : List Int => !lx b a) (fun a b c h1 h2 => by
    simp only [Bool.not_eq_true'] at *
    cases e : lx c a with
    | false => rfl
    | true =>
      by_cases q : c = b
      · subst q; rw [e] at h1; cases h1
      · by_cases q2 : b = a
        · subst q2; rw [e] at h2; cases h2
        · have := lx_tot c b q h2
          have := lx_tr b c a this e
          rw [h1] at this; cases this) (fun a b => by
    cases e : lx b a with
    | false => rfl
    | true => rw [lx_asym e]; rfl) rs
  exact this.imp fun {a b} h => by simpa using h
/-- sorted rows none of which stands twice rise -/
theorem sortL_ris {rs : List (List Int)} (nd : rs.Nodup) : risB lx (sortL rs) = true := by
  rw [risB_pw lx_tr]
  have h1 := sortL_pw rs
  have h2 : (sortL rs).Pairwise (· ≠ ·) := (sortL_perm rs).nodup_iff.mpr nd
  exact (h1.and h2).imp fun {a b} h => lx_tot b a (fun e => h.2 e.symm) h.1
theorem zipC_ints (xs : List Int) : zipL (xs.map D.int) ((xs.drop 1 ++ xs.take 1).map D.int) = (cyc xs).map prD := zip_pairs _ _
end DL
namespace DL
open PySem PySem.Spec PyProof.Rows L2
theorem c_lt {i j : Int} {q : Bool → Prop} (h : q (decide (i < j))) : cmp2 .Lt [.int i, .int j] q := h
theorem c_le {i j : Int} {q : Bool → Prop} (h : q (decide (i ≤ j))) : cmp2 .LtE [.int i, .int j] q := h
theorem c_gt {i j : Int} {q : Bool → Prop} (h : q (decide (j < i))) : cmp2 .Gt [.int i, .int j] q := h
theorem c_ge {i j : Int} {q : Bool → Prop} (h : q (decide (j ≤ i))) : cmp2 .GtE [.int i, .int j] q := h
theorem c_eq {i j : Int} {q : Bool → Prop} (h : q (decide (i = j))) : cmp2 .Eq [.int i, .int j] q := h
theorem c_ne {i j : Int} {q : Bool → Prop} (h : q (!decide (i = j))) : cmp2 .NotEq [.int i, .int j] q := h
end DL
namespace DL
open PySem PySem.Spec PyProof.Rows L2
theorem rng_go {n : Int} {q : List D → Prop} (h1 : n < 2 ^ 62) (h2 : -(2 ^ 62) ≤ n) (h : q (rngL 0 n)) : rngS [.int n] q := ⟨h1, h2, h⟩
theorem rng_go2 {m n : Int} {q : List D → Prop} (h1 : -(2 ^ 62) ≤ m) (h2 : m < 2 ^ 62) (h3 : -(2 ^ 62) ≤ n) (h4 : n < 2 ^ 62) (h : q (rngL m n)) : rngS [.int m, .int n] q := ⟨h1, h2, h3, h4, h⟩
end DL
namespace DL
open PySem PySem.Spec PyProof.Rows L2
/-- a while by an invariant and a measure -/
theorem wh_to {c : Env → (Bool → Env → Prop) → Prop} {b : Env → Post → Prop} {P : Post} {ρ : Env} (I : Nat → Env → Prop) {m0 : Nat} (h : I m0 ρ)
    (hs : ∀ (m : Nat) (ρ : Env) (C : Bool → Env → Prop), I m ρ → Gx (C true) (fun ρ1 => ∀ P' : Post, Gx P'.nx (fun ρ2 => ∃ j, j < m ∧ I j ρ2) → Gx P'.ct (fun ρ2 => ∃ j, j < m ∧ I j ρ2) → Gx P'.bk P.nx → (∀ v ρ2, P.rt v ρ2 → P'.rt v ρ2) → b ρ1 P') → Gx (C false) P.nx → c ρ C) : Stop (∃ n, whL c b n ρ P) := by
  refine stop ⟨m0 + 1, wh_inv I (fun m ρ K hI hb hn => ?_) (m0 + 1) m0 ρ (Nat.lt_succ_self _) h⟩
  exact hs m ρ K hI (fun ρ1 g => hb ρ1 fun P' nx ct bk rt => g P' (fun ρ2 ⟨j, h1, h2⟩ => nx j ρ2 h1 h2) (fun ρ2 ⟨j, h1, h2⟩ => ct j ρ2 h1 h2) bk rt) hn
/-- a comprehension over a range, the state changing -/
theorem lc_to {own : List Nat} {step : D → Env → (Option D → Env → Prop) → Prop} {q : List D → Env → Prop} {ρ : Env} (lo hi : Int) (I : Int → List D → Env → Prop) (h : I lo [] ρ)
    (hs : ∀ i acc ρ (k : Option D → Env → Prop), lo ≤ i → i < hi → I i acc ρ → (∀ x ρ1, I (i + 1) (acc ++ [x]) (wipeE ρ1 own) → k (some x) ρ1) → (∀ ρ1, I (i + 1) acc (wipeE ρ1 own) → k none ρ1) → step (.int i) ρ k)
    (hz : ∀ i acc ρ, lo ≤ i → i < hi → I i acc ρ → acc.length < sizeLine) (hd : ∀ i acc ρ, hi ≤ i → lo ≤ i → (lo ≤ hi → i = hi) → I i acc ρ → q acc ρ) : lcL own step (rngL lo hi) ρ [] q :=
  lc_rng hi I _ lo [] ρ rfl h hs hz hd
end DL
namespace DL
open PySem PySem.Spec PyProof.Rows L2
/-! ### step words: one for each form, by its head -/
section
variable {ρ ρ' ρ0 : Env} {P : Post} {K : Env → Prop} {rt : D → Env → Prop} {bk ct : Env → Prop} {s r e a b c as tg it body : IR}
/-! statements -/
theorem w_nil (h : K ρ) : wpS .nil ρ ⟨K, rt, bk, ct⟩ := h
theorem w_nilP (h : P.nx ρ) : wpS .nil ρ P := h
theorem w_nx (h : K ρ) : Post.nx ⟨K, rt, bk, ct⟩ ρ := h
theorem w_rt {d : D} (h : rt d ρ) : Post.rt ⟨K, rt, bk, ct⟩ d ρ := h
theorem w_bk (h : bk ρ) : Post.bk ⟨K, rt, bk, ct⟩ ρ := h
theorem w_ct (h : ct ρ) : Post.ct ⟨K, rt, bk, ct⟩ ρ := h
theorem w_sE (h : ∀ K, Gx K (fun ρ => wpS r ρ P) → (sm e).E ρ (fun _ ρ1 => K ρ1)) : wpS (.cons (.sE e) r) ρ P := h _ fun _ h => h
theorem w_sA (h : ∀ K, Gx K (fun ρ => wpS r ρ P) → (sm e).E ρ (fun d ρ1 => bindT tg d ρ1 K)) : wpS (.cons (.sA tg e) r) ρ P := h _ fun _ h => h
def VG (is : List Nat) (xs : List Arg) (ρ : Env) (K : Env → Prop) : Prop := ∃ ds, vals xs = some ds ∧ ds.length = is.length ∧ K (setsE is ds ρ)
theorem w_vg {is : List Nat} {xs : List Arg} {ds : List D} (e : vals xs = some ds) (l : ds.length = is.length) (e2 : setsE is ds ρ = ρ') (h : K ρ') : VG is xs ρ K := ⟨ds, e, l, by rw [e2]; exact h⟩
theorem w_sP {is : List Nat} (h : ∀ K, Gx K (fun ρ => wpS r ρ P) → (sm as).A ρ (fun xs ρ1 => VG is xs ρ1 K)) : wpS (.cons (.sP is as) r) ρ P := h _ fun _ h => h
def AF (xs : List Arg) (ds : List D) (ρ : Env) (k : Env → Prop) : Prop := okU xs ds = true ∧ k (wb xs ds ρ)
theorem w_af {xs : List Arg} {ds : List D} (u : okU xs ds = true) (e : wb xs ds ρ = ρ') (h : K ρ') : AF xs ds ρ K := ⟨u, by rw [e]; exact h⟩
def IG (xs : List Arg) (ρ : Env) (K : Env → Prop) : Prop := noUn (res ρ xs) ∧ setS (res ρ xs) fun _ ds => AF xs ds ρ K
theorem w_ig {xs : List Arg} {ds : List D} (e : res ρ xs = ds) (u : noUn ds) (h : setS ds fun _ ds => AF xs ds ρ K) : IG xs ρ K := ⟨by rw [e]; exact u, by rw [e]; exact h⟩
theorem w_sI (h : ∀ K, Gx K (fun ρ => wpS r ρ P) → (sm as).A ρ (fun xs ρ1 => IG xs ρ1 K)) : wpS (.cons (.sI as) r) ρ P := h _ fun _ h => h
def UG (op : Operator) (x y : D) (k : D → Prop) : Prop := iopS op x y k
theorem w_ugA {i j : Int} {k : D → Prop} (h : k (.int (i + j))) : UG .Add (.int i) (.int j) k := h
theorem w_ugS {i j : Int} {k : D → Prop} (h : k (.int (i - j))) : UG .Sub (.int i) (.int j) k := h
def SetE (ρ : Env) (i : Nat) (d : D) (K : Env → Prop) : Prop := K (ρ.set i d)
theorem w_set {i : Nat} {d : D} (e : ρ.set i d = ρ') (h : K ρ') : SetE ρ i d K := by unfold SetE; rw [e]; exact h
theorem w_sU {i : Nat} {op : Operator} {x : D} (g : gt ρ i = x) (u : isUn x = false) (p : pu x = true) (h : ∀ K, Gx K (fun ρ => wpS r ρ P) → (sm e).E ρ (fun y ρ1 => UG op x y fun z => SetE ρ1 i z K)) : wpS (.cons (.sU i op e) r) ρ P :=
  ⟨by rw [g]; exact u, by rw [g]; exact p, by rw [g]; exact h _ fun _ h => h⟩
theorem w_sIf {t e : IR} (h : ∀ K, Gx K (fun ρ => wpS r ρ P) → ∀ C : Bool → Env → Prop, Gx (C true) (fun ρ => wpS t ρ ⟨K, P.rt, P.bk, P.ct⟩) → Gx (C false) (fun ρ => wpS e ρ ⟨K, P.rt, P.bk, P.ct⟩) → (sm c).T ρ C) : wpS (.cons (.sIf c t e) r) ρ P :=
  h _ (fun _ h => h) _ (fun _ h => h) (fun _ h => h)
theorem w_sIfK {t e : IR} (h : ∀ K', Gx K' (fun ρ => wpS r ρ ⟨K, rt, bk, ct⟩) → ∀ C : Bool → Env → Prop, Gx (C true) (fun ρ => wpS t ρ ⟨K', rt, bk, ct⟩) → Gx (C false) (fun ρ => wpS e ρ ⟨K', rt, bk, ct⟩) → (sm c).T ρ C) : wpS (.cons (.sIf c t e) r) ρ ⟨K, rt, bk, ct⟩ :=
  h _ (fun _ h => h) _ (fun _ h => h) (fun _ h => h)
theorem w_sFor (h : ∀ K, Gx K (fun ρ => wpS r ρ P) → (sm it).I ρ fun ds ρ1 => Stop (forL (fun d ρ2 P' => bindT tg d ρ2 fun ρ3 => wpS body ρ3 P') ds ρ1 ⟨K, P.rt, P.bk, P.ct⟩)) : wpS (.cons (.sFor tg it body) r) ρ P := by
  have := h _ fun _ h => h
  unfold Stop at this
  exact this
theorem w_sForK (h : ∀ K', Gx K' (fun ρ => wpS r ρ ⟨K, rt, bk, ct⟩) → (sm it).I ρ fun ds ρ1 => Stop (forL (fun d ρ2 P' => bindT tg d ρ2 fun ρ3 => wpS body ρ3 P') ds ρ1 ⟨K', rt, bk, ct⟩)) : wpS (.cons (.sFor tg it body) r) ρ ⟨K, rt, bk, ct⟩ := by
  have := h _ fun _ h => h
  unfold Stop at this
  exact this
theorem w_sWh (h : ∀ K, Gx K (fun ρ => wpS r ρ P) → Stop (∃ n, whL (wpT c) (wpS body) n ρ ⟨K, P.rt, P.bk, P.ct⟩)) : wpS (.cons (.sWh c body) r) ρ P := by
  have := h _ fun _ h => h
  unfold Stop at this
  exact this
theorem w_sWhK (h : ∀ K', Gx K' (fun ρ => wpS r ρ ⟨K, rt, bk, ct⟩) → Stop (∃ n, whL (wpT c) (wpS body) n ρ ⟨K', rt, bk, ct⟩)) : wpS (.cons (.sWh c body) r) ρ ⟨K, rt, bk, ct⟩ := by
  have := h _ fun _ h => h
  unfold Stop at this
  exact this
theorem w_sRet (h : (sm e).E ρ P.rt) : wpS (.cons (.sRet e) r) ρ P := h
theorem w_sRetK (h : (sm e).E ρ rt) : wpS (.cons (.sRet e) r) ρ ⟨K, rt, bk, ct⟩ := h
theorem w_sRetN (h : P.rt .non ρ) : wpS (.cons .sRetN r) ρ P := h
theorem w_sRetNK (h : rt .non ρ) : wpS (.cons .sRetN r) ρ ⟨K, rt, bk, ct⟩ := h
theorem w_sPass (h : wpS r ρ P) : wpS (.cons .sPass r) ρ P := h
theorem w_sBrk (h : P.bk ρ) : wpS (.cons .sBrk r) ρ P := h
theorem w_sBrkK (h : bk ρ) : wpS (.cons .sBrk r) ρ ⟨K, rt, bk, ct⟩ := h
theorem w_sCnt (h : P.ct ρ) : wpS (.cons .sCnt r) ρ P := h
theorem w_sCntK (h : ct ρ) : wpS (.cons .sCnt r) ρ ⟨K, rt, bk, ct⟩ := h
/-! bindings -/
theorem w_tn {i : Nat} {d : D} (e : ρ.set i d = ρ') (h : K ρ') : bindT (.tn i) d ρ K := by
  have : K (ρ.set i d) := by rw [e]; exact h
  exact this
theorem w_ttT {is : List Nat} {ds : List D} (l : ds.length = is.length) (e : setsE is ds ρ = ρ') (h : K ρ') : bindT (.tt is) (.tup ds) ρ K := ⟨l, by rw [e]; exact h⟩
theorem w_ttP {is : List Nat} {ds : List D} (l : ds.length = is.length) (e : setsE is ds ρ = ρ') (h : K ρ') : bindT (.tt is) (.ptp ds) ρ K := ⟨l, by rw [e]; exact h⟩
/-! values -/
section
variable {q : D → Env → Prop} {d d' : D}
theorem w_cst (h : q d ρ) : (sm (.cst d)).E ρ q := h
theorem w_glb {x : Str} (h : q d ρ) : (sm (.glb x d)).E ρ q := h
theorem w_rd {i : Nat} (g : gt ρ i = d) (u : isUn d = false) (p : pu d = true) (h : q d ρ) : (sm (.rd i)).E ρ q := ⟨by rw [g]; exact u, by rw [g]; exact p, by rw [g]; exact h⟩
theorem w_mv {i : Nat} (g : gt ρ i = d) (u : isUn d = false) (e : ρ.set i .un = ρ') (h : q d ρ') : (sm (.mv i)).E ρ q := ⟨by rw [g]; exact u, by rw [g, e]; exact h⟩
def FZ (d : D) (k : D → Prop) : Prop := k (fz d)
theorem w_fr {i : Nat} (g : gt ρ i = d) (u : isUn d = false) (h : FZ d fun d' => SetE ρ i d' (q d')) : (sm (.fr i)).E ρ q := ⟨by rw [g]; exact u, by rw [g]; exact h⟩
theorem w_fzv (h : (sm a).E ρ fun d ρ1 => FZ d fun d' => q d' ρ1) : (sm (.fzv a)).E ρ q := h
theorem w_fzL {o : Bool} {ds : List D} {k : D → Prop} (p : pus ds = true) (h : k (.lst false ds)) : FZ (.lst o ds) k := by
  unfold FZ
  rw [fz, fzs_pus ds p]; exact h
theorem w_fzP {k : D → Prop} (p : pu d = true) (h : k d) : FZ d k := by
  unfold FZ
  rw [fz_pu d p]; exact h
def SG (x : Arg) (l u : D) (ρ : Env) (k : D → Prop) : Prop := intV (fun i => intV (fun j => noUn (res ρ [x]) ∧ un1 (slcS (some i) (some j)) (res ρ [x]) k) u) l
theorem w_sg {x : Arg} {i j : Int} {k : D → Prop} {d : D} (e : res ρ [x] = [d]) (u : noUn [d]) (h : slcS (some i) (some j) d k) : SG x (.int i) (.int j) ρ k := by
  unfold SG
  show noUn (res ρ [x]) ∧ un1 (slcS (some i) (some j)) (res ρ [x]) k
  rw [e]; exact ⟨u, h⟩
theorem intV_mono {p q : Int → Prop} (h : ∀ i, p i → q i) {d : D} (k : intV p d) : intV q d := by cases d <;> first | exact h _ k | exact k.elim
theorem w_slc {lo hi : IR} (h : (sm a).L ρ fun x ρ1 => (sm lo).E ρ1 fun l ρ2 => intV (fun i => (sm hi).E ρ2 fun u ρ3 => intV (fun j => noUn (res ρ3 [x]) ∧ un1 (slcS (some i) (some j)) (res ρ3 [x]) fun d => q d ρ3) u) l) : (sm (.slc a lo hi)).E ρ q := h
theorem w_iv {k : Int → Prop} {i : Int} (h : k i) : intV k (.int i) := h
theorem w_slcgo {x : Arg} {i j : Int} {k : D → Prop} {d : D} (e : res ρ [x] = [d]) (u : noUn [d]) (h : slcS (some i) (some j) d k) : noUn (res ρ [x]) ∧ un1 (slcS (some i) (some j)) (res ρ [x]) k := by
  rw [e]; exact ⟨u, h⟩
def PG (k : PK) (xs : List Arg) (ρ : Env) (q : D → Env → Prop) : Prop := noUn (res ρ xs) ∧ pkS k (res ρ xs) fun d => q d ρ
theorem w_ap {k : PK} (h : (sm as).A ρ fun xs ρ1 => PG k xs ρ1 q) : (sm (.ap k as)).E ρ q := by cases k <;> exact h
theorem w_pg {k : PK} {xs : List Arg} {ds : List D} (e : res ρ xs = ds) (u : noUn ds) (h : pkS k ds fun d => q d ρ) : PG k xs ρ q := ⟨by rw [e]; exact u, by rw [e]; exact h⟩
def RV (m : ME) (x : Arg) (ρ : Env) (B : Prop) : Prop := recvL m (res ρ [x]) = true ∧ B
theorem w_rv {m : ME} {x : Arg} {ds : List D} {B : Prop} (e : res ρ [x] = ds) (u : recvL m ds = true) (h : B) : RV m x ρ B := ⟨by rw [e]; exact u, h⟩
def MG (m : ME) (xs : List Arg) (ρ : Env) (q : D → Env → Prop) : Prop := noUn (res ρ xs) ∧ meS m (res ρ xs) fun d ds => AF xs ds ρ (q d)
theorem w_mg {m : ME} {xs : List Arg} {ds : List D} (e : res ρ xs = ds) (u : noUn ds) (h : meS m ds fun d ds' => AF xs ds' ρ (q d)) : MG m xs ρ q := ⟨by rw [e]; exact u, by rw [e]; exact h⟩
theorem w_meth {m : ME} {o : IR} (h : (sm o).L ρ fun x ρ1 => RV m x ρ1 ((sm as).A ρ1 fun xs ρ2 => MG m (x :: xs) ρ2 q)) : (sm (.meth m o as)).E ρ q := h
def CG (sp : Spec) (xs : List Arg) (ρ : Env) (q : D → Env → Prop) : Prop := noUn (res ρ xs) ∧ sp (res ρ xs) fun d ds => AF xs ds ρ (q d)
theorem w_cg {sp : Spec} {xs : List Arg} {ds : List D} (e : res ρ xs = ds) (u : noUn ds) (h : sp ds fun d ds' => AF xs ds' ρ (q d)) : CG sp xs ρ q := ⟨by rw [e]; exact u, by rw [e]; exact h⟩
theorem w_call {x : Str} {sp : Spec} (h : (sm as).A ρ fun xs ρ1 => CG sp xs ρ1 q) : (sm (.call x sp as)).E ρ q := h
theorem w_land (h : (sm a).E ρ fun x ρ1 => andV (sm b).E x ρ1 q) : (sm (.land a b)).E ρ q := h
theorem w_lor (h : (sm a).E ρ fun x ρ1 => orV (sm b).E x ρ1 q) : (sm (.lor a b)).E ρ q := h
theorem w_lnot (h : (sm a).E ρ fun x ρ1 => notV x ρ1 q) : (sm (.lnot a)).E ρ q := h
theorem w_notV {k : Bool} (h : q (.bl (!k)) ρ) : notV (.bl k) ρ q := h
theorem w_ite (h : ∀ C : Bool → Env → Prop, Gx (C true) (fun ρ => (sm a).E ρ q) → Gx (C false) (fun ρ => (sm b).E ρ q) → (sm c).T ρ C) : (sm (.ite c a b)).E ρ q := h _ (fun _ h => h) (fun _ h => h)
theorem w_chn {ops : List CmpOp} (h : (sm a).E ρ fun x ρ1 => chnV (sm r).C ops x ρ1 fun k ρ2 => q (.bl k) ρ2) : (sm (.chn a ops r)).E ρ q := h
def BK (own : List Nat) (ρ ρ' : Env) (K : Env → Prop) : Prop := K (backE own ρ ρ')
theorem w_bke {own : List Nat} {ρ2 : Env} (e : backE own ρ ρ' = ρ2) (h : K ρ2) : BK own ρ ρ' K := by unfold BK; rw [e]; exact h
def LC (own : List Nat) (tg cond elt : IR) (ds : List D) (ρ : Env) (q : D → Env → Prop) : Prop := puAt own ρ ∧ lcL own (fun d ρ2 k => bindT tg d ρ2 fun ρ3 => (sm cond).T ρ3 fun b ρ4 => if b = true then (sm elt).E ρ4 fun e ρ5 => k (some e) ρ5 else k none ρ4) ds (wipeE ρ own) [] fun acc ρ' => q (.lst true acc) (backE own ρ ρ')
theorem w_lc {own : List Nat} {cond elt : IR} (h : (sm it).I ρ fun ds ρ1 => LC own tg cond elt ds ρ1 q) : (sm (.lc own tg it cond elt)).E ρ q := h
theorem w_lcgo {own : List Nat} {cond elt : IR} {ds : List D} (p : puAt own ρ) (e : wipeE ρ own = ρ0) (h : lcL own (fun d ρ2 k => bindT tg d ρ2 fun ρ3 => (sm cond).T ρ3 fun b ρ4 => if b = true then (sm elt).E ρ4 fun e ρ5 => k (some e) ρ5 else k none ρ4) ds ρ0 [] fun acc ρ' => BK own ρ ρ' (q (.lst true acc))) : LC own tg cond elt ds ρ q := ⟨p, by rw [e]; exact h⟩
end
/-! arguments -/
section
variable {q : Arg → Env → Prop} {d : D}
theorem w_lbr {i : Nat} (g : gt ρ i = d) (u : isUn d = false) (h : q (.loan i []) ρ) : (sm (.br i)).L ρ q := ⟨by rw [g]; exact u, h⟩
theorem w_lplc {x : IR} (h : (sm b).L ρ fun a ρ1 => (sm x).E ρ1 fun k ρ2 => plcV a k ρ2 q) : (sm (.plc b x)).L ρ q := h
theorem w_lcst (h : q (.val d) ρ) : (sm (.cst d)).L ρ q := h
theorem w_lglb {x : Str} (h : (sm (.glb x d)).E ρ fun d ρ1 => q (.val d) ρ1) : (sm (.glb x d)).L ρ q := h
theorem w_lrd {i : Nat} (h : (sm (.rd i)).E ρ fun d ρ1 => q (.val d) ρ1) : (sm (.rd i)).L ρ q := h
theorem w_lmv {i : Nat} (h : (sm (.mv i)).E ρ fun d ρ1 => q (.val d) ρ1) : (sm (.mv i)).L ρ q := h
theorem w_lfr {i : Nat} (h : (sm (.fr i)).E ρ fun d ρ1 => q (.val d) ρ1) : (sm (.fr i)).L ρ q := h
theorem w_lfzv (h : (sm (.fzv a)).E ρ fun d ρ1 => q (.val d) ρ1) : (sm (.fzv a)).L ρ q := h
theorem w_lslc {lo hi : IR} (h : (sm (.slc a lo hi)).E ρ fun d ρ1 => q (.val d) ρ1) : (sm (.slc a lo hi)).L ρ q := h
theorem w_lap {k : PK} (h : (sm (.ap k as)).E ρ fun d ρ1 => q (.val d) ρ1) : (sm (.ap k as)).L ρ q := by cases k <;> exact h
theorem w_lmeth {m : ME} {o : IR} (h : (sm (.meth m o as)).E ρ fun d ρ1 => q (.val d) ρ1) : (sm (.meth m o as)).L ρ q := h
theorem w_lcall {x : Str} {sp : Spec} (h : (sm (.call x sp as)).E ρ fun d ρ1 => q (.val d) ρ1) : (sm (.call x sp as)).L ρ q := h
theorem w_lland (h : (sm (.land a b)).E ρ fun d ρ1 => q (.val d) ρ1) : (sm (.land a b)).L ρ q := h
theorem w_llor (h : (sm (.lor a b)).E ρ fun d ρ1 => q (.val d) ρ1) : (sm (.lor a b)).L ρ q := h
theorem w_llnot (h : (sm (.lnot a)).E ρ fun d ρ1 => q (.val d) ρ1) : (sm (.lnot a)).L ρ q := h
theorem w_lite (h : (sm (.ite c a b)).E ρ fun d ρ1 => q (.val d) ρ1) : (sm (.ite c a b)).L ρ q := h
theorem w_lchn {ops : List CmpOp} (h : (sm (.chn a ops r)).E ρ fun d ρ1 => q (.val d) ρ1) : (sm (.chn a ops r)).L ρ q := h
theorem w_llc {own : List Nat} {cond elt : IR} (h : (sm (.lc own tg it cond elt)).E ρ fun d ρ1 => q (.val d) ρ1) : (sm (.lc own tg it cond elt)).L ρ q := h
theorem w_plcV {i : Nat} {p : List Nat} {n : Int} {ds : List D} {j : Nat} (e : seqOf2 (getP (gt ρ i) p) = some ds) (x : ixN ds.length n = some j) (h : q (.loan i (p ++ [j])) ρ) : plcV (.loan i p) (.int n) ρ q := ⟨ds, j, e, x, h⟩
end
theorem w_anil {q : List Arg → Env → Prop} (h : q [] ρ) : (sm .nil).A ρ q := h
theorem w_acons {q : List Arg → Env → Prop} (h : (sm a).L ρ fun x ρ1 => (sm r).A ρ1 fun xs ρ2 => q (x :: xs) ρ2) : (sm (.cons a r)).A ρ q := h
/-! tests -/
section
variable {q : Bool → Env → Prop}
def TR (d : D) (k : Bool → Prop) : Prop := ∃ b, tru d = some b ∧ k b
theorem w_trB {b : Bool} {k : Bool → Prop} (h : k b) : TR (.bl b) k := ⟨b, rfl, h⟩
theorem w_trI {i : Int} {k : Bool → Prop} (h : k (i != 0)) : TR (.int i) k := ⟨_, rfl, h⟩
theorem w_trN {k : Bool → Prop} (h : k false) : TR .non k := ⟨_, rfl, h⟩
theorem w_trL {o : Bool} {ds : List D} {k : Bool → Prop} (h : k (!ds.isEmpty)) : TR (.lst o ds) k := ⟨_, rfl, h⟩
theorem w_trT {ds : List D} {k : Bool → Prop} (h : k (!ds.isEmpty)) : TR (.tup ds) k := ⟨_, rfl, h⟩
theorem w_tbr {i : Nat} {d : D} (g : gt ρ i = d) (h : TR d fun k => q k ρ) : (sm (.br i)).T ρ q := by
  obtain ⟨b, e, h⟩ := h
  exact ⟨b, by rw [g]; exact e, h⟩
theorem w_tcst {d : D} (h : TR d fun k => q k ρ) : (sm (.cst d)).T ρ q := h
theorem w_tcall {x : Str} {sp : Spec} (h : (sm (.call x sp as)).E ρ fun d ρ1 => TR d fun k => q k ρ1) : (sm (.call x sp as)).T ρ q := h
theorem w_tmeth {m : ME} {o : IR} (h : (sm (.meth m o as)).E ρ fun d ρ1 => TR d fun k => q k ρ1) : (sm (.meth m o as)).T ρ q := h
theorem w_trd {i : Nat} (h : (sm (.rd i)).E ρ fun d ρ1 => TR d fun k => q k ρ1) : (sm (.rd i)).T ρ q := h
theorem w_tite (h : (sm (.ite c a b)).E ρ fun d ρ1 => TR d fun k => q k ρ1) : (sm (.ite c a b)).T ρ q := h
def CMG (op : CmpOp) (xs : List Arg) (ρ : Env) (q : Bool → Env → Prop) : Prop := noUn (res ρ xs) ∧ cmp2 op (res ρ xs) fun k => q k ρ
theorem w_cmg {op : CmpOp} {xs : List Arg} {ds : List D} (e : res ρ xs = ds) (u : noUn ds) (h : cmp2 op ds fun k => q k ρ) : CMG op xs ρ q := ⟨by rw [e]; exact u, by rw [e]; exact h⟩
theorem w_tcmp {op : CmpOp} (h : (sm as).A ρ fun xs ρ1 => CMG op xs ρ1 q) : (sm (.ap (.cmp op) as)).T ρ q := h
theorem w_tap {k : PK} (hk : (match k with | .cmp _ => false | _ => true) = true) (h : (sm (.ap k as)).E ρ fun d ρ1 => TR d fun k => q k ρ1) : (sm (.ap k as)).T ρ q := by
  cases k <;> first | exact h | cases hk
theorem w_tchn {ops : List CmpOp} (h : (sm a).E ρ fun x ρ1 => chnV (sm r).C ops x ρ1 q) : (sm (.chn a ops r)).T ρ q := h
theorem w_chnV {R : List CmpOp → Int → Env → (Bool → Env → Prop) → Prop} {ops : List CmpOp} {i : Int} (h : R ops i ρ q) : chnV R ops (.int i) ρ q := h
theorem w_ccons {ops : List CmpOp} {i : Int} (h : (sm a).E ρ fun y ρ1 => linkC (sm r).C ops y i ρ1 q) : (sm (.cons a r)).C ops i ρ q := h
variable {R : List CmpOp → Int → Env → (Bool → Env → Prop) → Prop} {i j : Int} {op' : CmpOp} {ops : List CmpOp}
theorem w_lkLt (h : q (decide (i < j)) ρ) : linkC R [.Lt] (.int j) i ρ q := ⟨_, rfl, h⟩
theorem w_lkLe (h : q (decide (i ≤ j)) ρ) : linkC R [.LtE] (.int j) i ρ q := ⟨_, rfl, h⟩
theorem w_lkGt (h : q (decide (j < i)) ρ) : linkC R [.Gt] (.int j) i ρ q := ⟨_, rfl, h⟩
theorem w_lkGe (h : q (decide (j ≤ i)) ρ) : linkC R [.GtE] (.int j) i ρ q := ⟨_, rfl, h⟩
theorem lk2 {op : CmpOp} {k : Bool} (e : cmpI op i j = some k) (h : ∀ C : Bool → Env → Prop, Gx (C true) (fun ρ => R (op' :: ops) j ρ q) → Gx (C false) (q false) → C k ρ) : linkC R (op :: op' :: ops) (.int j) i ρ q := by
  have := h (fun k ρ => if k = true then R (op' :: ops) j ρ q else q false ρ) (fun _ h => h) (fun _ h => h)
  exact ⟨k, e, this⟩
theorem w_lkLt2 (h : ∀ C : Bool → Env → Prop, Gx (C true) (fun ρ => R (op' :: ops) j ρ q) → Gx (C false) (q false) → C (decide (i < j)) ρ) : linkC R (.Lt :: op' :: ops) (.int j) i ρ q := lk2 rfl h
theorem w_lkLe2 (h : ∀ C : Bool → Env → Prop, Gx (C true) (fun ρ => R (op' :: ops) j ρ q) → Gx (C false) (q false) → C (decide (i ≤ j)) ρ) : linkC R (.LtE :: op' :: ops) (.int j) i ρ q := lk2 rfl h
theorem w_lkGt2 (h : ∀ C : Bool → Env → Prop, Gx (C true) (fun ρ => R (op' :: ops) j ρ q) → Gx (C false) (q false) → C (decide (j < i)) ρ) : linkC R (.Gt :: op' :: ops) (.int j) i ρ q := lk2 rfl h
theorem w_lkGe2 (h : ∀ C : Bool → Env → Prop, Gx (C true) (fun ρ => R (op' :: ops) j ρ q) → Gx (C false) (q false) → C (decide (j ≤ i)) ρ) : linkC R (.GtE :: op' :: ops) (.int j) i ρ q := lk2 rfl h
end
/-! what is walked -/
section
variable {q : List D → Env → Prop}
def WG (xs : List Arg) (ρ : Env) (q : List D → Env → Prop) : Prop := walkV (res ρ xs) fun ds => q ds ρ
theorem w_wgT {xs : List Arg} {ds : List D} (e : res ρ xs = [.tup ds]) (p : pus ds = true) (h : q ds ρ) : WG xs ρ q := by unfold WG; rw [e]; exact ⟨p, h⟩
theorem w_wgL {xs : List Arg} {o : Bool} {ds : List D} (e : res ρ xs = [.lst o ds]) (p : pus ds = true) (h : q ds ρ) : WG xs ρ q := by unfold WG; rw [e]; exact ⟨p, h⟩
theorem w_wgS {xs : List Arg} {ds : List D} (e : res ρ xs = [.scr ds]) (p : pus ds = true) (h : q ds ρ) : WG xs ρ q := by unfold WG; rw [e]; exact ⟨p, h⟩
theorem w_wg {xs : List Arg} {d : D} (e : res ρ xs = [d]) (h : walkV [d] fun ds => q ds ρ) : WG xs ρ q := by unfold WG; rw [e]; exact h
theorem w_wkT {ds : List D} {k : List D → Prop} (p : pus ds = true) (h : k ds) : walkV [.tup ds] k := ⟨p, h⟩
theorem w_wkL {o : Bool} {ds : List D} {k : List D → Prop} (p : pus ds = true) (h : k ds) : walkV [.lst o ds] k := ⟨p, h⟩
theorem w_wkS {ds : List D} {k : List D → Prop} (p : pus ds = true) (h : k ds) : walkV [.scr ds] k := ⟨p, h⟩
theorem w_itS (h : (sm a).L ρ fun x ρ1 => WG [x] ρ1 q) : (sm (.itS a)).I ρ q := h
def RG (xs : List Arg) (ρ : Env) (q : List D → Env → Prop) : Prop := rngS (res ρ xs) fun ds => q ds ρ
theorem w_rg {xs : List Arg} {ds : List D} (e : res ρ xs = ds) (h : rngS ds fun ds => q ds ρ) : RG xs ρ q := by unfold RG; rw [e]; exact h
theorem w_itR (h : (sm as).A ρ fun xs ρ1 => RG xs ρ1 q) : (sm (.itR as)).I ρ q := h
def EG (x : Arg) (ρ : Env) (q : List D → Env → Prop) : Prop := enumV (res ρ [x]) fun ds => q ds ρ
theorem w_eg {x : Arg} {o : Bool} {ds : List D} (e : res ρ [x] = [.lst o ds]) (p : pus ds = true) (h : q (enumL ds) ρ) : EG x ρ q := by unfold EG; rw [e]; exact ⟨p, h⟩
theorem w_itE (h : (sm a).L ρ fun x ρ1 => EG x ρ1 q) : (sm (.itE a)).I ρ q := h
def ZG (x y : Arg) (ρ : Env) (q : List D → Env → Prop) : Prop := zipV (res ρ [x, y]) fun ds => q ds ρ
theorem w_zgL {x y : Arg} {o o' : Bool} {ds es : List D} (e : res ρ [x, y] = [.lst o ds, .lst o' es]) (p : pus ds = true) (p2 : pus es = true) (h : q (zipL ds es) ρ) : ZG x y ρ q := by unfold ZG; rw [e]; exact ⟨p, p2, h⟩
theorem w_zgT {x y : Arg} {ds es : List D} (e : res ρ [x, y] = [.tup ds, .tup es]) (p : pus ds = true) (p2 : pus es = true) (h : q (zipL ds es) ρ) : ZG x y ρ q := by unfold ZG; rw [e]; exact ⟨p, p2, h⟩
theorem w_itZ (h : (sm a).L ρ fun x ρ1 => (sm b).L ρ1 fun y ρ2 => ZG x y ρ2 q) : (sm (.itZ a b)).I ρ q := h
end
/-! reckonings -/
section
variable {q : D → Prop} {d x y : D} {ds es : List D} {o o' : Bool} {i j : Int}
theorem p_add (h : q (.int (i + j))) : pkS (.bin .Add) [.int i, .int j] q := h
theorem p_sub (h : q (.int (i - j))) : pkS (.bin .Sub) [.int i, .int j] q := h
theorem p_mul (m : MulOk i j) (h : q (.int (i * j))) : pkS (.bin .Mult) [.int i, .int j] q := ⟨m, h⟩
theorem p_div (m : 0 < j) (n : j.natAbs.log2 < 9000) (h : q (.int (i / j))) : pkS (.bin .FloorDiv) [.int i, .int j] q := ⟨m, n, h⟩
theorem p_mod (m : 0 < j) (h : q (.int (i % j))) : pkS (.bin .Mod) [.int i, .int j] q := ⟨m, h⟩
theorem p_pow (m : 0 ≤ j) (n : j ≤ 1000000) (l : i.natAbs < 2 ^ 64) (h : q (.int (i ^ j.toNat))) : pkS (.bin .Pow) [.int i, .int j] q := ⟨m, n, l, h⟩
theorem p_addT (m : pus ds = true) (n : pus es = true) (l : ds.length + es.length ≤ sizeLine) (h : q (.tup (ds ++ es))) : pkS (.bin .Add) [.tup ds, .tup es] q := ⟨m, n, l, h⟩
theorem p_addL (m : pus ds = true) (n : pus es = true) (l : ds.length + es.length ≤ sizeLine) (h : q (.lst true (ds ++ es))) : pkS (.bin .Add) [.lst o ds, .lst o' es] q := ⟨m, n, l, h⟩
theorem p_mulL (m : pus ds = true) (a1 : -(2 ^ 63) ≤ i) (a2 : i < 2 ^ 63) (l : ds.length * i.toNat ≤ sizeLine) (h : q (.lst true (List.replicate i.toNat ds).flatten)) : pkS (.bin .Mult) [.lst o ds, .int i] q := ⟨m, a1, a2, l, h⟩
theorem p_neg (h : q (.int (-i))) : pkS (.una .USub) [.int i] q := h
theorem p_idxT (e : atI ds i = some d) (p : pu d = true) (h : q d) : pkS .idx [.tup ds, .int i] q := ⟨d, e, p, h⟩
theorem p_idxL (e : atI ds i = some d) (p : pu d = true) (h : q d) : pkS .idx [.lst o ds, .int i] q := ⟨d, e, p, h⟩
theorem p_idxS (e : atI ds i = some d) (p : pu d = true) (h : q d) : pkS .idx [.scr ds, .int i] q := ⟨d, e, p, h⟩
theorem p_tup (l : ds.length ≤ sizeLine) (h : q (.tup ds)) : pkS .tup ds q := ⟨l, h⟩
theorem p_ptp (l : ds.length ≤ sizeLine) (h : q (.ptp ds)) : pkS .ptp ds q := ⟨l, h⟩
theorem p_lst (l : ds.length ≤ sizeLine) (h : q (.lst true ds)) : pkS .lst ds q := ⟨l, h⟩
theorem p_slLT (p : pus ds = true) (h : q (.tup (cutD ds (some i) none))) : pkS (.slc true false) [.tup ds, .int i] q := ⟨p, h⟩
theorem p_slRT (p : pus ds = true) (h : q (.tup (cutD ds none (some i)))) : pkS (.slc false true) [.tup ds, .int i] q := ⟨p, h⟩
theorem p_slLL (p : pus ds = true) (h : q (.lst true (cutD ds (some i) none))) : pkS (.slc true false) [.lst o ds, .int i] q := ⟨p, h⟩
theorem p_slRL (p : pus ds = true) (h : q (.lst true (cutD ds none (some i)))) : pkS (.slc false true) [.lst o ds, .int i] q := ⟨p, h⟩
theorem p_slT (p : pus ds = true) (h : q (.tup (cutD ds (some i) (some j)))) : slcS (some i) (some j) (.tup ds) q := ⟨p, h⟩
theorem p_slL (p : pus ds = true) (h : q (.lst true (cutD ds (some i) (some j)))) : slcS (some i) (some j) (.lst o ds) q := ⟨p, h⟩
theorem p_isE (h : q (.bl ds.isEmpty)) : pkS .isE [.tup ds] q := h
theorem p_revT {z : Bool} (p : pus ds = true) (h : q (.tup (ds.drop (backK z)).reverse)) : pkS (.rev z) [.tup ds] q := ⟨p, h⟩
theorem p_revL {z : Bool} (p : pus ds = true) (h : q (.lst true (ds.drop (backK z)).reverse)) : pkS (.rev z) [.lst o ds] q := ⟨p, h⟩
theorem p_lenT (h : q (.int ds.length)) : pkS (.bif .len) [.tup ds] q := h
theorem p_lenL (h : q (.int ds.length)) : pkS (.bif .len) [.lst o ds] q := h
theorem p_lenS (h : q (.int ds.length)) : pkS (.bif .len) [.scr ds] q := h
theorem p_lenD {t : Bool} {ks : List (List Key)} (h : q (.int ks.length)) : pkS (.bif .len) [.dct o t ks ds] q := h
theorem p_abs (h : q (.int (if i < 0 then -i else i))) : pkS (.bif .abs) [.int i] q := h
theorem p_intB {b : Bool} (h : q (.int (if b then 1 else 0))) : pkS (.bif .int) [.bl b] q := h
theorem p_intI (h : q (.int i)) : pkS (.bif .int) [.int i] q := h
theorem p_min (h : q (.int (if j < i then j else i))) : pkS (.bif .min) [.int i, .int j] q := h
theorem p_max (h : q (.int (if j > i then j else i))) : pkS (.bif .max) [.int i, .int j] q := h
theorem p_tupleL (p : pus ds = true) (h : q (.tup ds)) : pkS (.bif .tuple) [.lst o ds] q := ⟨p, h⟩
theorem p_tupleT (p : pus ds = true) (h : q (.tup ds)) : pkS (.bif .tuple) [.tup ds] q := ⟨p, h⟩
theorem p_listL (p : pus ds = true) (h : q (.lst true ds)) : pkS (.bif .list) [.lst o ds] q := ⟨p, h⟩
theorem p_listT (p : pus ds = true) (h : q (.lst true ds)) : pkS (.bif .list) [.tup ds] q := ⟨p, h⟩
theorem p_sumI {ns : List Int} (h : q (.int ns.sum)) : pkS (.bif .sum) [.lst o (ns.map D.int)] q := ⟨ns, rfl, h⟩
theorem p_sum {α : Type} {f : α → Int} {xs : List α} (h : q (.int (xs.map f).sum)) : pkS (.bif .sum) [.lst o (xs.map fun t => .int (f t))] q := ⟨xs.map f, by rw [List.map_map]; rfl, h⟩
theorem p_dctE {t : Bool} (h : q (.dct true t [] [])) : pkS (.dctE t) [] q := ⟨rfl, h⟩
theorem p_rngL (a1 : 0 ≤ i) (a2 : i ≤ 1000000) (h : q (.lst true (rngL 0 i))) : pkS (.rng false) [.int i] q := ⟨a1, a2, h⟩
theorem p_rngT (a1 : 0 ≤ i) (a2 : i ≤ 1000000) (h : q (.tup (rngL 0 i))) : pkS (.rng true) [.int i] q := ⟨a1, a2, h⟩
theorem p_isi {t : TY} {b : Bool} (e : typeIs t d = some b) (h : q (.bl b)) : pkS (.isi t) [d] q := ⟨b, e, h⟩
theorem p_cmp {op : CmpOp} (h : cmp2 op ds fun k => q (.bl k)) : pkS (.cmp op) ds q := h
theorem p_str (l : i.natAbs.log2 < 1920) (h : q (.str (toString i))) : pkS (.bif .str) [.int i] q := ⟨l, h⟩
theorem p_min1T {ns : List Int} (l : 0 < ns.length) (h : ∀ m, m ∈ ns → (∀ y ∈ ns, m ≤ y) → q (.int m)) : pkS (.bif .min1) [.tup (ns.map D.int)] q := ⟨ns, rfl, l, h⟩
theorem p_min1L {ns : List Int} (l : 0 < ns.length) (h : ∀ m, m ∈ ns → (∀ y ∈ ns, m ≤ y) → q (.int m)) : pkS (.bif .min1) [.lst o (ns.map D.int)] q := ⟨ns, rfl, l, h⟩
theorem p_max1L {ns : List Int} (l : 0 < ns.length) (h : ∀ m, m ∈ ns → (∀ y ∈ ns, y ≤ m) → q (.int m)) : pkS (.bif .max1) [.lst o (ns.map D.int)] q := ⟨ns, rfl, l, h⟩
theorem p_setT {ns : List Int} (l : ns.length ≤ 4000) (h : ∀ c : Nat, c ≤ ns.length → (c = ns.length ↔ ns.Nodup) → q (.int c)) : pkS .lenset [.tup (ns.map D.int)] q := ⟨ns, rfl, l, h⟩
theorem p_setL {ns : List Int} (l : ns.length ≤ 4000) (h : ∀ c : Nat, c ≤ ns.length → (c = ns.length ↔ ns.Nodup) → q (.int c)) : pkS .lenset [.lst o (ns.map D.int)] q := ⟨ns, rfl, l, h⟩
variable {p : Bool → Prop}
theorem c_eqS {s t : Str} (h : p (decide (s = t))) : cmp2 .Eq [.str s, .str t] p := h
theorem c_neS {s t : Str} (h : p (!decide (s = t))) : cmp2 .NotEq [.str s, .str t] p := h
theorem in_lot {x : Int} {ns : List Int} (h : p (decide (x ∈ ns))) : cmp2 .In [.int x, lotD ns] p := in_tupI h
theorem notIn_lot {x : Int} {ns : List Int} (h : p (!decide (x ∈ ns))) : cmp2 .NotIn [.int x, lotD ns] p := notIn_tupI h
theorem c_neEI {ns : List Int} (h : p (!ns.isEmpty)) : cmp2 .NotEq [.lst o (ns.map D.int), .lst o' []] p := by
  refine ⟨eqOk_lstI o ns, eqOk_lstI o' [], ?_⟩
  cases ns with
  | nil => exact h
  | cons n ns => exact h
theorem c_eqEI {ns : List Int} (h : p ns.isEmpty) : cmp2 .Eq [.lst o (ns.map D.int), .lst o' []] p := by
  refine ⟨eqOk_lstI o ns, eqOk_lstI o' [], ?_⟩
  cases ns with
  | nil => exact h
  | cons n ns => exact h
theorem c_neE (ok : eqOk (.lst o ds)) (h : p (!ds.isEmpty)) : cmp2 .NotEq [.lst o ds, .lst o' []] p := by
  refine ⟨ok, eqOk_lstI o' [], ?_⟩
  cases ds with
  | nil => exact h
  | cons n ns => exact h
theorem c_eqE (ok : eqOk (.lst o ds)) (h : p ds.isEmpty) : cmp2 .Eq [.lst o ds, .lst o' []] p := by
  refine ⟨ok, eqOk_lstI o' [], ?_⟩
  cases ds with
  | nil => exact h
  | cons n ns => exact h
theorem c_isB {s t : Bool} (h : p (decide (s = t))) : cmp2 .Is [.bl s, .bl t] p := h
theorem c_niB {s t : Bool} (h : p (!decide (s = t))) : cmp2 .IsNot [.bl s, .bl t] p := h
theorem c_isN (u : isRaw d = false) (h : p (isNone d)) : cmp2 .Is [d, .non] p := by cases d <;> first | exact ⟨u, h⟩ | cases u
theorem c_niN (u : isRaw d = false) (h : p (!isNone d)) : cmp2 .IsNot [d, .non] p := by cases d <;> first | exact ⟨u, h⟩ | cases u
theorem c_eqD (a1 : eqOk x) (a2 : eqOk y) (h : p (eqD x y)) : cmp2 .Eq [x, y] p := by
  cases x <;> cases y <;> first
    | exact ⟨a1, a2, h⟩
    | (rw [eqD_int] at h; exact h)
    | (rw [eqD_str] at h; exact h)
theorem c_neD (a1 : eqOk x) (a2 : eqOk y) (h : p (!eqD x y)) : cmp2 .NotEq [x, y] p := by
  cases x <;> cases y <;> first
    | exact ⟨a1, a2, h⟩
    | (rw [eqD_int] at h; exact h)
    | (rw [eqD_str] at h; exact h)
end
/-! methods -/
section
variable {q : D → List D → Prop} {d x y : D} {ds es : List D} {o o' : Bool} {i j : Int}
theorem m_append (l : ds.length < sizeLine) (h : q .non [.lst true (ds ++ [x]), .un]) : meS .append [.lst true ds, x] q := ⟨l, h⟩
theorem m_extend (p : pus es = true) (l : ds.length + es.length ≤ sizeLine) (h : q .non [.lst true (ds ++ es), .lst o es]) : meS .extend [.lst true ds, .lst o es] q := ⟨p, l, h⟩
theorem m_extendT (p : pus es = true) (l : ds.length + es.length ≤ sizeLine) (h : q .non [.lst true (ds ++ es), .tup es]) : meS .extend [.lst true ds, .tup es] q := ⟨p, l, h⟩
theorem m_pop (e : ds.getLast? = some d) (h : q d [.lst true ds.dropLast]) : meS .pop [.lst true ds] q := ⟨d, e, h⟩
theorem m_popI {n : Nat} (e : ixN ds.length i = some n) (e2 : ds[n]? = some d) (h : q d [.lst true (ds.eraseIdx n), .int i]) : meS .pop [.lst true ds, .int i] q := ⟨n, d, e, e2, h⟩
theorem m_index {ns : List Int} (m : i ∈ ns) (h : q (.int (ns.idxOf i : Nat)) [.lst o (ns.map D.int), .int i]) : meS .index [.lst o (ns.map D.int), .int i] q := ⟨ns, rfl, m, h⟩
theorem m_tindex {ns : List Int} (m : i ∈ ns) (h : q (.int (ns.idxOf i : Nat)) [.tup (ns.map D.int), .int i]) : meS .tindex [.tup (ns.map D.int), .int i] q := ⟨ns, rfl, m, h⟩
theorem m_tcount {ns : List Int} (h : q (.int (ns.count i : Nat)) [.tup (ns.map D.int), .int i]) : meS .tcount [.tup (ns.map D.int), .int i] q := ⟨ns, rfl, h⟩
theorem m_count {ns : List Int} (h : q (.int (ns.count i : Nat)) [.lst o (ns.map D.int), .int i]) : meS .count [.lst o (ns.map D.int), .int i] q := ⟨ns, rfl, h⟩
theorem m_insert (a1 : 0 ≤ i) (a2 : i < 2 ^ 63) (l : ds.length < sizeLine) (p : pu x = true) (p2 : pus ds = true) (h : q .non [.lst true (ds.take i.toNat ++ [x] ++ ds.drop i.toNat), .int i, .un]) : meS .insert [.lst true ds, .int i, x] q := ⟨a1, a2, l, p, p2, h⟩
theorem m_set {n : Nat} (e : ixN ds.length i = some n) (h : q .non [.un, .lst true (ds.set n x), .int i]) : setS [x, .lst true ds, .int i] q := ⟨n, e, h⟩
end
theorem nxd_t {C : Bool → Env → Prop} {p : Prop} [Decidable p] {G : Env → Prop} (h : Gx (C true) G) (e : p) (g : G ρ) : C (decide p) ρ := by rw [decide_eq_true e]; exact h ρ g
theorem nxd_f {C : Bool → Env → Prop} {p : Prop} [Decidable p] {G : Env → Prop} (h : Gx (C false) G) (e : ¬ p) (g : G ρ) : C (decide p) ρ := by rw [decide_eq_false e]; exact h ρ g
theorem nxn_t {C : Bool → Env → Prop} {p : Prop} [Decidable p] {G : Env → Prop} (h : Gx (C false) G) (e : p) (g : G ρ) : C (!decide p) ρ := by rw [decide_eq_true e]; exact h ρ g
theorem nxn_f {C : Bool → Env → Prop} {p : Prop} [Decidable p] {G : Env → Prop} (h : Gx (C true) G) (e : ¬ p) (g : G ρ) : C (!decide p) ρ := by rw [decide_eq_false e]; exact h ρ g
end
/-! heads -/
theorem id_S {s : IR} {ρ : Env} {P : Post} (h : wpS s ρ P) : wpS s ρ P := h
theorem id_E {e : IR} {ρ : Env} {q : D → Env → Prop} (h : (sm e).E ρ q) : (sm e).E ρ q := h
theorem id_L {e : IR} {ρ : Env} {q : Arg → Env → Prop} (h : (sm e).L ρ q) : (sm e).L ρ q := h
theorem id_A {e : IR} {ρ : Env} {q : List Arg → Env → Prop} (h : (sm e).A ρ q) : (sm e).A ρ q := h
theorem id_T {e : IR} {ρ : Env} {q : Bool → Env → Prop} (h : (sm e).T ρ q) : (sm e).T ρ q := h
theorem id_I {e : IR} {ρ : Env} {q : List D → Env → Prop} (h : (sm e).I ρ q) : (sm e).I ρ q := h
theorem id_P {k : PK} {ds : List D} {q : D → Prop} (h : pkS k ds q) : pkS k ds q := h
theorem id_B {tg : IR} {d : D} {ρ : Env} {K : Env → Prop} (h : bindT tg d ρ K) : bindT tg d ρ K := h
theorem id_C {op : CmpOp} {ds : List D} {q : Bool → Prop} (h : cmp2 op ds q) : cmp2 op ds q := h
theorem id_M {m : ME} {ds : List D} {q : D → List D → Prop} (h : meS m ds q) : meS m ds q := h
theorem id_idx {ds : List D} {q : D → Prop} (h : pkS .idx ds q) : pkS .idx ds q := h
theorem id_len {ds : List D} {q : D → Prop} (h : pkS (.bif .len) ds q) : pkS (.bif .len) ds q := h
theorem id_W {ds : List D} {q : List D → Prop} (h : walkV ds q) : walkV ds q := h
theorem id_k (k : PK) {ds : List D} {q : D → Prop} (h : pkS k ds q) : pkS k ds q := h
theorem id_m (m : ME) {ds : List D} {q : D → List D → Prop} (h : meS m ds q) : meS m ds q := h
theorem id_pu {d : D} (h : pu d = true) : pu d = true := h
theorem id_pus {ds : List D} (h : pus ds = true) : pus ds = true := h
theorem id_puAt {own : List Nat} {ρ : Env} (h : puAt own ρ) : puAt own ρ := h
theorem pus_take {ds : List D} {n : Nat} (h : pus ds = true) : pus (ds.take n) = true := by
  rw [pus_all, List.all_eq_true] at *
  exact fun d hd => h d (List.mem_of_mem_take hd)
theorem id_sp {sp : Spec} {ds : List D} {F : D → List D → Prop} (h : sp ds F) : sp ds F := h
theorem id_X {α : Sort _} {p : α → Prop} (h : ∃ x, p x) : ∃ x, p x := h
theorem id_tup {ds : List D} {q : D → Prop} (h : pkS (.bif .tuple) ds q) : pkS (.bif .tuple) ds q := h
/-! ### steps of texts -/
section
variable {q : D → Prop} {p : Bool → Prop} {x y z : Str} {i j : Int} {n : Nat} {ds r : List D} {acc : Str}
theorem p_addS (l : x.length + y.length ≤ sizeLine) (h : q (.str (x ++ y))) : pkS (.bin .Add) [.str x, .str y] q := ⟨l, h⟩
theorem p_mulS0 (h : q (.str Str.empty)) : pkS (.bin .Mult) [.str x, .int 0] q := ⟨.inl rfl, h⟩
theorem p_mulS1 (h : q (.str x)) : pkS (.bin .Mult) [.str x, .int 1] q := ⟨.inr rfl, h⟩
theorem p_strN (l : i.natAbs.log2 < 1920) (h : q (.str (nT i))) : pkS (.bif .str) [.int i] q := ⟨l, h⟩
theorem p_lenN (l : x.length ≤ sizeLine) (h : q (.int x.length)) : pkS (.bif .len) [.str x] q := ⟨l, h⟩
theorem p_idxN {c : Nat} (e : atI x.cps.toList i = some c) (l : x.length ≤ sizeLine) (h : q (.str ⟨#[c]⟩)) : pkS .idx [.str x, .int i] q := ⟨l, c, e, h⟩
theorem p_slLN (e : cutS x (some i) none = y) (l : x.length ≤ sizeLine) (h : q (.str y)) : pkS (.slc true false) [.str x, .int i] q := ⟨l, by rw [e]; exact h⟩
theorem p_slRN (e : cutS x none (some i) = y) (l : x.length ≤ sizeLine) (h : q (.str y)) : pkS (.slc false true) [.str x, .int i] q := ⟨l, by rw [e]; exact h⟩
theorem p_slBN (e : cutS x (some i) (some j) = y) (l : x.length ≤ sizeLine) (h : q (.str y)) : slcS (some i) (some j) (.str x) q := ⟨l, by rw [e]; exact h⟩
theorem p_intN (e : intText? x = some i) (l : x.length ≤ 640) (h : q (.int i)) : pkS (.bif .int) [.str x] q := ⟨i, e, l, h⟩
theorem p_fstr (h : fstrG ds Str.empty q) : pkS .fstr ds q := h
theorem p_signs (h : q (.tup (signsL x))) : pkS .signs [.str x] q := h
theorem id_F (h : fstrG ds acc q) : fstrG ds acc q := h
theorem g_nil (h : q (.str acc)) : fstrG [] acc q := h
theorem g_str0 (l : x.length ≤ sizeLine) (h : fstrG r x q) : fstrG (.str x :: r) Str.empty q := ⟨l, by rw [nil_app]; exact l, by rw [nil_app]; exact h⟩
theorem g_int0 (l : i.natAbs.log2 < 1920) (m : (nT i).length ≤ sizeLine) (h : fstrG r (nT i) q) : fstrG (.int i :: r) Str.empty q := ⟨l, by rw [nil_app]; exact m, by rw [nil_app]; exact h⟩
theorem g_str (l : acc.length + x.length ≤ sizeLine) (h : fstrG r (acc ++ x) q) : fstrG (.str x :: r) acc q := ⟨by omega, by rw [len_app]; exact l, h⟩
theorem g_int (l : i.natAbs.log2 < 1920) (m : acc.length + (nT i).length ≤ sizeLine) (h : fstrG r (acc ++ nT i) q) : fstrG (.int i :: r) acc q := ⟨l, (len_app acc (nT i)).symm ▸ m, h⟩
theorem c_inN {c : Nat} (h : p (decide (c ∈ y.cps.toList))) : cmp2 .In [.str ⟨#[c]⟩, .str y] p := ⟨c, rfl, h⟩
theorem m_joinG {α : Type} {f : α → Str} {xs : List α} {o : Bool} {m : Nat} {k : D → List D → Prop} (h : ∀ z ∈ xs.map f, z.length ≤ m) (l : xs.length * (m + y.length) ≤ 16777216) (g : k (.str (Txt.join y (xs.map f))) [.un, .un]) :
    meS .join [.str y, .lst o (xs.map fun x => D.str (f x))] k := ⟨xs.map f, strs_map f xs, join_ok h (by rw [List.length_map]; exact l), g⟩
theorem m_splitG {ys : List Str} {k : D → List D → Prop} (e : Txt.split x y = ys) (h0 : (y.length == 0) = false) (l : x.length + 2 ≤ sizeLine) (g : k (.lst true (ys.map D.str)) [.un, .un]) : meS .split [.str x, .str y] k := ⟨h0, l, by rw [e]; exact g⟩
theorem m_partG {a b c : Str} {k : D → List D → Prop} (e : Txt.partition x y = (a, b, c)) (h0 : (y.length == 0) = false) (l : x.length ≤ sizeLine) (g : k (.ptp [.str a, .str b, .str c]) [.un, .un]) : meS .part [.str x, .str y] k := ⟨h0, l, by rw [e]; exact g⟩
theorem m_findG {k : D → List D → Prop} {j : Int} (e : Txt.find3 x y i = j) (g : k (.int j) [.un, .un, .un]) : meS .find [.str x, .str y, .int i] k := by
  show k (.int (Txt.find3 x y i)) _
  rw [e]; exact g
end
/-! ### texts of few signs: compared with == -/
def Low (x : Str) : Prop := ∀ c ∈ x.cps.toList, c < 128
theorem low_app {x y : Str} (h : Low x) (k : Low y) : Low (x ++ y) := fun c hc => by
  have : c ∈ TL.tl (x ++ y) := hc
  rw [TL.tl_append] at this
  rcases List.mem_append.mp this with q | q
  · exact h c q
  · exact k c q
theorem low_nT {i : Int} (h : 0 ≤ i) : Low (nT i) := fun c hc => by have := digit_nT h c hc; omega
theorem low_all {x : Str} (h : x.cps.toList.all (· < 128) = true) : Low x := fun c hc => by simpa using List.all_eq_true.mp h c hc
theorem joinL_low (S : List Nat) (hS : ∀ c ∈ S, c < 128) : ∀ ps : List (List Nat), (∀ p ∈ ps, ∀ c ∈ p, c < 128) → ∀ c ∈ TL.joinL S ps, c < 128
  | [], _ => fun c hc => nomatch hc
  | [p], h => h p List.mem_cons_self
  | p :: q :: r, h => fun c hc => by
    have hc : c ∈ p ++ (S ++ TL.joinL S (q :: r)) := hc
    rcases List.mem_append.mp hc with z | z
    · exact h p List.mem_cons_self c z
    · rcases List.mem_append.mp z with z | z
      · exact hS c z
      · exact joinL_low S hS (q :: r) (fun w hw => h w (List.mem_cons_of_mem _ hw)) c z
theorem low_join {y : Str} {ps : List Str} (hy : Low y) (h : ∀ p ∈ ps, Low p) : Low (Txt.join y ps) := fun c hc => by
  have hc : c ∈ TL.tl (Txt.join y ps) := hc
  rw [TL.join_eq, TL.tl_join] at hc
  exact joinL_low _ hy _ (fun p hp => by
    obtain ⟨z, hz, rfl⟩ := List.mem_map.mp hp
    exact h z hz) c hc
theorem isPs_strs : ∀ ys : List Str, isPs (ys.map D.str) = true
  | [] => rfl
  | y :: ys => by rw [List.map_cons, isPs, isPs_strs ys]; rfl
theorem canLay_strs : ∀ ys : List Str, (∀ y ∈ ys, Low y) → PyData.canLayAll0 (toPs (ys.map D.str)) = true
  | [], _ => rfl
  | y :: ys, h => by
    rw [List.map_cons, toPs, PyData.canLayAll0, canLay_strs ys fun z hz => h z (List.mem_cons_of_mem _ hz), Bool.and_true]
    show y.cps.all (· < 0x110000) = true
    rw [← Array.all_toList, List.all_eq_true]
    intro c hc
    have := h y List.mem_cons_self c hc
    simp
    omega
theorem depth_strs : ∀ ys : List Str, PyData.depthAll (toPs (ys.map D.str)) = 0
  | [] => rfl
  | y :: ys => by rw [List.map_cons, toPs, PyData.depthAll, depth_strs ys]; rfl
theorem eqOk_strs (o : Bool) {ys : List Str} (h : ∀ y ∈ ys, Low y) : eqOk (.lst o (ys.map D.str)) := ⟨isPs_strs ys, shaped_mk (canLay_strs ys h) (by show PyData.depthAll (toPs (ys.map D.str)) + 1 ≤ 64; rw [depth_strs]; decide)⟩
theorem low_tie {t : Tie} (h : TieLow t) : Low (tieT t) := by
  have hb : 0 ≤ t.2.1 := by have := h.a; have := h.b; omega
  exact low_app (low_app (low_app (low_app (low_nT h.a) (low_all (by decide +kernel))) (low_nT hb)) (low_all (by decide +kernel))) (low_nT h.d)
/-- a text of the module -/
theorem glb_str {K : PySem.W.Frag} {h : Heap} {mg : Str → Option Value} (X : K.In h) (G : h.Ns mainGlobals mg) {x i : Str} {t} (e : PySem.W.nsIn K mainGlobals x = some (some (.str i t))) (hd : (x == ("__debug__" : Str)) = false := by decide) : GlbK K mg x (.str i) :=
  ⟨_, .str i, PySem.W.mg_of X G e, ⟨_, rfl⟩, fun _ _ => str_rep, (fun z => nomatch z), hd⟩
/-! lengths of written texts -/
theorem t_minus : (Str.ofString "-").length = 1 := by decide +kernel
theorem t_blank : (Str.ofString " ").length = 1 := by decide +kernel
theorem t_colon : (Str.ofString ":").length = 1 := by decide +kernel
theorem t_colonb : (Str.ofString ": ").length = 2 := by decide +kernel
theorem t_comma : (Str.ofString ", ").length = 2 := by decide +kernel
theorem t_slash : (Str.ofString "/").length = 1 := by decide +kernel
theorem t_point : (Str.ofString ".").length = 1 := by decide +kernel
theorem t_close : (Str.ofString ")").length = 1 := by decide +kernel
theorem t_lot : (Str.ofString "(lot ").length = 5 := by decide +kernel
theorem t_nums : (Str.ofString "(numbers ").length = 9 := by decide +kernel
theorem t_three : (Str.ofString "(three ").length = 7 := by decide +kernel
theorem t_three0 : (Str.ofString "(three").length = 6 := by decide +kernel
end DL
namespace DL
open PySem PySem.Spec PyProof.Rows L2
local macro_rules | `(tactic| and_intros) => `(tactic| try dsimp only [wb, res, gt0, gt1, getD0, getD1, setP, getP, backE, wipeE, setsE, List.set, List.foldl, List.nil_append, List.cons_append, List.replicate])
local macro_rules | `(tactic| trivial) => `(tactic| first
  | assumption
  | (show pus _ = true; (repeat' (first | (with_reducible assumption) | (with_reducible exact pu_fz _) | (with_reducible exact pus_ints _) | (with_reducible exact pus_ties _) | (with_reducible exact pus_lots _) | (with_reducible exact fine_pu _ (by assumption)) | (with_reducible exact fines_pus _ (by assumption)) | (with_reducible refine pus_append ?_ ?_) | (with_reducible refine pus_cut ?_) | (with_reducible refine pus_rev ?_) | (with_reducible refine pus_drop ?_) | (with_reducible refine pus_set ?_ ?_) | (with_reducible refine pus_con ?_ ?_) | (with_reducible refine pu_tup ?_) | (with_reducible refine pu_lst ?_) | assumption | exact fine_pu _ (by assumption) | exact fines_pus _ (by assumption) | refine pus_con ?_ ?_ | refine pu_tup ?_ | (with_unfolding_all exact rfl))); done)
  | exact fine_nu (by assumption) | exact nu1 (by assumption) | exact nu1 (fine_nu (by assumption)) | exact nu2 rfl (fine_nu (by assumption)) | exact nu2 (by assumption) (by assumption) | exact mul_1 ⟨by omega, by omega⟩ | exact Nat.le_of_ble_eq_true rfl | omega
  | (show pu _ = true; (repeat' (first | (with_reducible assumption) | (with_reducible exact pu_fz _) | (with_reducible exact pus_ints _) | (with_reducible exact pus_ties _) | (with_reducible exact pus_lots _) | (with_reducible exact fine_pu _ (by assumption)) | (with_reducible exact fines_pus _ (by assumption)) | (with_reducible refine pus_append ?_ ?_) | (with_reducible refine pus_cut ?_) | (with_reducible refine pus_rev ?_) | (with_reducible refine pus_drop ?_) | (with_reducible refine pus_set ?_ ?_) | (with_reducible refine pus_con ?_ ?_) | (with_reducible refine pu_tup ?_) | (with_reducible refine pu_lst ?_) | assumption | exact fine_pu _ (by assumption) | exact fines_pus _ (by assumption) | refine pus_con ?_ ?_ | refine pu_tup ?_ | (with_unfolding_all exact rfl))); done)
  | (show puAt _ _; with_unfolding_all exact rfl)
  | (show _ + _ ≤ sizeLine; apply fw_cat; (next => ((repeat' (first | assumption | apply fw_app | apply fw_cut | apply fw_rev | apply fw_drop | apply fw_set | apply fw_map | apply fw_con | exact fw_nil)); done)); (next => ((repeat' (first | assumption | apply fw_app | apply fw_cut | apply fw_rev | apply fw_drop | apply fw_set | apply fw_map | apply fw_con | exact fw_nil)); done)); exact Nat.le_of_ble_eq_true rfl)
  | (show _ ≤ sizeLine; apply fw_one; (next => ((repeat' (first | assumption | apply fw_app | apply fw_cut | apply fw_rev | apply fw_drop | apply fw_set | apply fw_map | apply fw_con | exact fw_nil)); done)); exact Nat.le_of_ble_eq_true rfl))
local macro_rules | `(tactic| ac_rfl) => `(tactic| ((repeat' (first | (with_reducible assumption) | (with_reducible apply fine_tp) | (with_reducible apply fine_lst) | (with_reducible apply fine_fzl) | (with_reducible apply fines_app) | (with_reducible apply fines_cut) | (with_reducible apply fines_rev) | (with_reducible apply fines_drop) | (with_reducible apply fines_set) | (with_reducible apply fines_con) | (with_reducible apply fw_app) | (with_reducible apply fw_cut) | (with_reducible apply fw_rev) | (with_reducible apply fw_drop) | (with_reducible apply fw_set) | (with_reducible apply fw_map) | (with_reducible apply fw_con) | (with_reducible exact fw_nil) | exact Nat.le_of_ble_eq_true rfl | assumption | (with_unfolding_all exact rfl))); done))
local macro_rules | `(tactic| symm) => `(tactic| repeat (first
  | with_reducible refine wpc fun K hK => wpi fun C hT hF => ?_
  | with_reducible refine wpc fun K hK => ?_
  | with_reducible refine wp_nil ?_
  | with_reducible refine forS ?_
  | with_reducible refine whS ?_
  | with_reducible refine u_or fun C hT hF => ?_
  | with_reducible refine u_and fun C hT hF => ?_
  | with_reducible refine u_not fun C hT hF => ?_
  | with_reducible refine v_or fun C hT hF => ?_
  | with_reducible refine v_and fun C hT hF => ?_
  | (with_reducible refine bt ?_; and_intros)
  | with_reducible refine ifT ?_
  | exact gk (by assumption) rfl rfl
  | with_reducible refine pk_all _ _ ?_
  | with_reducible refine pk_any _ _ ?_
  | ((with_reducible refine nxt (by assumption) ?_); and_intros)
  | ((with_reducible refine nxb true (by assumption) ?_ ?_); exact rfl; and_intros)
  | ((with_reducible refine nxb false (by assumption) ?_ ?_); exact rfl; and_intros)
  | ((conv => whnf); (with_reducible refine And.intro (a := pus _ = true) ?_ ?_); (next => trivial); and_intros)
  | ((conv => whnf); (with_reducible refine And.intro (a := pu _ = true) ?_ ?_); (next => trivial); and_intros)
  | (refine And.intro rfl ?_; and_intros)
  | (refine ⟨_, rfl, ?_⟩; and_intros)
  | (refine ⟨_, _, rfl, ?_⟩; and_intros)
  | refine And.intro (by trivial) ?_
  | ((conv => whnf); with_reducible refine nxt (by assumption) ?_; and_intros)))
local macro_rules | `(tactic| exists $r:ident, $s:ident, $h:ident) => `(tactic| (refine ⟨_, _, _, rfl, by assumption, by omega, (by first | decide | omega), (by first | decide | omega), fun $r $s r0 r1 $h => ?_⟩; symm))
local macro_rules | `(tactic| exists $r:ident, $s:ident, $h:ident, $r0:ident) => `(tactic| (refine ⟨_, _, _, _, rfl, by assumption, by omega, (by first | (exact fun e => nomatch e) | assumption), (by first | trivial | exact rfl), (by first | exact Nat.le_of_ble_eq_true rfl | assumption | omega), fun $r $s $r0 $h => ?_⟩; symm))
local macro_rules | `(tactic| exists $r:ident, $s:ident, $h:ident, $r0:ident, $r1:ident) => `(tactic| (refine ⟨_, _, _, rfl, by assumption, by omega, (by first | decide | omega), (by first | decide | omega), fun $r $s $r0 $r1 $h => ?_⟩; symm))
local macro_rules | `(tactic| exists $e:ident) => `(tactic| first | ((with_reducible refine iC (fun $e => ?_) (fun $e => ?_)) <;> symm) | ((with_reducible refine iB (fun $e => ?_) (fun $e => ?_)) <;> symm) | ((conv => whnf); (first | refine dC (fun $e => ?_) (fun $e => ?_) | refine dN (fun $e => ?_) (fun $e => ?_) | refine bC (fun $e => ?_) (fun $e => ?_)) <;> symm))
/-! ### webs.py: whole numbers, places, ties, webs -/
def isWholeD : D → Bool
  | .int _ => true | _ => false
def isPlaceD (n : Int) : D → Bool
  | .int i => decide (0 ≤ i) && decide (i < n) | _ => false
def isTieD (n : Int) : D → Bool
  | .tup [.int a, .int b, .int c] => decide (0 ≤ a) && (decide (a < b) && (decide (b < n) && (decide (0 ≤ c) && decide (c ≤ 1000000000)))) | _ => false
def ends2 : D → Int × Int
  | .tup (.int a :: .int b :: _) => (a, b) | _ => (0, 0)
def ltP (p q : Int × Int) : Bool := decide (p.1 < q.1) || (decide (p.1 = q.1) && decide (p.2 < q.2))
def isWebD : D → Bool
  | .tup [.int n, .tup ts] => decide (1 ≤ n) && (decide (n ≤ 30) && (ts.all (isTieD n) && risB ltP (ts.map ends2))) | _ => false
def g_MOST_COST : D := .int 1000000000
def g_MOST_PLACES : D := .int 30
def sp_is_whole : Spec := fun ds post => ∃ d, ds = [d] ∧ fine d = true ∧ post (.bl (isWholeD d)) ds
def sp_is_place : Spec := fun ds post => ∃ n d, ds = [.int n, d] ∧ fine d = true ∧ post (.bl (isPlaceD n d)) ds
def sp_is_tie : Spec := fun ds post => ∃ n d, ds = [.int n, d] ∧ fine d = true ∧ post (.bl (isTieD n d)) ds
/-- things of any kind that is compared: inj makes them of α -/
def sp_are_rising : Spec := fun ds post => ∃ (α : Type) (inj : α → D) (lt : α → α → Bool) (xs : List α) (d : D), ds = [d] ∧ (d = .tup (xs.map inj) ∨ d = .lst true (xs.map inj)) ∧ (∀ x ∈ xs, pu (inj x) = true ∧ isUn (inj x) = false) ∧
  (∀ a ∈ xs, ∀ b ∈ xs, ∀ q : Bool → Prop, q (lt a b) → cmpS .Lt (inj a) (inj b) q) ∧ xs.length ≤ 1000000 ∧ post (.bl (risB lt xs)) ds
def sp_is_web : Spec := fun ds post => ∃ d, ds = [d] ∧ fine d = true ∧ post (.bl (isWebD d)) ds
/-- is_whole: 0=thing; changes [] -/
def ir_is_whole : IR := (.cons (.sRet (.land (.ap (.isi .int) (.cons (.br 0) .nil)) (.lnot (.ap (.isi .bool) (.cons (.br 0) .nil)))))
  .nil)
abbrev nm_is_whole : List Str := ["thing"]
abbrev pm_is_whole : List Str := ["thing"]
/-- is_place: 0=many 1=thing; changes [] -/
def ir_is_place : IR := (.cons (.sRet (.land (.call "is_whole" sp_is_whole (.cons (.br 1) .nil)) (.chn (.cst (.int 0)) [.LtE, .Lt] (.cons (.rd 1) (.cons (.rd 0) .nil)))))
  .nil)
abbrev nm_is_place : List Str := ["many", "thing"]
abbrev pm_is_place : List Str := ["many", "thing"]
/-- is_tie: 0=many 1=thing 2=part 3=a 4=b 5=fee; changes [] -/
def ir_is_tie : IR := (.cons (.sIf (.lor (.lnot (.ap (.isi .tuple) (.cons (.br 1) .nil))) (.lor (.ap (.cmp .NotEq) (.cons (.ap (.bif .len) (.cons (.br 1) .nil)) (.cons (.cst (.int 3)) .nil))) (.lnot (.ap (.bif .all) (.cons (.lc [2] (.tn 2) (.itS (.br 1)) (.cst (.bl true)) (.call "is_whole" sp_is_whole (.cons (.br 2) .nil))) .nil)))))
  (.cons (.sRet (.cst (.bl false)))
  .nil)
  .nil)
  (.cons (.sA (.tt [3, 4, 5]) (.rd 1))
  (.cons (.sRet (.land (.chn (.cst (.int 0)) [.LtE, .Lt, .Lt] (.cons (.rd 3) (.cons (.rd 4) (.cons (.rd 0) .nil)))) (.chn (.cst (.int 0)) [.LtE, .LtE] (.cons (.rd 5) (.cons (.glb "MOST_COST" g_MOST_COST) .nil)))))
  .nil)))
abbrev nm_is_tie : List Str := ["many", "thing", "part", "a", "b", "fee"]
abbrev pm_is_tie : List Str := ["many", "thing"]
/-- are_rising: 0=things 1=one 2=other; changes [] -/
def ir_are_rising : IR := (.cons (.sRet (.ap (.bif .all) (.cons (.lc [1, 2] (.tt [1, 2]) (.itZ (.br 0) (.ap (.slc true false) (.cons (.br 0) (.cons (.cst (.int 1)) .nil)))) (.cst (.bl true)) (.ap (.cmp .Lt) (.cons (.br 1) (.cons (.br 2) .nil)))) .nil)))
  .nil)
abbrev nm_are_rising : List Str := ["things", "one", "other"]
abbrev pm_are_rising : List Str := ["things"]
/-- is_web: 0=thing 1=many 2=ties 3=tie; changes [] -/
def ir_is_web : IR := (.cons (.sIf (.lor (.lnot (.ap (.isi .tuple) (.cons (.br 0) .nil))) (.lor (.ap (.cmp .NotEq) (.cons (.ap (.bif .len) (.cons (.br 0) .nil)) (.cons (.cst (.int 2)) .nil))) (.lor (.lnot (.call "is_whole" sp_is_whole (.cons (.ap .idx (.cons (.br 0) (.cons (.cst (.int 0)) .nil))) .nil))) (.lnot (.ap (.isi .tuple) (.cons (.ap .idx (.cons (.br 0) (.cons (.cst (.int 1)) .nil))) .nil))))))
  (.cons (.sRet (.cst (.bl false)))
  .nil)
  .nil)
  (.cons (.sA (.tt [1, 2]) (.rd 0))
  (.cons (.sIf (.lor (.lnot (.chn (.cst (.int 1)) [.LtE, .LtE] (.cons (.rd 1) (.cons (.glb "MOST_PLACES" g_MOST_PLACES) .nil)))) (.lnot (.ap (.bif .all) (.cons (.lc [3] (.tn 3) (.itS (.br 2)) (.cst (.bl true)) (.call "is_tie" sp_is_tie (.cons (.br 1) (.cons (.br 3) .nil)))) .nil))))
  (.cons (.sRet (.cst (.bl false)))
  .nil)
  .nil)
  (.cons (.sRet (.call "are_rising" sp_are_rising (.cons (.lc [3] (.tn 3) (.itS (.br 2)) (.cst (.bl true)) (.ap (.slc false true) (.cons (.br 3) (.cons (.cst (.int 2)) .nil)))) .nil)))
  .nil))))
abbrev nm_is_web : List Str := ["thing", "many", "ties", "tie"]
abbrev pm_is_web : List Str := ["thing"]
theorem isTie_len {n : Int} {xs : List D} (h : ¬ (xs.length : Int) = 3) : isTieD n (.tup xs) = false := by
  unfold isTieD
  split
  · rename_i e
    cases e
    exact absurd rfl h
  · rfl
theorem isWhole_int {d : D} (h : isWholeD d = true) : ∃ i, d = .int i := by cases d <;> first | exact ⟨_, rfl⟩ | cases h
theorem len3 {xs : List D} (h : (xs.length : Int) = 3) (w : xs.all isWholeD = true) : ∃ a b c : Int, xs = [.int a, .int b, .int c] := by
  match xs, h with
  | [x, y, z], _ =>
    have hx := isWhole_int (List.all_eq_true.mp w x (by simp))
    have hy := isWhole_int (List.all_eq_true.mp w y (by simp))
    have hz := isWhole_int (List.all_eq_true.mp w z (by simp))
    obtain ⟨a, rfl⟩ := hx
    obtain ⟨b, rfl⟩ := hy
    obtain ⟨c, rfl⟩ := hz
    exact ⟨a, b, c, rfl⟩
  | [], h => exact absurd h (by decide)
  | [_], h => exact absurd h (by simp)
  | [_, _], h => exact absurd h (by simp)
  | _ :: _ :: _ :: _ :: r, h => exact absurd h (by simp only [List.length_cons]; omega)
theorem isTie_not {n : Int} {xs : List D} (h : xs.all isWholeD = false) : isTieD n (.tup xs) = false := by
  unfold isTieD
  split
  · rename_i e
    cases e
    exact absurd h (by simp [isWholeD])
  · rfl
theorem isWeb_len {xs : List D} (h : ¬ (xs.length : Int) = 2) : isWebD (.tup xs) = false := by
  unfold isWebD
  split
  · rename_i e
    cases e
    exact absurd rfl h
  · rfl
theorem len2 {xs : List D} (h : (xs.length : Int) = 2) : ∃ a b, xs = [a, b] := by
  match xs, h with
  | [x, y], _ => exact ⟨x, y, rfl⟩
  | [], h => exact absurd h (by decide)
  | [_], h => exact absurd h (by simp)
  | _ :: _ :: _ :: r, h => exact absurd h (by simp only [List.length_cons]; omega)
theorem wp_is_whole (ds : List D) (post) (hl : ds.length = 1) (h : sp_is_whole ds post) : wpS ir_is_whole (ds ++ List.replicate 0 .un) (postOf ir_is_whole 1 post) := by
  obtain ⟨d, rfl, f, k⟩ := h
  unfold ir_is_whole
  cases d <;> first | (exact (fine_no f rfl).elim) | (symm; exact k)
theorem wp_is_place (ds : List D) (post) (hl : ds.length = 2) (h : sp_is_place ds post) : wpS ir_is_place (ds ++ List.replicate 0 .un) (postOf ir_is_place 2 post) := by
  obtain ⟨n, d, rfl, f, k⟩ := h
  have k' : (postOf ir_is_place 2 post).rt (.bl (isPlaceD n d)) [.int n, d] := k
  generalize postOf ir_is_place 2 post = P at k' ⊢
  unfold ir_is_place
  cases d with
  | int i =>
    symm
    exists e
    · have e2 : isPlaceD n (.int i) = decide (i < n) := by show (decide (0 ≤ i) && decide (i < n)) = _; rw [decide_eq_true e]; rfl
      rw [e2] at k'
      exact k'
    · have e2 : isPlaceD n (.int i) = false := by show (decide (0 ≤ i) && decide (i < n)) = _; rw [decide_eq_false e]; rfl
      rw [e2] at k'
      exact k'
  | _ => first | (exact (fine_no f rfl).elim) | (symm; exact k')
theorem wp_is_tie (ds : List D) (post) (hl : ds.length = 2) (h : sp_is_tie ds post) : wpS ir_is_tie (ds ++ List.replicate 4 .un) (postOf ir_is_tie 2 post) := by
  obtain ⟨n, d, rfl, f, k⟩ := h
  have k' : ∀ a b c e, (postOf ir_is_tie 2 post).rt (.bl (isTieD n d)) [.int n, d, a, b, c, e] := fun _ _ _ _ => k
  generalize postOf ir_is_tie 2 post = P at k' ⊢
  unfold ir_is_tie
  cases d with
  | tup xs =>
    symm
    exists e
    · have f2 := fine_tup.mp f
      have px := fines_pus xs f2.2
      symm
      refine lcI (fun t => .bl (isWholeD t)) xs (fun t ht k hk => ?_) (by have := f2.1; unfold sizeLine; omega) ?_
      · have := fines_mem f2.2 ht
        symm
      symm
      exists e2
      · obtain ⟨a, b, c, rfl⟩ := len3 e e2
        have k2 : ∀ v, v = isTieD n (.tup [.int a, .int b, .int c]) → ∀ a1 b1 c1 e1, P.rt (.bl v) [.int n, .tup [.int a, .int b, .int c], a1, b1, c1, e1] := fun v hv => by rw [hv]; exact k'
        symm
        exists c1
        · exists c2
          · exists c3
            · exists c4
              · refine k2 _ ?_ _ _ _ _; simp [isTieD, c1, c2, c3, c4]
              · refine k2 _ ?_ _ _ _ _; simp [isTieD, c1, c2, c3, c4]
            · refine k2 _ ?_ _ _ _ _; simp [isTieD, c1, c2, c3]
          · refine k2 _ ?_ _ _ _ _; simp [isTieD, c1, c2]
        · refine k2 _ ?_ _ _ _ _; simp [isTieD, c1]
      · have e3 : isTieD n (.tup xs) = false := isTie_not e2
        rw [e3] at k'
        exact k' _ _ _ _
    · rw [isTie_len e] at k'
      exact k' _ _ _ _
  | _ => first | (exact (fine_no f rfl).elim) | (symm; exact k' _ _ _ _)
theorem wp_are_rising (ds : List D) (post) (hl : ds.length = 1) (h : sp_are_rising ds post) : wpS ir_are_rising (ds ++ List.replicate 2 .un) (postOf ir_are_rising 1 post) := by
  obtain ⟨α, inj, lt, xs, d, rfl, hd, hp, hc, hz, k⟩ := h
  have k' : ∀ a b, (postOf ir_are_rising 1 post).rt (.bl (risB lt xs)) [d, a, b] := fun _ _ => k
  generalize postOf ir_are_rising 1 post = P at k' ⊢
  unfold ir_are_rising
  have px : pus (xs.map inj) = true := pus_map fun x hx => (hp x hx).1
  have pc : pus (cutD (xs.map inj) (some 1) none) = true := by
    rw [cutD_map, cut_tail]
    exact pus_map fun x hx => (hp x (List.mem_of_mem_drop hx)).1
  rcases hd with rfl | rfl
  all_goals
    symm
    rw [cutD_map, cut_tail, zipL_map]
    refine lcG (fun p : α × α => .ptp [inj p.1, inj p.2]) (fun p => .bl (lt p.1 p.2)) _ (fun p hx k hk => ?_) (by unfold sizeLine; simp; omega) ?_
    · have h1 := List.of_mem_zip hx
      have a1 := hp p.1 h1.1
      have a2 := hp p.2 (List.mem_of_mem_drop h1.2)
      have := hc p.1 h1.1 p.2 (List.mem_of_mem_drop h1.2)
      have n1 := a1.2
      have n2 := a2.2
      symm
      refine this _ ?_
      symm
    · symm
      rw [risB_zip]
      exact k' _ _
theorem ties_of (n : Int) : ∀ ys : List D, ys.all (isTieD n) = true → ∃ ts : List Tie, ys = ts.map tieD ∧ ∀ t ∈ ts, 0 ≤ t.1 ∧ t.1 < t.2.1 ∧ t.2.1 < n ∧ 0 ≤ t.2.2 ∧ t.2.2 ≤ 1000000000
  | [], _ => ⟨[], rfl, fun t ht => nomatch ht⟩
  | y :: ys, h => by
    rw [List.all_cons, Bool.and_eq_true] at h
    obtain ⟨ts, rfl, lo⟩ := ties_of n ys h.2
    have h1 := h.1
    unfold isTieD at h1
    split at h1
    · rename_i a b c
      simp only [Bool.and_eq_true, decide_eq_true_eq] at h1
      refine ⟨(a, b, c) :: ts, rfl, fun t ht => ?_⟩
      rcases List.mem_cons.mp ht with rfl | ht
      · exact ⟨h1.1, h1.2.1, h1.2.2.1, h1.2.2.2.1, h1.2.2.2.2⟩
      · exact lo t ht
    · cases h1
theorem lex2 (a b c d : Int) : HT.lexLt [a, b] [c, d] = ltP (a, b) (c, d) := by
  show (if a = c then (if b = d then false else decide (b < d)) else decide (a < c)) = (decide (a < c) || (decide (a = c) && decide (b < d)))
  by_cases h1 : a = c
  · subst h1
    by_cases h2 : b = d
    · subst h2; simp
    · simp [h2]
  · simp [h1]
theorem lt_pair {a b : Int × Int} {q : Bool → Prop} (h : q (ltP a b)) : cmpS .Lt (pairD a) (pairD b) q := ⟨[a.1, a.2], [b.1, b.2], rfl, rfl, by rw [lex2]; exact h⟩
theorem ltP_tr (a b c : Int × Int) (h1 : ltP a b = true) (h2 : ltP b c = true) : ltP a c = true := by
  unfold ltP at *
  simp only [Bool.or_eq_true, Bool.and_eq_true, decide_eq_true_eq] at *
  omega
theorem lt_cut {a b c a' b' c' : Int} {q : Bool → Prop} (h : q (ltP (a, b) (a', b'))) : cmp2 .Lt [.tup (cutD [.int a, .int b, .int c] none (some 2)), .tup (cutD [.int a', .int b', .int c'] none (some 2))] q := lt_pair (a := (a, b)) (b := (a', b')) h
theorem wp_is_web (ds : List D) (post) (hl : ds.length = 1) (h : sp_is_web ds post) : wpS ir_is_web (ds ++ List.replicate 3 .un) (postOf ir_is_web 1 post) := by
  obtain ⟨d, rfl, f, k⟩ := h
  have k' : ∀ a b c, (postOf ir_is_web 1 post).rt (.bl (isWebD d)) [d, a, b, c] := fun _ _ _ => k
  generalize postOf ir_is_web 1 post = P at k' ⊢
  unfold ir_is_web
  cases d with
  | tup xs =>
    have f2 := fine_tup.mp f
    symm
    exists e
    · obtain ⟨x, y, rfl⟩ := len2 e
      have fx := fines_mem f2.2 (show x ∈ [x, y] by simp)
      have fy := fines_mem f2.2 (show y ∈ [x, y] by simp)
      symm
      exists e1
      · obtain ⟨n, rfl⟩ := isWhole_int e1
        symm
        cases y with
        | tup ys =>
          have f3 := fine_tup.mp fy
          have py := fines_pus ys f3.2
          have k2 : ∀ v, v = isWebD (.tup [.int n, .tup ys]) → ∀ a b c, P.rt (.bl v) [.tup [.int n, .tup ys], a, b, c] := fun v hv => by rw [hv]; exact k'
          symm
          exists c1
          · exists c2
            · refine lcI (fun t => .bl (isTieD n t)) ys (fun t ht k hk => ?_) (by have := f3.1; unfold sizeLine; omega) ?_
              · have := fines_mem f3.2 ht
                symm
              symm
              exists c3
              · obtain ⟨ts, rfl, lo⟩ := ties_of n ys c3
                symm
                refine lcG tieD (fun t : Tie => pairD (t.1, t.2.1)) ts (fun t ht k hk => ?_) (by have := f3.1; rw [List.length_map] at this; unfold sizeLine; omega) ?_
                · symm
                symm
                refine ⟨_, pairD, ltP, ts.map fun t => (t.1, t.2.1), _, rfl, .inr (by rw [List.map_map]; rfl), fun x _ => ⟨by with_unfolding_all exact rfl, rfl⟩, fun a _ b _ q h => lt_pair h, by have := f3.1; rw [List.length_map] at this; simp; omega, ?_⟩
                symm
                refine k2 _ ?_ _ _ _
                have e2 : (ts.map tieD).map ends2 = ts.map fun t => (t.1, t.2.1) := by rw [List.map_map]; rfl
                have c4 : n ≤ 30 := c2
                simp [isWebD, c1, c4, c3, e2]
              · refine k2 _ ?_ _ _ _; simp [isWebD, c3]
            · have c4 : ¬ n ≤ 30 := c2
              refine k2 _ ?_ _ _ _; simp [isWebD, c1, c4]
          · refine k2 _ ?_ _ _ _; simp [isWebD, c1]
        | _ => first | (exact (fine_no fy rfl).elim) | (symm; exact k' _ _ _)
      · have : isWebD (.tup [x, y]) = false := by
          unfold isWebD
          split
          · rename_i h
            cases h
            cases e1
          · rfl
        rw [this] at k'
        exact k' _ _ _
    · have : isWebD (.tup xs) = false := isWeb_len e
      rw [this] at k'
      exact k' _ _ _
  | _ => first | (exact (fine_no f rfl).elim) | (symm; exact k' _ _ _)
/-- what is a web -/
theorem isWeb_ok {d : D} (f : fine d = true) (h : isWebD d = true) : ∃ n ts, d = webD n ts ∧ WebOk n ts := by
  unfold isWebD at h
  split at h
  · rename_i n ys
    simp only [Bool.and_eq_true, decide_eq_true_eq] at h
    obtain ⟨ts, rfl, lo⟩ := ties_of n ys h.2.2.1
    refine ⟨n, ts, rfl, h.1, h.2.1, lo, ?_⟩
    have e2 : (ts.map tieD).map ends2 = ts.map fun t => (t.1, t.2.1) := by rw [List.map_map]; rfl
    have := (risB_pw (lt := ltP) ltP_tr _).mp (e2 ▸ h.2.2.2)
    rw [List.pairwise_map] at this
    refine this.imp fun {a b} hab => ?_
    unfold ltP at hab
    simp only [Bool.or_eq_true, Bool.and_eq_true, decide_eq_true_eq] at hab
    exact hab
  · cases h
theorem isWeb_web {n : Int} {ts : List Tie} (w : WebOk n ts) : isWebD (webD n ts) = true := by
  have a1 := w.n1
  have a2 := w.n30
  have e2 : (ts.map tieD).map ends2 = ts.map fun t => (t.1, t.2.1) := by rw [List.map_map]; rfl
  have e3 : (ts.map tieD).all (isTieD n) = true := by
    rw [List.all_map, List.all_eq_true]
    intro t ht
    have := w.low t ht
    simp [tieD, isTieD, this.1, this.2.1, this.2.2.1, this.2.2.2.1, this.2.2.2.2]
  have e4 : risB ltP (ts.map fun t => (t.1, t.2.1)) = true := by
    rw [risB_pw ltP_tr, List.pairwise_map]
    refine w.inc.imp fun {a b} hab => ?_
    unfold ltP
    simp only [Bool.or_eq_true, Bool.and_eq_true, decide_eq_true_eq]
    exact hab
  show (decide (1 ≤ n) && (decide (n ≤ 30) && ((ts.map tieD).all (isTieD n) && risB ltP ((ts.map tieD).map ends2)))) = true
  rw [e2, e3, e4]
  simp [a1, a2]
end DL
namespace DL
open PySem PySem.Spec PyProof.Rows L2
local macro_rules | `(tactic| and_intros) => `(tactic| try dsimp only [wb, res, gt0, gt1, getD0, getD1, setP, getP, backE, wipeE, setsE, List.set, List.foldl, List.nil_append, List.cons_append, List.replicate])
local macro_rules | `(tactic| trivial) => `(tactic| first
  | (with_reducible assumption)
  | ((first | with_reducible apply id_pus | with_reducible apply id_pu); (repeat' (first | (with_reducible assumption) | (with_reducible apply pus_ints) | (with_reducible apply pus_lots) | (with_reducible apply pus_ties) | (with_reducible apply pus_pairs) | (with_reducible apply pus_prs) | (with_reducible apply pu_lot) | (with_reducible apply pu_web) | (with_reducible apply pu_fz) | ((with_reducible apply fine_pu); with_reducible assumption) | ((with_reducible apply fines_pus); with_reducible assumption) | (with_reducible apply pus_append) | (with_reducible apply pus_cut) | (with_reducible apply pus_rev) | (with_reducible apply pus_drop) | (with_reducible apply pus_take) | (with_reducible apply pus_set) | (with_reducible apply pus_con) | (with_reducible apply pu_tup) | (with_reducible apply pu_lst) | ((with_reducible apply id_pu); apply pu_tup) | (with_unfolding_all exact rfl))); done)
  | ((with_reducible apply id_puAt); with_unfolding_all exact rfl)
  | omega
  | (apply fw_cat; (next => ((repeat' (first | (with_reducible assumption) | apply fw_app | apply fw_cut | apply fw_rev | apply fw_drop | apply fw_set | apply fw_map | apply fw_con | exact fw_nil)); done)); (next => ((repeat' (first | (with_reducible assumption) | apply fw_app | apply fw_cut | apply fw_rev | apply fw_drop | apply fw_set | apply fw_map | apply fw_con | exact fw_nil)); done)); exact Nat.le_of_ble_eq_true rfl)
  | (apply fw_one; (next => ((repeat' (first | (with_reducible assumption) | apply fw_app | apply fw_cut | apply fw_rev | apply fw_drop | apply fw_set | apply fw_map | apply fw_con | exact fw_nil)); done)); exact Nat.le_of_ble_eq_true rfl)
  | exact fine_nu (by assumption) | exact nu1 (by assumption) | exact nu1 (fine_nu (by assumption)))
local macro_rules | `(tactic| ac_rfl) => `(tactic| ((repeat' (first | (with_reducible assumption) | (with_reducible apply fine_tp) | (with_reducible apply fine_lst) | (with_reducible apply fine_fzl) | (with_reducible apply fines_app) | (with_reducible apply fines_cut) | (with_reducible apply fines_rev) | (with_reducible apply fines_drop) | (with_reducible apply fines_set) | (with_reducible apply fines_con) | (with_reducible apply fw_app) | (with_reducible apply fw_cut) | (with_reducible apply fw_rev) | (with_reducible apply fw_drop) | (with_reducible apply fw_set) | (with_reducible apply fw_map) | (with_reducible apply fw_con) | (with_reducible exact fw_nil) | exact Nat.le_of_ble_eq_true rfl | assumption | (with_unfolding_all exact rfl))); done))
local macro_rules | `(tactic| left) => `(tactic| first | ((dsimp only [wb, res, gt0, gt1, getD0, getD1, setP, getP, backE, wipeE, setsE, vals, Option.map_some, List.set, List.foldl, List.nil_append, List.cons_append, List.replicate]); (try exact rfl); done) | exact rfl)
local macro_rules | `(tactic| right) => `(tactic| first | exact rfl | (with_reducible assumption) | exact fine_nu (by assumption) | exact nu1 (by assumption) | exact nu1 (fine_nu (by assumption)) | exact nu2 rfl (fine_nu (by assumption)) | exact nu2 (by assumption) (by assumption) | exact nu2 (by assumption) rfl | exact nu2 rfl (by assumption) | exact nu2 (fine_nu (by assumption)) rfl)
local macro_rules | `(tactic| rotate_left) => `(tactic| first
  | (with_reducible assumption) | exact Nat.le_of_ble_eq_true rfl
  | (unfold sizeLine; (try simp only [len_app, t_minus, t_blank, t_colon, t_colonb, t_comma, t_slash, t_point, t_close, t_lot, t_nums, t_three, t_three0, len_empty]); omega)
  | (unfold sizeLine; (try simp only [List.length_append, List.length_map, List.length_cons, List.length_nil, List.length_reverse, List.length_drop, List.length_take, List.length_set, List.length_range, List.length_replicate]); omega)
  | trivial)
local macro_rules | `(tactic| symm) => `(tactic| (try dsimp only [List.nil_append, List.cons_append, List.replicate, wpT, wpE, wpI]); repeat (first
  | ((with_reducible apply id_E); (first
      | with_reducible apply w_ap
      | ((with_reducible apply w_rd); (next => left); (next => right); (next => trivial))
      | with_reducible apply w_cst
      | with_reducible apply w_call
      | with_reducible apply w_meth
      | with_reducible apply w_land
      | with_reducible apply w_lor
      | with_reducible apply w_lnot
      | with_reducible apply w_lc
      | with_reducible apply w_chn
      | ((with_reducible apply w_mv); (next => left); (next => right); (next => left))
      | ((with_reducible apply w_fr); (next => left); (next => right))
      | with_reducible apply w_fzv
      | with_reducible apply w_slc
      | with_reducible apply w_glb
      | ((with_reducible apply w_ite); intro C hT hF)))
  | ((with_reducible apply id_L); (first
      | ((with_reducible apply w_lbr); (next => left); (next => right))
      | with_reducible apply w_lap
      | with_reducible apply w_lcst
      | with_reducible apply w_lrd
      | with_reducible apply w_lcall
      | with_reducible apply w_lplc
      | with_reducible apply w_lmeth
      | with_reducible apply w_llc
      | with_reducible apply w_lmv
      | with_reducible apply w_lslc
      | with_reducible apply w_lfzv
      | with_reducible apply w_lfr
      | with_reducible apply w_lite
      | with_reducible apply w_lglb
      | with_reducible apply w_lland
      | with_reducible apply w_llor
      | with_reducible apply w_llnot
      | with_reducible apply w_lchn))
  | ((with_reducible apply id_A); (first
      | with_reducible apply w_acons
      | with_reducible apply w_anil))
  | ((with_reducible apply w_pg); (next => left); (next => right))
  | ((with_reducible apply id_P); (first
      | with_reducible apply p_add
      | ((with_reducible apply p_addS); (next => rotate_left))
      | ((with_reducible apply p_strN); (next => (first | (with_reducible assumption) | exact log12 (by omega) (by omega))))
      | with_reducible apply p_fstr
      | with_reducible apply p_signs
      | ((with_reducible apply (id_k (.bif .len))); ((apply p_lenN); (next => rotate_left)))
      | ((with_reducible apply (id_k .idx)); ((apply p_idxN); (next => with_reducible assumption); (next => rotate_left)))
      | ((with_reducible apply p_slLN); (next => with_reducible assumption); (next => rotate_left))
      | ((with_reducible apply p_slRN); (next => with_reducible assumption); (next => rotate_left))
      | ((with_reducible apply p_intN); (next => with_reducible assumption); (next => rotate_left))
      | ((with_reducible apply p_tup); (next => rotate_left))
      | ((with_reducible apply p_lst); (next => rotate_left))
      | ((with_reducible apply p_ptp); (next => rotate_left))
      | ((with_reducible apply id_idx); (first | ((apply p_idxT); (next => first | (with_reducible assumption) | exact rfl); (next => trivial)) | ((apply p_idxL); (next => first | (with_reducible assumption) | exact rfl); (next => trivial)) | ((apply p_idxS); (next => first | (with_reducible assumption) | exact rfl); (next => trivial))))
      | ((with_reducible apply id_len); (first | (apply p_lenT) | (apply p_lenL) | (apply p_lenS) | (apply p_lenD)))
      | with_reducible apply p_sub
      | ((with_reducible apply p_isi); (next => first | exact rfl | exact fine_ty (by assumption) _))
      | with_reducible apply p_cmp
      | ((with_reducible apply p_mul); (next => exact mul_1 ⟨by omega, by omega⟩))
      | ((with_reducible apply p_mod); (next => omega))
      | ((with_reducible apply p_div); (next => omega); (next => first | decide | exact log60 (by omega)))
      | ((with_reducible apply p_pow); (next => omega); (next => omega); (next => omega))
      | ((with_reducible apply p_addT); (next => trivial); (next => trivial); (next => rotate_left))
      | ((with_reducible apply p_addL); (next => trivial); (next => trivial); (next => rotate_left))
      | with_reducible apply p_isE
      | with_reducible apply p_neg
      | with_reducible apply p_min
      | with_reducible apply p_max
      | with_reducible apply p_abs
      | with_reducible apply p_intB
      | with_reducible apply p_intI
      | ((with_reducible apply p_slLT); (next => trivial))
      | ((with_reducible apply p_slRT); (next => trivial))
      | ((with_reducible apply p_slLL); (next => trivial))
      | ((with_reducible apply p_slRL); (next => trivial))
      | ((with_reducible apply p_revT); (next => trivial))
      | ((with_reducible apply p_revL); (next => trivial))
      | with_reducible apply pk_all
      | with_reducible apply pk_any
      | with_reducible apply p_sum
      | with_reducible apply p_sumI
      | ((with_reducible apply id_tup); (first | ((apply p_tupleL); (next => trivial)) | ((apply p_tupleT); (next => trivial))))
      | ((with_reducible apply p_listL); (next => trivial))
      | ((with_reducible apply p_listT); (next => trivial))
      | with_reducible apply p_dctE
      | ((with_reducible apply p_rngL); (next => omega); (next => omega))
      | ((with_reducible apply p_rngT); (next => omega); (next => omega))
      | ((with_reducible apply p_str); (next => omega))
      | ((with_reducible apply (id_k (.bin .Add))); ((apply p_addT); (next => trivial); (next => trivial); (next => rotate_left)))
      | ((with_reducible apply (id_k (.slc true false))); ((apply p_slLT); (next => trivial)))
      | ((with_reducible apply (id_k (.slc false true))); ((apply p_slRT); (next => trivial)))
      | ((with_reducible apply (id_k (.bif .list))); ((apply p_listT); (next => trivial)))))
  | ((with_reducible apply id_F); (first
      | with_reducible apply g_nil
      | ((with_reducible apply g_str0); (next => rotate_left))
      | ((with_reducible apply g_int0); (next => (first | (with_reducible assumption) | exact log12 (by omega) (by omega))); (next => rotate_left))
      | ((with_reducible apply g_str); (next => rotate_left))
      | ((with_reducible apply g_int); (next => (first | (with_reducible assumption) | exact log12 (by omega) (by omega))); (next => rotate_left))))
  | ((with_reducible apply w_slcgo); (next => left); (next => right))
  | ((with_reducible apply p_slBN); (next => with_reducible assumption); (next => rotate_left))
  | with_reducible apply w_iv
  | ((with_reducible apply p_slT); (next => trivial))
  | ((with_reducible apply p_slL); (next => trivial))
  | ((with_reducible apply gk); (next => with_reducible assumption); (next => exact rfl); (next => exact rfl))
  | ((with_reducible apply nxt); (next => with_reducible assumption))
  | ((with_reducible apply w_tn); (next => left))
  | ((with_reducible apply id_B); (first
      | ((apply w_ttT); (next => exact rfl); (next => left))
      | ((apply w_ttP); (next => exact rfl); (next => left))))
  | ((with_reducible apply w_cg); (next => left); (next => right))
  | ((with_reducible apply w_af); (next => exact rfl); (next => left))
  | ((with_reducible apply w_bke); (next => left))
  | ((with_reducible apply id_S); (first
      | ((with_reducible apply w_sA); intro K hK)
      | ((with_reducible apply w_sIfK); intro K hK C hT hF)
      | ((with_reducible apply w_sIf); intro K hK C hT hF)
      | with_reducible apply w_nil
      | with_reducible apply w_sRetK
      | with_reducible apply w_sRet
      | ((with_reducible apply w_sP); intro K hK)
      | ((with_reducible apply w_sE); intro K hK)
      | ((with_reducible apply w_sI); intro K hK)
      | ((with_reducible apply w_sU); (next => left); (next => right); (next => trivial); intro K hK)
      | ((with_reducible apply w_sForK); intro K hK)
      | ((with_reducible apply w_sFor); intro K hK)
      | ((with_reducible apply w_sWhK); intro K hK)
      | ((with_reducible apply w_sWh); intro K hK)
      | with_reducible apply w_sPass
      | with_reducible apply w_sBrkK
      | with_reducible apply w_sCntK
      | with_reducible apply w_sBrk
      | with_reducible apply w_sCnt
      | with_reducible apply w_sRetNK
      | with_reducible apply w_sRetN
      | with_reducible apply w_nilP))
  | ((with_reducible apply w_vg); (next => left); (next => exact rfl); (next => left))
  | ((with_reducible apply w_ig); (next => left); (next => right))
  | with_reducible apply w_ugA
  | with_reducible apply w_ugS
  | ((with_reducible apply w_set); (next => left))
  | ((with_reducible apply w_fzL); (next => trivial))
  | ((with_reducible apply w_fzP); (next => trivial))
  | ((with_reducible apply w_rv); (next => left); (next => exact rfl))
  | ((with_reducible apply w_mg); (next => left); (next => right))
  | ((with_reducible apply id_M); (first
      | ((with_reducible apply m_append); (next => rotate_left))
      | ((with_reducible apply m_splitG); (next => with_reducible assumption); (next => decide +kernel); (next => rotate_left))
      | ((with_reducible apply m_partG); (next => with_reducible assumption); (next => decide +kernel); (next => rotate_left))
      | ((with_reducible apply m_findG); (next => with_reducible assumption))
      | ((with_reducible apply m_extend); (next => trivial); (next => rotate_left))
      | ((with_reducible apply m_extendT); (next => trivial); (next => rotate_left))
      | ((with_reducible apply (id_m .extend)); ((apply m_extendT); (next => trivial); (next => rotate_left)))
      | ((with_reducible apply m_index); (next => with_reducible assumption))
      | ((with_reducible apply m_tindex); (next => with_reducible assumption))
      | with_reducible apply m_tcount
      | with_reducible apply m_count
      | ((with_reducible apply m_popI); (next => with_reducible assumption); (next => with_reducible assumption))))
  | ((with_reducible apply id_T); (first
      | with_reducible apply w_tcmp
      | ((with_reducible apply w_tap); (next => exact rfl))
      | ((with_reducible apply w_tbr); (next => left))
      | ((with_reducible apply u_or); intro C hT hF)
      | ((with_reducible apply u_and); intro C hT hF)
      | ((with_reducible apply u_not); intro C hT hF)
      | with_reducible apply w_tchn
      | with_reducible apply w_tcall
      | with_reducible apply w_tcst
      | with_reducible apply w_tmeth
      | with_reducible apply w_trd
      | with_reducible apply w_tite))
  | ((with_reducible apply w_cmg); (next => left); (next => right))
  | ((with_reducible apply id_C); (first
      | with_reducible apply c_lt
      | with_reducible apply c_eq
      | with_reducible apply c_gt
      | with_reducible apply c_le
      | with_reducible apply c_ge
      | with_reducible apply c_ne
      | with_reducible apply c_eqS
      | with_reducible apply c_inN
      | with_reducible apply c_neS
      | with_reducible apply c_neEI
      | with_reducible apply c_eqEI
      | with_reducible apply in_tupI
      | with_reducible apply in_lstI
      | with_reducible apply notIn_tupI
      | with_reducible apply notIn_lstI
      | with_reducible apply in_lot
      | with_reducible apply notIn_lot
      | with_reducible apply c_isB
      | with_reducible apply c_niB
      | ((with_reducible apply c_isN); (next => first | exact rfl | (with_reducible assumption)))
      | ((with_reducible apply c_niN); (next => first | exact rfl | (with_reducible assumption)))
      | ((with_reducible apply c_eqD); (next => exact ⟨rfl, rfl⟩); (next => exact ⟨rfl, rfl⟩))
      | ((with_reducible apply c_neD); (next => exact ⟨rfl, rfl⟩); (next => exact ⟨rfl, rfl⟩))))
  | with_reducible apply w_trB
  | with_reducible apply w_trI
  | with_reducible apply w_trN
  | with_reducible apply w_trL
  | with_reducible apply w_trT
  | with_reducible apply ifT
  | ((with_reducible apply id_I); (first
      | with_reducible apply w_itS
      | with_reducible apply w_itR
      | with_reducible apply w_itE
      | with_reducible apply w_itZ))
  | ((with_reducible apply w_wg); (next => left))
  | ((with_reducible apply id_W); (first
      | ((apply w_wkT); (next => trivial))
      | ((apply w_wkL); (next => trivial))
      | ((apply w_wkS); (next => trivial))))
  | ((with_reducible apply w_rg); (next => left))
  | ((with_reducible apply rng_go); (next => omega); (next => omega))
  | ((with_reducible apply rng_go2); (next => omega); (next => omega); (next => omega); (next => omega))
  | ((with_reducible apply w_eg); (next => left); (next => trivial))
  | ((with_reducible apply w_zgL); (next => left); (next => trivial); (next => trivial))
  | ((with_reducible apply w_zgT); (next => left); (next => trivial); (next => trivial))
  | ((with_reducible apply w_lcgo); (next => exact rfl); (next => left))
  | ((with_reducible apply v_or); intro C hT hF)
  | ((with_reducible apply v_and); intro C hT hF)
  | with_reducible apply w_notV
  | with_reducible apply w_chnV
  | with_reducible apply w_ccons
  | with_reducible apply w_lkLt
  | with_reducible apply w_lkLe
  | with_reducible apply w_lkGt
  | with_reducible apply w_lkGe
  | ((with_reducible apply w_lkLt2); intro C hT hF)
  | ((with_reducible apply w_lkLe2); intro C hT hF)
  | ((with_reducible apply w_lkGt2); intro C hT hF)
  | ((with_reducible apply w_lkGe2); intro C hT hF)
  | ((with_reducible apply w_plcV); (next => exact rfl); (next => first | (with_reducible assumption) | exact rfl))
  | ((with_reducible apply nxb true); (next => with_reducible assumption); (next => first | (with_reducible exact rfl) | (with_reducible assumption) | exact rfl))
  | ((with_reducible apply nxb false); (next => with_reducible assumption); (next => first | (with_reducible exact rfl) | (with_reducible assumption) | exact rfl))
  | ((with_reducible apply nxd_t); (next => with_reducible assumption); (next => first | (with_reducible assumption) | omega))
  | ((with_reducible apply nxd_f); (next => with_reducible assumption); (next => first | (with_reducible assumption) | omega))
  | ((with_reducible apply nxn_t); (next => with_reducible assumption); (next => first | (with_reducible assumption) | omega))
  | ((with_reducible apply nxn_f); (next => with_reducible assumption); (next => first | (with_reducible assumption) | omega))
  | ((with_reducible apply And.intro); (next => first | exact rfl | trivial | rotate_left))
  | ((with_reducible apply id_X); (first | (refine ⟨_, rfl, ?_⟩) | (refine ⟨_, _, rfl, ?_⟩)))
  | ((with_reducible apply id_sp); (first | (refine ⟨_, rfl, ?_⟩) | (refine ⟨_, _, rfl, ?_⟩) | (refine ⟨_, _, _, rfl, ?_⟩) | (refine ⟨_, _, _, _, rfl, ?_⟩)))))
local macro_rules | `(tactic| exists $r:ident, $s:ident, $h:ident) => `(tactic| (refine ⟨_, _, _, rfl, by assumption, by omega, (by first | decide | omega), (by first | decide | omega), fun $r $s r0 r1 $h => ?_⟩; symm))
local macro_rules | `(tactic| exists $r:ident, $s:ident, $h:ident, $r0:ident) => `(tactic| (refine ⟨_, _, _, _, rfl, by assumption, by omega, (by first | (exact fun e => nomatch e) | assumption), (by first | trivial | exact rfl), (by first | exact Nat.le_of_ble_eq_true rfl | assumption | omega), fun $r $s $r0 $h => ?_⟩; symm))
local macro_rules | `(tactic| exists $r:ident, $s:ident, $h:ident, $r0:ident, $r1:ident) => `(tactic| (refine ⟨_, _, _, rfl, by assumption, by omega, (by first | decide | omega), (by first | decide | omega), fun $r $s $r0 $r1 $h => ?_⟩; symm))
local macro_rules | `(tactic| exists $e:ident) => `(tactic| first | ((with_reducible apply iC) <;> intro $e:ident <;> symm) | ((with_reducible apply iB) <;> intro $e:ident <;> symm) | ((with_reducible apply dC) <;> intro $e:ident <;> symm) | ((with_reducible apply dN) <;> intro $e:ident <;> symm) | ((with_reducible apply bC) <;> intro $e:ident <;> symm))
/-! ### reading.py: numbers, places, ends -/
def g_FIGURES : D := .str "0123456789"
def g_MOST_FIGURES : D := .int 12
def sp_want : Spec := fun ds post => ds = [.bl true] ∧ post .non ds
def sp_count_in : Spec := fun ds post => ∃ i : Int, ds = [.str (nT i)] ∧ 0 ≤ i ∧ i < 1000000000000 ∧ post (.int i) ds
def sp_place_in : Spec := fun ds post => ∃ i : Int, ds = [.str (nT i)] ∧ 0 ≤ i ∧ i < 30 ∧ post (.int i) ds
def sp_ends_in : Spec := fun ds post => ∃ a b : Int, ds = [.str (nT a ++ "-" ++ nT b)] ∧ 0 ≤ a ∧ a < b ∧ b < 30 ∧ post (.tup [.int a, .int b]) ds
/-- want: 0=truth; changes [] -/
def ir_want : IR := (.cons (.sIf (.lnot (.br 0))
  (.cons (.sUI .nil .nil .Add .nil)
  .nil)
  .nil)
  .nil)
abbrev nm_want : List Str := ["truth"]
abbrev pm_want : List Str := ["truth"]
/-- count_in: 0=word 1=sign; changes [] -/
def ir_count_in : IR := (.cons (.sE (.call "want" sp_want (.cons (.land (.chn (.cst (.int 1)) [.LtE, .LtE] (.cons (.ap (.bif .len) (.cons (.br 0) .nil)) (.cons (.glb "MOST_FIGURES" g_MOST_FIGURES) .nil))) (.ap (.bif .all) (.cons (.lc [1] (.tn 1) (.itS (.ap .signs (.cons (.rd 0) .nil))) (.cst (.bl true)) (.ap (.cmp .In) (.cons (.br 1) (.cons (.glb "FIGURES" g_FIGURES) .nil)))) .nil))) .nil)))
  (.cons (.sE (.call "want" sp_want (.cons (.lor (.ap (.cmp .Eq) (.cons (.br 0) (.cons (.cst (.str "0")) .nil))) (.ap (.cmp .NotEq) (.cons (.ap .idx (.cons (.br 0) (.cons (.cst (.int 0)) .nil))) (.cons (.cst (.str "0")) .nil)))) .nil)))
  (.cons (.sRet (.ap (.bif .int) (.cons (.br 0) .nil)))
  .nil)))
abbrev nm_count_in : List Str := ["word", "sign"]
abbrev pm_count_in : List Str := ["word"]
/-- place_in: 0=word 1=place; changes [] -/
def ir_place_in : IR := (.cons (.sA (.tn 1) (.call "count_in" sp_count_in (.cons (.br 0) .nil)))
  (.cons (.sE (.call "want" sp_want (.cons (.ap (.cmp .Lt) (.cons (.br 1) (.cons (.glb "MOST_PLACES" g_MOST_PLACES) .nil))) .nil)))
  (.cons (.sRet (.mv 1))
  .nil)))
abbrev nm_place_in : List Str := ["word", "place"]
abbrev pm_place_in : List Str := ["word"]
/-- ends_in: 0=word 1=words 2=a 3=b; changes [] -/
def ir_ends_in : IR := (.cons (.sA (.tn 1) (.meth .split (.rd 0) (.cons (.cst (.str "-")) .nil)))
  (.cons (.sE (.call "want" sp_want (.cons (.ap (.cmp .Eq) (.cons (.ap (.bif .len) (.cons (.br 1) .nil)) (.cons (.cst (.int 2)) .nil))) .nil)))
  (.cons (.sP [2, 3] (.cons (.call "place_in" sp_place_in (.cons (.ap .idx (.cons (.br 1) (.cons (.cst (.int 0)) .nil))) .nil)) (.cons (.call "place_in" sp_place_in (.cons (.ap .idx (.cons (.br 1) (.cons (.cst (.int 1)) .nil))) .nil)) .nil)))
  (.cons (.sE (.call "want" sp_want (.cons (.ap (.cmp .Lt) (.cons (.br 2) (.cons (.br 3) .nil))) .nil)))
  (.cons (.sRet (.ap .tup (.cons (.mv 2) (.cons (.mv 3) .nil))))
  .nil)))))
abbrev nm_ends_in : List Str := ["word", "words", "a", "b"]
abbrev pm_ends_in : List Str := ["word"]
theorem wp_want (ds : List D) (post) (hl : ds.length = 1) (h : sp_want ds post) : wpS ir_want (ds ++ List.replicate 0 .un) (postOf ir_want 1 post) := by
  obtain ⟨rfl, k⟩ := h
  have k' : (postOf ir_want 1 post).nx [.bl true] := k
  generalize postOf ir_want 1 post = P at k' ⊢
  unfold ir_want
  symm
  exact k'
theorem figs {c : Nat} (h : 48 ≤ c ∧ c ≤ 57) : decide (c ∈ (Str.ofString "0123456789").cps.toList) = true := by
  rw [decide_eq_true_eq]
  have e : (Str.ofString "0123456789").cps.toList = [48, 49, 50, 51, 52, 53, 54, 55, 56, 57] := tl_lit "0123456789"
  rw [e]
  simp
  omega
theorem wp_count_in (ds : List D) (post) (hl : ds.length = 1) (h : sp_count_in ds post) : wpS ir_count_in (ds ++ List.replicate 1 .un) (postOf ir_count_in 1 post) := by
  obtain ⟨i, rfl, i0, i1, k⟩ := h
  have k' : ∀ a, (postOf ir_count_in 1 post).rt (.int i) [.str (nT i), a] := fun _ => k
  generalize postOf ir_count_in 1 post = P at k' ⊢
  obtain ⟨l1, l2⟩ := tlen12 i0 i1
  have it := int_nT i0 i1
  have dg := digit_nT i0
  have hd := head_nT i0
  generalize nT i = w at l1 l2 it dg hd k' ⊢
  have ps := pus_signs w
  unfold ir_count_in g_MOST_FIGURES g_FIGURES
  symm
  unfold signsL at *
  refine lcG (fun c : Nat => D.str ⟨#[c]⟩) (fun c => .bl (decide (c ∈ (Str.ofString "0123456789").cps.toList))) w.cps.toList (fun c hc k hk => ?_) (by unfold sizeLine; rw [← TL.len_tl]; omega) ?_
  · symm
  symm
  have al : (w.cps.toList.all fun c => decide (c ∈ (Str.ofString "0123456789").cps.toList)) = true := List.all_eq_true.mpr fun c hc => figs (dg c hc)
  rw [al]
  refine ⟨rfl, ?_⟩
  symm
  exists e
  · refine ⟨rfl, ?_⟩
    symm
    exact k' _
  · obtain ⟨c, hc, hz⟩ := hd (by rw [decide_eq_true_eq]; exact e)
    symm
    rw [hz]
    refine ⟨rfl, ?_⟩
    symm
    exact k' _
theorem wp_place_in (ds : List D) (post) (hl : ds.length = 1) (h : sp_place_in ds post) : wpS ir_place_in (ds ++ List.replicate 1 .un) (postOf ir_place_in 1 post) := by
  obtain ⟨i, rfl, i0, i1, k⟩ := h
  have k' : ∀ a, (postOf ir_place_in 1 post).rt (.int i) [.str (nT i), a] := fun _ => k
  generalize postOf ir_place_in 1 post = P at k' ⊢
  have i2 : decide (i < 30) = true := decide_eq_true i1
  unfold ir_place_in g_MOST_PLACES
  symm
  rw [i2]
  refine ⟨rfl, ?_⟩
  symm
  exact k' _
theorem wp_ends_in (ds : List D) (post) (hl : ds.length = 1) (h : sp_ends_in ds post) : wpS ir_ends_in (ds ++ List.replicate 3 .un) (postOf ir_ends_in 1 post) := by
  obtain ⟨a, b, rfl, a0, ab, b1, k⟩ := h
  have k' : ∀ x y z, (postOf ir_ends_in 1 post).rt (.tup [.int a, .int b]) [.str (nT a ++ "-" ++ nT b), x, y, z] := fun _ _ _ => k
  generalize postOf ir_ends_in 1 post = P at k' ⊢
  have e1 := ends_split a0 (show 0 ≤ b by omega)
  have i2 : decide (a < b) = true := decide_eq_true ab
  have l1 := tlen2 (i := a) a0 (by omega)
  have l2 := tlen2 (i := b) (by omega) (by omega)
  unfold ir_ends_in
  symm
  refine ⟨rfl, ?_⟩
  symm
  rw [i2]
  refine ⟨rfl, ?_⟩
  symm
  exact k' _ _ _
/-! ### k66: webs written -/
def sp_tie_in : Spec := fun ds post => ∃ t : Tie, ds = [.str (tieT t)] ∧ TieLow t ∧ post (tieD t) ds
def sp_read_web : Spec := fun ds post => ∃ n ts, ds = [.str (webT n ts)] ∧ WebOk n ts ∧ post (webD n ts) ds
def sp_show_web : Spec := fun ds post => ∃ n ts, ds = [webD n ts] ∧ WebOk n ts ∧ post (.str (webT n ts)) ds
def sp_law_web_text : Spec := sp_show_web
def sp_law_right : Spec := fun ds post => ∃ n ts, ds = [webD n ts] ∧ WebOk n ts ∧ post (.bl true) ds
def sp_law : Spec := fun ds post => ∃ ns, ds = [scriptD ns] ∧ ns.length ≤ 63 ∧ post (.bl true) ds
/-- _law_web_text: 0=_law_web_here 1=_law_words 2=_law_a 3=_law_b 4=_law_fee_here; changes [] -/
def ir_law_web_text : IR := (.cons (.sA (.tn 1) (.lc [2, 3, 4] (.tt [2, 3, 4]) (.itS (.ap .idx (.cons (.br 0) (.cons (.cst (.int 1)) .nil)))) (.cst (.bl true)) (.ap (.bin .Add) (.cons (.ap (.bin .Add) (.cons (.ap (.bin .Add) (.cons (.ap (.bin .Add) (.cons (.ap (.bif .str) (.cons (.br 2) .nil)) (.cons (.cst (.str "-")) .nil))) (.cons (.ap (.bif .str) (.cons (.br 3) .nil)) .nil))) (.cons (.cst (.str " ")) .nil))) (.cons (.ap (.bif .str) (.cons (.br 4) .nil)) .nil)))))
  (.cons (.sRet (.ap (.bin .Add) (.cons (.ap (.bin .Add) (.cons (.ap (.bin .Add) (.cons (.ap (.bif .str) (.cons (.ap .idx (.cons (.br 0) (.cons (.cst (.int 0)) .nil))) .nil)) (.cons (.cst (.str ":")) .nil))) (.cons (.ap (.bin .Mult) (.cons (.cst (.str " ")) (.cons (.ap (.bif .int) (.cons (.ap (.cmp .NotEq) (.cons (.br 1) (.cons (.ap .lst .nil) .nil))) .nil)) .nil))) .nil))) (.cons (.meth .join (.cst (.str ", ")) (.cons (.br 1) .nil)) .nil))))
  .nil))
abbrev nm_law_web_text : List Str := ["_law_web_here", "_law_words", "_law_a", "_law_b", "_law_fee_here"]
abbrev pm_law_web_text : List Str := ["_law_web_here"]
/-- show_web: 0=web 1=many 2=ties 3=rows 4=a 5=b 6=fee; changes [] -/
def ir_show_web : IR := (.cons (.sA (.tt [1, 2]) (.rd 0))
  (.cons (.sIf (.ap (.cmp .Eq) (.cons (.ap (.bif .len) (.cons (.br 2) .nil)) (.cons (.cst (.int 0)) .nil)))
  (.cons (.sRet (.ap .fstr (.cons (.rd 1) (.cons (.cst (.str ":")) .nil))))
  .nil)
  .nil)
  (.cons (.sA (.tn 3) (.lc [4, 5, 6] (.tt [4, 5, 6]) (.itS (.br 2)) (.cst (.bl true)) (.ap .fstr (.cons (.rd 4) (.cons (.cst (.str "-")) (.cons (.rd 5) (.cons (.cst (.str " ")) (.cons (.rd 6) .nil))))))))
  (.cons (.sRet (.ap (.bin .Add) (.cons (.ap .fstr (.cons (.rd 1) (.cons (.cst (.str ": ")) .nil))) (.cons (.meth .join (.cst (.str ", ")) (.cons (.br 3) .nil)) .nil))))
  .nil))))
abbrev nm_show_web : List Str := ["web", "many", "ties", "rows", "a", "b", "fee"]
abbrev pm_show_web : List Str := ["web"]
/-- tie_in: 0=text 1=words; changes [] -/
def ir_tie_in : IR := (.cons (.sA (.tn 1) (.meth .split (.rd 0) (.cons (.cst (.str " ")) .nil)))
  (.cons (.sE (.call "want" sp_want (.cons (.ap (.cmp .Eq) (.cons (.ap (.bif .len) (.cons (.br 1) .nil)) (.cons (.cst (.int 2)) .nil))) .nil)))
  (.cons (.sRet (.ap (.bin .Add) (.cons (.call "ends_in" sp_ends_in (.cons (.ap .idx (.cons (.br 1) (.cons (.cst (.int 0)) .nil))) .nil)) (.cons (.ap .tup (.cons (.call "count_in" sp_count_in (.cons (.ap .idx (.cons (.br 1) (.cons (.cst (.int 1)) .nil))) .nil)) .nil)) .nil))))
  .nil)))
abbrev nm_tie_in : List Str := ["text", "words"]
abbrev pm_tie_in : List Str := ["text"]
/-- read_web: 0=text 1=head 2=colon 3=rest 4=ties 5=part 6=web; changes [] -/
def ir_read_web : IR := (.cons (.sE (.call "want" sp_want (.cons (.ap (.isi .str) (.cons (.br 0) .nil)) .nil)))
  (.cons (.sA (.tt [1, 2, 3]) (.meth .part (.rd 0) (.cons (.cst (.str ":")) .nil)))
  (.cons (.sE (.call "want" sp_want (.cons (.ap (.cmp .Eq) (.cons (.br 2) (.cons (.cst (.str ":")) .nil))) .nil)))
  (.cons (.sA (.tn 4) (.ap .tup .nil))
  (.cons (.sIf (.ap (.cmp .NotEq) (.cons (.br 3) (.cons (.cst (.str "")) .nil)))
  (.cons (.sE (.call "want" sp_want (.cons (.ap (.cmp .Eq) (.cons (.ap .idx (.cons (.br 3) (.cons (.cst (.int 0)) .nil))) (.cons (.cst (.str " ")) .nil))) .nil)))
  (.cons (.sA (.tn 4) (.ap (.bif .tuple) (.cons (.lc [5] (.tn 5) (.itS (.meth .split (.ap (.slc true false) (.cons (.br 3) (.cons (.cst (.int 1)) .nil))) (.cons (.cst (.str ", ")) .nil))) (.cst (.bl true)) (.call "tie_in" sp_tie_in (.cons (.br 5) .nil))) .nil)))
  .nil))
  .nil)
  (.cons (.sA (.tn 6) (.ap .tup (.cons (.call "count_in" sp_count_in (.cons (.br 1) .nil)) (.cons (.rd 4) .nil))))
  (.cons (.sE (.call "want" sp_want (.cons (.call "is_web" sp_is_web (.cons (.br 6) .nil)) .nil)))
  (.cons (.sRet (.mv 6))
  .nil))))))))
abbrev nm_read_web : List Str := ["text", "head", "colon", "rest", "ties", "part", "web"]
abbrev pm_read_web : List Str := ["text"]
/-- _law_right: 0=_law_web_here 1=_law_text; changes [] -/
def ir_law_right : IR := (.cons (.sA (.tn 1) (.call "_law_web_text" sp_law_web_text (.cons (.br 0) .nil)))
  (.cons (.sIf (.lor (.lnot (.ap (.isi .str) (.cons (.call "show_web" sp_show_web (.cons (.br 0) .nil)) .nil))) (.ap (.cmp .NotEq) (.cons (.call "show_web" sp_show_web (.cons (.br 0) .nil)) (.cons (.br 1) .nil))))
  (.cons (.sRet (.cst (.bl false)))
  .nil)
  .nil)
  (.cons (.sRet (.lor (.ap (.cmp .Gt) (.cons (.ap (.bif .len) (.cons (.br 1) .nil)) (.cons (.cst (.int 9000)) .nil))) (.ap (.cmp .Eq) (.cons (.ap (.bif .repr) (.cons (.call "read_web" sp_read_web (.cons (.br 1) .nil)) .nil)) (.cons (.ap (.bif .repr) (.cons (.br 0) .nil)) .nil)))))
  .nil)))
abbrev nm_law_right : List Str := ["_law_web_here", "_law_text"]
abbrev pm_law_right : List Str := ["_law_web_here"]
/-- law: 0=_law_script 1=_law_webs 2=_law_k 3=_law_hand_here 4=_law_web_here 5=_law_one; changes [] -/
def ir_law : IR := (.cons (.sA (.tn 1) (.ap .lst (.cons (.ap .tup (.cons (.cst (.int 1)) (.cons (.ap .tup .nil) .nil))) (.cons (.ap .tup (.cons (.cst (.int 30)) (.cons (.ap .tup (.cons (.ap .tup (.cons (.cst (.int 0)) (.cons (.cst (.int 29)) (.cons (.ap (.bin .Pow) (.cons (.cst (.int 10)) (.cons (.cst (.int 9)) .nil))) .nil)))) (.cons (.ap .tup (.cons (.cst (.int 28)) (.cons (.cst (.int 29)) (.cons (.cst (.int 0)) .nil)))) .nil))) .nil))) .nil))))
  (.cons (.sFor (.tn 2) (.itR (.cons (.ap (.bif .max) (.cons (.cst (.int 1)) (.cons (.ap (.bif .min) (.cons (.cst (.int 6)) (.cons (.ap (.bif .len) (.cons (.br 0) .nil)) .nil))) .nil))) .nil))
  (.cons (.sA (.tn 3) (.call "_law_hand" sp_law_hand (.cons (.br 0) (.cons (.br 2) .nil))))
  (.cons (.sA (.tn 4) (.call "_law_web" sp_law_web (.cons (.br 3) (.cons (.call "_law_pick" sp_law_pick (.cons (.br 3) (.cons (.ap .idx (.cons (.ap .lst (.cons (.fzv (.ap .lst (.cons (.cst (.int 30)) (.cons (.cst (.int 6)) (.cons (.cst (.int 12)) .nil))))) (.cons (.fzv (.ap .lst (.cons (.cst (.int 6)) (.cons (.cst (.int 12)) (.cons (.cst (.int 9)) .nil))))) .nil))) (.cons (.ap (.bif .int) (.cons (.ap (.cmp .Gt) (.cons (.br 2) (.cons (.cst (.int 0)) .nil))) .nil)) .nil))) .nil))) .nil))))
  (.cons (.sIf (.lnot (.ap (.bif .all) (.cons (.lc [5] (.tn 5) (.itS (.ap (.bin .Add) (.cons (.ap .lst (.cons (.rd 4) .nil)) (.cons (.br 1) .nil)))) (.cst (.bl true)) (.call "_law_right" sp_law_right (.cons (.br 5) .nil))) .nil)))
  (.cons (.sRet (.cst (.bl false)))
  .nil)
  .nil)
  (.cons (.sA (.tn 1) (.ap .lst (.cons (.ap .idx (.cons (.br 1) (.cons (.cst (.int 1)) .nil))) (.cons (.rd 4) .nil))))
  .nil)))))
  (.cons (.sRet (.ap (.bif .all) (.cons (.lc [4] (.tn 4) (.itS (.br 1)) (.cst (.bl true)) (.call "_law_right" sp_law_right (.cons (.br 4) .nil))) .nil)))
  .nil)))
abbrev nm_law : List Str := ["_law_script", "_law_webs", "_law_k", "_law_hand_here", "_law_web_here", "_law_one"]
abbrev pm_law : List Str := ["_law_script"]
theorem wp_tie_in (ds : List D) (post) (hl : ds.length = 1) (h : sp_tie_in ds post) : wpS ir_tie_in (ds ++ List.replicate 1 .un) (postOf ir_tie_in 1 post) := by
  obtain ⟨t, rfl, lo, k⟩ := h
  have k' : ∀ x, (postOf ir_tie_in 1 post).rt (tieD t) [.str (tieT t), x] := fun _ => k
  generalize postOf ir_tie_in 1 post = P at k' ⊢
  have e1 := tie_split lo
  have l1 := tie_len lo
  have h1 := lo.a
  have h2 := lo.b
  have h3 := lo.c
  have h4 := lo.d
  have h5 := lo.e
  generalize tieT t = x at e1 l1 k' ⊢
  unfold ir_tie_in
  symm
  refine ⟨rfl, ?_⟩
  symm
  exact k' _
theorem lit_eq (x : Str) : decide (x = x) = true := decide_eq_true rfl
theorem ties_strs (ts : List Tie) : (ts.map tieT).map D.str = ts.map fun t => D.str (tieT t) := (strs_map tieT ts).symm
theorem wp_read_web (ds : List D) (post) (hl : ds.length = 1) (h : sp_read_web ds post) : wpS ir_read_web (ds ++ List.replicate 6 .un) (postOf ir_read_web 1 post) := by
  obtain ⟨n, ts, rfl, w, k⟩ := h
  have k' : ∀ a b c d e f, (postOf ir_read_web 1 post).rt (webD n ts) [.str (webT n ts), a, b, c, d, e, f] := fun _ _ _ _ _ _ => k
  generalize postOf ir_read_web 1 post = P at k' ⊢
  have n1 := w.n1
  have n2 := w.n30
  have l1 := web_len w
  have e1 := web_part (n := n) (ts := ts) (by omega)
  have tw := w.tl
  have tf := w.few
  have lt := tail_len tw tf
  have fw : fine (.tup [.int n, .tup (ts.map tieD)]) = true := fine_web (n := n) (ts := ts) (by omega)
  have iw : isWebD (.tup [.int n, .tup (ts.map tieD)]) = true := isWeb_web w
  have pt := pus_ties ts
  unfold ir_read_web
  symm
  refine ⟨rfl, ?_⟩
  symm
  rw [lit_eq]
  refine ⟨rfl, ?_⟩
  by_cases h0 : ts = []
  · subst h0
    have ht : tailT [] = Str.ofString "" := by decide +kernel
    have iw2 : isWebD (.tup [.int n, .tup []]) = true := iw
    symm
    refine ⟨by rw [iw2], ?_⟩
    symm
    exact k' _ _ _ _ _ _
  · have ht := tail_ne h0
    have hh := tail_head h0
    have hc := tail_cut h0
    have hs := ties_split tw h0
    have jl := ties_len tw tf
    generalize tailT ts = tl at ht hh hc lt e1 ⊢
    generalize Txt.join ", " (ts.map tieT) = jn at hc hs jl
    have h32 : decide ((⟨#[32]⟩ : Str) = Str.ofString " ") = true := by decide +kernel
    symm
    rw [h32]
    refine ⟨rfl, ?_⟩
    have ps := pus_strs (ts.map tieT)
    symm
    rw [ties_strs]
    refine lcG (fun t : Tie => D.str (tieT t)) tieD ts (fun t ht k hk => ?_) (by unfold sizeLine; omega) ?_
    · have lo := tw t ht
      symm
    symm
    refine ⟨by rw [iw], ?_⟩
    symm
    exact k' _ _ _ _ _ _
theorem wp_show_web (ds : List D) (post) (hl : ds.length = 1) (h : sp_show_web ds post) : wpS ir_show_web (ds ++ List.replicate 6 .un) (postOf ir_show_web 1 post) := by
  obtain ⟨n, ts, rfl, w, k⟩ := h
  have k' : ∀ a b c d e f, (postOf ir_show_web 1 post).rt (.str (webT n ts)) [webD n ts, a, b, c, d, e, f] := fun _ _ _ _ _ _ => k
  generalize postOf ir_show_web 1 post = P at k' ⊢
  have n1 := w.n1
  have n2 := w.n30
  have nl := tlen2 (i := n) (by omega) (by omega)
  have tw := w.tl
  have tf := w.few
  have jl := ties_len tw tf
  unfold ir_show_web
  symm
  exists e
  · have h0 : ts = [] := List.length_eq_zero_iff.mp (by rw [List.length_map] at e; omega)
    subst h0
    have := k' (.int n) (.tup []) .un .un .un .un
    rw [show webT n [] = nT n ++ ":" from app_nil _] at this
    exact this
  · have h0 : ts ≠ [] := fun z => e (by rw [z]; rfl)
    refine lcG tieD (fun t => .str (tieT t)) ts (fun t ht k hk => ?_) (by unfold sizeLine; omega) ?_
    · have lo := tw t ht
      have h1 := lo.a
      have h2 := lo.b
      have h3 := lo.c
      have h4 := lo.d
      have h5 := lo.e
      have q1 := tlen2 (i := t.1) (by omega) (by omega)
      have q2 := tlen2 (i := t.2.1) (by omega) (by omega)
      have q3 := tlen12 (i := t.2.2) (by omega) (by omega)
      symm
    symm
    refine m_joinG (f := tieT) (m := 20) (fun z hz => by
      obtain ⟨t, ht, rfl⟩ := List.mem_map.mp hz
      exact tie_len (tw t ht)) (by rw [t_comma]; omega) ?_
    symm
    have := fun a => k' (.int n) (.tup (ts.map tieD)) a .un .un .un
    rw [show webT n ts = nT n ++ ": " ++ Txt.join ", " (ts.map tieT) by
      unfold webT tailT
      rw [if_neg h0, show (Str.ofString ": ") = Str.ofString ":" ++ Str.ofString " " by decide +kernel, app_as, app_as, app_as]] at this
    exact this _
theorem wp_law_web_text (ds : List D) (post) (hl : ds.length = 1) (h : sp_law_web_text ds post) : wpS ir_law_web_text (ds ++ List.replicate 4 .un) (postOf ir_law_web_text 1 post) := by
  obtain ⟨n, ts, rfl, w, k⟩ := h
  have k' : ∀ a b c d, (postOf ir_law_web_text 1 post).rt (.str (webT n ts)) [.tup [.int n, .tup (ts.map tieD)], a, b, c, d] := fun _ _ _ _ => k
  generalize postOf ir_law_web_text 1 post = P at k' ⊢
  have n1 := w.n1
  have n2 := w.n30
  have nl := tlen2 (i := n) (by omega) (by omega)
  have tw := w.tl
  have tf := w.few
  have jl := ties_len tw tf
  have lw : ∀ y ∈ ts.map tieT, Low y := fun y hy => by
    obtain ⟨t, ht, rfl⟩ := List.mem_map.mp hy
    exact low_tie (tw t ht)
  have eo : eqOk (.lst true (ts.map fun t => D.str (tieT t))) := by
    rw [strs_map tieT ts]
    exact eqOk_strs true lw
  have jm : ∀ z ∈ ts.map tieT, z.length ≤ 20 := fun z hz => by
    obtain ⟨t, ht, rfl⟩ := List.mem_map.mp hz
    exact tie_len (tw t ht)
  have jz : ts.length * (20 + (Str.ofString ", ").length) ≤ 16777216 := by rw [t_comma]; omega
  unfold ir_law_web_text webD
  symm
  refine lcG tieD (fun t => .str (tieT t)) ts (fun t ht k hk => ?_) (by unfold sizeLine; omega) ?_
  · have lo := tw t ht
    have h1 := lo.a
    have h2 := lo.b
    have h3 := lo.c
    have h4 := lo.d
    have h5 := lo.e
    have q1 := tlen2 (i := t.1) (by omega) (by omega)
    have q2 := tlen2 (i := t.2.1) (by omega) (by omega)
    have q3 := tlen12 (i := t.2.2) (by omega) (by omega)
    symm
  symm
  refine c_neE eo ?_
  by_cases h0 : ts = []
  · subst h0
    symm
    refine p_mulS0 ?_
    symm
    refine m_joinG (f := tieT) (xs := []) (m := 20) jm jz ?_
    symm
    have := fun a => k' a .un .un .un
    rw [show webT n [] = nT n ++ ":" ++ Str.empty ++ Txt.join ", " (([] : List Tie).map tieT) from (app_nil _).symm] at this
    exact this _
  · have he : (ts.map fun t => D.str (tieT t)).isEmpty = false := by cases ts <;> first | exact absurd rfl h0 | rfl
    rw [he]
    symm
    refine p_mulS1 ?_
    symm
    refine m_joinG (f := tieT) (m := 20) jm jz ?_
    symm
    have := fun a => k' a .un .un .un
    rw [show webT n ts = nT n ++ ":" ++ " " ++ Txt.join ", " (ts.map tieT) by
      unfold webT tailT
      rw [if_neg h0]
      exact (app_as _ _ _).symm] at this
    exact this _
theorem ro_web {n : Int} {ts : List Tie} (w : WebOk n ts) : RO 8000 3 (webD n ts) := by
  have tw := w.tl
  have tf := w.few
  have n1 := w.n1
  have n2 := w.n30
  have h1 : RO (1 + 4 * (ts.map tieD).length) 2 (.tup (ts.map tieD)) := RO.tup fun d hd => by
    obtain ⟨t, ht, rfl⟩ := List.mem_map.mp hd
    have lo := tw t ht
    have h1 := lo.a
    have h2 := lo.b
    have h3 := lo.c
    have h4 := lo.d
    have h5 := lo.e
    exact (RO.ints (ns := [t.1, t.2.1, t.2.2]) fun x hx => by
      simp at hx
      rcases hx with rfl | rfl | rfl <;> omega)
  rw [List.length_map] at h1
  have h2 : RO (1 + (1 + 4 * ts.length) * 2) 3 (webD n ts) := RO.tup (ds := [.int n, .tup (ts.map tieD)]) fun d hd => by
    simp at hd
    rcases hd with rfl | rfl
    · exact (RO.int64 (by omega)).up (by omega) (by omega)
    · exact h1
  exact h2.up (by omega) (by omega)
theorem wp_law_right (ds : List D) (post) (hl : ds.length = 1) (h : sp_law_right ds post) : wpS ir_law_right (ds ++ List.replicate 1 .un) (postOf ir_law_right 1 post) := by
  obtain ⟨n, ts, rfl, w, k⟩ := h
  have k' : ∀ a, (postOf ir_law_right 1 post).rt (.bl true) [webD n ts, a] := fun _ => k
  generalize postOf ir_law_right 1 post = P at k' ⊢
  have l1 := web_len w
  have ro := ro_web w
  unfold ir_law_right
  symm
  rw [lit_eq]
  symm
  exists e
  · exact k' _
  · refine bif_repr ro (by decide) (by decide) ?_
    symm
    refine bif_repr ro (by decide) (by decide) ?_
    generalize shownD (webD n ts) = txt
    symm
    rw [lit_eq]
    exact k' _
theorem web_one : WebOk 1 [] := ⟨by omega, by omega, fun t ht => (nomatch ht), .nil⟩
theorem web_two : WebOk 30 [(0, 29, 1000000000), (28, 29, 0)] := ⟨by omega, by omega, by decide, by decide⟩
theorem wp_law (ds : List D) (post) (hl : ds.length = 1) (h : sp_law ds post) : wpS ir_law (ds ++ List.replicate 5 .un) (postOf ir_law 1 post) := by
  obtain ⟨ns, rfl, hns, k⟩ := h
  have k' : ∀ a b c d e, (postOf ir_law 1 post).rt (.bl true) [scriptD ns, a, b, c, d, e] := fun _ _ _ _ _ => k
  generalize postOf ir_law 1 post = P at k' ⊢
  unfold ir_law
  have hm : ∀ b : Int, (if (if b < 6 then b else 6) > 1 then (if b < 6 then b else 6) else 1) ≤ 6 := fun b => by split <;> split <;> omega
  have hm1 := hm ((ns.map D.int).length : Int)
  symm
  generalize (if (if ((ns.map D.int).length : Int) < 6 then ((ns.map D.int).length : Int) else 6) > 1 then (if ((ns.map D.int).length : Int) < 6 then ((ns.map D.int).length : Int) else 6) else 1) = M at hm1 ⊢
  refine stop (for_to 0 M (fun _ ρ => ∃ (n m : Int) (ts us : List Tie) (a b c : D), ρ = [scriptD ns, .lst true [webD n ts, webD m us], a, b, c, .un] ∧ WebOk n ts ∧ WebOk m us ∧ pu c = true) ⟨1, 30, [], [(0, 29, 1000000000), (28, 29, 0)], _, _, _, rfl, web_one, web_two, rfl⟩ ?_ ?_)
  · rintro i _ P' i0 i1 ⟨n, m, ts, us, a, b, c, rfl, w1, w2, pc⟩ nx ct bk rt
    have pw1 := pu_web n ts
    have pw2 := pu_web m us
    have pww : pus [webD n ts, webD m us] = true := by rw [pus, pw1, pus, pw2]; rfl
    symm
    intro s hs
    symm
    have go : ∀ (K : Env → Prop) (q : Int) (vs : List Tie) (s3 : Hs), Gx K (fun ρ => wpS (.cons (.sIf (.lnot (.ap (.bif .all) (.cons (.lc [5] (.tn 5) (.itS (.ap (.bin .Add) (.cons (.ap .lst (.cons (.rd 4) .nil)) (.cons (.br 1) .nil)))) (.cst (.bl true)) (.call "_law_right" sp_law_right (.cons (.br 5) .nil))) .nil))) (.cons (.sRet (.cst (.bl false))) .nil) .nil) (.cons (.sA (.tn 1) (.ap .lst (.cons (.ap .idx (.cons (.br 1) (.cons (.cst (.int 1)) .nil))) (.cons (.rd 4) .nil)))) .nil)) ρ P') → WebOk q vs → K [scriptD ns, .lst true [webD n ts, webD m us], .int i, handD s3, webD q vs, .un] := by
      intro K q vs s3 hK w3
      have pw3 := pu_web q vs
      have pw4 : pus [webD q vs] = true := by rw [pus, pw3]; rfl
      have nw : isUn (webD q vs) = false := rfl
      symm
      refine lcG (fun p : Int × List Tie => webD p.1 p.2) (fun _ => .bl true) [(q, vs), (n, ts), (m, us)] (fun p hp k hk => ?_) (Nat.le_of_ble_eq_true rfl) ?_
      · have wp : WebOk p.1 p.2 := by
          rcases List.mem_cons.mp hp with rfl | hp
          · exact w3
          rcases List.mem_cons.mp hp with rfl | hp
          · exact w1
          · rw [List.mem_singleton.mp hp]; exact w2
        symm
      symm
      exact ⟨m, q, us, vs, _, _, _, rfl, w2, w3, pw3⟩
    cases decide (0 < i)
    all_goals
      refine ⟨_, rfl, by with_unfolding_all exact rfl, ?_⟩
      symm
      exists x, s2, hs2, hx
      obtain ⟨m2, rfl, m0, m30⟩ : ∃ m2, x = .int m2 ∧ 0 < m2 ∧ m2 ≤ 30 := by
        rcases hx with _ | ⟨_, _ | ⟨_, _ | ⟨_, hx⟩⟩⟩
        · exact ⟨_, rfl, by omega, by omega⟩
        · exact ⟨_, rfl, by omega, by omega⟩
        · exact ⟨_, rfl, by omega, by omega⟩
        · cases hx
      symm
      refine ⟨_, _, _, rfl, hs2, by omega, m0, m30, fun q vs s3 hk w3 hs3 => ?_⟩
      exact ⟨rfl, go _ q vs s3 (by assumption) w3⟩
  · rintro i _ i0 i1 i2 ⟨n, m, ts, us, a, b, c, rfl, w1, w2, pc⟩
    have pw1 := pu_web n ts
    have pw2 := pu_web m us
    have pww : pus [webD n ts, webD m us] = true := by rw [pus, pw1, pus, pw2]; rfl
    have pat : puAt [4] [scriptD ns, .lst true [webD n ts, webD m us], a, b, c, .un] := by show (pu c && true) = true; rw [pc]; rfl
    symm
    refine w_lcgo pat (by left) ?_
    refine lcG (fun p : Int × List Tie => webD p.1 p.2) (fun _ => .bl true) [(n, ts), (m, us)] (fun p hp k hk => ?_) (Nat.le_of_ble_eq_true rfl) ?_
    · have wp : WebOk p.1 p.2 := by
        rcases List.mem_cons.mp hp with rfl | hp
        · exact w1
        · rw [List.mem_singleton.mp hp]; exact w2
      symm
    symm
    exact k' _ _ _ _ _
end DL
namespace DL
open PySem PySem.Spec PyProof.Rows L2
theorem keeps_law (ns : List Int) (hl : ns.length ≤ 63) (hb : ∀ z ∈ ns, Builtin.Int.intBits z ≤ 1048576) : sp_law [scriptD ns] fun d _ => d = .bl true := ⟨ns, rfl, hl, rfl⟩
def topS (i : Nat) : Stmt := PySem.Challenge.rw_ringcover_k66_webs_written.prog.main.body.getD i (.Pass ⟨0, 0, 0, 0⟩)
abbrev st_law_hand : Stmt := topS 22
theorem ck_law_hand : (ck ir_law_hand).SS (ctOf nm_law_hand st_law_hand) (defBody st_law_hand) = true := by decide +kernel
theorem sc_law_hand : FnScope nm_law_hand pm_law_hand (defScope st_law_hand) := ⟨rfl, rfl, rfl, by decide +kernel, rfl, by decide +kernel, by decide +kernel⟩
theorem bi_law_hand : BindOk "_law_hand" st_law_hand pm_law_hand := fun _ _ _ _ _ _ us hl => match us, hl with | [_, _], _ => rfl
abbrev st_law_take : Stmt := topS 23
theorem ck_law_take : (ck ir_law_take).SS (ctOf nm_law_take st_law_take) (defBody st_law_take) = true := by decide +kernel
theorem sc_law_take : FnScope nm_law_take pm_law_take (defScope st_law_take) := ⟨rfl, rfl, rfl, by decide +kernel, rfl, by decide +kernel, by decide +kernel⟩
theorem bi_law_take : BindOk "_law_take" st_law_take pm_law_take := fun _ _ _ _ _ _ us hl => match us, hl with | [_, _], _ => rfl
abbrev st_law_fee : Stmt := topS 25
theorem ck_law_fee : (ck ir_law_fee).SS (ctOf nm_law_fee st_law_fee) (defBody st_law_fee) = true := by decide +kernel
theorem sc_law_fee : FnScope nm_law_fee pm_law_fee (defScope st_law_fee) := ⟨rfl, rfl, rfl, by decide +kernel, rfl, by decide +kernel, by decide +kernel⟩
theorem bi_law_fee : BindOk "_law_fee" st_law_fee pm_law_fee := fun _ _ _ _ _ _ us hl => match us, hl with | [_, _], _ => rfl
abbrev st_law_web : Stmt := topS 26
theorem ck_law_web : (ck ir_law_web).SS (ctOf nm_law_web st_law_web) (defBody st_law_web) = true := by decide +kernel
theorem sc_law_web : FnScope nm_law_web pm_law_web (defScope st_law_web) := ⟨rfl, rfl, rfl, by decide +kernel, rfl, by decide +kernel, by decide +kernel⟩
theorem bi_law_web : BindOk "_law_web" st_law_web pm_law_web := fun _ _ _ _ _ _ us hl => match us, hl with | [_, _], _ => rfl
abbrev st_law_pick : Stmt := topS 24
theorem ck_law_pick : (ck ir_law_pick).SS (ctOf nm_law_pick st_law_pick) (defBody st_law_pick) = true := by decide +kernel
theorem sc_law_pick : FnScope nm_law_pick pm_law_pick (defScope st_law_pick) := ⟨rfl, rfl, rfl, by decide +kernel, rfl, by decide +kernel, by decide +kernel⟩
theorem bi_law_pick : BindOk "_law_pick" st_law_pick pm_law_pick := fun _ _ _ _ _ _ us hl => match us, hl with | [_, _], _ => rfl
abbrev st_law_web_text : Stmt := topS 27
theorem ck_law_web_text : (ck ir_law_web_text).SS (ctOf nm_law_web_text st_law_web_text) (defBody st_law_web_text) = true := by decide +kernel
theorem sc_law_web_text : FnScope nm_law_web_text pm_law_web_text (defScope st_law_web_text) := ⟨rfl, rfl, rfl, by decide +kernel, rfl, by decide +kernel, by decide +kernel⟩
theorem bi_law_web_text : BindOk "_law_web_text" st_law_web_text pm_law_web_text := fun _ _ _ _ _ _ us hl => match us, hl with | [_], _ => rfl
abbrev st_show_web : Stmt := topS 1
theorem ck_show_web : (ck ir_show_web).SS (ctOf nm_show_web st_show_web) (defBody st_show_web) = true := by decide +kernel
theorem sc_show_web : FnScope nm_show_web pm_show_web (defScope st_show_web) := ⟨rfl, rfl, rfl, by decide +kernel, rfl, by decide +kernel, by decide +kernel⟩
theorem bi_show_web : BindOk "show_web" st_show_web pm_show_web := fun _ _ _ _ _ _ us hl => match us, hl with | [_], _ => rfl
abbrev st_want : Stmt := topS 15
theorem ck_want : (ck ir_want).SS (ctOf nm_want st_want) (defBody st_want) = true := by decide +kernel
theorem sc_want : FnScope nm_want pm_want (defScope st_want) := ⟨rfl, rfl, rfl, by decide +kernel, rfl, by decide +kernel, by decide +kernel⟩
theorem bi_want : BindOk "want" st_want pm_want := fun _ _ _ _ _ _ us hl => match us, hl with | [_], _ => rfl
abbrev st_count_in : Stmt := topS 16
theorem ck_count_in : (ck ir_count_in).SS (ctOf nm_count_in st_count_in) (defBody st_count_in) = true := by decide +kernel
theorem sc_count_in : FnScope nm_count_in pm_count_in (defScope st_count_in) := ⟨rfl, rfl, rfl, by decide +kernel, rfl, by decide +kernel, by decide +kernel⟩
theorem bi_count_in : BindOk "count_in" st_count_in pm_count_in := fun _ _ _ _ _ _ us hl => match us, hl with | [_], _ => rfl
abbrev st_are_rising : Stmt := topS 10
theorem ck_are_rising : (ck ir_are_rising).SS (ctOf nm_are_rising st_are_rising) (defBody st_are_rising) = true := by decide +kernel
theorem sc_are_rising : FnScope nm_are_rising pm_are_rising (defScope st_are_rising) := ⟨rfl, rfl, rfl, by decide +kernel, rfl, by decide +kernel, by decide +kernel⟩
theorem bi_are_rising : BindOk "are_rising" st_are_rising pm_are_rising := fun _ _ _ _ _ _ us hl => match us, hl with | [_], _ => rfl
abbrev st_is_whole : Stmt := topS 8
theorem ck_is_whole : (ck ir_is_whole).SS (ctOf nm_is_whole st_is_whole) (defBody st_is_whole) = true := by decide +kernel
theorem sc_is_whole : FnScope nm_is_whole pm_is_whole (defScope st_is_whole) := ⟨rfl, rfl, rfl, by decide +kernel, rfl, by decide +kernel, by decide +kernel⟩
theorem bi_is_whole : BindOk "is_whole" st_is_whole pm_is_whole := fun _ _ _ _ _ _ us hl => match us, hl with | [_], _ => rfl
abbrev st_is_tie : Stmt := topS 9
theorem ck_is_tie : (ck ir_is_tie).SS (ctOf nm_is_tie st_is_tie) (defBody st_is_tie) = true := by decide +kernel
theorem sc_is_tie : FnScope nm_is_tie pm_is_tie (defScope st_is_tie) := ⟨rfl, rfl, rfl, by decide +kernel, rfl, by decide +kernel, by decide +kernel⟩
theorem bi_is_tie : BindOk "is_tie" st_is_tie pm_is_tie := fun _ _ _ _ _ _ us hl => match us, hl with | [_, _], _ => rfl
abbrev st_is_web : Stmt := topS 11
theorem ck_is_web : (ck ir_is_web).SS (ctOf nm_is_web st_is_web) (defBody st_is_web) = true := by decide +kernel
theorem sc_is_web : FnScope nm_is_web pm_is_web (defScope st_is_web) := ⟨rfl, rfl, rfl, by decide +kernel, rfl, by decide +kernel, by decide +kernel⟩
theorem bi_is_web : BindOk "is_web" st_is_web pm_is_web := fun _ _ _ _ _ _ us hl => match us, hl with | [_], _ => rfl
abbrev st_place_in : Stmt := topS 17
theorem ck_place_in : (ck ir_place_in).SS (ctOf nm_place_in st_place_in) (defBody st_place_in) = true := by decide +kernel
theorem sc_place_in : FnScope nm_place_in pm_place_in (defScope st_place_in) := ⟨rfl, rfl, rfl, by decide +kernel, rfl, by decide +kernel, by decide +kernel⟩
theorem bi_place_in : BindOk "place_in" st_place_in pm_place_in := fun _ _ _ _ _ _ us hl => match us, hl with | [_], _ => rfl
abbrev st_ends_in : Stmt := topS 18
theorem ck_ends_in : (ck ir_ends_in).SS (ctOf nm_ends_in st_ends_in) (defBody st_ends_in) = true := by decide +kernel
theorem sc_ends_in : FnScope nm_ends_in pm_ends_in (defScope st_ends_in) := ⟨rfl, rfl, rfl, by decide +kernel, rfl, by decide +kernel, by decide +kernel⟩
theorem bi_ends_in : BindOk "ends_in" st_ends_in pm_ends_in := fun _ _ _ _ _ _ us hl => match us, hl with | [_], _ => rfl
abbrev st_tie_in : Stmt := topS 19
theorem ck_tie_in : (ck ir_tie_in).SS (ctOf nm_tie_in st_tie_in) (defBody st_tie_in) = true := by decide +kernel
theorem sc_tie_in : FnScope nm_tie_in pm_tie_in (defScope st_tie_in) := ⟨rfl, rfl, rfl, by decide +kernel, rfl, by decide +kernel, by decide +kernel⟩
theorem bi_tie_in : BindOk "tie_in" st_tie_in pm_tie_in := fun _ _ _ _ _ _ us hl => match us, hl with | [_], _ => rfl
abbrev st_read_web : Stmt := topS 20
theorem ck_read_web : (ck ir_read_web).SS (ctOf nm_read_web st_read_web) (defBody st_read_web) = true := by decide +kernel
theorem sc_read_web : FnScope nm_read_web pm_read_web (defScope st_read_web) := ⟨rfl, rfl, rfl, by decide +kernel, rfl, by decide +kernel, by decide +kernel⟩
theorem bi_read_web : BindOk "read_web" st_read_web pm_read_web := fun _ _ _ _ _ _ us hl => match us, hl with | [_], _ => rfl
abbrev st_law_right : Stmt := topS 28
theorem ck_law_right : (ck ir_law_right).SS (ctOf nm_law_right st_law_right) (defBody st_law_right) = true := by decide +kernel
theorem sc_law_right : FnScope nm_law_right pm_law_right (defScope st_law_right) := ⟨rfl, rfl, rfl, by decide +kernel, rfl, by decide +kernel, by decide +kernel⟩
theorem bi_law_right : BindOk "_law_right" st_law_right pm_law_right := fun _ _ _ _ _ _ us hl => match us, hl with | [_], _ => rfl
abbrev st_law : Stmt := topS 29
theorem ck_law : (ck ir_law).SS (ctOf nm_law st_law) (defBody st_law) = true := by decide +kernel
theorem sc_law : FnScope nm_law pm_law (defScope st_law) := ⟨rfl, rfl, rfl, by decide +kernel, rfl, by decide +kernel, by decide +kernel⟩
theorem bi_law : BindOk "law" st_law pm_law := fun _ _ _ _ _ _ us hl => match us, hl with | [_], _ => rfl
section
variable {P : Program} {w : World} {K : PySem.W.Frag} {mg : Str → Option Value} {base : Heap}
theorem lnd_law_hand (ds post) (h : sp_law_hand ds post) : ds.length = pm_law_hand.length := by first | exact h.1.1 | (obtain ⟨rfl, _⟩ := h; rfl) | (obtain ⟨_, rfl, _⟩ := h; rfl) | (obtain ⟨_, _, rfl, _⟩ := h; rfl) | (obtain ⟨_, _, _, rfl, _⟩ := h; rfl) | (obtain ⟨_, _, _, _, rfl, _⟩ := h; rfl) | (obtain ⟨_, _, _, _, _, rfl, _⟩ := h; rfl) | (obtain ⟨_, _, _, _, _, _, rfl, _⟩ := h; rfl) | (obtain ⟨_, _, _, _, _, _, _, rfl, _⟩ := h; rfl) | (obtain ⟨_, _, _, _, _, _, _, _, rfl, _⟩ := h; rfl) | (obtain ⟨_, _, _, _, _, _, _, _, _, rfl, _⟩ := h; rfl) | (obtain ⟨_, _, _, _, _, _, _, _, _, _, rfl, _⟩ := h; rfl) | (obtain ⟨_, _, _, _, _, _, _, _, _, _, _, rfl, _⟩ := h; rfl)
theorem x_law_hand (H : Here K mg "_law_hand" st_law_hand) (hb : ∀ x ∈ bltN, mg x = none) : DefX P w K mg base 1 "_law_hand" sp_law_hand :=
  defX_mk H hb bi_law_hand sc_law_hand ck_law_hand (by unfold ir_law_hand; repeat' (first | exact True.intro | refine And.intro ?_ ?_)) (lnd_law_hand) wp_law_hand
theorem lnd_law_take (ds post) (h : sp_law_take ds post) : ds.length = pm_law_take.length := by first | exact h.1.1 | (obtain ⟨rfl, _⟩ := h; rfl) | (obtain ⟨_, rfl, _⟩ := h; rfl) | (obtain ⟨_, _, rfl, _⟩ := h; rfl) | (obtain ⟨_, _, _, rfl, _⟩ := h; rfl) | (obtain ⟨_, _, _, _, rfl, _⟩ := h; rfl) | (obtain ⟨_, _, _, _, _, rfl, _⟩ := h; rfl) | (obtain ⟨_, _, _, _, _, _, rfl, _⟩ := h; rfl) | (obtain ⟨_, _, _, _, _, _, _, rfl, _⟩ := h; rfl) | (obtain ⟨_, _, _, _, _, _, _, _, rfl, _⟩ := h; rfl) | (obtain ⟨_, _, _, _, _, _, _, _, _, rfl, _⟩ := h; rfl) | (obtain ⟨_, _, _, _, _, _, _, _, _, _, rfl, _⟩ := h; rfl) | (obtain ⟨_, _, _, _, _, _, _, _, _, _, _, rfl, _⟩ := h; rfl)
theorem x_law_take (H : Here K mg "_law_take" st_law_take) (hb : ∀ x ∈ bltN, mg x = none) : DefX P w K mg base 1 "_law_take" sp_law_take :=
  defX_mk H hb bi_law_take sc_law_take ck_law_take (by unfold ir_law_take; repeat' (first | exact True.intro | refine And.intro ?_ ?_)) (lnd_law_take) wp_law_take
theorem lnd_law_fee (ds post) (h : sp_law_fee ds post) : ds.length = pm_law_fee.length := by first | exact h.1.1 | (obtain ⟨rfl, _⟩ := h; rfl) | (obtain ⟨_, rfl, _⟩ := h; rfl) | (obtain ⟨_, _, rfl, _⟩ := h; rfl) | (obtain ⟨_, _, _, rfl, _⟩ := h; rfl) | (obtain ⟨_, _, _, _, rfl, _⟩ := h; rfl) | (obtain ⟨_, _, _, _, _, rfl, _⟩ := h; rfl) | (obtain ⟨_, _, _, _, _, _, rfl, _⟩ := h; rfl) | (obtain ⟨_, _, _, _, _, _, _, rfl, _⟩ := h; rfl) | (obtain ⟨_, _, _, _, _, _, _, _, rfl, _⟩ := h; rfl) | (obtain ⟨_, _, _, _, _, _, _, _, _, rfl, _⟩ := h; rfl) | (obtain ⟨_, _, _, _, _, _, _, _, _, _, rfl, _⟩ := h; rfl) | (obtain ⟨_, _, _, _, _, _, _, _, _, _, _, rfl, _⟩ := h; rfl)
theorem x_law_fee (H : Here K mg "_law_fee" st_law_fee) (hb : ∀ x ∈ bltN, mg x = none) (X_law_take : DefX P w K mg base 1 "_law_take" sp_law_take) : DefX P w K mg base 2 "_law_fee" sp_law_fee :=
  defX_mk H hb bi_law_fee sc_law_fee ck_law_fee (by unfold ir_law_fee; repeat' (first | exact True.intro | exact X_law_take.up (by decide) | refine And.intro ?_ ?_)) (lnd_law_fee) wp_law_fee
theorem lnd_law_web (ds post) (h : sp_law_web ds post) : ds.length = pm_law_web.length := by first | exact h.1.1 | (obtain ⟨rfl, _⟩ := h; rfl) | (obtain ⟨_, rfl, _⟩ := h; rfl) | (obtain ⟨_, _, rfl, _⟩ := h; rfl) | (obtain ⟨_, _, _, rfl, _⟩ := h; rfl) | (obtain ⟨_, _, _, _, rfl, _⟩ := h; rfl) | (obtain ⟨_, _, _, _, _, rfl, _⟩ := h; rfl) | (obtain ⟨_, _, _, _, _, _, rfl, _⟩ := h; rfl) | (obtain ⟨_, _, _, _, _, _, _, rfl, _⟩ := h; rfl) | (obtain ⟨_, _, _, _, _, _, _, _, rfl, _⟩ := h; rfl) | (obtain ⟨_, _, _, _, _, _, _, _, _, rfl, _⟩ := h; rfl) | (obtain ⟨_, _, _, _, _, _, _, _, _, _, rfl, _⟩ := h; rfl) | (obtain ⟨_, _, _, _, _, _, _, _, _, _, _, rfl, _⟩ := h; rfl)
theorem x_law_web (H : Here K mg "_law_web" st_law_web) (hb : ∀ x ∈ bltN, mg x = none) (X_law_take : DefX P w K mg base 1 "_law_take" sp_law_take) (X_law_fee : DefX P w K mg base 2 "_law_fee" sp_law_fee) : DefX P w K mg base 3 "_law_web" sp_law_web :=
  defX_mk H hb bi_law_web sc_law_web ck_law_web (by unfold ir_law_web; repeat' (first | exact True.intro | exact X_law_take.up (by decide) | exact X_law_fee.up (by decide) | refine And.intro ?_ ?_)) (lnd_law_web) wp_law_web
theorem lnd_law_pick (ds post) (h : sp_law_pick ds post) : ds.length = pm_law_pick.length := by first | exact h.1.1 | (obtain ⟨rfl, _⟩ := h; rfl) | (obtain ⟨_, rfl, _⟩ := h; rfl) | (obtain ⟨_, _, rfl, _⟩ := h; rfl) | (obtain ⟨_, _, _, rfl, _⟩ := h; rfl) | (obtain ⟨_, _, _, _, rfl, _⟩ := h; rfl) | (obtain ⟨_, _, _, _, _, rfl, _⟩ := h; rfl) | (obtain ⟨_, _, _, _, _, _, rfl, _⟩ := h; rfl) | (obtain ⟨_, _, _, _, _, _, _, rfl, _⟩ := h; rfl) | (obtain ⟨_, _, _, _, _, _, _, _, rfl, _⟩ := h; rfl) | (obtain ⟨_, _, _, _, _, _, _, _, _, rfl, _⟩ := h; rfl) | (obtain ⟨_, _, _, _, _, _, _, _, _, _, rfl, _⟩ := h; rfl) | (obtain ⟨_, _, _, _, _, _, _, _, _, _, _, rfl, _⟩ := h; rfl)
theorem x_law_pick (H : Here K mg "_law_pick" st_law_pick) (hb : ∀ x ∈ bltN, mg x = none) (X_law_take : DefX P w K mg base 1 "_law_take" sp_law_take) : DefX P w K mg base 2 "_law_pick" sp_law_pick :=
  defX_mk H hb bi_law_pick sc_law_pick ck_law_pick (by unfold ir_law_pick; repeat' (first | exact True.intro | exact X_law_take.up (by decide) | refine And.intro ?_ ?_)) (lnd_law_pick) wp_law_pick
theorem lnd_law_web_text (ds post) (h : sp_law_web_text ds post) : ds.length = pm_law_web_text.length := by first | exact h.1.1 | (obtain ⟨rfl, _⟩ := h; rfl) | (obtain ⟨_, rfl, _⟩ := h; rfl) | (obtain ⟨_, _, rfl, _⟩ := h; rfl) | (obtain ⟨_, _, _, rfl, _⟩ := h; rfl) | (obtain ⟨_, _, _, _, rfl, _⟩ := h; rfl) | (obtain ⟨_, _, _, _, _, rfl, _⟩ := h; rfl) | (obtain ⟨_, _, _, _, _, _, rfl, _⟩ := h; rfl) | (obtain ⟨_, _, _, _, _, _, _, rfl, _⟩ := h; rfl) | (obtain ⟨_, _, _, _, _, _, _, _, rfl, _⟩ := h; rfl) | (obtain ⟨_, _, _, _, _, _, _, _, _, rfl, _⟩ := h; rfl) | (obtain ⟨_, _, _, _, _, _, _, _, _, _, rfl, _⟩ := h; rfl) | (obtain ⟨_, _, _, _, _, _, _, _, _, _, _, rfl, _⟩ := h; rfl)
theorem x_law_web_text (H : Here K mg "_law_web_text" st_law_web_text) (hb : ∀ x ∈ bltN, mg x = none) : DefX P w K mg base 1 "_law_web_text" sp_law_web_text :=
  defX_mk H hb bi_law_web_text sc_law_web_text ck_law_web_text (by unfold ir_law_web_text; repeat' (first | exact True.intro | refine And.intro ?_ ?_)) (lnd_law_web_text) wp_law_web_text
theorem lnd_show_web (ds post) (h : sp_show_web ds post) : ds.length = pm_show_web.length := by first | exact h.1.1 | (obtain ⟨rfl, _⟩ := h; rfl) | (obtain ⟨_, rfl, _⟩ := h; rfl) | (obtain ⟨_, _, rfl, _⟩ := h; rfl) | (obtain ⟨_, _, _, rfl, _⟩ := h; rfl) | (obtain ⟨_, _, _, _, rfl, _⟩ := h; rfl) | (obtain ⟨_, _, _, _, _, rfl, _⟩ := h; rfl) | (obtain ⟨_, _, _, _, _, _, rfl, _⟩ := h; rfl) | (obtain ⟨_, _, _, _, _, _, _, rfl, _⟩ := h; rfl) | (obtain ⟨_, _, _, _, _, _, _, _, rfl, _⟩ := h; rfl) | (obtain ⟨_, _, _, _, _, _, _, _, _, rfl, _⟩ := h; rfl) | (obtain ⟨_, _, _, _, _, _, _, _, _, _, rfl, _⟩ := h; rfl) | (obtain ⟨_, _, _, _, _, _, _, _, _, _, _, rfl, _⟩ := h; rfl)
theorem x_show_web (H : Here K mg "show_web" st_show_web) (hb : ∀ x ∈ bltN, mg x = none) : DefX P w K mg base 1 "show_web" sp_show_web :=
  defX_mk H hb bi_show_web sc_show_web ck_show_web (by unfold ir_show_web; repeat' (first | exact True.intro | refine And.intro ?_ ?_)) (lnd_show_web) wp_show_web
theorem lnd_want (ds post) (h : sp_want ds post) : ds.length = pm_want.length := by first | exact h.1.1 | (obtain ⟨rfl, _⟩ := h; rfl) | (obtain ⟨_, rfl, _⟩ := h; rfl) | (obtain ⟨_, _, rfl, _⟩ := h; rfl) | (obtain ⟨_, _, _, rfl, _⟩ := h; rfl) | (obtain ⟨_, _, _, _, rfl, _⟩ := h; rfl) | (obtain ⟨_, _, _, _, _, rfl, _⟩ := h; rfl) | (obtain ⟨_, _, _, _, _, _, rfl, _⟩ := h; rfl) | (obtain ⟨_, _, _, _, _, _, _, rfl, _⟩ := h; rfl) | (obtain ⟨_, _, _, _, _, _, _, _, rfl, _⟩ := h; rfl) | (obtain ⟨_, _, _, _, _, _, _, _, _, rfl, _⟩ := h; rfl) | (obtain ⟨_, _, _, _, _, _, _, _, _, _, rfl, _⟩ := h; rfl) | (obtain ⟨_, _, _, _, _, _, _, _, _, _, _, rfl, _⟩ := h; rfl)
theorem x_want (H : Here K mg "want" st_want) (hb : ∀ x ∈ bltN, mg x = none) : DefX P w K mg base 1 "want" sp_want :=
  defX_mk H hb bi_want sc_want ck_want (by unfold ir_want; repeat' (first | exact True.intro | refine And.intro ?_ ?_)) (lnd_want) wp_want
theorem lnd_count_in (ds post) (h : sp_count_in ds post) : ds.length = pm_count_in.length := by first | exact h.1.1 | (obtain ⟨rfl, _⟩ := h; rfl) | (obtain ⟨_, rfl, _⟩ := h; rfl) | (obtain ⟨_, _, rfl, _⟩ := h; rfl) | (obtain ⟨_, _, _, rfl, _⟩ := h; rfl) | (obtain ⟨_, _, _, _, rfl, _⟩ := h; rfl) | (obtain ⟨_, _, _, _, _, rfl, _⟩ := h; rfl) | (obtain ⟨_, _, _, _, _, _, rfl, _⟩ := h; rfl) | (obtain ⟨_, _, _, _, _, _, _, rfl, _⟩ := h; rfl) | (obtain ⟨_, _, _, _, _, _, _, _, rfl, _⟩ := h; rfl) | (obtain ⟨_, _, _, _, _, _, _, _, _, rfl, _⟩ := h; rfl) | (obtain ⟨_, _, _, _, _, _, _, _, _, _, rfl, _⟩ := h; rfl) | (obtain ⟨_, _, _, _, _, _, _, _, _, _, _, rfl, _⟩ := h; rfl)
theorem x_count_in (H : Here K mg "count_in" st_count_in) (hb : ∀ x ∈ bltN, mg x = none) (G_FIGURES : GlbK K mg "FIGURES" g_FIGURES) (G_MOST_FIGURES : GlbK K mg "MOST_FIGURES" g_MOST_FIGURES) (X_want : DefX P w K mg base 1 "want" sp_want) : DefX P w K mg base 2 "count_in" sp_count_in :=
  defX_mk H hb bi_count_in sc_count_in ck_count_in (by unfold ir_count_in; repeat' (first | exact True.intro | exact G_FIGURES | exact G_MOST_FIGURES | exact X_want.up (by decide) | refine And.intro ?_ ?_)) (lnd_count_in) wp_count_in
theorem lnd_are_rising (ds post) (h : sp_are_rising ds post) : ds.length = pm_are_rising.length := by first | exact h.1.1 | (obtain ⟨rfl, _⟩ := h; rfl) | (obtain ⟨_, rfl, _⟩ := h; rfl) | (obtain ⟨_, _, rfl, _⟩ := h; rfl) | (obtain ⟨_, _, _, rfl, _⟩ := h; rfl) | (obtain ⟨_, _, _, _, rfl, _⟩ := h; rfl) | (obtain ⟨_, _, _, _, _, rfl, _⟩ := h; rfl) | (obtain ⟨_, _, _, _, _, _, rfl, _⟩ := h; rfl) | (obtain ⟨_, _, _, _, _, _, _, rfl, _⟩ := h; rfl) | (obtain ⟨_, _, _, _, _, _, _, _, rfl, _⟩ := h; rfl) | (obtain ⟨_, _, _, _, _, _, _, _, _, rfl, _⟩ := h; rfl) | (obtain ⟨_, _, _, _, _, _, _, _, _, _, rfl, _⟩ := h; rfl) | (obtain ⟨_, _, _, _, _, _, _, _, _, _, _, rfl, _⟩ := h; rfl)
theorem x_are_rising (H : Here K mg "are_rising" st_are_rising) (hb : ∀ x ∈ bltN, mg x = none) : DefX P w K mg base 1 "are_rising" sp_are_rising :=
  defX_mk H hb bi_are_rising sc_are_rising ck_are_rising (by unfold ir_are_rising; repeat' (first | exact True.intro | refine And.intro ?_ ?_)) (lnd_are_rising) wp_are_rising
theorem lnd_is_whole (ds post) (h : sp_is_whole ds post) : ds.length = pm_is_whole.length := by first | exact h.1.1 | (obtain ⟨rfl, _⟩ := h; rfl) | (obtain ⟨_, rfl, _⟩ := h; rfl) | (obtain ⟨_, _, rfl, _⟩ := h; rfl) | (obtain ⟨_, _, _, rfl, _⟩ := h; rfl) | (obtain ⟨_, _, _, _, rfl, _⟩ := h; rfl) | (obtain ⟨_, _, _, _, _, rfl, _⟩ := h; rfl) | (obtain ⟨_, _, _, _, _, _, rfl, _⟩ := h; rfl) | (obtain ⟨_, _, _, _, _, _, _, rfl, _⟩ := h; rfl) | (obtain ⟨_, _, _, _, _, _, _, _, rfl, _⟩ := h; rfl) | (obtain ⟨_, _, _, _, _, _, _, _, _, rfl, _⟩ := h; rfl) | (obtain ⟨_, _, _, _, _, _, _, _, _, _, rfl, _⟩ := h; rfl) | (obtain ⟨_, _, _, _, _, _, _, _, _, _, _, rfl, _⟩ := h; rfl)
theorem x_is_whole (H : Here K mg "is_whole" st_is_whole) (hb : ∀ x ∈ bltN, mg x = none) : DefX P w K mg base 1 "is_whole" sp_is_whole :=
  defX_mk H hb bi_is_whole sc_is_whole ck_is_whole (by unfold ir_is_whole; repeat' (first | exact True.intro | refine And.intro ?_ ?_)) (lnd_is_whole) wp_is_whole
theorem lnd_is_tie (ds post) (h : sp_is_tie ds post) : ds.length = pm_is_tie.length := by first | exact h.1.1 | (obtain ⟨rfl, _⟩ := h; rfl) | (obtain ⟨_, rfl, _⟩ := h; rfl) | (obtain ⟨_, _, rfl, _⟩ := h; rfl) | (obtain ⟨_, _, _, rfl, _⟩ := h; rfl) | (obtain ⟨_, _, _, _, rfl, _⟩ := h; rfl) | (obtain ⟨_, _, _, _, _, rfl, _⟩ := h; rfl) | (obtain ⟨_, _, _, _, _, _, rfl, _⟩ := h; rfl) | (obtain ⟨_, _, _, _, _, _, _, rfl, _⟩ := h; rfl) | (obtain ⟨_, _, _, _, _, _, _, _, rfl, _⟩ := h; rfl) | (obtain ⟨_, _, _, _, _, _, _, _, _, rfl, _⟩ := h; rfl) | (obtain ⟨_, _, _, _, _, _, _, _, _, _, rfl, _⟩ := h; rfl) | (obtain ⟨_, _, _, _, _, _, _, _, _, _, _, rfl, _⟩ := h; rfl)
theorem x_is_tie (H : Here K mg "is_tie" st_is_tie) (hb : ∀ x ∈ bltN, mg x = none) (G_MOST_COST : GlbK K mg "MOST_COST" g_MOST_COST) (X_is_whole : DefX P w K mg base 1 "is_whole" sp_is_whole) : DefX P w K mg base 2 "is_tie" sp_is_tie :=
  defX_mk H hb bi_is_tie sc_is_tie ck_is_tie (by unfold ir_is_tie; repeat' (first | exact True.intro | exact G_MOST_COST | exact X_is_whole.up (by decide) | refine And.intro ?_ ?_)) (lnd_is_tie) wp_is_tie
theorem lnd_is_web (ds post) (h : sp_is_web ds post) : ds.length = pm_is_web.length := by first | exact h.1.1 | (obtain ⟨rfl, _⟩ := h; rfl) | (obtain ⟨_, rfl, _⟩ := h; rfl) | (obtain ⟨_, _, rfl, _⟩ := h; rfl) | (obtain ⟨_, _, _, rfl, _⟩ := h; rfl) | (obtain ⟨_, _, _, _, rfl, _⟩ := h; rfl) | (obtain ⟨_, _, _, _, _, rfl, _⟩ := h; rfl) | (obtain ⟨_, _, _, _, _, _, rfl, _⟩ := h; rfl) | (obtain ⟨_, _, _, _, _, _, _, rfl, _⟩ := h; rfl) | (obtain ⟨_, _, _, _, _, _, _, _, rfl, _⟩ := h; rfl) | (obtain ⟨_, _, _, _, _, _, _, _, _, rfl, _⟩ := h; rfl) | (obtain ⟨_, _, _, _, _, _, _, _, _, _, rfl, _⟩ := h; rfl) | (obtain ⟨_, _, _, _, _, _, _, _, _, _, _, rfl, _⟩ := h; rfl)
theorem x_is_web (H : Here K mg "is_web" st_is_web) (hb : ∀ x ∈ bltN, mg x = none) (G_MOST_PLACES : GlbK K mg "MOST_PLACES" g_MOST_PLACES) (X_are_rising : DefX P w K mg base 1 "are_rising" sp_are_rising) (X_is_whole : DefX P w K mg base 1 "is_whole" sp_is_whole) (X_is_tie : DefX P w K mg base 2 "is_tie" sp_is_tie) : DefX P w K mg base 3 "is_web" sp_is_web :=
  defX_mk H hb bi_is_web sc_is_web ck_is_web (by unfold ir_is_web; repeat' (first | exact True.intro | exact G_MOST_PLACES | exact X_are_rising.up (by decide) | exact X_is_whole.up (by decide) | exact X_is_tie.up (by decide) | refine And.intro ?_ ?_)) (lnd_is_web) wp_is_web
theorem lnd_place_in (ds post) (h : sp_place_in ds post) : ds.length = pm_place_in.length := by first | exact h.1.1 | (obtain ⟨rfl, _⟩ := h; rfl) | (obtain ⟨_, rfl, _⟩ := h; rfl) | (obtain ⟨_, _, rfl, _⟩ := h; rfl) | (obtain ⟨_, _, _, rfl, _⟩ := h; rfl) | (obtain ⟨_, _, _, _, rfl, _⟩ := h; rfl) | (obtain ⟨_, _, _, _, _, rfl, _⟩ := h; rfl) | (obtain ⟨_, _, _, _, _, _, rfl, _⟩ := h; rfl) | (obtain ⟨_, _, _, _, _, _, _, rfl, _⟩ := h; rfl) | (obtain ⟨_, _, _, _, _, _, _, _, rfl, _⟩ := h; rfl) | (obtain ⟨_, _, _, _, _, _, _, _, _, rfl, _⟩ := h; rfl) | (obtain ⟨_, _, _, _, _, _, _, _, _, _, rfl, _⟩ := h; rfl) | (obtain ⟨_, _, _, _, _, _, _, _, _, _, _, rfl, _⟩ := h; rfl)
theorem x_place_in (H : Here K mg "place_in" st_place_in) (hb : ∀ x ∈ bltN, mg x = none) (G_MOST_PLACES : GlbK K mg "MOST_PLACES" g_MOST_PLACES) (X_count_in : DefX P w K mg base 2 "count_in" sp_count_in) (X_want : DefX P w K mg base 1 "want" sp_want) : DefX P w K mg base 3 "place_in" sp_place_in :=
  defX_mk H hb bi_place_in sc_place_in ck_place_in (by unfold ir_place_in; repeat' (first | exact True.intro | exact G_MOST_PLACES | exact X_count_in.up (by decide) | exact X_want.up (by decide) | refine And.intro ?_ ?_)) (lnd_place_in) wp_place_in
theorem lnd_ends_in (ds post) (h : sp_ends_in ds post) : ds.length = pm_ends_in.length := by first | exact h.1.1 | (obtain ⟨rfl, _⟩ := h; rfl) | (obtain ⟨_, rfl, _⟩ := h; rfl) | (obtain ⟨_, _, rfl, _⟩ := h; rfl) | (obtain ⟨_, _, _, rfl, _⟩ := h; rfl) | (obtain ⟨_, _, _, _, rfl, _⟩ := h; rfl) | (obtain ⟨_, _, _, _, _, rfl, _⟩ := h; rfl) | (obtain ⟨_, _, _, _, _, _, rfl, _⟩ := h; rfl) | (obtain ⟨_, _, _, _, _, _, _, rfl, _⟩ := h; rfl) | (obtain ⟨_, _, _, _, _, _, _, _, rfl, _⟩ := h; rfl) | (obtain ⟨_, _, _, _, _, _, _, _, _, rfl, _⟩ := h; rfl) | (obtain ⟨_, _, _, _, _, _, _, _, _, _, rfl, _⟩ := h; rfl) | (obtain ⟨_, _, _, _, _, _, _, _, _, _, _, rfl, _⟩ := h; rfl)
theorem x_ends_in (H : Here K mg "ends_in" st_ends_in) (hb : ∀ x ∈ bltN, mg x = none) (X_want : DefX P w K mg base 1 "want" sp_want) (X_place_in : DefX P w K mg base 3 "place_in" sp_place_in) : DefX P w K mg base 4 "ends_in" sp_ends_in :=
  defX_mk H hb bi_ends_in sc_ends_in ck_ends_in (by unfold ir_ends_in; repeat' (first | exact True.intro | exact X_want.up (by decide) | exact X_place_in.up (by decide) | refine And.intro ?_ ?_)) (lnd_ends_in) wp_ends_in
theorem lnd_tie_in (ds post) (h : sp_tie_in ds post) : ds.length = pm_tie_in.length := by first | exact h.1.1 | (obtain ⟨rfl, _⟩ := h; rfl) | (obtain ⟨_, rfl, _⟩ := h; rfl) | (obtain ⟨_, _, rfl, _⟩ := h; rfl) | (obtain ⟨_, _, _, rfl, _⟩ := h; rfl) | (obtain ⟨_, _, _, _, rfl, _⟩ := h; rfl) | (obtain ⟨_, _, _, _, _, rfl, _⟩ := h; rfl) | (obtain ⟨_, _, _, _, _, _, rfl, _⟩ := h; rfl) | (obtain ⟨_, _, _, _, _, _, _, rfl, _⟩ := h; rfl) | (obtain ⟨_, _, _, _, _, _, _, _, rfl, _⟩ := h; rfl) | (obtain ⟨_, _, _, _, _, _, _, _, _, rfl, _⟩ := h; rfl) | (obtain ⟨_, _, _, _, _, _, _, _, _, _, rfl, _⟩ := h; rfl) | (obtain ⟨_, _, _, _, _, _, _, _, _, _, _, rfl, _⟩ := h; rfl)
theorem x_tie_in (H : Here K mg "tie_in" st_tie_in) (hb : ∀ x ∈ bltN, mg x = none) (X_want : DefX P w K mg base 1 "want" sp_want) (X_ends_in : DefX P w K mg base 4 "ends_in" sp_ends_in) (X_count_in : DefX P w K mg base 2 "count_in" sp_count_in) : DefX P w K mg base 5 "tie_in" sp_tie_in :=
  defX_mk H hb bi_tie_in sc_tie_in ck_tie_in (by unfold ir_tie_in; repeat' (first | exact True.intro | exact X_want.up (by decide) | exact X_ends_in.up (by decide) | exact X_count_in.up (by decide) | refine And.intro ?_ ?_)) (lnd_tie_in) wp_tie_in
theorem lnd_read_web (ds post) (h : sp_read_web ds post) : ds.length = pm_read_web.length := by first | exact h.1.1 | (obtain ⟨rfl, _⟩ := h; rfl) | (obtain ⟨_, rfl, _⟩ := h; rfl) | (obtain ⟨_, _, rfl, _⟩ := h; rfl) | (obtain ⟨_, _, _, rfl, _⟩ := h; rfl) | (obtain ⟨_, _, _, _, rfl, _⟩ := h; rfl) | (obtain ⟨_, _, _, _, _, rfl, _⟩ := h; rfl) | (obtain ⟨_, _, _, _, _, _, rfl, _⟩ := h; rfl) | (obtain ⟨_, _, _, _, _, _, _, rfl, _⟩ := h; rfl) | (obtain ⟨_, _, _, _, _, _, _, _, rfl, _⟩ := h; rfl) | (obtain ⟨_, _, _, _, _, _, _, _, _, rfl, _⟩ := h; rfl) | (obtain ⟨_, _, _, _, _, _, _, _, _, _, rfl, _⟩ := h; rfl) | (obtain ⟨_, _, _, _, _, _, _, _, _, _, _, rfl, _⟩ := h; rfl)
theorem x_read_web (H : Here K mg "read_web" st_read_web) (hb : ∀ x ∈ bltN, mg x = none) (X_want : DefX P w K mg base 1 "want" sp_want) (X_count_in : DefX P w K mg base 2 "count_in" sp_count_in) (X_is_web : DefX P w K mg base 3 "is_web" sp_is_web) (X_tie_in : DefX P w K mg base 5 "tie_in" sp_tie_in) : DefX P w K mg base 6 "read_web" sp_read_web :=
  defX_mk H hb bi_read_web sc_read_web ck_read_web (by unfold ir_read_web; repeat' (first | exact True.intro | exact X_want.up (by decide) | exact X_count_in.up (by decide) | exact X_is_web.up (by decide) | exact X_tie_in.up (by decide) | refine And.intro ?_ ?_)) (lnd_read_web) wp_read_web
theorem lnd_law_right (ds post) (h : sp_law_right ds post) : ds.length = pm_law_right.length := by first | exact h.1.1 | (obtain ⟨rfl, _⟩ := h; rfl) | (obtain ⟨_, rfl, _⟩ := h; rfl) | (obtain ⟨_, _, rfl, _⟩ := h; rfl) | (obtain ⟨_, _, _, rfl, _⟩ := h; rfl) | (obtain ⟨_, _, _, _, rfl, _⟩ := h; rfl) | (obtain ⟨_, _, _, _, _, rfl, _⟩ := h; rfl) | (obtain ⟨_, _, _, _, _, _, rfl, _⟩ := h; rfl) | (obtain ⟨_, _, _, _, _, _, _, rfl, _⟩ := h; rfl) | (obtain ⟨_, _, _, _, _, _, _, _, rfl, _⟩ := h; rfl) | (obtain ⟨_, _, _, _, _, _, _, _, _, rfl, _⟩ := h; rfl) | (obtain ⟨_, _, _, _, _, _, _, _, _, _, rfl, _⟩ := h; rfl) | (obtain ⟨_, _, _, _, _, _, _, _, _, _, _, rfl, _⟩ := h; rfl)
theorem x_law_right (H : Here K mg "_law_right" st_law_right) (hb : ∀ x ∈ bltN, mg x = none) (X_law_web_text : DefX P w K mg base 1 "_law_web_text" sp_law_web_text) (X_show_web : DefX P w K mg base 1 "show_web" sp_show_web) (X_read_web : DefX P w K mg base 6 "read_web" sp_read_web) : DefX P w K mg base 7 "_law_right" sp_law_right :=
  defX_mk H hb bi_law_right sc_law_right ck_law_right (by unfold ir_law_right; repeat' (first | exact True.intro | exact X_law_web_text.up (by decide) | exact X_show_web.up (by decide) | exact X_read_web.up (by decide) | refine And.intro ?_ ?_)) (lnd_law_right) wp_law_right
end
theorem all_mk {l : PySem.W.OpenLaw} {w : World} {K : PySem.W.Frag} {mg : Str → Option Value} {fa : Addr} (hfa : mg "law" = some (.ref fa)) (hb : ∀ x ∈ bltN, mg x = none)
    (H_law_hand : Here K mg "_law_hand" st_law_hand)
    (H_law_take : Here K mg "_law_take" st_law_take)
    (H_law_fee : Here K mg "_law_fee" st_law_fee)
    (H_law_web : Here K mg "_law_web" st_law_web)
    (H_law_pick : Here K mg "_law_pick" st_law_pick)
    (H_law_web_text : Here K mg "_law_web_text" st_law_web_text)
    (H_show_web : Here K mg "show_web" st_show_web)
    (H_want : Here K mg "want" st_want)
    (H_count_in : Here K mg "count_in" st_count_in)
    (H_are_rising : Here K mg "are_rising" st_are_rising)
    (H_is_whole : Here K mg "is_whole" st_is_whole)
    (H_is_tie : Here K mg "is_tie" st_is_tie)
    (H_is_web : Here K mg "is_web" st_is_web)
    (H_place_in : Here K mg "place_in" st_place_in)
    (H_ends_in : Here K mg "ends_in" st_ends_in)
    (H_tie_in : Here K mg "tie_in" st_tie_in)
    (H_read_web : Here K mg "read_web" st_read_web)
    (H_law_right : Here K mg "_law_right" st_law_right)
    (H_law : Here K mg "law" st_law)
    (G_FIGURES : GlbK K mg "FIGURES" g_FIGURES)
    (G_MOST_COST : GlbK K mg "MOST_COST" g_MOST_COST)
    (G_MOST_FIGURES : GlbK K mg "MOST_FIGURES" g_MOST_FIGURES)
    (G_MOST_PLACES : GlbK K mg "MOST_PLACES" g_MOST_PLACES)
    : ∃ fd : FuncData, (∀ (s : Shared) (u : Value), BindsTo s fd ⟨[u], []⟩ [("_law_script", u)]) ∧ ∀ base : Heap, K.In base → base.Ns mainGlobals mg → FnG l.prog w K mg base 8 fa fd ["_law_script"] sp_law := by
  have hH := H_law
  obtain ⟨f, fd, hm, F⟩ := H_law
  have e := hfa.symm.trans hm
  cases e
  have kb := F.binds bi_law
  obtain ⟨oc, od, kV, doc, pm, an, cdv, ct, osl, e, lk, hcd⟩ := F.ex
  refine ⟨fd, fun s u => ?_, fun base _ _ => ?_⟩
  · subst e; exact .of_eq rfl
  · refine fnG_ir (k := 7) F sc_law hb ck_law ?_ wp_law
    have X_law_hand := x_law_hand (P := l.prog) (w := w) (base := base) H_law_hand hb
    have X_law_take := x_law_take (P := l.prog) (w := w) (base := base) H_law_take hb
    have X_law_fee := x_law_fee (P := l.prog) (w := w) (base := base) H_law_fee hb X_law_take
    have X_law_web := x_law_web (P := l.prog) (w := w) (base := base) H_law_web hb X_law_take X_law_fee
    have X_law_pick := x_law_pick (P := l.prog) (w := w) (base := base) H_law_pick hb X_law_take
    have X_law_web_text := x_law_web_text (P := l.prog) (w := w) (base := base) H_law_web_text hb
    have X_show_web := x_show_web (P := l.prog) (w := w) (base := base) H_show_web hb
    have X_want := x_want (P := l.prog) (w := w) (base := base) H_want hb
    have X_count_in := x_count_in (P := l.prog) (w := w) (base := base) H_count_in hb G_FIGURES G_MOST_FIGURES X_want
    have X_are_rising := x_are_rising (P := l.prog) (w := w) (base := base) H_are_rising hb
    have X_is_whole := x_is_whole (P := l.prog) (w := w) (base := base) H_is_whole hb
    have X_is_tie := x_is_tie (P := l.prog) (w := w) (base := base) H_is_tie hb G_MOST_COST X_is_whole
    have X_is_web := x_is_web (P := l.prog) (w := w) (base := base) H_is_web hb G_MOST_PLACES X_are_rising X_is_whole X_is_tie
    have X_place_in := x_place_in (P := l.prog) (w := w) (base := base) H_place_in hb G_MOST_PLACES X_count_in X_want
    have X_ends_in := x_ends_in (P := l.prog) (w := w) (base := base) H_ends_in hb X_want X_place_in
    have X_tie_in := x_tie_in (P := l.prog) (w := w) (base := base) H_tie_in hb X_want X_ends_in X_count_in
    have X_read_web := x_read_web (P := l.prog) (w := w) (base := base) H_read_web hb X_want X_count_in X_is_web X_tie_in
    have X_law_right := x_law_right (P := l.prog) (w := w) (base := base) H_law_right hb X_law_web_text X_show_web X_read_web
    unfold ir_law; repeat' (first | exact True.intro | exact X_law_hand.up (by decide) | exact X_law_web.up (by decide) | exact X_law_pick.up (by decide) | exact X_law_right.up (by decide) | refine And.intro ?_ ?_)
theorem blt_mk {K : PySem.W.Frag} {h : Heap} {mg : Str → Option Value} (X : K.In h) (G : h.Ns mainGlobals mg) (z0 : PySem.W.nsIn K mainGlobals "len" = some none) (z1 : PySem.W.nsIn K mainGlobals "abs" = some none) (z2 : PySem.W.nsIn K mainGlobals "int" = some none) (z3 : PySem.W.nsIn K mainGlobals "min" = some none) (z4 : PySem.W.nsIn K mainGlobals "max" = some none) (z5 : PySem.W.nsIn K mainGlobals "tuple" = some none) (z6 : PySem.W.nsIn K mainGlobals "list" = some none) (z7 : PySem.W.nsIn K mainGlobals "sorted" = some none) (z8 : PySem.W.nsIn K mainGlobals "all" = some none) (z9 : PySem.W.nsIn K mainGlobals "any" = some none) (z10 : PySem.W.nsIn K mainGlobals "sum" = some none) (z11 : PySem.W.nsIn K mainGlobals "repr" = some none) (z12 : PySem.W.nsIn K mainGlobals "isinstance" = some none) (z13 : PySem.W.nsIn K mainGlobals "range" = some none) (z14 : PySem.W.nsIn K mainGlobals "enumerate" = some none) (z15 : PySem.W.nsIn K mainGlobals "zip" = some none) (z16 : PySem.W.nsIn K mainGlobals "bool" = some none) (z17 : PySem.W.nsIn K mainGlobals "str" = some none) (z18 : PySem.W.nsIn K mainGlobals "dict" = some none) (z19 : PySem.W.nsIn K mainGlobals "set" = some none) : ∀ x ∈ bltN, mg x = none := by
  intro x hx
  unfold bltN at hx
  simp only [List.mem_cons, List.not_mem_nil, or_false] at hx
  rcases hx with rfl | rfl | rfl | rfl | rfl | rfl | rfl | rfl | rfl | rfl | rfl | rfl | rfl | rfl | rfl | rfl | rfl | rfl | rfl | rfl
  · exact PySem.W.mg_none_of X G z0
  · exact PySem.W.mg_none_of X G z1
  · exact PySem.W.mg_none_of X G z2
  · exact PySem.W.mg_none_of X G z3
  · exact PySem.W.mg_none_of X G z4
  · exact PySem.W.mg_none_of X G z5
  · exact PySem.W.mg_none_of X G z6
  · exact PySem.W.mg_none_of X G z7
  · exact PySem.W.mg_none_of X G z8
  · exact PySem.W.mg_none_of X G z9
  · exact PySem.W.mg_none_of X G z10
  · exact PySem.W.mg_none_of X G z11
  · exact PySem.W.mg_none_of X G z12
  · exact PySem.W.mg_none_of X G z13
  · exact PySem.W.mg_none_of X G z14
  · exact PySem.W.mg_none_of X G z15
  · exact PySem.W.mg_none_of X G z16
  · exact PySem.W.mg_none_of X G z17
  · exact PySem.W.mg_none_of X G z18
  · exact PySem.W.mg_none_of X G z19
end DL
open PySem PySem.W PyProof.Rows
set_option maxHeartbeats 0 in
theorem PySem.Challenge.cw_ringcover_k66_webs_written_holds : PySem.Challenge.rw_ringcover_k66_webs_written.Holds := by
  w_on; o_law; k_head; (case hw => w_witness2)
  k_fill
  refine DL.walk_g (l := PySem.Challenge.rw_ringcover_k66_webs_written) (n := 63) (k := 8) (x := "_law_script") (sp := DL.sp_law) rfl (by decide) rfl ⟨rfl, by decide, by decide⟩ (fun w h Y => PySem.W.kIn_of Y) ?F (fun ns hl hb => ?_)
  case F =>
    intro w mg fa h KX G hmg
    refine' DL.all_mk hmg (DL.blt_mk KX G ?z0 ?z1 ?z2 ?z3 ?z4 ?z5 ?z6 ?z7 ?z8 ?z9 ?z10 ?z11 ?z12 ?z13 ?z14 ?z15 ?z16 ?z17 ?z18 ?z19) (DL.here_mk KX G ?a0 ?l0 ?c0 ?k0) (DL.here_mk KX G ?a1 ?l1 ?c1 ?k1) (DL.here_mk KX G ?a2 ?l2 ?c2 ?k2) (DL.here_mk KX G ?a3 ?l3 ?c3 ?k3) (DL.here_mk KX G ?a4 ?l4 ?c4 ?k4) (DL.here_mk KX G ?a5 ?l5 ?c5 ?k5) (DL.here_mk KX G ?a6 ?l6 ?c6 ?k6) (DL.here_mk KX G ?a7 ?l7 ?c7 ?k7) (DL.here_mk KX G ?a8 ?l8 ?c8 ?k8) (DL.here_mk KX G ?a9 ?l9 ?c9 ?k9) (DL.here_mk KX G ?a10 ?l10 ?c10 ?k10) (DL.here_mk KX G ?a11 ?l11 ?c11 ?k11) (DL.here_mk KX G ?a12 ?l12 ?c12 ?k12) (DL.here_mk KX G ?a13 ?l13 ?c13 ?k13) (DL.here_mk KX G ?a14 ?l14 ?c14 ?k14) (DL.here_mk KX G ?a15 ?l15 ?c15 ?k15) (DL.here_mk KX G ?a16 ?l16 ?c16 ?k16) (DL.here_mk KX G ?a17 ?l17 ?c17 ?k17) (DL.here_mk KX G ?a18 ?l18 ?c18 ?k18) (DL.glb_str KX G ?glb0) (DL.glb_int KX G ?glb1) (DL.glb_int KX G ?glb2) (DL.glb_int KX G ?glb3)
    (case z0 => k_is); (case z1 => k_is); (case z2 => k_is); (case z3 => k_is); (case z4 => k_is); (case z5 => k_is); (case z6 => k_is); (case z7 => k_is); (case z8 => k_is); (case z9 => k_is); (case z10 => k_is); (case z11 => k_is); (case z12 => k_is); (case z13 => k_is); (case z14 => k_is); (case z15 => k_is); (case z16 => k_is); (case z17 => k_is); (case z18 => k_is); (case z19 => k_is)
    (case a0 => k_is); (case l0 => k_is); (case c0 => k_is); (case k0 => k_is)
    (case a1 => k_is); (case l1 => k_is); (case c1 => k_is); (case k1 => k_is)
    (case a2 => k_is); (case l2 => k_is); (case c2 => k_is); (case k2 => k_is)
    (case a3 => k_is); (case l3 => k_is); (case c3 => k_is); (case k3 => k_is)
    (case a4 => k_is); (case l4 => k_is); (case c4 => k_is); (case k4 => k_is)
    (case a5 => k_is); (case l5 => k_is); (case c5 => k_is); (case k5 => k_is)
    (case a6 => k_is); (case l6 => k_is); (case c6 => k_is); (case k6 => k_is)
    (case a7 => k_is); (case l7 => k_is); (case c7 => k_is); (case k7 => k_is)
    (case a8 => k_is); (case l8 => k_is); (case c8 => k_is); (case k8 => k_is)
    (case a9 => k_is); (case l9 => k_is); (case c9 => k_is); (case k9 => k_is)
    (case a10 => k_is); (case l10 => k_is); (case c10 => k_is); (case k10 => k_is)
    (case a11 => k_is); (case l11 => k_is); (case c11 => k_is); (case k11 => k_is)
    (case a12 => k_is); (case l12 => k_is); (case c12 => k_is); (case k12 => k_is)
    (case a13 => k_is); (case l13 => k_is); (case c13 => k_is); (case k13 => k_is)
    (case a14 => k_is); (case l14 => k_is); (case c14 => k_is); (case k14 => k_is)
    (case a15 => k_is); (case l15 => k_is); (case c15 => k_is); (case k15 => k_is)
    (case a16 => k_is); (case l16 => k_is); (case c16 => k_is); (case k16 => k_is)
    (case a17 => k_is); (case l17 => k_is); (case c17 => k_is); (case k17 => k_is)
    (case a18 => k_is); (case l18 => k_is); (case c18 => k_is); (case k18 => k_is)
    (case glb0 => k_is)
    (case glb1 => k_is)
    (case glb2 => k_is)
    (case glb3 => k_is)
  exact DL.keeps_law ns hl hb
