import PyProof.Rows.All
import Wide.All
import OpenK.AllK
import Wide.FinOn
import HandS.ForExc
import HandS.ForMost
import HandS.IsInst
import HandS.ExcIs
import HandS.TupAny
import HandS.SortKw
import HandS.Conv
import HandS.Style
import HandS.Wide
import HandS.Codes
import HandS.CallLocal
import HandS.SortInts
import HandS.More
import PySem.Challenge.RW_sortforge_k09_whole_made_ones
set_option Elab.async false
set_option linter.all false
set_option maxRecDepth 100000
set_option maxHeartbeats 8000000
set_option maxHeartbeats 4000000
/-! max(list of ints, default=int): the library's walk carried over to the call that bears a default. -/
namespace SF
open PySem PySem.Spec PyProof.Rows L2
open Sem (wp)
abbrev dKw (d : Value) : List (Str × Value) := [(Str.ofString "default", d)]
theorem maxArgs (a d : Value) : argsOk "max" ⟨[a], dKw d⟩ := by unfold argsOk; kernel_rfl
theorem maxBind (d : Value) : Builtin.Builtins.bindParams "max" ["key", "default"] 0 ⟨[], dKw d⟩ = pure [none, some d] := by rfl
section
variable {prog : Program} {w : World} {A : Around} {R : Result → Shared → Prop} {It : Addr} {fp wr : List Addr} {n : Nat} {P : Nat → Value → Prop} {St : Nat → Heap → Prop}
theorem maxName : (toString "max" ++ toString ".loop" : String) = "max.loop" := by decide
/-- some items have gone by -/
theorem maxGo (W : Walks prog w A.in1 It fp wr n P St) (bt : Nat → Nat → Bool) (cmp : CmpOf prog w A.in1 .Gt P bt) (S : Addr) (d : Value) (nf : S ∉ fp) :
    ∀ (k j : Nat) (s : Shared) (top : Value) (c : Nat), n - (j + 1) = k → j + 1 ≤ n → St (j + 1) s.heap → P (argBest bt j) top →
      s.heap.get? S = some { cls := .type "list", dict := none, data := .seq #[top, top] c, slots := #[] } →
      (∀ v h' tk, P (argBest bt (n - 1)) v → (∀ b o, b ∉ wr → b ≠ S → s.heap.get? b = some o → h'.get? b = some o) → R (.ok (.ret v)) { s with heap := h', toks := tk }) →
      codeAny (model prog w) A (.builtin "max.loop" ⟨[.ref It, .none, .ref S], dKw d⟩) R s := by
  have nw : S ∉ wr := fun q => nf (W.sub _ q)
  intro k
  induction k with
  | zero =>
    intro j s top c hk hj st pt oS fin
    have last : j + 1 = n := by omega
    refine codeAny_builtin F.entry_max_loop ?_
    rw [Around.under_plainId F.plain_max_loop _]
    show wpAny _ A.in1 (seqItems? (.ref S) >>= _) _ _ s
    refine wpAny_bind (wpAny_seqItems oS rfl ?_)
    show wpAny _ A.in1 (tryCatch (pyNext (.ref It)) _ >>= _) _ _ s
    refine wpAny_bind (wpAny_tryCatch (W.done s _ _ (last ▸ st) fun h' tk keep => ?_))
    have oS' := keep S _ nw oS
    show wpAny _ A.in1 (updateSeq S (fun _ => #[]) >>= _) _ _ _
    refine wpAny_bind ?_
    refine wpAny_updateSeq oS' rfl (wpAny_bind (wpAny_letGo (wpAny_pure ?_)))
    exact fin top _ tk (by rw [← last]; exact pt) fun b o b1 b2 e => (Heap.get?_update_other _ _ (Ne.symm b2)).trans (keep b o b1 e)
  | succ k ih =>
    intro j s top c hk hj st pt oS fin
    have more : j + 1 < n := by omega
    refine codeAny_builtin F.entry_max_loop ?_
    rw [Around.under_plainId F.plain_max_loop _]
    show wpAny _ A.in1 (seqItems? (.ref S) >>= _) _ _ s
    refine wpAny_bind (wpAny_seqItems oS rfl ?_)
    show wpAny _ A.in1 (tryCatch (pyNext (.ref It)) _ >>= _) _ _ s
    refine wpAny_bind (wpAny_tryCatch (W.item (j + 1) s _ _ more st fun v h' tk pv st' keep => ?_))
    have oS' := keep S _ nw oS
    show wpAny _ A.in1 (tryCatch (holding [v, v] (richCompare .Gt v top >>= _)) _ >>= _) _ _ _
    refine wpAny_bind (wpAny_tryCatch (wpAny_holding (wpAny_bind (cmp (j + 1) (argBest bt j) v top _ _ _ pv pt ?_))))
    refine wpAny_bind (wpAny_holding (wpAny_truthy_bool ?_))
    refine wpAny_bind (wpAny_letGo (wpAny_pure ?_))
    cases hb : bt (j + 1) (argBest bt j) with
    | true =>
      simp only [if_true]
      refine wpAny_bind ?_
      refine wpAny_updateSeq oS' rfl (wpAny_bind (wpAny_letGo ?_))
      rw [maxName]
      refine wpAny_pure ⟨plainId_quiet F.plain_max_loop _, ih (j + 1) _ v _ (by omega) more (W.frame _ _ _ st' fun b hbf o e => ?_) (by simp only [argBest, hb, if_true]; exact pv) (Heap.get?_update_self _ oS' rfl)
        fun v' h2 tk2 pv' keep2 => ?_⟩
      · exact (Heap.get?_update_other _ _ (fun q : S = b => nf (by rw [q]; exact hbf))).trans e
      · exact fin v' h2 tk2 pv' fun b o b1 b2 e => keep2 b o b1 b2 ((Heap.get?_update_other _ _ (Ne.symm b2)).trans (keep b o b1 e))
    | false =>
      simp only [Bool.false_eq_true, if_false]
      refine wpAny_bind (wpAny_letGo ?_)
      rw [maxName]
      refine wpAny_pure ⟨plainId_quiet F.plain_max_loop _, ih (j + 1) _ top c (by omega) more st' (by simp only [argBest, hb, Bool.false_eq_true, if_false]; exact pt) oS' fun v' h2 tk2 pv' keep2 => ?_⟩
      exact fin v' h2 tk2 pv' fun b o b1 b2 e => keep2 b o b1 b2 (keep b o b1 e)
/-- the first look: an item, or the default -/
theorem maxStart (W : Walks prog w A.in1 It fp wr n P St) (bt : Nat → Nat → Bool) (cmp : CmpOf prog w A.in1 .Gt P bt) (S : Addr) (d : Value) (nf : S ∉ fp) {s : Shared} {c : Nat} (st : St 0 s.heap)
    (oS : s.heap.get? S = some { cls := .type "list", dict := none, data := .seq #[] c, slots := #[] })
    (fin : ∀ v h' tk, (n = 0 ∧ v = d ∨ 0 < n ∧ P (argBest bt (n - 1)) v) → (∀ b o, b ∉ wr → b ≠ S → s.heap.get? b = some o → h'.get? b = some o) → R (.ok (.ret v)) { s with heap := h', toks := tk }) :
    codeAny (model prog w) A (.builtin "max.loop" ⟨[.ref It, .none, .ref S], dKw d⟩) R s := by
  have nw : S ∉ wr := fun q => nf (W.sub _ q)
  refine codeAny_builtin F.entry_max_loop ?_
  rw [Around.under_plainId F.plain_max_loop _]
  show wpAny _ A.in1 (seqItems? (.ref S) >>= _) _ _ s
  refine wpAny_bind (wpAny_seqItems oS rfl ?_)
  show wpAny _ A.in1 (tryCatch (pyNext (.ref It)) _ >>= _) _ _ s
  by_cases hn : 0 < n
  · refine wpAny_bind (wpAny_tryCatch (W.item 0 s _ _ hn st fun v h' tk pv st' keep => ?_))
    have oS' := keep S _ nw oS
    show wpAny _ A.in1 (updateSeq S (fun _ => #[v, v]) >>= _) _ _ _
    refine wpAny_bind ?_
    refine wpAny_updateSeq oS' rfl ?_
    rw [maxName]
    refine wpAny_pure ⟨plainId_quiet F.plain_max_loop _, maxGo W bt cmp S d nf _ 0 _ v _ rfl hn (W.frame _ _ _ st' fun b hbf o e => ?_) pv (Heap.get?_update_self _ oS' rfl) fun v' h2 tk2 pv' keep2 => ?_⟩
    · exact (Heap.get?_update_other _ _ (fun q : S = b => nf (by rw [q]; exact hbf))).trans e
    · exact fin v' h2 tk2 (.inr ⟨hn, pv'⟩) fun b o b1 b2 e => keep2 b o b1 b2 ((Heap.get?_update_other _ _ (Ne.symm b2)).trans (keep b o b1 e))
  · have e0 : n = 0 := by omega
    subst e0
    refine wpAny_bind (wpAny_tryCatch (W.done s _ _ st fun h' tk keep => ?_))
    show wpAny _ A.in1 (rule _ >>= _) _ _ _
    refine wpAny_bind (wpAny_rule ?_)
    exact wpAny_pure (fin d h' tk (.inl ⟨rfl, rfl⟩) fun b o b1 _ e => keep b o b1 e)
end
section
variable {prog : Program} {w : World} {A : Around} {E : Value → Shared → Prop} {s : Shared} {l : Addr} {xs : Array (Int × Tok)}
theorem max_def {d : Value} {Q : Value → Shared → Prop} (hh : A.handled = none) (hl : s.heap.IsList l (intItems xs))
    (fin : ∀ v h' tk, (xs.size = 0 ∧ v = d ∨ 0 < xs.size ∧ (intItems xs)[argBest (fun i j => decide (numAt xs i > numAt xs j)) (xs.size - 1)]? = some v) → (∀ b o, s.heap.get? b = some o → h'.get? b = some o) → Q v { s with heap := h', toks := tk }) :
    wpAny (model prog w) A (call (.builtin "max") [.ref l] (dKw d)) Q E s := by
  refine wpAny_call (codeAny_call_builtin F.plain_max F.entry_max ?_)
  have body : wpAny (model prog w) A.in1 (Builtin.«max» ⟨[.ref l], dKw d⟩) (fun f s' => match f with
      | .done g => (match (Except.ok g : Result) with | .ok (.ret v) => Q v s' | .ok _ => False | .error e => E e s')
      | .again c' => c'.quiet = true ∧ codeAny (model prog w) A c' (fun r s' => match r with | .ok (.ret v) => Q v s' | .ok _ => False | .error e => E e s') s') E s := by
    show wpAny _ A.in1 (Builtin.Builtins.bindParams "max" ["key", "default"] 0 ⟨[], dKw d⟩ >>= _) _ _ s
    refine wpAny_bind (wpAny_of_eq (maxBind d) ?_)
    refine wpAny_bind (wpAny_pure ?_)
    refine wpAny_bind (iter_intList hl fun s₂ e st hfp hlI => ?_)
    subst e
    refine wpAny_bind (wpAny_newObj_type ?_)
    rw [maxName]
    have W := Walks.list (prog := prog) (w := w) (A := A.in1.in1) hh s.heap.objs.size l hlI (intItems xs)
    refine wpAny_pure ⟨plainId_quiet F.plain_max_loop _, maxStart (A := A) (Walks.list (A := A.in1) hh _ l hlI (intItems xs)) _ (CmpOf.ints_gt (numAt xs) (fun _ _ => intItems_at)) _ d (fun hm => Nat.lt_irrefl _ (hfp _ hm))
      ((Walks.list (prog := prog) (w := w) (A := A.in1) hh _ l hlI (intItems xs)).frame _ _ _ st fun b _ o e => Heap.get?_push_of_some _ e) (Heap.get?_push_size _ rfl) fun v h' tk hv keep => ?_⟩
    refine fin v h' tk ?_ fun b o e => ?_
    · simpa [intItems] using hv
    · have lb : b < s.heap.objs.size := Heap.lt_size e
      refine keep b o (fun q => ?_) ?_ (Heap.get?_push_of_some _ (Heap.get?_push_of_some _ e))
      · have q' : b = s.heap.objs.size := by simpa using q
        exact Nat.lt_irrefl _ (q' ▸ lb)
      · intro q
        have z : (s.heap.push { cls := .type "list_iterator", data := .fields #[.ref l, .int 0 0] }).objs.size = s.heap.objs.size + 1 := Heap.size_push ..
        rw [q, z] at lb
        exact Nat.lt_irrefl _ (Nat.lt_of_succ_lt lb)
  simp only [checkBuiltinCall, F.kind_max]
  cases hsig : Manifest.signature? "max" with
  | none => exact wpAny_pure body
  | some sig =>
    have ha' : Bind.checkArgs "max" sig ⟨[.ref l], dKw d⟩ = pure () := by simpa only [argsOk, hsig] using maxArgs (.ref l) d
    simp only [ha']
    exact wpAny_pure body
end
/-- the greatest of ns, d where there is none -/
def maxOf (d : Int) : List Int → Int
  | [] => d
  | x :: xs => xs.foldl max x
theorem foldl_max_ge : ∀ (xs : List Int) (x : Int), x ≤ xs.foldl max x
  | [], x => Int.le_refl _
  | y :: ys, x => Int.le_trans (Int.le_max_left x y) (foldl_max_ge ys (max x y))
theorem foldl_max_all : ∀ (xs : List Int) (x y : Int), y ∈ xs → y ≤ xs.foldl max x
  | z :: zs, x, y, h => by
    rcases List.mem_cons.mp h with e | h
    · subst e
      exact Int.le_trans (Int.le_max_right x y) (foldl_max_ge zs (max x y))
    · exact foldl_max_all zs (max x z) y h
theorem foldl_max_mem : ∀ (xs : List Int) (x : Int), xs.foldl max x ∈ x :: xs
  | [], x => List.mem_cons_self
  | y :: ys, x => by
    have h := foldl_max_mem ys (max x y)
    show ys.foldl max (max x y) ∈ _
    rcases List.mem_cons.mp h with e | h
    · rw [e]
      by_cases q : x ≤ y
      · rw [Int.max_eq_right q]
        exact List.mem_cons_of_mem _ List.mem_cons_self
      · rw [Int.max_eq_left (by omega)]
        exact List.mem_cons_self
    · exact List.mem_cons_of_mem _ (List.mem_cons_of_mem _ h)
theorem maxOf_is {d m : Int} {ns : List Int} (h1 : m ∈ ns) (h2 : ∀ y ∈ ns, y ≤ m) : m = maxOf d ns := by
  cases ns with
  | nil => cases h1
  | cons x xs =>
    show m = xs.foldl max x
    refine Int.le_antisymm ?_ (h2 _ (foldl_max_mem xs x))
    rcases List.mem_cons.mp h1 with e | h
    · rw [e]
      exact foldl_max_ge xs x
    · exact foldl_max_all xs x m h
def rMaxD (K : PySem.W.Frag) : List V → List V → Hp → VK → Prop := fun vs zs H Q => ∃ (a : Addr) (ns : List Int) (d : Int), vs = [V.ref a] ∧ zs = [V.int d] ∧ SqL K H a (ns.map V.int) ∧ Q (.int (maxOf d ns)) H
theorem cr_maxD {X : Cx} (hc : X.calm = true) : CallRK X (.builtin "max") [Str.ofString "default"] (rMaxD X.K) := by
  intro pins s σ H vs zs us ws Q I r rz h
  obtain ⟨a, ns, d, rfl, rfl, hs, q⟩ := h
  obtain ⟨its, rv, hl, _⟩ := I.list hs
  rw [Vals.ref1 r]
  obtain ⟨w1, rfl, e1⟩ := vals1 rz
  obtain ⟨t, rfl⟩ : ∃ t, w1 = Value.int d t := e1
  have hi := rv.ints
  obtain ⟨xs, e⟩ := hi.allInts.items
  have hn : numsOf (intItems xs).toList = ns := by
    rw [← e]
    exact hi.numsOf
  rw [nums_intItems] at hn
  subst hn
  have hl' := hl.isList
  rw [e] at hl'
  refine max_def (d := .int d t) (I.ok.hd hc) hl' fun v h' tk hv keep => ?_
  rcases hv with ⟨e0, rfl⟩ | ⟨hsz, hv⟩
  · refine ⟨.int d, H, I.kept keep, ⟨_, rfl⟩, ?_⟩
    have e2 : xs.toList = [] := List.eq_nil_of_length_eq_zero (by simpa using e0)
    rw [e2] at q
    exact q
  · obtain ⟨t', rfl⟩ := intItems_at hv
    obtain ⟨h1, h2⟩ := argBest_gt (numAt xs) (xs.size - 1)
    refine ⟨.int _, H, I.kept keep, ⟨_, rfl⟩, ?_⟩
    rw [maxOf_is (d := d) (m := numAt xs (argBest (fun i j => decide (numAt xs i > numAt xs j)) (xs.size - 1))) (ns := xs.toList.map (·.1)) ?_ fun y hy => ?_]
    · exact q
    · rw [numAt_eq]
      exact PySem.getD_mem (by rw [List.length_map, Array.length_toList]; omega)
    · obtain ⟨j, hj, rfl⟩ := mem_getD hy
      rw [List.length_map, Array.length_toList] at hj
      rw [← numAt_eq]
      exact h2 j (by omega)
end SF

set_option maxHeartbeats 4000000
/-! What the walks of this program share: heaps that grow, data that stands, calls by value. -/
namespace SF
open PySem PySem.Spec PyProof.Rows L2
open C8 (Cal pe_c)
/-! ### heaps -/
theorem same_new {H : Hp} {p : Addr} {o : HO} (h : H p = none) : Same H (upd H p o) := fun b u e => by
  rw [upd_ne (ne_of_none e h)]
  exact e
theorem same_mut {H0 H : Hp} {p : Addr} {o : HO} (e : Same H0 H) (n : H0 p = none) : Same H0 (upd H p o) := fun b u q => by
  rw [upd_ne (ne_of_none q n)]
  exact e b u q
/-- tuples (and what is locked) stand -/
def Tx (H H' : Hp) : Prop := (∀ a xs, H a = some (.tup xs) → H' a = some (.tup xs)) ∧ ∀ a o u, H a = some (.frz o u) → H' a = some (.frz o u)
theorem Tx.refl (H : Hp) : Tx H H := ⟨fun _ _ e => e, fun _ _ _ e => e⟩
theorem Tx.trans {H H1 H2 : Hp} (a : Tx H H1) (b : Tx H1 H2) : Tx H H2 := ⟨fun x xs e => b.1 x xs (a.1 x xs e), fun x o u e => b.2 x o u (a.2 x o u e)⟩
theorem Tx.of {H H' : Hp} (e : Same H H') : Tx H H' := ⟨fun a xs q => e a _ q, fun a o u q => e a _ q⟩
theorem Tx.new {H : Hp} {p : Addr} {o : HO} (h : H p = none) : Tx H (upd H p o) := .of (same_new h)
theorem Tx.mut {H : Hp} {p : Addr} {xs : List V} {o : HO} (h : H p = some (.lst xs)) : Tx H (upd H p o) := ⟨fun a ys e => by
    rw [upd_ne (ne_of e h (fun z => by cases z))]
    exact e, fun a q u e => by
    rw [upd_ne (ne_of e h (fun z => by cases z))]
    exact e⟩
theorem Tx.mutD {H : Hp} {p : Addr} {xs : List (Key × V)} {o : HO} (h : H p = some (.dK xs)) : Tx H (upd H p o) := ⟨fun a ys e => by
    rw [upd_ne (ne_of e h (fun z => by cases z))]
    exact e, fun a q u e => by
    rw [upd_ne (ne_of e h (fun z => by cases z))]
    exact e⟩
theorem sqT_tx {K : PySem.W.Frag} {H H' : Hp} {a : Addr} {xs : List V} (e : Tx H H') (h : SqT K H a xs) : SqT K H' a xs := by
  rcases h with (h | ⟨o, h⟩) | h
  · exact .inl (.inl (e.1 _ _ h))
  · exact .inl (.inr ⟨o, e.2 _ _ _ h⟩)
  · exact .inr h
theorem sqL_same {K : PySem.W.Frag} {H H' : Hp} {a : Addr} {xs : List V} (e : Same H H') (h : SqL K H a xs) : SqL K H' a xs := e.seq h
theorem sqT_of {K : PySem.W.Frag} {H : Hp} {a : Addr} {xs : List V} (h : H a = some (.tup xs)) : SqT K H a xs := .inl (.inl h)
theorem sqL_of {K : PySem.W.Frag} {H : Hp} {a : Addr} {xs : List V} (h : H a = some (.lst xs)) : SqL K H a xs := .inl (.inl h)
/-- locked lists: the script -/
theorem sqL_tx {K : PySem.W.Frag} {H H' : Hp} {a : Addr} {xs : List V} (e : Tx H H') (h : (∃ o, H a = some (.frz o (.lst xs))) ∨ SqL K (fun _ => none) a xs) : (∃ o, H' a = some (.frz o (.lst xs))) ∨ SqL K (fun _ => none) a xs := by
  rcases h with ⟨o, h⟩ | h
  · exact .inl ⟨o, e.2 _ _ _ h⟩
  · exact .inr h
/-! ### data that stands -/
mutual
inductive Im (K : PySem.W.Frag) (H : Hp) : V → PyData → Prop
  | non : Im K H .non .none
  | bl (b : Bool) : Im K H (.bl b) (.bool b)
  | int (i : Int) : Im K H (.int i) (.int i)
  | str (x : Str) : Im K H (.str x) (.str x)
  | tup {a : Addr} {xs : List V} {ds : List PyData} : SqT K H a xs → ImAll K H xs ds → Im K H (.ref a) (.tuple ds)
inductive ImAll (K : PySem.W.Frag) (H : Hp) : List V → List PyData → Prop
  | nil : ImAll K H [] []
  | cons {v : V} {vs : List V} {d : PyData} {ds : List PyData} : Im K H v d → ImAll K H vs ds → ImAll K H (v :: vs) (d :: ds)
end
section
variable {K : PySem.W.Frag} {H H' : Hp}
mutual
theorem Im.tx (e : Tx H H') : ∀ {v : V} {d : PyData}, Im K H v d → Im K H' v d
  | _, _, .non => .non
  | _, _, .bl b => .bl b
  | _, _, .int i => .int i
  | _, _, .str x => .str x
  | _, _, .tup h t => .tup (sqT_tx e h) (ImAll.tx e t)
theorem ImAll.tx (e : Tx H H') : ∀ {vs : List V} {ds : List PyData}, ImAll K H vs ds → ImAll K H' vs ds
  | _, _, .nil => .nil
  | _, _, .cons h t => .cons (Im.tx e h) (ImAll.tx e t)
end
mutual
theorem Im.dp : ∀ {v : V} {d : PyData}, Im K H v d → Dp K H v d
  | _, _, .non => .non
  | _, _, .bl b => .bl b
  | _, _, .int i => .int i
  | _, _, .str x => .str x
  | _, _, .tup h t => .tup h (ImAll.dp t)
theorem ImAll.dp : ∀ {vs : List V} {ds : List PyData}, ImAll K H vs ds → DpAll K H vs ds
  | _, _, .nil => .nil
  | _, _, .cons h t => .cons (Im.dp h) (ImAll.dp t)
end
mutual
theorem dp_same (e : Same H H') : ∀ {v : V} {d : PyData}, Dp K H v d → Dp K H' v d
  | _, _, .non => .non
  | _, _, .bl b => .bl b
  | _, _, .int i => .int i
  | _, _, .str x => .str x
  | _, _, .lst h t => .lst (e.seq h) (dpAll_same e t)
  | _, _, .tup h t => .tup (sqT_tx (.of e) h) (dpAll_same e t)
theorem dpAll_same (e : Same H H') : ∀ {vs : List V} {ds : List PyData}, DpAll K H vs ds → DpAll K H' vs ds
  | _, _, .nil => .nil
  | _, _, .cons h t => .cons (dp_same e h) (dpAll_same e t)
end
theorem Im.same (e : Same H H') {v : V} {d : PyData} (h : Im K H v d) : Im K H' v d := h.tx (.of e)
theorem ImAll.same (e : Same H H') {vs : List V} {ds : List PyData} (h : ImAll K H vs ds) : ImAll K H' vs ds := h.tx (.of e)
theorem ImAll.length : ∀ {vs : List V} {ds : List PyData}, ImAll K H vs ds → vs.length = ds.length
  | _, _, .nil => rfl
  | _, _, .cons _ t => by simp [ImAll.length t]
theorem ImAll.get : ∀ {vs : List V} {ds : List PyData} {i : Nat} {v : V}, ImAll K H vs ds → vs[i]? = some v → ∃ d, ds[i]? = some d ∧ Im K H v d
  | _, _, _, _, .nil, e => by simp at e
  | _, _, 0, _, .cons h _, e => by
    simp at e
    subst e
    exact ⟨_, rfl, h⟩
  | _, _, i + 1, v, .cons _ t, e => by
    obtain ⟨d, h1, h2⟩ := ImAll.get (i := i) (v := v) t (by simpa using e)
    exact ⟨d, by simpa using h1, h2⟩
theorem ImAll.at : ∀ {vs : List V} {ds : List PyData} {i : Nat} {d : PyData}, ImAll K H vs ds → ds[i]? = some d → ∃ v, vs[i]? = some v ∧ Im K H v d
  | _, _, _, _, .nil, e => by simp at e
  | _, _, 0, _, .cons h _, e => by
    simp at e
    subst e
    exact ⟨_, rfl, h⟩
  | _, _, i + 1, d, .cons _ t, e => by
    obtain ⟨v, h1, h2⟩ := ImAll.at (i := i) (d := d) t (by simpa using e)
    exact ⟨v, by simpa using h1, h2⟩
theorem ImAll.append : ∀ {vs us : List V} {ds es : List PyData}, ImAll K H vs ds → ImAll K H us es → ImAll K H (vs ++ us) (ds ++ es)
  | _, _, _, _, .nil, h => h
  | _, _, _, _, .cons h t, h2 => .cons h (ImAll.append t h2)
theorem ImAll.snoc {vs : List V} {ds : List PyData} {v : V} {d : PyData} (h : ImAll K H vs ds) (h2 : Im K H v d) : ImAll K H (vs ++ [v]) (ds ++ [d]) := h.append (.cons h2 .nil)
theorem ImAll.take : ∀ {vs : List V} {ds : List PyData} (n : Nat), ImAll K H vs ds → ImAll K H (vs.take n) (ds.take n)
  | _, _, 0, _ => by simpa using ImAll.nil
  | _, _, n + 1, .nil => by simpa using ImAll.nil
  | _, _, n + 1, .cons h t => by simpa using ImAll.cons h (ImAll.take n t)
theorem ImAll.drop : ∀ {vs : List V} {ds : List PyData} (n : Nat), ImAll K H vs ds → ImAll K H (vs.drop n) (ds.drop n)
  | _, _, 0, h => by simpa using h
  | _, _, n + 1, .nil => by simpa using ImAll.nil
  | _, _, n + 1, .cons _ t => by simpa using ImAll.drop n t
theorem ImAll.set : ∀ {vs : List V} {ds : List PyData} (n : Nat) {v : V} {d : PyData}, ImAll K H vs ds → Im K H v d → ImAll K H (vs.set n v) (ds.set n d)
  | _, _, _, _, _, .nil, _ => by simpa using ImAll.nil
  | _, _, 0, _, _, .cons _ t, h => by simpa using ImAll.cons h t
  | _, _, n + 1, _, _, .cons h0 t, h => by simpa using ImAll.cons h0 (ImAll.set n t h)
theorem ImAll.reverse : ∀ {vs : List V} {ds : List PyData}, ImAll K H vs ds → ImAll K H vs.reverse ds.reverse
  | _, _, .nil => by simpa using ImAll.nil
  | _, _, .cons h t => by simpa using (ImAll.reverse t).append (.cons h .nil)
theorem ImAll.eraseIdx : ∀ {vs : List V} {ds : List PyData} (n : Nat), ImAll K H vs ds → ImAll K H (vs.eraseIdx n) (ds.eraseIdx n)
  | _, _, _, .nil => by simpa using ImAll.nil
  | _, _, 0, .cons _ t => by simpa using t
  | _, _, n + 1, .cons h t => by simpa using ImAll.cons h (ImAll.eraseIdx n t)
theorem ImAll.ints : ∀ (ns : List Int), ImAll K H (ns.map V.int) (ns.map PyData.int)
  | [] => .nil
  | n :: ns => .cons (.int n) (ImAll.ints ns)
theorem im_int {v : V} {i : Int} (h : Im K H v (.int i)) : v = .int i := by cases h; rfl
theorem im_bl {v : V} {b : Bool} (h : Im K H v (.bool b)) : v = .bl b := by cases h; rfl
theorem im_str {v : V} {x : Str} (h : Im K H v (.str x)) : v = .str x := by cases h; rfl
theorem im_non {v : V} (h : Im K H v .none) : v = .non := by cases h; rfl
theorem im_tup {v : V} {ds : List PyData} (h : Im K H v (.tuple ds)) : ∃ a xs, v = .ref a ∧ SqT K H a xs ∧ ImAll K H xs ds := by
  cases h with
  | tup h t => exact ⟨_, _, rfl, h, t⟩
theorem imAll_ints : ∀ {ns : List Int} {vs : List V}, ImAll K H vs (ns.map PyData.int) → vs = ns.map V.int
  | [], _, .nil => rfl
  | n :: ns, _, .cons h t => by
    rw [im_int h, imAll_ints t]
    rfl
/-- a fresh tuple -/
theorem im_new {p : Addr} {xs : List V} {ds : List PyData} (n : H p = none) (h : ImAll K H xs ds) : Im K (upd H p (.tup xs)) (.ref p) (.tuple ds) := .tup (sqT_of upd_same) (h.tx (.new n))
theorem im_newT {p : Addr} {xs : List V} {ds : List PyData} (e : H p = some (.tup xs)) (h : ImAll K H xs ds) : Im K H (.ref p) (.tuple ds) := .tup (sqT_of e) h
/-- the script, whatever the heap -/
def Scr (K : PySem.W.Frag) (H : Hp) (v : V) (ns : List Int) : Prop := ∃ a, v = .ref a ∧ ((∃ o, H a = some (.frz o (.lst (ns.map V.int)))) ∨ SqL K (fun _ => none) a (ns.map V.int))
theorem Scr.tx {v : V} {ns : List Int} (e : Tx H H') (h : Scr K H v ns) : Scr K H' v ns := by
  obtain ⟨a, rfl, h⟩ := h
  exact ⟨a, rfl, sqL_tx e h⟩
theorem Scr.seq {a : Addr} {ns : List Int} (h : Scr K H (.ref a) ns) : SqL K H a (ns.map V.int) := by
  obtain ⟨b, e, h⟩ := h
  cases e
  rcases h with ⟨o, h⟩ | h
  · exact .inl (.inr ⟨o, h⟩)
  · rcases h with (h | ⟨o, h⟩) | h
    · cases h
    · cases h
    · exact .inr h
/-! ### types -/
theorem tyT {a : Addr} {xs : List V} (h : SqT K H a xs) : TyX K H (.ref a) (.type "tuple") := by
  rcases h with (h | ⟨o, h⟩) | ⟨o, its, n, h1, h2, _⟩
  · exact .base (.tup h)
  · exact .fTuple h
  · exact .kTuple h1 h2
theorem tyL {a : Addr} {xs : List V} (h : SqL K H a xs) : TyX K H (.ref a) (.type "list") := by
  rcases h with (h | ⟨o, h⟩) | ⟨o, its, n, h1, h2, _⟩
  · exact .base (.lst h)
  · exact .base (.frz h)
  · exact .kList h1 h2
/-- a datum's type, by name -/
def tyD : PyData → String
  | .none => "NoneType"
  | .bool _ => "bool"
  | .int _ => "int"
  | .str _ => "str"
  | .list _ => "list"
  | .tuple _ => "tuple"
  | .dict _ => "dict"
theorem ty_dp {v : V} {d : PyData} (h : Dp K H v d) : TyX K H v (.type (tyD d)) := by
  cases h with
  | non => exact .base .non
  | bl b => exact .base (.bl b)
  | int i => exact .base (.int i)
  | str x => exact .base (.str x)
  | lst h _ => exact tyL h
  | tup h _ => exact tyT h
/-- is a datum an instance of a built-in class -/
def isD (d : PyData) (T : String) : Bool := (kitB (tyD d) T).getD false
theorem isi_dp {v : V} {d : PyData} {T : String} {Q : VK} (h : Dp K H v d) (k : (kitB (tyD d) T).isSome = true) (q : Q (.bl (isD d T)) H) : rIsi K [v, .ty T] H Q := by
  obtain ⟨b, e⟩ := Option.isSome_iff_exists.mp k
  have e2 : isD d T = b := by
    unfold isD
    rw [e]
    rfl
  rw [e2] at q
  exact ⟨v, .ty T, _, _, b, rfl, .ty T, ty_dp h, kit_ty e, q⟩
theorem kit_all (d : PyData) : (kitB (tyD d) "int").isSome = true ∧ (kitB (tyD d) "bool").isSome = true ∧ (kitB (tyD d) "tuple").isSome = true ∧ (kitB (tyD d) "list").isSome = true := by
  cases d <;> (dsimp only [tyD]; decide +kernel)
theorem isD_tup (d : PyData) : isD d "tuple" = (match d with | .tuple _ => true | _ => false) := by cases d <;> (dsimp only [isD, tyD]; decide +kernel)
theorem isD_list (d : PyData) : isD d "list" = (match d with | .list _ => true | _ => false) := by cases d <;> (dsimp only [isD, tyD]; decide +kernel)
theorem isD_int (d : PyData) : isD d "int" = (match d with | .int _ => true | .bool _ => true | _ => false) := by cases d <;> (dsimp only [isD, tyD]; decide +kernel)
theorem isD_bool (d : PyData) : isD d "bool" = (match d with | .bool _ => true | _ => false) := by cases d <;> (dsimp only [isD, tyD]; decide +kernel)
end
/-! ### small readings -/
theorem atI_n {α : Type} {xs : List α} {j : Nat} {v : α} {i : Int} (h : xs[j]? = some v) (e : i = (j : Int) := by rfl) : atI xs i = some v := by
  rw [e]
  exact atI_nat h
theorem small {n : Nat} (h : n ≤ 1000000) : n ≤ sizeLine := Nat.le_trans h (by decide)
theorem small' {n : Nat} (h : n ≤ 1000000) : n < sizeLine := Nat.lt_of_le_of_lt h (by decide)
abbrev oAdd : R2 := rI0 fun i j => .int (i + j)
abbrev oSub : R2 := rI0 fun i j => .int (i - j)
abbrev oMul : R2 := rI CMul fun i j => .int (i * j)
abbrev oMulW : R2 := rI CMulW fun i j => .int (i * j)
abbrev oDiv : R2 := rI CDiv fun i j => .int (i / j)
abbrev oMod : R2 := rI (fun _ j => 0 < j) fun i j => .int (i % j)
abbrev oPow : R2 := rI CPow fun i j => .int (i ^ j.toNat)
abbrev oShl : R2 := rI CPow fun i j => .int (i * 2 ^ j.toNat)
abbrev oShr : R2 := rI (fun _ j => 0 ≤ j) fun i j => .int (i / 2 ^ j.toNat)
abbrev oAnd : R2 := rI0 fun i j => .int (Builtin.bitAnd i j)
abbrev oOr : R2 := rI0 fun i j => .int (Builtin.bitOr i j)
abbrev oLt : R2 := rI0 fun i j => .bl (decide (i < j))
abbrev oLe : R2 := rI0 fun i j => .bl (decide (i ≤ j))
abbrev oGt : R2 := rI0 fun i j => .bl (decide (j < i))
abbrev oGe : R2 := rI0 fun i j => .bl (decide (j ≤ i))
abbrev oIsN : R2 := fun x y H Q => y = .non ∧ Q (.bl (decide (x = .non))) H
abbrev oNotN : R2 := fun x y H Q => y = .non ∧ Q (.bl (!decide (x = .non))) H
abbrev oIsB : R2 := fun x y H Q => ∃ a b, x = .bl a ∧ y = .bl b ∧ Q (.bl (decide (a = b))) H
abbrev oNotB : R2 := fun x y H Q => ∃ a b, x = .bl a ∧ y = .bl b ∧ Q (.bl (!decide (a = b))) H
abbrev oAddS : R2 := fun x y H Q => ∃ i j, x = .str i ∧ y = .str j ∧ i.length + j.length ≤ sizeLine ∧ Q (.str (i ++ j)) H
abbrev oInSg : R2 := fun x y H Q => ∃ (c : Nat) (z : Str), x = .str ⟨#[c]⟩ ∧ y = .str z ∧ Q (.bl (decide (c ∈ z.cps.toList))) H
abbrev oNiSg : R2 := fun x y H Q => ∃ (c : Nat) (z : Str), x = .str ⟨#[c]⟩ ∧ y = .str z ∧ Q (.bl (!decide (c ∈ z.cps.toList))) H
abbrev uNeg : V → Hp → VK → Prop := rU fun i => .int (-i)
abbrev uInv : V → Hp → VK → Prop := rU fun i => .int (Builtin.bitNot i)
abbrev cLen (K : PySem.W.Frag) : List V → Hp → VK → Prop := fun xs H Q => ∃ p ys, xs = [.ref p] ∧ (SqL K H p ys ∨ SqT K H p ys) ∧ Q (.int ys.length) H
abbrev cLenS : List V → Hp → VK → Prop := fun xs H Q => ∃ z, xs = [.str z] ∧ z.length ≤ sizeLine ∧ Q (.int z.length) H
abbrev cList (K : PySem.W.Frag) : List V → Hp → VK → Prop := fun xs H Q => ∃ p ys, xs = [.ref p] ∧ (SqL K H p ys ∨ SqT K H p ys) ∧ ∀ l, H l = none → Q (.ref l) (upd H l (.lst ys))
abbrev cTup (K : PySem.W.Frag) : List V → Hp → VK → Prop := fun xs H Q => ∃ p ys, xs = [.ref p] ∧ ((SqL K H p ys ∧ ∀ l, H l = none → Q (.ref l) (upd H l (.tup ys))) ∨ (SqT K H p ys ∧ Q (.ref p) H))
abbrev cMax2 : List V → Hp → VK → Prop := fun xs H Q => ∃ i j, xs = [.int i, .int j] ∧ Q (.int (if j > i then j else i)) H
abbrev cInt : List V → Hp → VK → Prop := fun xs H Q => (∃ i, xs = [.int i] ∧ Q (.int i) H) ∨ ∃ k, xs = [.bl k] ∧ Q (.int (if k then 1 else 0)) H
abbrev cIntS : List V → Hp → VK → Prop := fun xs H Q => ∃ a n, xs = [.str a] ∧ PySem.intText? a = some n ∧ a.length ≤ 640 ∧ Q (.int n) H
abbrev cStr : List V → Hp → VK → Prop := fun xs H Q => ∃ i, xs = [.int i] ∧ i.natAbs.log2 < 1920 ∧ Q (.str (toString i)) H
abbrev mIns : V → List V → Hp → VK → Prop := fun x vs H Q => ∃ (l : Addr) (xs : List V) (i : Int) (y : V), x = .ref l ∧ vs = [.int i, y] ∧ H l = some (.lst xs) ∧ xs.length < sizeLine ∧ 0 ≤ i ∧ i < 2 ^ 63 ∧ Q .non (upd H l (.lst (xs.take i.toNat ++ [y] ++ xs.drop i.toNat)))
abbrev mSplit : V → List V → Hp → VK → Prop := fun x xs H Q => ∃ a b, x = .str a ∧ xs = [.str b] ∧ (b.length == 0) = false ∧ a.length + 2 ≤ sizeLine ∧ rNewStrs (Txt.split a b) H Q
abbrev mJoin (K : PySem.W.Frag) : V → List V → Hp → VK → Prop := fun x xs H Q => ∃ a p, ∃ ys : List Str, x = .str a ∧ xs = [.ref p] ∧ (SqL K H p (ys.map V.str) ∨ SqT K H p (ys.map V.str)) ∧ (ys.map (·.length)).sum + ys.length * a.length ≤ 16777216 ∧ Q (.str (Txt.join a ys)) H
/-- a test of a number -/
abbrev tTru (K : PySem.W.Frag) (ta : TE) : TT := fun σ H Q => ta σ H fun x H' => ∃ k, TruV K x H' k ∧ Q k H'
/-! ### promises -/
theorem cal_of {P : Program} {w : World} {K : PySem.W.Frag} {mg : Str → Option Value} {base : Heap} {k : Nat} {f : Addr} {fd : FuncData} {ps : List Str} {sp : Sp} {x : Str} (F : FnOk P w K mg base CX0 k f fd ps sp) (g : mg x = some (.ref f)) (kp : PySem.W.keepIn K (.ref f) = true) (b : Binds K fd ps []) :
    Cal P w K mg base k x sp [] := ⟨f, fd, ps, [], F, g, kp, b, .nil⟩
/-- .. of a def that may raise -/
structure CalX (P : Program) (w : World) (K : PySem.W.Frag) (mg : Str → Option Value) (base : Heap) (k : Nat) (x : Str) (sp : Sp) : Prop where
  ex : ∃ (f : Addr) (fd : FuncData) (ps : List Str), FnOk P w K mg base (L2.CX P w) k f fd ps sp ∧ mg x = some (.ref f) ∧ PySem.W.keepIn K (.ref f) = true ∧ Binds K fd ps []
theorem calX_of {P : Program} {w : World} {K : PySem.W.Frag} {mg : Str → Option Value} {base : Heap} {k : Nat} {f : Addr} {fd : FuncData} {ps : List Str} {sp : Sp} {x : Str} (F : FnOk P w K mg base (L2.CX P w) k f fd ps sp) (g : mg x = some (.ref f)) (kp : PySem.W.keepIn K (.ref f) = true) (b : Binds K fd ps []) :
    CalX P w K mg base k x sp := ⟨f, fd, ps, F, g, kp, b⟩
section
variable {X : Cx} {x : Str} {p pos : Pos} {e f : Expr} {es : List Expr} {t : TA} {tf : TE} {k j : Nat} {sp : Sp} {E : XK} {W : WX}
/-- a call of such a def where nothing is raised -/
theorem pe_x0 (c : CalX X.prog X.w X.K X.mg X.base k x sp) (hr : Room j X.A) (hk : k ≤ j) (hg : Gl X x) (ha : PA X (e :: es) t)
    (hdb : (x == ("__debug__" : Str)) = false := by decide) (he : starEach (e :: es) X.env = (false, eval e X.env) :: starEach es X.env := by rfl) (hpl : (backTo pos (starEach es X.env)).any (·.1) = false := by rfl) :
    PE X (.Call (.Name x p) (e :: es) [] pos) (tCall sp [] E0 t) := by
  obtain ⟨f, fd, ps, F, hm, kp, b⟩ := c.ex
  exact pe_call F (hr.mono hk) hg hm kp b .nil passL ha hdb he hpl
/-- .. where what is raised is handed on -/
theorem pe_xE (c : CalX X.prog X.w X.K X.mg X.base k x sp) (hr : Room j X.A) (hk : k ≤ j) (hg : Gl X x) (tk : Takes X fun cls d _ H => E cls d H) (ha : PA X (e :: es) t)
    (hdb : (x == ("__debug__" : Str)) = false := by decide) (he : starEach (e :: es) X.env = (false, eval e X.env) :: starEach es X.env := by rfl) (hpl : (backTo pos (starEach es X.env)).any (·.1) = false := by rfl) :
    PE X (.Call (.Name x p) (e :: es) [] pos) (tCall sp [] E t) := by
  obtain ⟨f, fd, ps, F, hm, kp, b⟩ := c.ex
  exact pe_call F (hr.mono hk) hg hm kp b .nil (passes_call tk fun _ _ _ _ h => h) ha hdb he hpl
/-- .. within a try -/
theorem pe_xW (c : CalX X.prog X.w X.K X.mg X.base k x sp) (hr : Room j X.A) (hk : k ≤ j) (hg : Gl X x) (tk : Takes X W) (ha : PA X (e :: es) t)
    (hdb : (x == ("__debug__" : Str)) = false := by decide) (he : starEach (e :: es) X.env = (false, eval e X.env) :: starEach es X.env := by rfl) (hpl : (backTo pos (starEach es X.env)).any (·.1) = false := by rfl) :
    PE X (.Call (.Name x p) (e :: es) [] pos) (tCallS sp (WE W) t) := by
  obtain ⟨f, fd, ps, F, hm, kp, b⟩ := c.ex
  exact pe_callS F (hr.mono hk) hg hm kp b (fun σ => passAt tk σ) ha hdb he hpl
/-- a call of a value that is one of several defs: S tells the promise by the address -/
def tCallF (S : Addr → Sp → Prop) (E : L2.St → XK) (tf : TE) (t : TA) : TE := fun σ H Q => tf σ H fun v H1 => ∃ f sp, v = .ref f ∧ S f sp ∧ t σ H1 fun vs H2 => sp vs H2 Q (E σ)
theorem pe_callF {S : Addr → Sp → Prop} {CX : CXT} {E : L2.St → XK} (A : ∀ g sp, S g sp → ∃ fd ps, FnOk X.prog X.w X.K X.mg X.base CX k g fd ps sp ∧ PySem.W.keepIn X.K (.ref g) = true ∧ Binds X.K fd ps []) (hr : Room j X.A) (hk : k ≤ j) (hx : ∀ σ, PassesAt CX X σ (E σ)) (hf : PE X f tf) (ha : PA X (e :: es) t)
    (ht : eval (.Call f (e :: es) [] pos) X.env = (do callWith pos (← eval f X.env) [] (backTo pos (starEach (e :: es) X.env)) (backToKw pos (keywordEach [] X.env))) := by rfl)
    (he : starEach (e :: es) X.env = (false, eval e X.env) :: starEach es X.env := by rfl) (hpl : (backTo pos (starEach es X.env)).any (·.1) = false := by rfl) :
    PE X (.Call f (e :: es) [] pos) (tCallF S E tf t) := by
  refine ⟨fun pins s σ H Q I h => ?_⟩
  refine Call_ (thn (hf.run pins s σ H _ I h) fun u s1 ⟨v, H1, I1, rx, g, sp, ev, hS, q⟩ => ?_) ht
  subst ev
  obtain rfl : u = Value.ref g := rx
  obtain ⟨fd, ps, F, kp, b⟩ := A g sp hS
  refine PySem.W.callWith_K (h₀ := X.base) I1.ok.mod.kin kp (thn (ha.run pos pins s1 σ _ _ I1 q) fun us s2 ⟨vs, H2, I2, r, q⟩ => ⟨I2.kIn, ?_⟩) he hpl
  exact run_fnS F (hr.mono hk) b (hx σ) I2 r q
end
/-! ### the module's names -/
structure Blt (mg : Str → Option Value) : Prop where
  len : mg "len" = none
  range : mg "range" = none
  tuple : mg "tuple" = none
  list : mg "list" = none
  isinstance : mg "isinstance" = none
  int : mg "int" = none
  bool : mg "bool" = none
  str : mg "str" = none
  all : mg "all" = none
  max : mg "max" = none
  sorted : mg "sorted" = none
  ValueError : mg "ValueError" = none
/-- a class of errors of the program's own -/
structure ExcK (K : PySem.W.Frag) (mg : Str → Option Value) (x : Str) (C : Addr) : Prop where
  g : mg x = some (.ref C)
  k : PySem.W.keepIn K (.ref C) = true
  e : PySem.W.excIn K C [.type "ValueError", .type "Exception", .type "BaseException", .type "object"] "ValueError.__new__" = true
  sb : PySem.W.subIn K (.ref C) (.type "BaseException") = some true
  ty : PySem.W.typeIn K (.ref C) = some (.type "type")
  hd : PySem.W.hasDictIn K C = true
def tRaiseC (C : Addr) (E : XK) : TS := fun _ _ H => E (.ref C) none H
theorem ps_raiseC {X : Cx} {E : XK} {x m : Str} {C : Addr} {j : Nat} {p p2 pos pos' : Pos} (tk : Takes X fun cls d _ H => E cls d H) (h : ExcK X.K X.mg x C) (hg : Gl X x) (hc : X.calm = true := by rfl) (hdb : (x == ("__debug__" : Str)) = false := by decide) :
    PS X (.Raise (some (.Call (.Name x p) [.Constant (.str m) j p2] [] pos)) none pos') (tRaiseC C E) :=
  ps_raise hc tk (pmk_own PySem.F.excBase_ValueError h.e h.g h.k (raises_own h.sb h.ty) hg hdb)
/-- the class of an error that is caught as one of the class at F -/
structure CaughtK (K : PySem.W.Frag) (D F : Addr) : Prop where
  ec : ExcC K D
  ex : PySem.W.exmOne K (.ref D) (.ref F) = some true
  sv : PySem.W.subIn K (.ref D) (.type "ValueError") = some true
  sd : PySem.W.subIn K (.ref D) (.ref D) = some true
abbrev subRef (K : PySem.W.Frag) (D C : Addr) (b : Bool) : Prop := PySem.W.subIn K (.ref D) (.ref C) = some b
theorem kit_ref {K : PySem.W.Frag} {mg : Str → Option Value} {x : Str} {D C : Addr} {b : Bool} (h : ExcK K mg x C) (sd : PySem.W.subIn K (.ref D) (.ref D) = some true) (s : subRef K D C b) : PySem.W.kitOne K (.ref D) (.ref C) = some b := by
  unfold PySem.W.kitOne
  by_cases e : D = C
  · subst e
    have s' : PySem.W.subIn K (.ref D) (.ref D) = some b := s
    rw [sd] at s'
    cases s'
    rw [if_pos (by simp)]
  · rw [if_neg (by simpa using e)]
    obtain ⟨cd, hc, _⟩ := PySem.W.any_some h.hd
    show (if ((PySem.W.clsIn K C).isSome && PySem.W.typeIn K (.ref C) == some (.type "type")) = true then PySem.W.subIn K (.ref D) (.ref C) else none) = some b
    rw [if_pos (by rw [hc, h.ty]; rfl)]
    exact s
theorem kit_val {K : PySem.W.Frag} {D : Addr} (s : PySem.W.subIn K (.ref D) (.type "ValueError") = some true) : PySem.W.kitOne K (.ref D) (.type "ValueError") = some true := by
  unfold PySem.W.kitOne
  split
  · rfl
  · show (if PySem.W.kitMeta "ValueError" = true then PySem.W.subIn K (.ref D) (.type "ValueError") else none) = some true
    rw [if_pos (by decide +kernel)]
    exact s
/-- a suite that is come to only where P holds -/
def tWhen (P : Prop) (t : TS) : TS := fun E σ H => P ∧ t E σ H
theorem pss_when {X : Cx} {P : Prop} {ss : List Stmt} {t : TS} (h : P → PSs X ss t) : PSs X ss (tWhen P t) := ⟨fun pins s σ H E I q => (h q.1).run pins s σ H E I q.2⟩
theorem calX_at {P : Program} {w : World} {K : PySem.W.Frag} {mg : Str → Option Value} {base : Heap} {j k : Nat} {x : Str} {sp : Sp} {f : Addr} (c : CalX P w K mg base j x sp) (hk : j ≤ k) (g : mg x = some (.ref f)) :
    ∃ fd ps, FnOk P w K mg base (L2.CX P w) k f fd ps sp ∧ PySem.W.keepIn K (.ref f) = true ∧ Binds K fd ps [] := by
  obtain ⟨f', fd, ps, F, hm, kp, b⟩ := c.ex
  have e := hm.symm.trans g
  cases e
  exact ⟨fd, ps, F.mono hk, kp, b⟩
theorem cal_at {P : Program} {w : World} {K : PySem.W.Frag} {mg : Str → Option Value} {base : Heap} {j k : Nat} {x : Str} {sp : Sp} {f : Addr} (c : Cal P w K mg base j x sp []) (hk : j ≤ k) (g : mg x = some (.ref f)) :
    ∃ fd ps, FnOk P w K mg base CX0 k f fd ps sp ∧ PySem.W.keepIn K (.ref f) = true ∧ Binds K fd ps [] := by
  obtain ⟨f', fd, ps, ds, F, hm, kp, b, hd⟩ := c.ex
  have e := hm.symm.trans g
  cases e
  cases hd
  exact ⟨fd, ps, F.mono hk, kp, b⟩
theorem passAt0 {X : Cx} {σ : L2.St} {E : XK} : PassesAt CX0 X σ E := fun _ _ _ _ _ _ h => h.elim
end SF

set_option maxHeartbeats 4000000
/-! A reading, step by step: one lemma a head. -/
namespace SF
open PySem PySem.Spec PyProof.Rows L2
open C8 (Cal pe_c)
section
variable {K : PySem.W.Frag} {σ : L2.St} {H H' : Hp} {Q : VK} {ta tb te tx to : TE} {t u : TT} {A : TA} {ts us : TS} {g : TG} {n b c : L2.St → Hp → Prop} {r : VK} {x y v : V}
/-! ### heaps that change at one place -/
/-- all but what stands at l is as it was -/
def Bx (l : Addr) (H H' : Hp) : Prop := ((∃ xs, H l = some (.lst xs)) ∨ ∃ kvs, H l = some (.dK kvs)) ∧ ∀ a o, a ≠ l → H a = some o → H' a = some o
def At (H : Hp) (a : Addr) (o : HO) : Prop := H a = some o
def Fr (H : Hp) (a : Addr) : Prop := H a = none
@[grind →] theorem same_at (e : Same H H') {a : Addr} {o : HO} (h : At H a o) : At H' a o := e a o h
@[grind →] theorem same_none (e : Same H H') {a : Addr} (h : Fr H' a) : Fr H a := e.free h
@[grind →] theorem same_tr {H1 : Hp} (e : Same H H1) (f : Same H1 H') : Same H H' := e.trans f
@[grind →] theorem at_ne {a l : Addr} {o : HO} (h : At H a o) (h' : Fr H l) : a ≠ l := ne_of_none h h'
@[grind →] theorem at_bx {l a : Addr} {o : HO} (e : Bx l H H') (h : At H a o) : a = l ∨ At H' a o := by
  by_cases q : a = l
  · exact .inl q
  · exact .inr (e.2 a o q h)
@[grind ←] theorem at_seq {a : Addr} {xs : List V} (h : At H a (.lst xs)) : SqL K H a xs := sqL_of h
@[grind →] theorem bx_tx {l : Addr} (e : Bx l H H') : Tx H H' := by
  obtain ⟨⟨xs, h⟩ | ⟨kvs, h⟩, e⟩ := e
  · exact ⟨fun a ys q => e a _ (ne_of q h fun z => by cases z) q, fun a o w q => e a _ (ne_of q h fun z => by cases z) q⟩
  · exact ⟨fun a ys q => e a _ (ne_of q h fun z => by cases z) q, fun a o w q => e a _ (ne_of q h fun z => by cases z) q⟩
@[grind →] theorem same_bx {H1 : Hp} {l : Addr} (e : Same H H1) (f : Bx l H1 H') (h : Fr H l) : Same H H' := fun a o q => f.2 a o (ne_of_none q h) (e a o q)
@[grind →] theorem same_txG (e : Same H H') : Tx H H' := .of e
@[grind →] theorem tx_tr {H1 : Hp} (e : Tx H H1) (f : Tx H1 H') : Tx H H' := e.trans f
theorem im_tx {d : PyData} (e : Tx H H') (h : Im K H v d) : Im K H' v d := h.tx e
theorem imAll_tx {vs : List V} {ds : List PyData} (e : Tx H H') (h : ImAll K H vs ds) : ImAll K H' vs ds := h.tx e
theorem scr_tx {ns : List Int} (e : Tx H H') (h : Scr K H v ns) : Scr K H' v ns := h.tx e
theorem sqT_txG {a : Addr} {xs : List V} (e : Tx H H') (h : SqT K H a xs) : SqT K H' a xs := sqT_tx e h
theorem dp_sameG {d : PyData} (e : Same H H') (h : Dp K H v d) : Dp K H' v d := dp_same e h
theorem sqL_sameG {a : Addr} {xs : List V} (e : Same H H') (h : SqL K H a xs) : SqL K H' a xs := e.seq h
theorem ne_none {a l : Addr} {o : HO} (h : H a = some o) (h' : H l = none) : a ≠ l := ne_of_none h h'
theorem bx_upd {l : Addr} {xs : List V} {o : HO} (h : H l = some (.lst xs)) : Bx l H (upd H l o) := ⟨.inl ⟨xs, h⟩, fun a w q e => by
  rw [upd_ne q]
  exact e⟩
theorem bx_updD {l : Addr} {kvs : List (Key × V)} {o : HO} (h : H l = some (.dK kvs)) : Bx l H (upd H l o) := ⟨.inr ⟨kvs, h⟩, fun a w q e => by
  rw [upd_ne q]
  exact e⟩
/-! ### names -/
theorem st_v0 (h : Q v H) : tVar 0 (some v :: σ) H Q := ⟨v, rfl, h⟩
theorem st_g0 {s : Option V} (h : n (some v :: σ) H) : gName 0 v (s :: σ) H n := h
theorem st_v1 {s0 : Option V} (h : Q v H) : tVar 1 (s0 :: some v :: σ) H Q := ⟨v, rfl, h⟩
theorem st_g1 {s0 : Option V} {s : Option V} (h : n (s0 :: some v :: σ) H) : gName 1 v (s0 :: s :: σ) H n := h
theorem st_v2 {s0 s1 : Option V} (h : Q v H) : tVar 2 (s0 :: s1 :: some v :: σ) H Q := ⟨v, rfl, h⟩
theorem st_g2 {s0 s1 : Option V} {s : Option V} (h : n (s0 :: s1 :: some v :: σ) H) : gName 2 v (s0 :: s1 :: s :: σ) H n := h
theorem st_v3 {s0 s1 s2 : Option V} (h : Q v H) : tVar 3 (s0 :: s1 :: s2 :: some v :: σ) H Q := ⟨v, rfl, h⟩
theorem st_g3 {s0 s1 s2 : Option V} {s : Option V} (h : n (s0 :: s1 :: s2 :: some v :: σ) H) : gName 3 v (s0 :: s1 :: s2 :: s :: σ) H n := h
theorem st_v4 {s0 s1 s2 s3 : Option V} (h : Q v H) : tVar 4 (s0 :: s1 :: s2 :: s3 :: some v :: σ) H Q := ⟨v, rfl, h⟩
theorem st_g4 {s0 s1 s2 s3 : Option V} {s : Option V} (h : n (s0 :: s1 :: s2 :: s3 :: some v :: σ) H) : gName 4 v (s0 :: s1 :: s2 :: s3 :: s :: σ) H n := h
theorem st_v5 {s0 s1 s2 s3 s4 : Option V} (h : Q v H) : tVar 5 (s0 :: s1 :: s2 :: s3 :: s4 :: some v :: σ) H Q := ⟨v, rfl, h⟩
theorem st_g5 {s0 s1 s2 s3 s4 : Option V} {s : Option V} (h : n (s0 :: s1 :: s2 :: s3 :: s4 :: some v :: σ) H) : gName 5 v (s0 :: s1 :: s2 :: s3 :: s4 :: s :: σ) H n := h
theorem st_v6 {s0 s1 s2 s3 s4 s5 : Option V} (h : Q v H) : tVar 6 (s0 :: s1 :: s2 :: s3 :: s4 :: s5 :: some v :: σ) H Q := ⟨v, rfl, h⟩
theorem st_g6 {s0 s1 s2 s3 s4 s5 : Option V} {s : Option V} (h : n (s0 :: s1 :: s2 :: s3 :: s4 :: s5 :: some v :: σ) H) : gName 6 v (s0 :: s1 :: s2 :: s3 :: s4 :: s5 :: s :: σ) H n := h
theorem st_v7 {s0 s1 s2 s3 s4 s5 s6 : Option V} (h : Q v H) : tVar 7 (s0 :: s1 :: s2 :: s3 :: s4 :: s5 :: s6 :: some v :: σ) H Q := ⟨v, rfl, h⟩
theorem st_g7 {s0 s1 s2 s3 s4 s5 s6 : Option V} {s : Option V} (h : n (s0 :: s1 :: s2 :: s3 :: s4 :: s5 :: s6 :: some v :: σ) H) : gName 7 v (s0 :: s1 :: s2 :: s3 :: s4 :: s5 :: s6 :: s :: σ) H n := h
theorem st_v8 {s0 s1 s2 s3 s4 s5 s6 s7 : Option V} (h : Q v H) : tVar 8 (s0 :: s1 :: s2 :: s3 :: s4 :: s5 :: s6 :: s7 :: some v :: σ) H Q := ⟨v, rfl, h⟩
theorem st_g8 {s0 s1 s2 s3 s4 s5 s6 s7 : Option V} {s : Option V} (h : n (s0 :: s1 :: s2 :: s3 :: s4 :: s5 :: s6 :: s7 :: some v :: σ) H) : gName 8 v (s0 :: s1 :: s2 :: s3 :: s4 :: s5 :: s6 :: s7 :: s :: σ) H n := h
theorem st_v9 {s0 s1 s2 s3 s4 s5 s6 s7 s8 : Option V} (h : Q v H) : tVar 9 (s0 :: s1 :: s2 :: s3 :: s4 :: s5 :: s6 :: s7 :: s8 :: some v :: σ) H Q := ⟨v, rfl, h⟩
theorem st_g9 {s0 s1 s2 s3 s4 s5 s6 s7 s8 : Option V} {s : Option V} (h : n (s0 :: s1 :: s2 :: s3 :: s4 :: s5 :: s6 :: s7 :: s8 :: some v :: σ) H) : gName 9 v (s0 :: s1 :: s2 :: s3 :: s4 :: s5 :: s6 :: s7 :: s8 :: s :: σ) H n := h
theorem st_v10 {s0 s1 s2 s3 s4 s5 s6 s7 s8 s9 : Option V} (h : Q v H) : tVar 10 (s0 :: s1 :: s2 :: s3 :: s4 :: s5 :: s6 :: s7 :: s8 :: s9 :: some v :: σ) H Q := ⟨v, rfl, h⟩
theorem st_g10 {s0 s1 s2 s3 s4 s5 s6 s7 s8 s9 : Option V} {s : Option V} (h : n (s0 :: s1 :: s2 :: s3 :: s4 :: s5 :: s6 :: s7 :: s8 :: s9 :: some v :: σ) H) : gName 10 v (s0 :: s1 :: s2 :: s3 :: s4 :: s5 :: s6 :: s7 :: s8 :: s9 :: s :: σ) H n := h
theorem st_v11 {s0 s1 s2 s3 s4 s5 s6 s7 s8 s9 s10 : Option V} (h : Q v H) : tVar 11 (s0 :: s1 :: s2 :: s3 :: s4 :: s5 :: s6 :: s7 :: s8 :: s9 :: s10 :: some v :: σ) H Q := ⟨v, rfl, h⟩
theorem st_g11 {s0 s1 s2 s3 s4 s5 s6 s7 s8 s9 s10 : Option V} {s : Option V} (h : n (s0 :: s1 :: s2 :: s3 :: s4 :: s5 :: s6 :: s7 :: s8 :: s9 :: s10 :: some v :: σ) H) : gName 11 v (s0 :: s1 :: s2 :: s3 :: s4 :: s5 :: s6 :: s7 :: s8 :: s9 :: s10 :: s :: σ) H n := h
theorem st_v12 {s0 s1 s2 s3 s4 s5 s6 s7 s8 s9 s10 s11 : Option V} (h : Q v H) : tVar 12 (s0 :: s1 :: s2 :: s3 :: s4 :: s5 :: s6 :: s7 :: s8 :: s9 :: s10 :: s11 :: some v :: σ) H Q := ⟨v, rfl, h⟩
theorem st_g12 {s0 s1 s2 s3 s4 s5 s6 s7 s8 s9 s10 s11 : Option V} {s : Option V} (h : n (s0 :: s1 :: s2 :: s3 :: s4 :: s5 :: s6 :: s7 :: s8 :: s9 :: s10 :: s11 :: some v :: σ) H) : gName 12 v (s0 :: s1 :: s2 :: s3 :: s4 :: s5 :: s6 :: s7 :: s8 :: s9 :: s10 :: s11 :: s :: σ) H n := h
theorem st_v13 {s0 s1 s2 s3 s4 s5 s6 s7 s8 s9 s10 s11 s12 : Option V} (h : Q v H) : tVar 13 (s0 :: s1 :: s2 :: s3 :: s4 :: s5 :: s6 :: s7 :: s8 :: s9 :: s10 :: s11 :: s12 :: some v :: σ) H Q := ⟨v, rfl, h⟩
theorem st_g13 {s0 s1 s2 s3 s4 s5 s6 s7 s8 s9 s10 s11 s12 : Option V} {s : Option V} (h : n (s0 :: s1 :: s2 :: s3 :: s4 :: s5 :: s6 :: s7 :: s8 :: s9 :: s10 :: s11 :: s12 :: some v :: σ) H) : gName 13 v (s0 :: s1 :: s2 :: s3 :: s4 :: s5 :: s6 :: s7 :: s8 :: s9 :: s10 :: s11 :: s12 :: s :: σ) H n := h
theorem st_v14 {s0 s1 s2 s3 s4 s5 s6 s7 s8 s9 s10 s11 s12 s13 : Option V} (h : Q v H) : tVar 14 (s0 :: s1 :: s2 :: s3 :: s4 :: s5 :: s6 :: s7 :: s8 :: s9 :: s10 :: s11 :: s12 :: s13 :: some v :: σ) H Q := ⟨v, rfl, h⟩
theorem st_g14 {s0 s1 s2 s3 s4 s5 s6 s7 s8 s9 s10 s11 s12 s13 : Option V} {s : Option V} (h : n (s0 :: s1 :: s2 :: s3 :: s4 :: s5 :: s6 :: s7 :: s8 :: s9 :: s10 :: s11 :: s12 :: s13 :: some v :: σ) H) : gName 14 v (s0 :: s1 :: s2 :: s3 :: s4 :: s5 :: s6 :: s7 :: s8 :: s9 :: s10 :: s11 :: s12 :: s13 :: s :: σ) H n := h
/-! ### expressions -/
theorem st_c (h : Q v H) : tC v σ H Q := h
theorem st_op {o : R2} (h : ta σ H fun x H1 => tb σ H1 fun y H2 => o x y H2 Q) : tOp o ta tb σ H Q := h
theorem st_un {o : V → Hp → VK → Prop} (h : ta σ H fun x H1 => o x H1 Q) : tUn o ta σ H Q := h
theorem st_andV (h : ta σ H fun x H1 => ∃ c, x = .bl c ∧ if c = true then tb σ H1 Q else Q (.bl false) H1) : tAndV ta tb σ H Q := h
theorem st_orV (h : ta σ H fun x H1 => ∃ c, x = .bl c ∧ if c = true then Q (.bl true) H1 else tb σ H1 Q) : tOrV ta tb σ H Q := h
theorem st_notV (h : ta σ H fun x H1 => ∃ c, x = .bl c ∧ Q (.bl (!c)) H1) : tNotV ta σ H Q := h
theorem st_cb {o : List V → Hp → VK → Prop} (h : A σ H fun vs H1 => o vs H1 Q) : tCB o A σ H Q := h
theorem st_ckw {o : List V → List V → Hp → VK → Prop} {A2 : TA} (h : A σ H fun vs H1 => A2 σ H1 fun zs H2 => o vs zs H2 Q) : tCKw o A A2 σ H Q := h
theorem st_nil {Q : List V → Hp → Prop} (h : Q [] H) : tNil σ H Q := h
theorem st_cons {Q : List V → Hp → Prop} (h : ta σ H fun x H1 => A σ H1 fun xs H2 => Q (x :: xs) H2) : tCons ta A σ H Q := h
theorem st_call {sp : Sp} {E : XK} (h : A σ H fun vs H1 => sp vs H1 Q E) : tCall sp [] E A σ H Q := by
  have e0 : (fun (vs : List V) (H1 : Hp) => sp (vs ++ []) H1 Q E) = fun vs H1 => sp vs H1 Q E := by
    funext vs H1
    rw [List.append_nil]
  show A σ H (fun vs H1 => sp (vs ++ []) H1 Q E)
  rw [e0]
  exact h
theorem st_callS {sp : Sp} {W : WX} (h : A σ H fun vs H1 => sp vs H1 Q (WE W σ)) : tCallS sp (WE W) A σ H Q := h
theorem st_callF {S : Addr → Sp → Prop} {E : L2.St → XK} (h : te σ H fun v H1 => ∃ f sp, v = .ref f ∧ S f sp ∧ A σ H1 fun vs H2 => sp vs H2 Q (E σ)) : tCallF S E te A σ H Q := h
theorem st_bm {T : String} {o : V → List V → Hp → VK → Prop} (h : te σ H fun x H1 => tyV K T x H1 ∧ A σ H1 fun xs H2 => o x xs H2 Q) : tBM K T o te A σ H Q := h
theorem st_m1 {o : V → List V → Hp → VK → Prop} (h : to σ H fun x H1 => (∃ a, x = .str a) ∧ te σ H1 fun y H2 => o x [y] H2 Q) : tM1 o to te σ H Q := h
theorem st_sl {o : V → Option Int → Option Int → Hp → VK → Prop} {tl th : TO} (h : te σ H fun x H1 => tl σ H1 fun l H2 => th σ H2 fun w H3 => o x l w H3 Q) : tSl o te tl th σ H Q := h
theorem st_nopart {Q : Option Int → Hp → Prop} (h : Q none H) : tNoPart σ H Q := h
theorem st_part {Q : Option Int → Hp → Prop} (h : te σ H fun x H1 => ∃ i, x = .int i ∧ Q (some i) H1) : tPart te σ H Q := h
/-- a display: the items, then a new object -/
def NewT (xs : List V) (H : Hp) (Q : VK) : Prop := xs.length ≤ sizeLine ∧ ∀ p, H p = none → Q (.ref p) (upd H p (.tup xs))
def NewL (xs : List V) (H : Hp) (Q : VK) : Prop := xs.length ≤ sizeLine ∧ ∀ p, H p = none → Q (.ref p) (upd H p (.lst xs))
theorem st_tup (h : A σ H fun xs H1 => NewT xs H1 Q) : tTup A σ H Q := h
theorem st_lst (h : A σ H fun xs H1 => NewL xs H1 Q) : tLst A σ H Q := h
theorem newT {xs : List V} (hz : xs.length ≤ 1000000) (h : ∀ p H2, Fr H p → Same H H2 → At H2 p (.tup xs) → Q (.ref p) H2) : NewT xs H Q := ⟨small hz, fun p np => h p _ np (same_new np) upd_same⟩
theorem newL {xs : List V} (hz : xs.length ≤ 1000000) (h : ∀ p H2, Fr H p → Same H H2 → At H2 p (.lst xs) → Q (.ref p) H2) : NewL xs H Q := ⟨small hz, fun p np => h p _ np (same_new np) upd_same⟩
/-- a tuple of data that stand -/
theorem newI {xs : List V} {ds : List PyData} (hd : ImAll K H xs ds) (hz : ds.length ≤ 1000000) (h : ∀ w H2, Same H H2 → Im K H2 w (.tuple ds) → Q w H2) : NewT xs H Q := by
  have e := hd.length
  exact ⟨small (by omega), fun p np => h _ _ (same_new np) (im_new np hd)⟩
/-- an address that is new, if it is one -/
def FreshV (H : Hp) (v : V) : Prop := ∀ a, v = .ref a → H a = none
theorem FreshV.back {v : V} (h : FreshV H' v) (e : Same H H') : FreshV H v := fun a q => e.free (h a q)
theorem FreshV.ne {v : V} (h : FreshV H v) {l : Addr} {o : HO} (hl : At H l o) : ∀ a, v = .ref a → a ≠ l := fun a q z => by
  have e := h a q
  rw [z] at e
  exact nomatch (e.symm.trans hl)
theorem newF {xs : List V} {ds : List PyData} (hd : ImAll K H xs ds) (hz : ds.length ≤ 1000000) (h : ∀ w H2, Same H H2 → Im K H2 w (.tuple ds) → FreshV H w → Q w H2) : NewT xs H Q := by
  have e := hd.length
  exact ⟨small (by omega), fun p np => h _ _ (same_new np) (im_new np hd) fun a q => by cases q; exact np⟩
/-! ### operators -/
theorem st_I0 {f : Int → Int → V} {i j : Int} (h : Q (f i j) H) : rI0 f (.int i) (.int j) H Q := ⟨i, j, rfl, rfl, h⟩
theorem st_mod {i j : Int} (hj : 0 < j) (h : Q (.int (i % j)) H) : oMod (.int i) (.int j) H Q := ⟨i, j, rfl, rfl, hj, h⟩
theorem st_div {i j : Int} (hj : 0 < j ∧ j < 1073741824) (h : Q (.int (i / j)) H) : oDiv (.int i) (.int j) H Q := ⟨i, j, rfl, rfl, hj, h⟩
theorem st_mul {i j : Int} (hj : (-(2 ^ 64) < i ∧ i < 2 ^ 64) ∨ (-(2 ^ 64) < j ∧ j < 2 ^ 64)) (h : Q (.int (i * j)) H) : oMul (.int i) (.int j) H Q := ⟨i, j, rfl, rfl, hj, h⟩
theorem st_shl {i j : Int} (hj : 0 ≤ j ∧ j ≤ 1000000 ∧ i.natAbs < 2 ^ 64) (h : Q (.int (i * 2 ^ j.toNat)) H) : oShl (.int i) (.int j) H Q := ⟨i, j, rfl, rfl, hj, h⟩
theorem st_shr {i j : Int} (hj : 0 ≤ j) (h : Q (.int (i / 2 ^ j.toNat)) H) : oShr (.int i) (.int j) H Q := ⟨i, j, rfl, rfl, hj, h⟩
theorem st_pow {i j : Int} (hj : 0 ≤ j ∧ j ≤ 1000000 ∧ i.natAbs < 2 ^ 64) (h : Q (.int (i ^ j.toNat)) H) : oPow (.int i) (.int j) H Q := ⟨i, j, rfl, rfl, hj, h⟩
theorem st_mulW {i j : Int} (hi : i.natAbs < 2 ^ 100) (hj : j.natAbs < 2 ^ 100) (h : Q (.int (i * j)) H) : oMulW (.int i) (.int j) H Q := by
  refine ⟨i, j, rfl, rfl, ?_, h⟩
  have l : ∀ z : Nat, z < 2 ^ 100 → z.log2 ≤ 100 := fun z hz => by
    by_cases e : z = 0
    · subst e
      simp
    · exact Nat.le_of_lt ((Nat.log2_lt e).mpr hz)
  have h1 := l _ hi
  have h2 := l _ hj
  unfold CMulW
  omega
theorem st_neg {i : Int} (h : Q (.int (-i)) H) : uNeg (.int i) H Q := ⟨i, rfl, h⟩
theorem st_inv {i : Int} (h : Q (.int (Builtin.bitNot i)) H) : uInv (.int i) H Q := ⟨i, rfl, h⟩
theorem st_eqI {i j : Int} (h : Q (.bl (decide (i = j))) H) : rEq (.int i) (.int j) H Q := ⟨rfl, by
  have e : decide (V.int i = V.int j) = decide (i = j) := decide_eq_decide.mpr ⟨V.int.inj, congrArg V.int⟩
  rw [e]
  exact h⟩
theorem st_neI {i j : Int} (h : Q (.bl (!decide (i = j))) H) : rNe (.int i) (.int j) H Q := ⟨rfl, by
  have e : decide (V.int i = V.int j) = decide (i = j) := decide_eq_decide.mpr ⟨V.int.inj, congrArg V.int⟩
  rw [e]
  exact h⟩
theorem st_eqS {i j : Str} (h : Q (.bl (decide (i = j))) H) : rEq (.str i) (.str j) H Q := ⟨rfl, by
  have e : decide (V.str i = V.str j) = decide (i = j) := decide_eq_decide.mpr ⟨V.str.inj, congrArg V.str⟩
  rw [e]
  exact h⟩
theorem st_neS {i j : Str} (h : Q (.bl (!decide (i = j))) H) : rNe (.str i) (.str j) H Q := ⟨rfl, by
  have e : decide (V.str i = V.str j) = decide (i = j) := decide_eq_decide.mpr ⟨V.str.inj, congrArg V.str⟩
  rw [e]
  exact h⟩
theorem st_neB {i j : Bool} (h : Q (.bl (!decide (i = j))) H) : rNe (.bl i) (.bl j) H Q := ⟨rfl, by
  have e : decide (V.bl i = V.bl j) = decide (i = j) := decide_eq_decide.mpr ⟨V.bl.inj, congrArg V.bl⟩
  rw [e]
  exact h⟩
theorem st_isB {i j : Bool} (h : Q (.bl (decide (i = j))) H) : rIsB (.bl i) (.bl j) H Q := ⟨i, j, rfl, rfl, h⟩
theorem st_notB {i j : Bool} (h : Q (.bl (!decide (i = j))) H) : rNotB (.bl i) (.bl j) H Q := ⟨i, j, rfl, rfl, h⟩
theorem st_isN (h : Q (.bl (decide (x = .non))) H) : oIsN x .non H Q := ⟨rfl, h⟩
theorem st_notN (h : Q (.bl (!decide (x = .non))) H) : oNotN x .non H Q := ⟨rfl, h⟩
theorem st_addS {i j : Str} (hz : i.length + j.length ≤ 1000000) (h : Q (.str (i ++ j)) H) : oAddS (.str i) (.str j) H Q := ⟨i, j, rfl, rfl, small hz, h⟩
theorem st_max2 {i j : Int} (h : Q (.int (if j > i then j else i)) H) : cMax2 [.int i, .int j] H Q := ⟨i, j, rfl, h⟩
theorem st_lenL {p : Addr} {xs : List V} (hp : SqL K H p xs) (h : Q (.int xs.length) H) : cLen K [.ref p] H Q := ⟨p, xs, rfl, .inl hp, h⟩
theorem st_lenT {p : Addr} {xs : List V} (hp : SqT K H p xs) (h : Q (.int xs.length) H) : cLen K [.ref p] H Q := ⟨p, xs, rfl, .inr hp, h⟩
theorem st_lenI {ds : List PyData} (hp : Im K H v (.tuple ds)) (h : Q (.int ds.length) H) : cLen K [v] H Q := by
  obtain ⟨a, xs, rfl, hs, ht⟩ := im_tup hp
  rw [← ht.length] at h
  exact ⟨a, xs, rfl, .inr hs, h⟩
theorem st_ixL {p : Addr} {xs : List V} {i : Int} (j : Nat) (hp : SqL K H p xs) (ei : i = (j : Int)) (hj : xs[j]? = some v) (h : Q v H) : rIxL K (.ref p) (.int i) H Q := ⟨p, xs, i, v, rfl, rfl, hp, atI_n hj ei, h⟩
theorem st_ixT {p : Addr} {xs : List V} {i : Int} (j : Nat) (hp : SqT K H p xs) (ei : i = (j : Int)) (hj : xs[j]? = some v) (h : Q v H) : rIxT K (.ref p) (.int i) H Q := ⟨p, xs, i, v, rfl, rfl, hp, atI_n hj ei, h⟩
/-- an item of a datum -/
theorem st_ixI {ds : List PyData} {d : PyData} {i : Int} (j : Nat) (hp : Im K H x (.tuple ds)) (ei : i = (j : Int)) (hj : ds[j]? = some d) (h : ∀ v, Im K H v d → Q v H) : rIxT K x (.int i) H Q := by
  obtain ⟨a, xs, rfl, hs, ht⟩ := im_tup hp
  obtain ⟨v, hv, hi⟩ := ht.at hj
  exact ⟨a, xs, i, v, rfl, rfl, hs, atI_n hv ei, h v hi⟩
theorem st_tupL {p : Addr} {xs : List V} (hp : SqL K H p xs) (h : ∀ l H2, Fr H l → Same H H2 → At H2 l (.tup xs) → Q (.ref l) H2) : cTup K [.ref p] H Q := ⟨p, xs, rfl, .inl ⟨hp, fun l nl => h l _ nl (same_new nl) upd_same⟩⟩
/-- tuple(a list of data) -/
theorem st_tupI {p : Addr} {xs : List V} {ds : List PyData} (hp : SqL K H p xs) (hd : ImAll K H xs ds) (h : ∀ w H2, Same H H2 → Im K H2 w (.tuple ds) → Q w H2) : cTup K [.ref p] H Q := ⟨p, xs, rfl, .inl ⟨hp, fun l nl => h _ _ (same_new nl) (im_new nl hd)⟩⟩
theorem st_tupD {p : Addr} {xs : List V} {ds : List PyData} (hp : SqL K H p xs) (hd : DpAll K H xs ds) (h : ∀ w H2, Same H H2 → Dp K H2 w (.tuple ds) → Q w H2) : cTup K [.ref p] H Q := ⟨p, xs, rfl, .inl ⟨hp, fun l nl => h _ _ (same_new nl) (.tup (sqT_of upd_same) (dpAll_same (same_new nl) hd))⟩⟩
theorem st_listT {p : Addr} {xs : List V} (hp : SqT K H p xs) (h : ∀ l H2, Fr H l → Same H H2 → At H2 l (.lst xs) → Q (.ref l) H2) : cList K [.ref p] H Q := ⟨p, xs, rfl, .inr hp, fun l nl => h l _ nl (same_new nl) upd_same⟩
theorem st_listL {p : Addr} {xs : List V} (hp : SqL K H p xs) (h : ∀ l H2, Fr H l → Same H H2 → At H2 l (.lst xs) → Q (.ref l) H2) : cList K [.ref p] H Q := ⟨p, xs, rfl, .inl hp, fun l nl => h l _ nl (same_new nl) upd_same⟩
theorem st_listI {ds : List PyData} (hp : Im K H v (.tuple ds)) (h : ∀ l H2 xs, Fr H l → Same H H2 → At H2 l (.lst xs) → ImAll K H2 xs ds → Q (.ref l) H2) : cList K [v] H Q := by
  obtain ⟨a, xs, rfl, hs, ht⟩ := im_tup hp
  exact ⟨a, xs, rfl, .inr hs, fun l nl => h l _ xs nl (same_new nl) upd_same (ht.tx (.new nl))⟩
theorem st_app {l : Addr} {xs : List V} (hl : At H l (.lst xs)) (hz : xs.length < 1000000) (h : ∀ H2, Bx l H H2 → At H2 l (.lst (xs ++ [v])) → Q .non H2) : rAppend (.ref l) [v] H Q := ⟨l, xs, v, rfl, rfl, hl, small' (by omega), h _ (bx_upd hl) upd_same⟩
theorem st_ins {l : Addr} {xs : List V} {i : Int} (hl : At H l (.lst xs)) (hz : xs.length < 1000000) (hi : 0 ≤ i ∧ i < 2 ^ 63) (h : ∀ H2, Bx l H H2 → At H2 l (.lst (xs.take i.toNat ++ [v] ++ xs.drop i.toNat)) → Q .non H2) : mIns (.ref l) [.int i, v] H Q := ⟨l, xs, i, v, rfl, rfl, hl, small' (by omega), hi.1, hi.2, h _ (bx_upd hl) upd_same⟩
theorem st_popAt {l : Addr} {xs : List V} {i : Int} {k : Nat} (hl : At H l (.lst xs)) (ei : i = (k : Int)) (hk : k < 2 ^ 62) (hx : xs[k]? = some v) (h : ∀ H2, Bx l H H2 → At H2 l (.lst (xs.eraseIdx k)) → Q v H2) : rPopAt (.ref l) [.int i] H Q := by
  have hlt : k < xs.length := (List.getElem?_eq_some_iff.mp hx).1
  have e2 : ixN xs.length (k : Int) = some k := by
    unfold ixN
    rw [if_pos (by omega), if_pos (by omega)]
    simp
  exact ⟨l, xs, i, k, v, rfl, rfl, hl, by omega, by omega, by rw [ei]; exact (ixN_seq e2).1, hx, h _ (bx_upd hl) upd_same⟩
theorem st_extL {l m : Addr} {xs zs : List V} (hl : At H l (.lst xs)) (hm : At H m (.lst zs)) (hz : xs.length + zs.length ≤ 1000000) (h : ∀ H2, Bx l H H2 → At H2 l (.lst (xs ++ zs)) → Q .non H2) : rExtend (.ref l) [.ref m] H Q := ⟨l, m, xs, zs, rfl, rfl, hl, hm, small hz, h _ (bx_upd hl) upd_same⟩
theorem st_setL {l : Addr} {xs : List V} {i : Int} (k : Nat) {Q : Hp → Prop} (hl : At H l (.lst xs)) (ei : i = (k : Int)) (hk : k < xs.length) (h : ∀ H2, Bx l H H2 → At H2 l (.lst (xs.set k v)) → Q H2) : rSetL (.ref l) (.int i) v H Q := by
  have e2 : ixN xs.length (k : Int) = some k := by
    unfold ixN
    rw [if_pos (by omega), if_pos (by omega)]
    simp
  exact ⟨l, xs, i, k, rfl, rfl, hl, by rw [ei]; exact e2, h _ (bx_upd hl) upd_same⟩
theorem st_tyL {p : Addr} {xs : List V} {R : Prop} (hp : At H p (.lst xs)) (h : R) : tyV K "list" (.ref p) H ∧ R := ⟨.inl ⟨rfl, xs, sqL_of hp⟩, h⟩
def RevL (K : PySem.W.Frag) (Q : VK) (x : V) (H : Hp) : Prop := ∃ a xs, x = .ref a ∧ SqL K H a xs ∧ ∀ p, H p = none → Q (.ref p) (upd H p (.lst xs.reverse))
theorem st_revL {p : Addr} {xs : List V} (hp : SqL K H p xs) (h : ∀ l H2, Fr H l → Same H H2 → At H2 l (.lst xs.reverse) → Q (.ref l) H2) : RevL K Q (.ref p) H := ⟨p, xs, rfl, hp, fun l nl => h l _ nl (same_new nl) upd_same⟩
theorem st_rev (h : te σ H fun x H1 => RevL K Q x H1) : tRevL K te σ H Q := h
theorem st_catL {l m : Addr} {xs zs : List V} (hl : At H l (.lst xs)) (hm : At H m (.lst zs)) (hz : xs.length + zs.length ≤ 1000000) (h : ∀ p H2, Fr H p → Same H H2 → At H2 p (.lst (xs ++ zs)) → Q (.ref p) H2) : rCat (.ref l) (.ref m) H Q := ⟨l, m, xs, zs, rfl, rfl, hl, hm, small hz, fun p np => h p _ np (same_new np) upd_same⟩
/-- + of two tuples of data -/
theorem st_catI {ds es : List PyData} (h1 : Im K H x (.tuple ds)) (h2 : Im K H y (.tuple es)) (hz : ds.length + es.length ≤ 1000000) (h : ∀ w H2, Same H H2 → Im K H2 w (.tuple (ds ++ es)) → Q w H2) : rCatA K x y H Q := by
  obtain ⟨a, xs, rfl, ha, hx⟩ := im_tup h1
  obtain ⟨b, ys, rfl, hb, hy⟩ := im_tup h2
  have l1 := hx.length
  have l2 := hy.length
  refine ⟨a, b, xs, ys, rfl, rfl, ha, hb, small (by omega), fun e => ?_, fun e1 e2 => ?_, fun _ _ p np => h _ _ (same_new np) (im_new np (hx.append hy))⟩
  · subst e
    cases hx
    exact h _ _ (Same.refl H) h2
  · subst e2
    cases hy
    rw [List.append_nil] at h
    exact h _ _ (Same.refl H) h1
/-- a slice of a tuple of data, by its ends -/
theorem st_sliceI {ds : List PyData} {lo hi : Option Int} (h1 : Im K H x (.tuple ds)) (h : ∀ w H2, Same H H2 → Im K H2 w (.tuple ((ds.drop (HT.sIx ds.length 0 lo)).take (HT.sIx ds.length ds.length hi - HT.sIx ds.length 0 lo))) → Q w H2) : rSlA K x lo hi H Q := by
  obtain ⟨a, xs, rfl, ha, hx⟩ := im_tup h1
  have l1 := hx.length
  rw [← l1] at h
  refine ⟨a, xs, rfl, ha, fun e => ?_, fun _ p np => h _ _ (same_new np) (im_new np ((hx.drop _).take _))⟩
  rw [e.1, e.2] at h
  simp only [List.drop_zero, Nat.sub_zero, l1, List.take_length] at h
  exact h _ _ (Same.refl H) h1
theorem st_isi {d : PyData} {T : String} (hd : Dp K H v d) (k : (kitB (tyD d) T).isSome = true) (q : Q (.bl (isD d T)) H) : rIsi K [v, .ty T] H Q := isi_dp hd k q
theorem st_all {a : Addr} {bs : List Bool} (h : SqL K H a (bs.map V.bl)) (q : Q (.bl (bs.all id)) H) : rAll K [.ref a] H Q := ⟨a, bs, rfl, h, q⟩
theorem st_maxD {a : Addr} {ns : List Int} {d : Int} (h : SqL K H a (ns.map V.int)) (q : Q (.int (maxOf d ns)) H) : rMaxD K [.ref a] [.int d] H Q := ⟨a, ns, d, rfl, rfl, h, q⟩
theorem st_intI {i : Int} (q : Q (.int i) H) : cInt [.int i] H Q := .inl ⟨i, rfl, q⟩
theorem st_intB {k : Bool} (q : Q (.int (if k then 1 else 0)) H) : cInt [.bl k] H Q := .inr ⟨k, rfl, q⟩
theorem st_str {i : Int} (hi : i.natAbs.log2 < 1920) (q : Q (.str (toString i)) H) : cStr [.int i] H Q := ⟨i, rfl, hi, q⟩
/-- == of data -/
theorem st_eqD {d e : PyData} (h1 : Dp K H x d) (h2 : Dp K H y e) (s1 : SeqAt.shaped d = true) (s2 : SeqAt.shaped e = true) (q : Q (.bl (PyData.eqv d e)) H) : rEqD K x y H Q := ⟨d, e, h1, h2, s1, s2, q⟩
theorem st_neD {d e : PyData} (h1 : Dp K H x d) (h2 : Dp K H y e) (s1 : SeqAt.shaped d = true) (s2 : SeqAt.shaped e = true) (q : Q (.bl (!PyData.eqv d e)) H) : rNeD K x y H Q := ⟨d, e, h1, h2, s1, s2, q⟩
/-! ### tests -/
theorem st_test {Q : Bool → Hp → Prop} (h : te σ H fun x H1 => ∃ k, x = .bl k ∧ Q k H1) : tTest te σ H Q := h
theorem st_B {Q : Bool → Hp → Prop} (h : te σ H fun x H1 => ∃ k, x = .bl k ∧ Q k H1) : tB te σ H Q := h
theorem st_not {Q : Bool → Hp → Prop} (h : t σ H fun k H1 => Q (!k) H1) : tNot t σ H Q := h
theorem st_and {Q : Bool → Hp → Prop} (h : t σ H fun k H1 => if k = true then u σ H1 Q else Q false H1) : tAnd t u σ H Q := h
theorem st_or {Q : Bool → Hp → Prop} (h : t σ H fun k H1 => if k = true then Q true H1 else u σ H1 Q) : tOr t u σ H Q := h
theorem st_tru {Q : Bool → Hp → Prop} (h : ta σ H fun x H1 => ∃ k, TruV K x H1 k ∧ Q k H1) : tTru K ta σ H Q := h
theorem st_truI {Q : Bool → Hp → Prop} {i : Int} (h : Q (i != 0) H) : ∃ k, TruV K (.int i) H k ∧ Q k H := ⟨_, rfl, h⟩
theorem st_yes {Q : Bool → Hp → Prop} (h : Q true H) : tYes σ H Q := h
theorem st_bl {k : Bool} {R : Bool → Prop} (h : R k) : ∃ c, V.bl k = .bl c ∧ R c := ⟨k, rfl, h⟩
theorem st_in {i : Int} {R : Int → Prop} (h : R i) : ∃ c, V.int i = .int c ∧ R c := ⟨i, rfl, h⟩
theorem st_yT {P : Prop} [Decidable P] {a b : Prop} (h : P) (k : a) : if decide P = true then a else b := by
  rw [decide_eq_true h]
  exact k
theorem st_yF {P : Prop} [Decidable P] {a b : Prop} (h : ¬ P) (k : b) : if decide P = true then a else b := by
  rw [decide_eq_false h]
  exact k
theorem st_y2 {P : Prop} [Decidable P] {a b : Prop} (h1 : P → a) (h2 : ¬ P → b) : if decide P = true then a else b := by
  by_cases h : P
  · exact st_yT h (h1 h)
  · exact st_yF h (h2 h)
theorem st_nT {P : Prop} [Decidable P] {a b : Prop} (h : ¬ P) (k : a) : if (!decide P) = true then a else b := by
  rw [decide_eq_false h]
  exact k
theorem st_nF {P : Prop} [Decidable P] {a b : Prop} (h : P) (k : b) : if (!decide P) = true then a else b := by
  rw [decide_eq_true h]
  exact k
theorem st_n2 {P : Prop} [Decidable P] {a b : Prop} (h1 : ¬ P → a) (h2 : P → b) : if (!decide P) = true then a else b := by
  by_cases h : P
  · exact st_nF h (h2 h)
  · exact st_nT h (h1 h)
theorem st_nbT {a b : Prop} (k : b) : if (!true) = true then a else b := k
theorem st_nbF {a b : Prop} (k : a) : if (!false) = true then a else b := k
theorem st_b2 {k : Bool} {a b : Prop} (h1 : k = true → a) (h2 : k = false → b) : if k = true then a else b := by
  cases k with
  | true => exact h1 rfl
  | false => exact h2 rfl
/-! ### statements -/
theorem st_seq (h : ts ⟨us ⟨n, r, b, c⟩, r, b, c⟩ σ H) : tSeq ts us ⟨n, r, b, c⟩ σ H := h
theorem st_next (h : n σ H) : tNext ⟨n, r, b, c⟩ σ H := h
theorem st_brk (h : b σ H) : tBreak ⟨n, r, b, c⟩ σ H := h
theorem st_cont (h : c σ H) : tCont ⟨n, r, b, c⟩ σ H := h
theorem st_drop (h : te σ H fun _ H1 => n σ H1) : tDrop te ⟨n, r, b, c⟩ σ H := h
theorem st_ret (h : te σ H r) : tRet te ⟨n, r, b, c⟩ σ H := h
theorem st_asg (h : te σ H fun x H1 => g x σ H1 n) : tAsg te g ⟨n, r, b, c⟩ σ H := h
theorem st_if (h : t σ H fun k H1 => if k = true then ts ⟨n, r, b, c⟩ σ H1 else us ⟨n, r, b, c⟩ σ H1) : tIfS t ts us ⟨n, r, b, c⟩ σ H := h
theorem st_sub {o : TSet} (h : ta σ H fun x H1 => tb σ H1 fun y H2 => o x y v H2 fun H3 => n σ H3) : gSub ta tb o v σ H n := h
theorem st_gtup {k : Nat} {G : TGs} {ds : List PyData} (hd : Im K H v (.tuple ds)) (hl : ds.length = k) (h : ∀ xs, ImAll K H xs ds → G xs σ H n) : gTup K k G v σ H n := by
  obtain ⟨a, xs, rfl, hs, ht⟩ := im_tup hd
  exact ⟨a, xs, rfl, hs, by rw [ht.length, hl], h xs ht⟩
theorem st_gcons {G : TGs} {xs : List V} (h : g x σ H fun σ' H' => G xs σ' H' n) : gCons g G (x :: xs) σ H n := ⟨x, xs, rfl, h⟩
theorem st_gnil (h : n σ H) : gNil [] σ H n := ⟨rfl, h⟩

/-! ### loops: the word of a turn -/
def Loop (J : It) (g : TG) (tb : TS) (D : Ends) (σ : L2.St) (H : Hp) : Prop := ∃ W : Nat → Nat → L2.St → Hp → Prop, (∃ m, W 0 m σ H) ∧ ∀ i m σ H, W i m σ H →
  (J.stop i H ∧ D.nx σ H) ∨ (J.go i H ∧ ∃ N : L2.St → Hp → Prop, (∀ σ' H', N σ' H' → ∃ m', m' < m ∧ W (i + 1) m' σ' H') ∧ ∀ x H', J.yld i H x H' → g x σ H' fun σ2 H2 => tb { D with nx := N, ct := N, bk := D.nx } σ2 H2)
def LoopC (J : It) (g : TG) (tt : TT) (te : TE) (vs : List Nat) (σ : L2.St) (Q : VK) (H1 : Hp) : Prop := ∀ D, H1 D = none → ∃ W : Nat → Nat → Hp → Prop, (∃ m, W 0 m (upd H1 D (.lst []))) ∧ ∀ i m H, W i m H →
  (J.stop i H ∧ Q (.ref D) H) ∨ (J.go i H ∧ ∃ Nx : Hp → Prop, (∀ H', Nx H' → ∃ m', m' < m ∧ W (i + 1) m' H') ∧ ∀ x H', J.yld i H x H' → g x (wipe σ vs) H' fun σ2 H2 => wipe σ2 vs = wipe σ vs ∧ tt σ2 H2 fun b H3 =>
    if b = true then te σ2 H3 fun y H4 => ∃ acc, H4 D = some (.lst acc) ∧ acc.length < sizeLine ∧ Nx (upd H4 D (.lst (acc ++ [y]))) else Nx H3)
variable {wi : TI} {vs : List Nat}
theorem st_for (h : wi σ H fun J H1 => Loop J g ts ⟨n, r, b, c⟩ σ H1) : tFor wi g ts ⟨n, r, b, c⟩ σ H := h
theorem st_lc (h : wi σ H fun J H1 => LoopC J g t te vs σ Q H1) : tLc wi g t te vs σ H Q := h
def Rng1 (R : It → Hp → Prop) (vs : List V) (H1 : Hp) : Prop := ∃ j : Int, vs = [.int j] ∧ -(2 ^ 62) ≤ j ∧ j < 2 ^ 62 ∧ R (Itr 0 j.toNat) H1
def Rng2 (R : It → Hp → Prop) (vs : List V) (H1 : Hp) : Prop := ∃ i j : Int, vs = [.int i, .int j] ∧ (-(2 ^ 62) ≤ i ∧ i < 2 ^ 62 ∧ -(2 ^ 62) ≤ j ∧ j < 2 ^ 62) ∧ R (Itr i (j - i).toNat) H1
def Rng3 (R : It → Hp → Prop) (vs : List V) (H1 : Hp) : Prop := ∃ (i j c : Int) (n : Nat), vs = [.int i, .int j, .int c] ∧ RgC i j c n ∧ R (Itc i c n) H1
theorem st_i1 {R : It → Hp → Prop} (h : A σ H fun vs H1 => Rng1 R vs H1) : iRng1 A σ H R := h
theorem st_i2 {R : It → Hp → Prop} (h : A σ H fun vs H1 => Rng2 R vs H1) : iRng2 A σ H R := h
theorem st_i3 {R : It → Hp → Prop} (h : A σ H fun vs H1 => Rng3 R vs H1) : iRng3 A σ H R := h
theorem st_iT {R : It → Hp → Prop} (h : te σ H fun x H1 => ∃ a, x = .ref a ∧ (∃ xs, SqT K H1 a xs) ∧ R (Itt K a) H1) : iTup K te σ H R := h
theorem st_iL {R : It → Hp → Prop} (h : te σ H fun x H1 => ∃ a, x = .ref a ∧ (∃ xs, SqL K H1 a xs) ∧ R (Itl K a) H1) : iList K te σ H R := h
theorem st_iS {R : It → Hp → Prop} (h : te σ H fun v H1 => ∃ x, v = .str x ∧ R (Its x) H1) : iStr te σ H R := h
theorem st_r1 {R : It → Hp → Prop} {j : Int} (m : Nat) (ej : j = (m : Int)) (hm : m ≤ 1000000000) (h : R (Itr 0 m) H) : Rng1 R [V.int j] H :=
  ⟨j, rfl, by omega, by omega, by
    subst ej
    exact h⟩
theorem st_r2 {R : It → Hp → Prop} {i j : Int} (m : Nat) (ej : m = (j - i).toNat) (hi : -1000000000 ≤ i ∧ i ≤ 1000000000) (hj : -1000000000 ≤ j ∧ j ≤ 1000000000) (h : R (Itr i m) H) : Rng2 R [V.int i, V.int j] H := ⟨i, j, rfl, by omega, by
    subst ej
    exact h⟩
theorem st_r3 {R : It → Hp → Prop} {i j c : Int} (m : Nat) (hr : RgC i j c m) (h : R (Itc i c m) H) : Rng3 R [V.int i, V.int j, V.int c] H := ⟨i, j, c, m, rfl, hr, h⟩
/-- for over a range: lo, lo + 1, .. -/
theorem loop_r {lo : Int} {m : Nat} (Pv : Nat → L2.St → Hp → Prop) (h0 : Pv 0 σ H) (hs : ∀ i σ' H', i < m → Pv i σ' H' → g (.int (lo + (i : Int))) σ' H' fun σ2 H2 => ts ⟨Pv (i + 1), r, n, Pv (i + 1)⟩ σ2 H2)
    (hd : ∀ σ' H', Pv m σ' H' → n σ' H') : Loop (Itr lo m) g ts ⟨n, r, b, c⟩ σ H := for_range (lo := lo) (n := m) Pv h0 hs hd
theorem loop_r0 {m : Nat} (Pv : Nat → L2.St → Hp → Prop) (h0 : Pv 0 σ H) (hs : ∀ i σ' H', i < m → Pv i σ' H' → g (.int (i : Int)) σ' H' fun σ2 H2 => ts ⟨Pv (i + 1), r, n, Pv (i + 1)⟩ σ2 H2)
    (hd : ∀ σ' H', Pv m σ' H' → n σ' H') : Loop (Itr 0 m) g ts ⟨n, r, b, c⟩ σ H := loop_r Pv h0 (fun i σ' H' hi p => by
  rw [Int.zero_add]
  exact hs i σ' H' hi p) hd
theorem loop_c {lo st : Int} {m : Nat} (Pv : Nat → L2.St → Hp → Prop) (h0 : Pv 0 σ H) (hs : ∀ i σ' H', i < m → Pv i σ' H' → g (.int (lo + (i : Nat) * st)) σ' H' fun σ2 H2 => ts ⟨Pv (i + 1), r, n, Pv (i + 1)⟩ σ2 H2)
    (hd : ∀ σ' H', Pv m σ' H' → n σ' H') : Loop (Itc lo st m) g ts ⟨n, r, b, c⟩ σ H := for_rangeC (lo := lo) (c := st) (n := m) Pv h0 hs hd
/-- for over a list that stands -/
theorem loop_l {p : Addr} {xs : List V} (hp : SqL K H p xs) (Pv : Nat → L2.St → Hp → Prop) (h0 : Pv 0 σ H) (hl : ∀ i σ' H', Pv i σ' H' → SqL K H' p xs)
    (hs : ∀ i x σ' H', xs[i]? = some x → Pv i σ' H' → g x σ' H' fun σ2 H2 => ts ⟨Pv (i + 1), r, n, Pv (i + 1)⟩ σ2 H2) (hd : ∀ σ' H', Pv xs.length σ' H' → n σ' H') :
    ∃ a, V.ref p = .ref a ∧ (∃ xs, SqL K H a xs) ∧ Loop (Itl K a) g ts ⟨n, r, b, c⟩ σ H := ⟨p, rfl, ⟨xs, hp⟩, for_list Pv h0 (fun i σ' H' _ q => hl i σ' H' q) hs hd⟩
/-- for over a tuple of data -/
theorem loop_t {ds : List PyData} (hp : Im K H x (.tuple ds)) (Pv : Nat → L2.St → Hp → Prop) (h0 : Pv 0 σ H) (hl : ∀ i σ' H', Pv i σ' H' → Tx H H')
    (hs : ∀ i d y σ' H', ds[i]? = some d → Pv i σ' H' → Im K H' y d → g y σ' H' fun σ2 H2 => ts ⟨Pv (i + 1), r, n, Pv (i + 1)⟩ σ2 H2) (hd : ∀ σ' H', Pv ds.length σ' H' → n σ' H') :
    ∃ a, x = .ref a ∧ (∃ xs, SqT K H a xs) ∧ Loop (Itt K a) g ts ⟨n, r, b, c⟩ σ H := by
  obtain ⟨a, xs, rfl, hs0, ht⟩ := im_tup hp
  have e := ht.length
  refine ⟨a, rfl, ⟨xs, hs0⟩, for_tup Pv h0 (fun i σ' H' _ q => sqT_tx (hl i σ' H' q) hs0) (fun i y σ' H' hy q => ?_) (by rw [e]; exact hd)⟩
  obtain ⟨d, h1, h2⟩ := ht.get hy
  exact hs i d y σ' H' h1 q (h2.tx (hl i σ' H' q))
theorem loop_s {z : Str} (Pv : Nat → L2.St → Hp → Prop) (h0 : Pv 0 σ H) (hs : ∀ i k σ' H', z.cps[i]? = some k → Pv i σ' H' → g (.str ⟨#[k]⟩) σ' H' fun σ2 H2 => ts ⟨Pv (i + 1), r, n, Pv (i + 1)⟩ σ2 H2)
    (hd : ∀ σ' H', Pv z.cps.size σ' H' → n σ' H') : ∃ x, V.str z = .str x ∧ Loop (Its x) g ts ⟨n, r, b, c⟩ σ H := by
  refine ⟨z, rfl, fun i m σ' H' => m = z.cps.size - i ∧ i ≤ z.cps.size ∧ Pv i σ' H', ⟨_, rfl, Nat.zero_le _, h0⟩, ?_⟩
  rintro i m σ' H' ⟨rfl, hi, p⟩
  by_cases hlt : i < z.cps.size
  · refine .inr ⟨hlt, Pv (i + 1), fun σ2 H2 p' => ⟨z.cps.size - (i + 1), by omega, rfl, hlt, p'⟩, fun x H2 y => ?_⟩
    obtain ⟨rfl, k, hk, rfl⟩ := y
    exact hs i k σ' _ hk p
  · have e : i = z.cps.size := by omega
    exact .inl ⟨Nat.le_of_not_lt hlt, hd σ' H' (e ▸ p)⟩
/-- while: W falls -/
theorem st_while (W : Nat → L2.St → Hp → Prop) (m0 : Nat) (h0 : W m0 σ H) (hs : ∀ m σ' H', W m σ' H' → t σ' H' fun k H1 => if k = true then ∃ N : L2.St → Hp → Prop, (∀ σ2 H2, N σ2 H2 → ∃ m', m' < m ∧ W m' σ2 H2) ∧ ts ⟨N, r, n, N⟩ σ' H1 else n σ' H1) :
    tWhile t ts ⟨n, r, b, c⟩ σ H := ⟨W, ⟨m0, h0⟩, hs⟩
theorem st_turn {W : Nat → L2.St → Hp → Prop} {m : Nat} (h : ts ⟨fun σ2 H2 => ∃ m', m' < m ∧ W m' σ2 H2, r, n, fun σ2 H2 => ∃ m', m' < m ∧ W m' σ2 H2⟩ σ H) :
    ∃ N : L2.St → Hp → Prop, (∀ σ2 H2, N σ2 H2 → ∃ m', m' < m ∧ W m' σ2 H2) ∧ ts ⟨N, r, n, N⟩ σ H := ⟨_, fun _ _ q => q, h⟩
/-! ### comprehensions: which turns give, and what (data) -/
def given (m : Nat) (f : Nat → Bool) (e : Nat → PyData) : List PyData := ((List.range m).filter f).map e
theorem given_yes {m : Nat} {f : Nat → Bool} {e : Nat → PyData} (h : f m = true) : given (m + 1) f e = given m f e ++ [e m] := by
  unfold given
  rw [List.range_succ, List.filter_append, List.map_append, List.filter_cons, if_pos h] <;> rfl
theorem given_no {m : Nat} {f : Nat → Bool} {e : Nat → PyData} (h : f m = false) : given (m + 1) f e = given m f e := by
  unfold given
  rw [List.range_succ, List.filter_append, List.map_append, List.filter_cons, if_neg (by rw [h]; decide)]
  simp
theorem given_len (m : Nat) (f : Nat → Bool) (e : Nat → PyData) : (given m f e).length ≤ m := by
  unfold given
  rw [List.length_map]
  have h := List.length_filter_le f (List.range m)
  rw [List.length_range] at h
  exact h
theorem given_all (m : Nat) (e : Nat → PyData) : given m (fun _ => true) e = (List.range m).map e := by
  unfold given
  rw [List.filter_eq_self.mpr (fun _ _ => rfl)]
/-- what stands between two turns -/
def Cw (K : PySem.W.Frag) (H : Hp) (f : Nat → Bool) (e : Nat → PyData) (D : Addr) (i : Nat) (H' : Hp) : Prop := H D = none ∧ Same H H' ∧ ∃ ys, H' D = some (.lst ys) ∧ ImAll K H' ys (given i f e)
/-- what a turn must show: for any ways on -/
def Turned (K : PySem.W.Frag) (g : TG) (t : TT) (te : TE) (vs : List Nat) (σw : L2.St) (x : V) (H' : Hp) (keep : Bool) (d : PyData) : Prop := ∀ (CT : VK) (CF : Hp → Prop), (keep = true → ∀ y H4, Same H' H4 → Im K H4 y d → CT y H4) → (keep = false → ∀ H4, Same H' H4 → CF H4) →
  g x σw H' fun σ2 H2 => wipe σ2 vs = σw ∧ t σ2 H2 fun k H3 => if k = true then te σ2 H3 CT else CF H3
theorem cw_turn {f : Nat → Bool} {e : Nat → PyData} {D : Addr} {i : Nat} {σw : L2.St} {x : V} (p : Cw K H f e D i H') (hi : i ≤ 1000000) (ht : Turned K g t te vs σw x H' (f i) (e i)) :
    g x σw H' fun σ2 H2 => wipe σ2 vs = σw ∧ t σ2 H2 fun k H3 => if k = true then te σ2 H3 fun y H4 => ∃ acc, H4 D = some (.lst acc) ∧ acc.length < sizeLine ∧ Cw K H f e D (i + 1) (upd H4 D (.lst (acc ++ [y]))) else Cw K H f e D (i + 1) H3 := by
  obtain ⟨p1, p2, ys, p3, p4⟩ := p
  refine ht _ _ (fun hf y H4 s q => ?_) fun hf H4 s => ?_
  · have hD := s _ _ p3
    refine ⟨ys, hD, small' (by have := given_len i f e; have := p4.length; omega), p1, same_mut (p2.trans s) p1, _, upd_same, ?_⟩
    rw [given_yes hf]
    exact ((p4.same s).tx (.mut hD)).snoc (q.tx (.mut hD))
  · refine ⟨p1, p2.trans s, ys, s _ _ p3, ?_⟩
    rw [given_no hf]
    exact p4.same s
theorem lc_r {lo : Int} {m : Nat} {σw : L2.St} (f : Nat → Bool) (e : Nat → PyData) (hw : wipe σ vs = σw) (hm : m ≤ 1000000) (hs : ∀ i H', i < m → Same H H' → Turned K g t te vs σw (.int (lo + (i : Int))) H' (f i) (e i))
    (h : ∀ p H2 ys, Fr H p → Same H H2 → At H2 p (.lst ys) → ImAll K H2 ys (given m f e) → Q (.ref p) H2) : LoopC (Itr lo m) g t te vs σ Q H := by
  subst hw
  exact fun D hD => lc_range (lo := lo) (n := m) (Cw K H f e D) ⟨hD, same_new hD, [], upd_same, .nil⟩ (fun i H' hi p => cw_turn p (by omega) (hs i H' hi p.2.1)) fun H2 ⟨_, q2, ys, q3, q4⟩ => h D H2 ys hD q2 q3 q4
theorem lc_r0 {m : Nat} {σw : L2.St} (f : Nat → Bool) (e : Nat → PyData) (hw : wipe σ vs = σw) (hm : m ≤ 1000000) (hs : ∀ i H', i < m → Same H H' → Turned K g t te vs σw (.int (i : Int)) H' (f i) (e i))
    (h : ∀ p H2 ys, Fr H p → Same H H2 → At H2 p (.lst ys) → ImAll K H2 ys (given m f e) → Q (.ref p) H2) : LoopC (Itr 0 m) g t te vs σ Q H := lc_r f e hw hm (fun i H' hi q => by
  rw [Int.zero_add]
  exact hs i H' hi q) h
theorem lc_t {ds : List PyData} {σw : L2.St} (hp : Im K H x (.tuple ds)) (f : Nat → Bool) (e : Nat → PyData) (hw : wipe σ vs = σw) (hm : ds.length ≤ 1000000) (hs : ∀ i d y H', ds[i]? = some d → Same H H' → Im K H' y d → Turned K g t te vs σw y H' (f i) (e i))
    (h : ∀ p H2 ys, Fr H p → Same H H2 → At H2 p (.lst ys) → ImAll K H2 ys (given ds.length f e) → Q (.ref p) H2) : ∃ a, x = .ref a ∧ (∃ xs, SqT K H a xs) ∧ LoopC (Itt K a) g t te vs σ Q H := by
  obtain ⟨a, xs, rfl, hs0, ht⟩ := im_tup hp
  have el := ht.length
  subst hw
  refine ⟨a, rfl, ⟨xs, hs0⟩, fun D hD => lc_tup (xs := xs) (Cw K H f e D) ⟨hD, same_new hD, [], upd_same, .nil⟩ (fun i H' _ p => sqT_tx (.of p.2.1) hs0) (fun i y H' hy p => ?_) fun H2 ⟨_, q2, ys, q3, q4⟩ => ?_⟩
  · obtain ⟨d, h1, h2⟩ := ht.get hy
    have hi := (List.getElem?_eq_some_iff.mp hy).1
    exact cw_turn p (by omega) (hs i d y H' h1 p.2.1 (h2.same p.2.1))
  · rw [el] at q4
    exact h D H2 ys hD q2 q3 q4
theorem lc_l {p : Addr} {xs : List V} {σw : L2.St} (hp : SqL K H p xs) (f : Nat → Bool) (e : Nat → PyData) (hw : wipe σ vs = σw) (hm : xs.length ≤ 1000000) (hs : ∀ i y H', xs[i]? = some y → Same H H' → Turned K g t te vs σw y H' (f i) (e i))
    (h : ∀ p H2 ys, Fr H p → Same H H2 → At H2 p (.lst ys) → ImAll K H2 ys (given xs.length f e) → Q (.ref p) H2) : ∃ a, V.ref p = .ref a ∧ (∃ xs, SqL K H a xs) ∧ LoopC (Itl K a) g t te vs σ Q H := by
  subst hw
  refine ⟨p, rfl, ⟨xs, hp⟩, fun D hD => lc_list (xs := xs) (Cw K H f e D) ⟨hD, same_new hD, [], upd_same, .nil⟩ (fun i H' _ q => q.2.1.seq hp) (fun i y H' hy q => ?_) fun H2 ⟨_, q2, ys, q3, q4⟩ => h D H2 ys hD q2 q3 q4⟩
  have hi := (List.getElem?_eq_some_iff.mp hy).1
  exact cw_turn q (by omega) (hs i y H' hy q.2.1)
end
end SF

set_option maxHeartbeats 8000000
namespace SF
open PySem PySem.Spec PyProof.Rows L2
open C8 (Cal pe_c)
local macro_rules | `(tactic| walk_at "g1") => `(tactic| first
  | with_reducible refine st_asg ?_ | with_reducible refine st_if ?_ | with_reducible refine st_ret ?_ | with_reducible refine st_op ?_ | with_reducible refine st_c ?_
  | with_reducible refine st_v0 ?_ | with_reducible refine st_v1 ?_ | with_reducible refine st_v2 ?_ | with_reducible refine st_v3 ?_ | with_reducible refine st_v4 ?_ | with_reducible refine st_v5 ?_ | with_reducible refine st_v6 ?_ | with_reducible refine st_v7 ?_
  | with_reducible refine st_v8 ?_ | with_reducible refine st_v9 ?_ | with_reducible refine st_v10 ?_ | with_reducible refine st_v11 ?_ | with_reducible refine st_v12 ?_ | with_reducible refine st_v13 ?_ | with_reducible refine st_v14 ?_
  | with_reducible refine st_g0 ?_ | with_reducible refine st_g1 ?_ | with_reducible refine st_g2 ?_ | with_reducible refine st_g3 ?_ | with_reducible refine st_g4 ?_ | with_reducible refine st_g5 ?_ | with_reducible refine st_g6 ?_ | with_reducible refine st_g7 ?_
  | with_reducible refine st_g8 ?_ | with_reducible refine st_g9 ?_ | with_reducible refine st_g10 ?_ | with_reducible refine st_g11 ?_ | with_reducible refine st_g12 ?_ | with_reducible refine st_g13 ?_ | with_reducible refine st_g14 ?_
  | with_reducible refine st_cb ?_ | with_reducible refine st_cons ?_ | with_reducible refine st_nil ?_ | with_reducible refine st_call ?_ | with_reducible refine st_test ?_ | with_reducible refine st_B ?_ | with_reducible refine st_bl ?_ | with_reducible refine st_in ?_
  | with_reducible refine st_not ?_ | with_reducible refine st_and ?_ | with_reducible refine st_or ?_ | with_reducible refine st_tru ?_ | with_reducible refine st_truI ?_ | with_reducible refine st_yes ?_
  | with_reducible refine st_andV ?_ | with_reducible refine st_orV ?_ | with_reducible refine st_notV ?_ | with_reducible refine st_un ?_ | with_reducible refine st_ckw ?_
  | with_reducible refine st_I0 ?_ | (with_reducible refine st_mod ?hj ?_; case hj => omega) | (with_reducible refine st_div ?hj ?_; case hj => omega) | (with_reducible refine st_mul ?hj ?_; case hj => omega) | (with_reducible refine st_shr ?hj ?_; case hj => omega) | (with_reducible refine st_shl ?hj ?_; case hj => omega)
  | (with_reducible refine st_pow ?hj ?_; case hj => first | omega | decide) | with_reducible refine st_neg ?_ | with_reducible refine st_inv ?_ | with_reducible refine st_eqI ?_ | with_reducible refine st_neI ?_ | with_reducible refine st_eqS ?_ | with_reducible refine st_neS ?_ | with_reducible refine st_neB ?_ | with_reducible refine st_isB ?_ | with_reducible refine st_notB ?_ | with_reducible refine st_isN ?_ | with_reducible refine st_notN ?_
  | with_reducible refine st_max2 ?_ | with_reducible refine st_intI ?_ | with_reducible refine st_intB ?_
  | with_reducible refine iteT ?_ | with_reducible refine st_nbT ?_ | with_reducible refine st_nbF ?_ | with_reducible refine iteF ?_ | (with_reducible refine st_yT ?hj ?_; case hj => first | omega | with_reducible rfl | exact Bool.false_ne_true | exact Bool.noConfusion) | (with_reducible refine st_yF ?hj ?_; case hj => first | omega | with_reducible rfl | exact Bool.false_ne_true | exact Bool.noConfusion) | (with_reducible refine st_nT ?hj ?_; case hj => first | omega | with_reducible rfl | exact Bool.false_ne_true | exact Bool.noConfusion) | (with_reducible refine st_nF ?hj ?_; case hj => first | omega | with_reducible rfl | exact Bool.false_ne_true | exact Bool.noConfusion)
  | with_reducible refine st_next ?_ | with_reducible refine st_drop ?_ | with_reducible refine st_bm ?_ | with_reducible refine st_tup ?_ | with_reducible refine st_lst ?_ | with_reducible refine st_sub ?_ | with_reducible refine st_gcons ?_ | with_reducible refine st_gnil ?_
  | with_reducible refine st_for ?_ | with_reducible refine st_lc ?_ | with_reducible refine st_i1 ?_ | with_reducible refine st_i2 ?_ | with_reducible refine st_i3 ?_ | with_reducible refine st_iT ?_ | with_reducible refine st_iL ?_ | with_reducible refine st_iS ?_
  | with_reducible refine st_sl ?_ | with_reducible refine st_nopart ?_ | with_reducible refine st_part ?_ | with_reducible refine st_m1 ?_ | with_reducible refine st_callS ?_ | with_reducible refine st_callF ?_ | with_reducible refine st_rev ?_ | with_reducible refine st_brk ?_ | with_reducible refine st_cont ?_)
local macro_rules | `(tactic| walk_at "go1") => `(tactic| first | with_reducible refine st_seq ?_ | walk_at "g1")
local macro_rules | `(tactic| walk_at "gt") => `(tactic| repeat walk_at "g1")
local macro_rules | `(tactic| walk_at "go") => `(tactic| repeat walk_at "go1")
local macro_rules | `(tactic| walk_at "sm") => `(tactic| first | assumption | exact Same.refl _ | (refine Same.trans (by assumption) ?_; walk_at "sm"))
local macro_rules | `(tactic| walk_at "tx") => `(tactic| first | assumption | exact Tx.refl _ | (refine Tx.trans (Tx.of (by assumption)) ?_; walk_at "tx") | (refine Tx.trans (bx_tx (by assumption)) ?_; walk_at "tx") | (refine Tx.trans (by assumption) ?_; walk_at "tx"))
/-! ### programs as data -/
abbrev Cmp := Nat × Nat
abbrev Prog := List Cmp
def dC (c : Cmp) : PyData := .tuple [.int c.1, .int c.2]
def dP (p : Prog) : PyData := .tuple (p.map dC)
def dL (ns : List Int) : PyData := .list (ns.map .int)
def isPlace : PyData → Bool
  | .int i => decide (0 ≤ i)
  | _ => false
def sp_is_place (K : PySem.W.Frag) : Sp := fun vs H Q _ => ∃ v d, vs = [v] ∧ Dp K H v d ∧ Q (.bl (isPlace d)) H
def t_is_place (K : PySem.W.Frag) : TS := (tRet (tAndV (tCB (rIsi K) (tCons (tVar 0) (tCons (tC (.ty "int")) tNil))) (tAndV (tNotV (tCB (rIsi K) (tCons (tVar 0) (tCons (tC (.ty "bool")) tNil)))) (tOp oGe (tVar 0) (tC (.int 0))))))
abbrev n_is_place : List Str := ["thing"]
section
variable {K : PySem.W.Frag} {vs : List V} {H : Hp} {Q : VK} {E : XK}
theorem len_is_place (h : sp_is_place K vs H Q E) : vs.length = 1 := by
  obtain ⟨v, d, rfl, _⟩ := h
  rfl
theorem rd_is_place (h : sp_is_place K vs H Q E) : t_is_place K { nx := fun _ H' => Q .non H', rt := Q } (start n_is_place vs) H := by
  obtain ⟨v, d, rfl, hd, q⟩ := h
  obtain ⟨k1, k2, k3, k4⟩ := kit_all d
  show t_is_place K ⟨_, _, _, _⟩ [some v] H
  unfold t_is_place
  walk_at "go"
  refine st_isi hd k1 ?_
  rw [isD_int]
  cases hd with
  | bl b =>
    walk_at "go"
    refine st_isi (.bl b) k2 ?_
    rw [isD_bool]
    dsimp only
    walk_at "go"
    exact q
  | int i =>
    walk_at "go"
    refine st_isi (.int i) k2 ?_
    rw [isD_bool]
    dsimp only
    walk_at "go"
    exact q
  | non => walk_at "go"; exact q
  | str x => walk_at "go"; exact q
  | lst h t => walk_at "go"; exact q
  | tup h t => walk_at "go"; exact q
end
def isCompare (m : Int) : PyData → Bool
  | .tuple [.int a, .int b] => decide (0 ≤ a) && decide (0 ≤ b) && decide (a < b) && decide (b < m)
  | _ => false
theorem isCompare_l {m : Int} {d e : PyData} (h : isPlace d = false) : isCompare m (.tuple [d, e]) = false := by
  cases d <;> first | rfl | (cases e <;> first | rfl | (simp only [isPlace] at h; simp [isCompare, h]))
theorem isCompare_r {m : Int} {d e : PyData} (h : isPlace e = false) : isCompare m (.tuple [d, e]) = false := by
  cases d <;> first | rfl | (cases e <;> first | rfl | (simp only [isPlace] at h; simp [isCompare, h]))
theorem isPlace_int {d : PyData} (h : isPlace d = true) : ∃ i : Int, 0 ≤ i ∧ d = .int i := by
  cases d with
  | int i => exact ⟨i, of_decide_eq_true h, rfl⟩
  | _ => cases h
def sp_is_compare (K : PySem.W.Frag) : Sp := fun vs H Q _ => ∃ v d m, vs = [v, .int m] ∧ Dp K H v d ∧ Q (.bl (isCompare m d)) H
def t_is_compare (K : PySem.W.Frag) : TS := (tSeq (tIfS (tOr (tNot (tB (tCB (rIsi K) (tCons (tVar 0) (tCons (tC (.ty "tuple")) tNil))))) (tOr (tTest (tOp rNe (tCB (cLen K) (tCons (tVar 0) tNil)) (tC (.int 2)))) (tOr (tNot (tB (tCall (sp_is_place K) [] E0 (tCons (tOp (rIxT K) (tVar 0) (tC (.int 0))) tNil)))) (tNot (tB (tCall (sp_is_place K) [] E0 (tCons (tOp (rIxT K) (tVar 0) (tC (.int 1))) tNil))))))) (tRet (tC (.bl false))) tNext)
    (tRet (tAndV (tOp oLt (tOp (rIxT K) (tVar 0) (tC (.int 0))) (tOp (rIxT K) (tVar 0) (tC (.int 1)))) (tOp oLt (tOp (rIxT K) (tVar 0) (tC (.int 1))) (tVar 1)))))
abbrev n_is_compare : List Str := ["thing", "places"]
section
variable {K : PySem.W.Frag} {vs : List V} {H : Hp} {Q : VK} {E : XK}
theorem len_is_compare (h : sp_is_compare K vs H Q E) : vs.length = 2 := by
  obtain ⟨v, d, n, rfl, _⟩ := h
  rfl
theorem rd_is_compare (h : sp_is_compare K vs H Q E) : t_is_compare K { nx := fun _ H' => Q .non H', rt := Q } (start n_is_compare vs) H := by
  obtain ⟨v, d, m, rfl, hd, q⟩ := h
  obtain ⟨k1, k2, k3, k4⟩ := kit_all d
  show t_is_compare K ⟨_, _, _, _⟩ [some v, some (.int m)] H
  unfold t_is_compare
  walk_at "go"
  refine st_isi hd k3 ?_
  rw [isD_tup]
  cases hd with
  | @tup a xs ds hs ht =>
    dsimp only
    walk_at "go"
    refine st_lenT hs ?_
    walk_at "go"
    refine st_n2 (fun hl => ?_) (fun hl => ?_)
    · walk_at "go"
      have e : isCompare m (.tuple ds) = false := by
        cases ht with
        | nil => rfl
        | cons h1 t1 =>
          cases t1 with
          | nil => cases h1 <;> rfl
          | cons h2 t2 =>
            cases t2 with
            | nil => exact absurd rfl hl
            | cons h3 t3 => cases h1 <;> first | rfl | (cases h2 <;> rfl)
      rw [e] at q
      exact q
    · cases ht with
      | nil => exact absurd hl (by simp)
      | @cons v1 xs d1 ds h1 t1 =>
        cases t1 with
        | nil => exact absurd hl (by simp)
        | @cons v2 xs d2 ds h2 t2 =>
          cases t2 with
          | cons h3 t3 =>
            simp only [List.length_cons] at hl
            omega
          | nil =>
            walk_at "go"
            refine st_ixT 0 hs rfl rfl ?_
            walk_at "go"
            refine ⟨_, _, rfl, h1, ?_⟩
            walk_at "go"
            cases p1 : isPlace d1 with
            | false =>
              rw [isCompare_l p1] at q
              walk_at "go"
              exact q
            | true =>
              obtain ⟨i, hi, rfl⟩ := isPlace_int p1
              cases h1
              walk_at "go"
              refine st_ixT 1 hs rfl rfl ?_
              walk_at "go"
              refine ⟨_, _, rfl, h2, ?_⟩
              walk_at "go"
              cases p2 : isPlace d2 with
              | false =>
                rw [isCompare_r p2] at q
                walk_at "go"
                exact q
              | true =>
                obtain ⟨j, hj, rfl⟩ := isPlace_int p2
                cases h2
                walk_at "go"
                refine st_ixT 0 hs rfl rfl ?_
                walk_at "go"
                refine st_ixT 1 hs rfl rfl ?_
                walk_at "go"
                have e : isCompare m (.tuple [.int i, .int j]) = (decide (i < j) && decide (j < m)) := by
                  show (decide (0 ≤ i) && decide (0 ≤ j) && decide (i < j) && decide (j < m)) = _
                  rw [decide_eq_true hi, decide_eq_true hj]
                  rfl
                rw [e] at q
                refine st_y2 (fun h => ?_) (fun h => ?_)
                · rw [decide_eq_true h] at q
                  walk_at "go"
                  refine st_ixT 1 hs rfl rfl ?_
                  walk_at "go"
                  exact q
                · rw [decide_eq_false h] at q
                  exact q
  | bl b => walk_at "go"; exact q
  | int i => walk_at "go"; exact q
  | non => walk_at "go"; exact q
  | str x => walk_at "go"; exact q
  | lst h t => walk_at "go"; exact q
end
def isProg (m : Int) : PyData → Bool
  | .tuple ds => ds.all (isCompare m)
  | _ => false
def sp_is_program (K : PySem.W.Frag) : Sp := fun vs H Q _ => ∃ v d m, vs = [v, .int m] ∧ Dp K H v d ∧ (∀ ds, d = .tuple ds → ds.length ≤ 100000) ∧ ∀ H', Same H H' → Q (.bl (isProg m d)) H'
theorem dpAll_get {K : PySem.W.Frag} {H : Hp} : ∀ {vs : List V} {ds : List PyData} {i : Nat} {v : V}, DpAll K H vs ds → vs[i]? = some v → ∃ d, ds[i]? = some d ∧ Dp K H v d
  | _, _, _, _, .nil, e => by simp at e
  | _, _, 0, _, .cons h _, e => by
    simp at e
    subst e
    exact ⟨_, rfl, h⟩
  | _, _, i + 1, v, .cons _ t, e => by
    obtain ⟨d, h1, h2⟩ := dpAll_get (i := i) (v := v) t (by simpa using e)
    exact ⟨d, by simpa using h1, h2⟩
theorem dpAll_len {K : PySem.W.Frag} {H : Hp} : ∀ {vs : List V} {ds : List PyData}, DpAll K H vs ds → vs.length = ds.length
  | _, _, .nil => rfl
  | _, _, .cons _ t => by simp [dpAll_len t]
def t_is_program (K : PySem.W.Frag) : TS := (tSeq (tIfS (tNot (tB (tCB (rIsi K) (tCons (tVar 0) (tCons (tC (.ty "tuple")) tNil))))) (tRet (tC (.bl false))) tNext)
    (tRet (tCB (rAll K) (tCons (tLc (iTup K (tVar 0)) (gName 2) tYes (tCall (sp_is_compare K) [] E0 (tCons (tVar 2) (tCons (tVar 1) tNil))) [2]) tNil))))
abbrev n_is_program : List Str := ["thing", "places", "one"]
section
variable {K : PySem.W.Frag} {vs : List V} {H : Hp} {Q : VK} {E : XK}
theorem len_is_program (h : sp_is_program K vs H Q E) : vs.length = 2 := by
  obtain ⟨v, d, n, rfl, _⟩ := h
  rfl
theorem rd_is_program (h : sp_is_program K vs H Q E) : t_is_program K { nx := fun _ H' => Q .non H', rt := Q } (start n_is_program vs) H := by
  obtain ⟨v, d, m, rfl, hd, hz, q⟩ := h
  obtain ⟨k1, k2, k3, k4⟩ := kit_all d
  show t_is_program K ⟨_, _, _, _⟩ [some v, some (.int m), none] H
  unfold t_is_program
  walk_at "go"
  refine st_isi hd k3 ?_
  rw [isD_tup]
  cases hd with
  | @tup a xs ds hs ht =>
    dsimp only
    walk_at "go"
    have hl := dpAll_len ht
    have hz' := hz ds rfl
    refine ⟨a, rfl, ⟨xs, hs⟩, fun D hD => ?_⟩
    refine lc_tup (xs := xs) (fun i H' => Same H H' ∧ H' D = some (.lst ((ds.take i).map fun d => V.bl (isCompare m d)))) ⟨same_new hD, upd_same⟩ (fun i H' _ p => sqT_tx (.of p.1) hs) (fun i y H' hy p => ?_) (fun H' p => ?_)
    · obtain ⟨d, h1, h2⟩ := dpAll_get ht hy
      have hi := (List.getElem?_eq_some_iff.mp hy).1
      refine ⟨rfl, ?_⟩
      show tCall (sp_is_compare K) [] E0 (tCons (tVar 2) (tCons (tVar 1) tNil)) [some (V.ref a), some (V.int m), some y] H' _
      walk_at "go"
      refine ⟨_, _, _, rfl, dp_same p.1 h2, ?_⟩
      refine ⟨_, p.2, small' ?_, same_mut p.1 hD, ?_⟩
      · rw [List.length_map, List.length_take]
        omega
      · rw [upd_same, List.take_add_one, h1, List.map_append]
        rfl
    · walk_at "go"
      rw [hl, List.take_length] at p
      refine st_all (bs := ds.map (isCompare m)) (sqL_of ?_) ?_
      · rw [List.map_map]
        exact p.2
      · have e : (ds.map (isCompare m)).all id = isProg m (.tuple ds) := by
          rw [List.all_map]
          rfl
        rw [e]
        exact q H' p.1
  | bl b => walk_at "go"; exact q H (Same.refl H)
  | int i => walk_at "go"; exact q H (Same.refl H)
  | non => walk_at "go"; exact q H (Same.refl H)
  | str x => walk_at "go"; exact q H (Same.refl H)
  | lst h t => walk_at "go"; exact q H (Same.refl H)
end
/-- the places that a program wants -/
def wide : Prog → Nat
  | [] => 0
  | c :: p => max (c.2 + 1) (wide p)
theorem foldl_max_cast : ∀ (p : Prog) (m : Nat), (p.map fun c => ((c.2 : Int) + 1)).foldl max (m : Int) = ((max m (wide p) : Nat) : Int)
  | [], m => by
    show (m : Int) = ((max m 0 : Nat) : Int)
    rw [Nat.max_zero]
  | c :: p, m => by
    show (p.map fun c => ((c.2 : Int) + 1)).foldl max (max (m : Int) ((c.2 : Int) + 1)) = ((max m (max (c.2 + 1) (wide p)) : Nat) : Int)
    have e : max (m : Int) ((c.2 : Int) + 1) = ((max m (c.2 + 1) : Nat) : Int) := by omega
    rw [e, foldl_max_cast p, Nat.max_assoc]
theorem maxOf_wide (p : Prog) : maxOf 0 (p.map fun c => ((c.2 : Int) + 1)) = (wide p : Int) := by
  cases p with
  | nil => rfl
  | cons c p =>
    show (p.map fun c => ((c.2 : Int) + 1)).foldl max ((c.2 : Int) + 1) = _
    have e : ((c.2 : Int) + 1) = ((c.2 + 1 : Nat) : Int) := by omega
    rw [e, foldl_max_cast]
    rfl
theorem dP_at {p : Prog} {i : Nat} {d : PyData} (h : (p.map dC)[i]? = some d) : ∃ c, p[i]? = some c ∧ d = dC c := by
  rw [List.getElem?_map] at h
  cases e : p[i]? with
  | none =>
    rw [e] at h
    cases h
  | some c =>
    rw [e] at h
    exact ⟨c, rfl, (Option.some.inj h).symm⟩
theorem range_map {α β : Type} (l : List α) (a : α) (f : α → β) : (List.range l.length).map (fun i => f (l.getD i a)) = l.map f := by
  apply List.ext_getElem?
  intro i
  rw [List.getElem?_map, List.getElem?_map]
  by_cases h : i < l.length
  · rw [List.getElem?_range h, List.getElem?_eq_getElem h]
    simp [List.getD, List.getElem?_eq_getElem h]
  · rw [List.getElem?_eq_none (by simpa using h), List.getElem?_eq_none (by omega)]
    rfl
def sp_places_of (K : PySem.W.Frag) : Sp := fun vs H Q _ => ∃ v p, vs = [v] ∧ Im K H v (dP p) ∧ p.length ≤ 100000 ∧ ∀ H', Same H H' → Q (.int (wide p)) H'
def t_places_of (K : PySem.W.Frag) : TS := (tRet (tCKw (rMaxD K) (tCons (tLc (iTup K (tVar 0)) (gName 1) tYes (tOp oAdd (tOp (rIxT K) (tVar 1) (tC (.int 1))) (tC (.int 1))) [1]) tNil) (tCons (tC (.int 0)) tNil)))
abbrev n_places_of : List Str := ["program", "one"]
section
variable {K : PySem.W.Frag} {vs : List V} {H : Hp} {Q : VK} {E : XK}
theorem len_places_of (h : sp_places_of K vs H Q E) : vs.length = 1 := by
  obtain ⟨v, p, rfl, _⟩ := h
  rfl
theorem rd_places_of (h : sp_places_of K vs H Q E) : t_places_of K { nx := fun _ H' => Q .non H', rt := Q } (start n_places_of vs) H := by
  obtain ⟨v, p, rfl, hp, hz, q⟩ := h
  show t_places_of K ⟨_, _, _, _⟩ [some v, none] H
  unfold t_places_of
  walk_at "go"
  refine lc_t (K := K) (σw := [some v, none]) hp (fun _ => true) (fun i => .int (((p.getD i (0, 0)).2 : Int) + 1)) rfl (by simp; omega) (fun i d y H' hi s hd CT CF kT kF => ?_) (fun a H2 ys fr s hA hy => ?_)
  · obtain ⟨c, hc, rfl⟩ := dP_at hi
    have e : p.getD i (0, 0) = c := by simp [List.getD, hc]
    walk_at "go"
    refine ⟨rfl, ?_⟩
    walk_at "go"
    refine st_ixI 1 hd rfl rfl (fun w hw => ?_)
    have ew := im_int hw
    subst ew
    walk_at "go"
    refine kT rfl _ _ (Same.refl _) ?_
    rw [e]
    exact .int _
  · walk_at "go"
    rw [given_all, List.length_map, range_map p (0, 0) (fun c => PyData.int ((c.2 : Int) + 1))] at hy
    have ey := imAll_ints (ns := p.map fun c => ((c.2 : Int) + 1)) (by rw [List.map_map]; exact hy)
    subst ey
    refine st_maxD (at_seq hA) ?_
    rw [maxOf_wide]
    exact q H2 s
end
def cellAt (ns : List Int) (k : Nat) : Int := ns.getD k 0
def sp_law_cell_at (K : PySem.W.Frag) : Sp := fun vs H Q _ => ∃ v ns, ∃ k : Nat, vs = [v, .int k] ∧ Scr K H v ns ∧ Q (.int (cellAt ns k)) H
def t_law_cell_at (K : PySem.W.Frag) : TS := (tSeq (tIfS (tTest (tOp oLt (tVar 1) (tCB (cLen K) (tCons (tVar 0) tNil)))) (tRet (tOp (rIxL K) (tVar 0) (tVar 1))) tNext)
    (tRet (tC (.int 0))))
abbrev n_law_cell_at : List Str := ["_law_script", "_law_k"]
section
variable {K : PySem.W.Frag} {vs : List V} {H : Hp} {Q : VK} {E : XK}
theorem len_law_cell_at (h : sp_law_cell_at K vs H Q E) : vs.length = 2 := by
  obtain ⟨v, ns, k, rfl, _⟩ := h
  rfl
theorem rd_law_cell_at (h : sp_law_cell_at K vs H Q E) : t_law_cell_at K { nx := fun _ H' => Q .non H', rt := Q } (start n_law_cell_at vs) H := by
  obtain ⟨v, ns, k, rfl, hs, q⟩ := h
  obtain ⟨a, rfl, _⟩ := id hs
  show t_law_cell_at K ⟨_, _, _, _⟩ [some (.ref a), some (.int k)] H
  unfold t_law_cell_at
  walk_at "go"
  refine st_lenL hs.seq ?_
  walk_at "go"
  rw [List.length_map]
  refine st_y2 (fun h => ?_) (fun h => ?_)
  · walk_at "go"
    have hk : k < ns.length := by omega
    refine st_ixL k hs.seq rfl (by rw [List.getElem?_map, List.getElem?_eq_getElem hk]; rfl) ?_
    have e : cellAt ns k = ns[k] := by simp [cellAt, List.getD, List.getElem?_eq_getElem hk]
    rw [e] at q
    exact q
  · walk_at "go"
    have e : cellAt ns k = 0 := by
      have hk : ns.length ≤ k := by omega
      simp [cellAt, List.getD, List.getElem?_eq_none hk]
    rw [e] at q
    exact q
end
/-- what a script's cell is mixed to -/
def mixed (ns : List Int) (k : Nat) : Nat :=
  let m := ((ns.getD (k % ns.length) 0 + 7919 * (k : Int)) * 48271 % 2147483647).toNat
  m * m % 2147483647
theorem mixed_lt (ns : List Int) (k : Nat) : mixed ns k < 2147483647 := Nat.mod_lt _ (by decide)
def sp_law_mixed (K : PySem.W.Frag) : Sp := fun vs H Q _ => ∃ v ns, ∃ k : Nat, vs = [v, .int k] ∧ Scr K H v ns ∧ Q (.int (mixed ns k)) H
def t_law_mixed (K : PySem.W.Frag) : TS := (tSeq (tAsg (tC (.int 0)) (gName 2))
    (tSeq (tIfS (tTest (tOp oGt (tCB (cLen K) (tCons (tVar 0) tNil)) (tC (.int 0)))) (tAsg (tOp (rIxL K) (tVar 0) (tOp oMod (tVar 1) (tCB (cLen K) (tCons (tVar 0) tNil)))) (gName 2)) tNext)
    (tSeq (tAsg (tOp oMod (tOp oMul (tOp oAdd (tVar 2) (tOp oMul (tC (.int 7919)) (tVar 1))) (tC (.int 48271))) (tC (.int 2147483647))) (gName 3))
    (tRet (tOp oMod (tOp oMul (tVar 3) (tVar 3)) (tC (.int 2147483647)))))))
abbrev n_law_mixed : List Str := ["_law_script", "_law_k", "_law_cell", "_law_number"]
section
variable {K : PySem.W.Frag} {vs : List V} {H : Hp} {Q : VK} {E : XK}
theorem len_law_mixed (h : sp_law_mixed K vs H Q E) : vs.length = 2 := by
  obtain ⟨v, ns, k, rfl, _⟩ := h
  rfl
theorem rd_law_mixed (h : sp_law_mixed K vs H Q E) : t_law_mixed K { nx := fun _ H' => Q .non H', rt := Q } (start n_law_mixed vs) H := by
  obtain ⟨v, ns, k, rfl, hs, q⟩ := h
  obtain ⟨a, rfl, _⟩ := id hs
  show t_law_mixed K ⟨_, _, _, _⟩ [some (.ref a), some (.int k), none, none] H
  unfold t_law_mixed
  walk_at "go"
  refine st_lenL hs.seq ?_
  walk_at "go"
  rw [List.length_map]
  have fin : ∀ cell : Int, cell = ns.getD (k % ns.length) 0 → (tSeq (tAsg (tOp oMod (tOp oMul (tOp oAdd (tVar 2) (tOp oMul (tC (.int 7919)) (tVar 1))) (tC (.int 48271))) (tC (.int 2147483647))) (gName 3)) (tRet (tOp oMod (tOp oMul (tVar 3) (tVar 3)) (tC (.int 2147483647)))))
      ⟨fun _ H' => Q .non H', Q, fun _ _ => False, fun _ _ => False⟩ [some (.ref a), some (.int k), some (.int cell), none] H := fun cell ec => by
    walk_at "go"
    have h0 : 0 ≤ (cell + 7919 * (k : Int)) * 48271 % 2147483647 := Int.emod_nonneg _ (by decide)
    have h1 : (cell + 7919 * (k : Int)) * 48271 % 2147483647 < 2147483647 := Int.emod_lt_of_pos _ (by decide)
    walk_at "go"
    have e : ((mixed ns k : Nat) : Int) = (cell + 7919 * (k : Int)) * 48271 % 2147483647 * ((cell + 7919 * (k : Int)) * 48271 % 2147483647) % 2147483647 := by
      unfold mixed
      rw [← ec]
      generalize (cell + 7919 * (k : Int)) * 48271 % 2147483647 = z at h0 h1
      obtain ⟨w, rfl⟩ := Int.eq_ofNat_of_zero_le h0
      simp
    rw [e] at q
    exact q
  refine st_y2 (fun h => ?_) (fun h => ?_)
  · walk_at "go"
    refine st_lenL hs.seq ?_
    rw [List.length_map]
    walk_at "go"
    have hk : k % ns.length < ns.length := Nat.mod_lt _ (by omega)
    refine st_ixL (k % ns.length) hs.seq (by simp) (by rw [List.getElem?_map, List.getElem?_eq_getElem hk]; rfl) ?_
    refine st_g2 ?_
    exact fin _ (by simp [List.getD, List.getElem?_eq_getElem hk])
  · refine st_next ?_
    refine fin _ ?_
    have e0 : ns = [] := List.eq_nil_of_length_eq_zero (by omega)
    subst e0
    rfl
end
def isWhole : PyData → Bool
  | .int _ => true
  | _ => false
def sp_law_whole (K : PySem.W.Frag) : Sp := fun vs H Q _ => ∃ v d, vs = [v] ∧ Dp K H v d ∧ Q (.bl (isWhole d)) H
def t_law_whole (K : PySem.W.Frag) : TS := (tRet (tAndV (tCB (rIsi K) (tCons (tVar 0) (tCons (tC (.ty "int")) tNil))) (tNotV (tCB (rIsi K) (tCons (tVar 0) (tCons (tC (.ty "bool")) tNil))))))
abbrev n_law_whole : List Str := ["_law_found"]
section
variable {K : PySem.W.Frag} {vs : List V} {H : Hp} {Q : VK} {E : XK}
theorem len_law_whole (h : sp_law_whole K vs H Q E) : vs.length = 1 := by
  obtain ⟨v, d, rfl, _⟩ := h
  rfl
theorem rd_law_whole (h : sp_law_whole K vs H Q E) : t_law_whole K { nx := fun _ H' => Q .non H', rt := Q } (start n_law_whole vs) H := by
  obtain ⟨v, d, rfl, hd, q⟩ := h
  obtain ⟨k1, k2, k3, k4⟩ := kit_all d
  show t_law_whole K ⟨_, _, _, _⟩ [some v] H
  unfold t_law_whole
  walk_at "go"
  refine st_isi hd k1 ?_
  rw [isD_int]
  cases hd with
  | bl b =>
    walk_at "go"
    refine st_isi (.bl b) k2 ?_
    rw [isD_bool]
    dsimp only
    walk_at "go"
    exact q
  | int i =>
    walk_at "go"
    refine st_isi (.int i) k2 ?_
    rw [isD_bool]
    dsimp only
    walk_at "go"
    exact q
  | non => walk_at "go"; exact q
  | str x => walk_at "go"; exact q
  | lst h t => walk_at "go"; exact q
  | tup h t => walk_at "go"; exact q
end
/-- the compare that a number draws -/
def cmpBy (k m : Nat) : Cmp := (k % (m - 1), k % (m - 1) + 1 + (if k / 100000 % 3 = 0 then 0 else k / 1000 % (m - 1 - k % (m - 1))))
def sp_law_compare_by (K : PySem.W.Frag) : Sp := fun vs H Q _ => ∃ k m : Nat, vs = [.int k, .int m] ∧ 2 ≤ m ∧ ∀ v H', Same H H' → Im K H' v (dC (cmpBy k m)) → Q v H'
def t_law_compare_by (K : PySem.W.Frag) : TS := (tSeq (tAsg (tOp oMod (tVar 0) (tOp oSub (tVar 1) (tC (.int 1)))) (gName 2))
    (tSeq (tAsg (tOp oMod (tOp oDiv (tVar 0) (tC (.int 1000))) (tOp oSub (tOp oSub (tVar 1) (tC (.int 1))) (tVar 2))) (gName 3))
    (tSeq (tIfS (tTest (tOp rEq (tOp oMod (tOp oDiv (tVar 0) (tC (.int 100000))) (tC (.int 3))) (tC (.int 0)))) (tAsg (tC (.int 0)) (gName 3)) tNext)
    (tRet (tTup (tCons (tVar 2) (tCons (tOp oAdd (tOp oAdd (tVar 2) (tC (.int 1))) (tVar 3)) tNil)))))))
abbrev n_law_compare_by : List Str := ["_law_number", "_law_places", "_law_low", "_law_far"]
section
variable {K : PySem.W.Frag} {vs : List V} {H : Hp} {Q : VK} {E : XK}
theorem len_law_compare_by (h : sp_law_compare_by K vs H Q E) : vs.length = 2 := by
  obtain ⟨k, m, rfl, _⟩ := h
  rfl
theorem rd_law_compare_by (h : sp_law_compare_by K vs H Q E) : t_law_compare_by K { nx := fun _ H' => Q .non H', rt := Q } (start n_law_compare_by vs) H := by
  obtain ⟨k, m, rfl, hm, q⟩ := h
  obtain ⟨m, rfl⟩ : ∃ j, m = j + 1 := ⟨m - 1, by omega⟩
  show t_law_compare_by K ⟨_, _, _, _⟩ [some (.int k), some (.int (m + 1 : Nat)), none, none] H
  unfold t_law_compare_by
  have e1 : ((m + 1 : Nat) : Int) - 1 = (m : Int) := by omega
  have hl : k % m < m := Nat.mod_lt _ (by omega)
  have e2 : (k : Int) % (m : Int) = ((k % m : Nat) : Int) := (Int.natCast_emod k m).symm
  have e3 : (m : Int) - ((k % m : Nat) : Int) = ((m - k % m : Nat) : Int) := by omega
  have e4 : (k : Int) / 1000 % ((m - k % m : Nat) : Int) = ((k / 1000 % (m - k % m) : Nat) : Int) := by
    rw [Int.natCast_emod]
    rfl
  walk_at "go"
  rw [e1]
  walk_at "go"
  rw [e2]
  walk_at "go"
  rw [e3]
  walk_at "go"
  rw [e4]
  refine st_y2 (fun h => ?_) (fun h => ?_)
  · walk_at "go"
    refine newI (K := K) (ds := [.int _, .int _]) (.cons (.int _) (.cons (.int _) .nil)) (by simp) (fun w H2 s hw => ?_)
    have ec : dC (cmpBy k (m + 1)) = .tuple [.int ((k % m : Nat) : Int), .int (((k % m : Nat) : Int) + 1 + 0)] := by
      unfold cmpBy dC
      rw [if_pos (by omega)]
      rfl
    rw [ec] at q
    exact q w H2 s hw
  · walk_at "go"
    refine newI (K := K) (ds := [.int _, .int _]) (.cons (.int _) (.cons (.int _) .nil)) (by simp) (fun w H2 s hw => ?_)
    have ec : dC (cmpBy k (m + 1)) = .tuple [.int ((k % m : Nat) : Int), .int (((k % m : Nat) : Int) + 1 + ((k / 1000 % (m - k % m) : Nat) : Int))] := by
      unfold cmpBy dC
      rw [if_neg (by omega)]
      rfl
    rw [ec] at q
    exact q w H2 s hw
end
/-! ### programs of so many places -/
def okC (m : Nat) (c : Cmp) : Prop := c.1 < c.2 ∧ c.2 < m
def okP (m : Nat) (p : Prog) : Prop := ∀ c ∈ p, okC m c
theorem cmpBy_ok {k m : Nat} (hm : 2 ≤ m) : okC m (cmpBy k m) := by
  have h1 : k % (m - 1) < m - 1 := Nat.mod_lt _ (by omega)
  have h2 : k / 1000 % (m - 1 - k % (m - 1)) < m - 1 - k % (m - 1) := Nat.mod_lt _ (by omega)
  unfold okC cmpBy
  constructor
  · show k % (m - 1) < k % (m - 1) + 1 + _
    omega
  · show k % (m - 1) + 1 + _ < m
    split <;> omega
theorem isCompare_ok {m : Nat} {c : Cmp} (h : okC m c) : isCompare m (dC c) = true := by
  obtain ⟨h1, h2⟩ := h
  show (decide ((0 : Int) ≤ c.1) && decide ((0 : Int) ≤ c.2) && decide ((c.1 : Int) < c.2) && decide ((c.2 : Int) < m)) = true
  rw [decide_eq_true (by omega), decide_eq_true (by omega), decide_eq_true (by omega), decide_eq_true (by omega)]
  rfl
theorem isProg_ok {m : Nat} {p : Prog} (h : okP m p) : isProg m (dP p) = true := by
  show (p.map dC).all (isCompare m) = true
  rw [List.all_eq_true]
  intro d hd
  obtain ⟨c, hc, rfl⟩ := List.mem_map.mp hd
  exact isCompare_ok (h c hc)
theorem imAll_map {K : PySem.W.Frag} {H : Hp} {α : Type} {f : α → PyData} {l : List α} {vs : List V} {i : Nat} {a : α} (h : ImAll K H vs (l.map f)) (e : l[i]? = some a) : ∃ v, vs[i]? = some v ∧ Im K H v (f a) := h.at (by rw [List.getElem?_map, e]; rfl)
theorem scr_of {K : PySem.W.Frag} {H : Hp} {a : Addr} {ns : List Int} (hO : Only H) (h : SqL K H a (ns.map V.int)) : Scr K H (.ref a) ns := by
  refine ⟨a, rfl, ?_⟩
  rcases h with (h | ⟨o, h⟩) | h
  · rcases hO a with z | ⟨o, xs, z⟩
    · exact nomatch (z.symm.trans h)
    · exact nomatch (z.symm.trans h)
  · exact .inl ⟨o, h⟩
  · exact .inr (.inr h)
/-! ### == of data -/
def Sh (n : Nat) (d : PyData) : Prop := d.canLay0 = true ∧ d.depth ≤ n
theorem Sh.mono {m n : Nat} {d : PyData} (h : Sh m d) (e : m ≤ n) : Sh n d := ⟨h.1, Nat.le_trans h.2 e⟩
theorem Sh.shaped {n : Nat} {d : PyData} (h : Sh n d) (e : n ≤ 64) : SeqAt.shaped d = true := by
  unfold SeqAt.shaped
  rw [h.1, decide_eq_true (Nat.le_trans h.2 e)]
  rfl
theorem sh_int {n : Nat} (i : Int) : Sh n (.int i) := ⟨by simp [PyData.canLay0], by simp [PyData.depth]⟩
theorem sh_non {n : Nat} : Sh n .none := ⟨by simp [PyData.canLay0], by simp [PyData.depth]⟩
theorem sh_bl {n : Nat} (b : Bool) : Sh n (.bool b) := ⟨by simp [PyData.canLay0], by simp [PyData.depth]⟩
theorem sh_all {n : Nat} : ∀ {ds : List PyData}, (∀ d ∈ ds, Sh n d) → PyData.canLayAll0 ds = true ∧ PyData.depthAll ds ≤ n
  | [], _ => ⟨by simp [PyData.canLayAll0], by simp [PyData.depthAll]⟩
  | d :: ds, h => by
    obtain ⟨a, b⟩ := sh_all fun x hx => h x (List.mem_cons_of_mem _ hx)
    obtain ⟨c, e⟩ := h d List.mem_cons_self
    constructor
    · rw [PyData.canLayAll0, a, c]
      rfl
    · rw [PyData.depthAll]
      omega
theorem sh_tup {n : Nat} {ds : List PyData} (h : ∀ d ∈ ds, Sh n d) : Sh (n + 1) (.tuple ds) := by
  obtain ⟨a, b⟩ := sh_all h
  exact ⟨by rw [PyData.canLay0]; exact a, by rw [PyData.depth]; omega⟩
theorem sh_list {n : Nat} {ds : List PyData} (h : ∀ d ∈ ds, Sh n d) : Sh (n + 1) (.list ds) := by
  obtain ⟨a, b⟩ := sh_all h
  exact ⟨by rw [PyData.canLay0]; exact a, by rw [PyData.depth]; omega⟩
theorem sh_map {n : Nat} {α : Type} {f : α → PyData} {l : List α} (h : ∀ a ∈ l, Sh n (f a)) : ∀ d ∈ l.map f, Sh n d := fun d hd => by
  obtain ⟨a, ha, rfl⟩ := List.mem_map.mp hd
  exact h a ha
theorem sh_dC {n : Nat} (c : Cmp) : Sh (n + 1) (dC c) := sh_tup fun d hd => by
  simp only [List.mem_cons, List.not_mem_nil, or_false] at hd
  rcases hd with rfl | rfl <;> exact sh_int _
theorem sh_dP (p : Prog) : Sh 2 (dP p) := sh_tup (sh_map fun c _ => sh_dC c)
theorem sh_ints (ns : List Int) : ∀ d ∈ ns.map PyData.int, Sh 0 d := sh_map fun i _ => sh_int i
theorem eqv_self {n : Nat} {d : PyData} (h : Sh n d) : PyData.eqv d d = true := SeqAt.eqv_refl d h.1
theorem eqvAll_map {α : Type} [DecidableEq α] {f : α → PyData} (h : ∀ a b, PyData.eqv (f a) (f b) = decide (a = b)) : ∀ l m : List α, PyData.eqvAll (l.map f) (m.map f) = decide (l = m)
  | [], [] => by simp [PyData.eqvAll]
  | [], b :: m => by simp [PyData.eqvAll]
  | a :: l, [] => by simp [PyData.eqvAll]
  | a :: l, b :: m => by
    show PyData.eqvAll (f a :: l.map f) (f b :: m.map f) = _
    rw [PyData.eqvAll, h, eqvAll_map h l m]
    by_cases e : a = b
    · subst e
      by_cases q : l = m
      · subst q
        simp
      · simp [q]
    · simp [e]
theorem eqv_int (a b : Int) : PyData.eqv (.int a) (.int b) = decide (a = b) := by
  rw [PyData.eqv]
  by_cases e : a = b <;> simp [e]
theorem eqv_dC (a b : Cmp) : PyData.eqv (dC a) (dC b) = decide (a = b) := by
  obtain ⟨a1, a2⟩ := a
  obtain ⟨b1, b2⟩ := b
  show PyData.eqv (.tuple [.int a1, .int a2]) (.tuple [.int b1, .int b2]) = _
  rw [PyData.eqv, PyData.eqvAll, PyData.eqvAll, PyData.eqvAll, eqv_int, eqv_int]
  by_cases e : a1 = b1 <;> by_cases q : a2 = b2 <;> simp [e, q] <;> omega
theorem eqv_dP (p q : Prog) : PyData.eqv (dP p) (dP q) = decide (p = q) := by
  show PyData.eqv (.tuple (p.map dC)) (.tuple (q.map dC)) = _
  rw [PyData.eqv]
  exact eqvAll_map eqv_dC p q
/-! ### rows of things, and what a program does to them -/
inductive Mrk where
  | n
  | i (k : Int)
  | s (k : _root_.Fin 9)
  deriving DecidableEq
def dM : Mrk → PyData
  | .n => .none
  | .i k => .int k
  | .s k => .str (toString (k.val : Int))
abbrev Thing := Int × Mrk
abbrev Row := List Thing
def dT (t : Thing) : PyData := .tuple [.int t.1, dM t.2]
def dR (r : Row) : PyData := .tuple (r.map dT)
/-- numbers as values -/
def nV (ks : List Nat) : List V := ks.map fun (k : Nat) => V.int (k : Int)
theorem nV_app (a b : List Nat) : nV (a ++ b) = nV a ++ nV b := List.map_append
theorem nV_len (a : List Nat) : (nV a).length = a.length := List.length_map _
def noT : Thing := (0, .n)
def key (r : Row) (i : Nat) : Int := (r.getD i noT).1
def swaps (r : Row) (c : Cmp) : Bool := decide (key r c.2 < key r c.1)
def stepR (r : Row) (c : Cmp) : Row := if swaps r c = true then (r.set c.1 (r.getD c.2 noT)).set c.2 (r.getD c.1 noT) else r
def goR (p : Prog) (r : Row) : Row := p.foldl stepR r
def chg : Nat → Prog → Row → List Nat
  | _, [], _ => []
  | k, c :: p, r => (if swaps r c = true then [k] else []) ++ chg (k + 1) p (stepR r c)
theorem stepR_len (r : Row) (c : Cmp) : (stepR r c).length = r.length := by
  unfold stepR
  split <;> simp
theorem goR_len : ∀ (p : Prog) (r : Row), (goR p r).length = r.length
  | [], _ => rfl
  | c :: p, r => by
    show (goR p (stepR r c)).length = r.length
    rw [goR_len p, stepR_len]
theorem goR_take {p : Prog} {r : Row} {i : Nat} {c : Cmp} (h : p[i]? = some c) : goR (p.take (i + 1)) r = stepR (goR (p.take i) r) c := by
  unfold goR
  rw [List.take_add_one, h, List.foldl_append]
  rfl
theorem chg_app : ∀ (k : Nat) (p q : Prog) (r : Row), chg k (p ++ q) r = chg k p r ++ chg (k + p.length) q (goR p r)
  | k, [], q, r => by simp [chg, goR]
  | k, c :: p, q, r => by
    show (if swaps r c = true then [k] else []) ++ chg (k + 1) (p ++ q) (stepR r c) = _
    rw [chg_app (k + 1) p q]
    show _ = ((if swaps r c = true then [k] else []) ++ chg (k + 1) p (stepR r c)) ++ chg (k + (p.length + 1)) q (goR p (stepR r c))
    rw [List.append_assoc, show k + 1 + p.length = k + (p.length + 1) by omega]
theorem chg_take {p : Prog} {r : Row} {i : Nat} {c : Cmp} (h : p[i]? = some c) : chg 0 (p.take (i + 1)) r = chg 0 (p.take i) r ++ (if swaps (goR (p.take i) r) c = true then [i] else []) := by
  have hi : i < p.length := (List.getElem?_eq_some_iff.mp h).1
  rw [List.take_add_one, h, chg_app]
  show _ ++ (_ ++ []) = _
  rw [List.append_nil, List.length_take, Nat.zero_add, Nat.min_eq_left (Nat.le_of_lt hi)]
theorem chg_len : ∀ (k : Nat) (p : Prog) (r : Row), (chg k p r).length ≤ p.length
  | _, [], _ => Nat.le_refl _
  | k, c :: p, r => by
    have h := chg_len (k + 1) p (stepR r c)
    show ((if swaps r c = true then [k] else []) ++ chg (k + 1) p (stepR r c)).length ≤ p.length + 1
    rw [List.length_append]
    split <;> simp <;> omega
theorem wide_le : ∀ {p : Prog} {c : Cmp}, c ∈ p → c.2 < wide p
  | d :: p, c, h => by
    show c.2 < max (d.2 + 1) (wide p)
    rcases List.mem_cons.mp h with rfl | h
    · omega
    · have := wide_le h
      omega
theorem wide_ok {m : Nat} : ∀ {p : Prog}, okP m p → wide p ≤ m
  | [], _ => Nat.zero_le _
  | c :: p, h => by
    have h1 := (h c List.mem_cons_self).2
    have h2 := wide_ok (p := p) fun d hd => h d (List.mem_cons_of_mem _ hd)
    show max (c.2 + 1) (wide p) ≤ m
    omega
/-- its compares' places rise -/
def upP (p : Prog) : Prop := ∀ c ∈ p, c.1 < c.2
theorem okP.up {m : Nat} {p : Prog} (h : okP m p) : upP p := fun c hc => (h c hc).1
theorem row_at {r : Row} {i : Nat} (h : i < r.length) : (r.map dT)[i]? = some (.tuple [.int (key r i), dM (r.getD i noT).2]) := by
  rw [List.getElem?_map, List.getElem?_eq_getElem h]
  simp [key, dT, List.getD, List.getElem?_eq_getElem h]
theorem row_set (r : Row) (i : Nat) (t : Thing) : (r.map dT).set i (dT t) = (r.set i t).map dT := List.map_set.symm
theorem dT_getD {r : Row} {i : Nat} (h : i < r.length) : dT (r.getD i noT) = .tuple [.int (key r i), dM (r.getD i noT).2] := rfl
/-- what is handed back: the row behind the program, a new list of numbers -/
def GoneRes (K : PySem.W.Frag) (H H' : Hp) (v : V) (p : Prog) (r : Row) : Prop := ∃ a b l, v = .ref a ∧ SqT K H' a [b, .ref l] ∧ Im K H' b (dR (goR p r)) ∧ Fr H l ∧ At H' l (.lst (nV (chg 0 p r)))
def sp_gone_through (K : PySem.W.Frag) (C : Addr) : Sp := fun vs H Q E => ∃ pv rv p r, vs = [pv, rv] ∧ Im K H pv (dP p) ∧ Im K H rv (dR r) ∧ p.length ≤ 100000 ∧ r.length ≤ 100000 ∧ upP p ∧
  (r.length < wide p → ∀ H', Same H H' → E (.ref C) none H') ∧ (wide p ≤ r.length → ∀ v H', Same H H' → GoneRes K H H' v p r → Q v H')
def t_gone_through (K : PySem.W.Frag) (C_BadRow : Addr) (E : XK) : TS := (tSeq (tIfS (tTest (tOp oGt (tCall (sp_places_of K) [] E0 (tCons (tVar 0) tNil)) (tCB (cLen K) (tCons (tVar 1) tNil)))) (tRaiseC C_BadRow E) tNext)
    (tSeq (tAsg (tCB (cList K) (tCons (tVar 1) tNil)) (gName 2))
    (tSeq (tAsg (tLst tNil) (gName 3))
    (tSeq (tFor (iRng1 (tCons (tCB (cLen K) (tCons (tVar 0) tNil)) tNil)) (gName 4) (tSeq (tAsg (tOp (rIxT K) (tVar 0) (tVar 4)) (gTup K 2 (gCons (gName 5) (gCons (gName 6) gNil))))
    (tIfS (tTest (tOp oGt (tOp (rIxT K) (tOp (rIxL K) (tVar 2) (tVar 5)) (tC (.int 0))) (tOp (rIxT K) (tOp (rIxL K) (tVar 2) (tVar 6)) (tC (.int 0))))) (tSeq (tAsg (tTup (tCons (tOp (rIxL K) (tVar 2) (tVar 6)) (tCons (tOp (rIxL K) (tVar 2) (tVar 5)) tNil))) (gTup K 2 (gCons (gSub (tVar 2) (tVar 5) rSetL) (gCons (gSub (tVar 2) (tVar 6) rSetL) gNil))))
    (tDrop (tBM K "list" rAppend (tVar 3) (tCons (tVar 4) tNil)))) tNext)))
    (tRet (tTup (tCons (tCB (cTup K) (tCons (tVar 2) tNil)) (tCons (tVar 3) tNil))))))))
abbrev n_gone_through : List Str := ["program", "row", "found", "changed", "k", "low", "high"]
section
variable {K : PySem.W.Frag} {vs : List V} {H : Hp} {Q : VK} {E : XK}
theorem len_gone_through {C : Addr} (h : sp_gone_through K C vs H Q E) : vs.length = 2 := by
  obtain ⟨pv, rv, p, r, rfl, _⟩ := h
  rfl
theorem rd_gone_through {C : Addr} (h : sp_gone_through K C vs H Q E) : t_gone_through K C E { nx := fun _ H' => Q .non H', rt := Q } (start n_gone_through vs) H := by
  obtain ⟨pv, rv, p, r, rfl, hp, hr, zp, zr, up, qE, qG⟩ := h
  show t_gone_through K C E ⟨_, _, _, _⟩ [some pv, some rv, none, none, none, none, none] H
  unfold t_gone_through
  walk_at "go"
  refine ⟨pv, p, rfl, hp, zp, fun H1 s1 => ?_⟩
  walk_at "go"
  refine st_lenI (hr.same s1) ?_
  rw [List.length_map]
  walk_at "go"
  refine st_y2 (fun hw => ?_) (fun hw => ?_)
  · exact qE (by omega) H1 s1
  · walk_at "go"
    have hw' : wide p ≤ r.length := by omega
    refine st_listI (hr.same s1) (fun f H2 xs nf s2 af xf => ?_)
    walk_at "go"
    refine newL (by simp) (fun g H3 ng s3 ag => ?_)
    walk_at "go"
    have s02 : Same H H2 := by walk_at "sm"
    have s03 : Same H H3 := by walk_at "sm"
    have nf0 : Fr H f := same_none s1 nf
    have ng0 : Fr H g := same_none s02 ng
    have nfg : f ≠ g := at_ne af ng
    refine st_lenI (hp.same s03) ?_
    rw [List.length_map]
    walk_at "go"
    refine st_r1 p.length rfl (by omega) ?_
    refine loop_r0 (fun i σ' H' => Same H H' ∧ (∃ xs, At H' f (.lst xs) ∧ ImAll K H' xs ((goR (p.take i) r).map dT)) ∧ At H' g (.lst (nV (chg 0 (p.take i) r))) ∧ ∃ a b c, σ' = [some pv, some rv, some (.ref f), some (.ref g), a, b, c]) ?_ (fun i σ' H' hi q => ?_) (fun σ' H' q => ?_)
    · exact ⟨s03, ⟨xs, same_at s3 af, xf.same s3⟩, ag, none, none, none, rfl⟩
    · obtain ⟨s, ⟨xs, af, xf⟩, ag, a, b, c, rfl⟩ := q
      have hc := List.getElem?_eq_getElem hi
      obtain ⟨cm, ecm⟩ : ∃ cm, cm = p[i] := ⟨_, rfl⟩
      rw [← ecm] at hc
      have hcu := up cm (List.mem_of_getElem? hc)
      have hcw := wide_le (List.mem_of_getElem? hc)
      have hgl := goR_len (p.take i) r
      have hxl := xf.length
      rw [List.length_map] at hxl
      walk_at "go"
      refine st_ixI i (hp.same s) rfl (by rw [List.getElem?_map, hc]; rfl) (fun w hw => ?_)
      refine st_gtup hw rfl (fun ys hy => ?_)
      cases hy with
      | cons h1 t1 =>
      cases t1 with
      | cons h2 t2 =>
      cases t2
      cases h1
      cases h2
      walk_at "go"
      have l1 : cm.1 < (goR (p.take i) r).length := by omega
      have l2 : cm.2 < (goR (p.take i) r).length := by omega
      obtain ⟨v1, g1, i1⟩ := xf.at (row_at l1)
      obtain ⟨v2, g2, i2⟩ := xf.at (row_at l2)
      refine st_ixL cm.1 (at_seq af) rfl g1 ?_
      walk_at "go"
      refine st_ixI 0 i1 rfl rfl (fun k1 e1 => ?_)
      cases e1
      walk_at "go"
      refine st_ixL cm.2 (at_seq af) rfl g2 ?_
      walk_at "go"
      refine st_ixI 0 i2 rfl rfl (fun k2 e2 => ?_)
      cases e2
      walk_at "go"
      refine st_y2 (fun hk => ?_) (fun hk => ?_)
      · have hsw : swaps (goR (p.take i) r) cm = true := decide_eq_true hk
        walk_at "go"
        refine st_ixL cm.2 (at_seq af) rfl g2 ?_
        walk_at "go"
        refine st_ixL cm.1 (at_seq af) rfl g1 ?_
        walk_at "go"
        refine newI (K := K) (.cons i2 (.cons i1 .nil)) (by simp) (fun w4 H4 s4 i4 => ?_)
        refine st_gtup i4 rfl (fun zs hz => ?_)
        cases hz with
        | @cons z1 _ _ _ j1 u1 =>
        cases u1 with
        | @cons z2 _ _ _ j2 u2 =>
        cases u2
        walk_at "go"
        refine st_setL cm.1 (same_at s4 af) rfl (by omega) (fun H5 b5 a5 => ?_)
        walk_at "go"
        refine st_setL cm.2 a5 rfl (by rw [List.length_set]; omega) (fun H6 b6 a6 => ?_)
        have t46 : Tx H4 H6 := (bx_tx b5).trans (bx_tx b6)
        have sH6 : Same H H6 := same_bx (same_bx (s.trans s4) b5 nf0) b6 nf0
        have ag6 : At H6 g (.lst (nV (chg 0 (p.take i) r))) := by
          have x1 := same_at s4 ag
          rcases at_bx b5 x1 with z | x2
          · exact absurd z.symm nfg
          · rcases at_bx b6 x2 with z | x3
            · exact absurd z.symm nfg
            · exact x3
        walk_at "go"
        refine st_tyL ag6 ?_
        walk_at "go"
        have zc := chg_len 0 (p.take i) r
        rw [List.length_take] at zc
        refine st_app ag6 (by rw [nV_len]; omega) (fun H7 b7 a7 => ?_)
        refine ⟨same_bx sH6 b7 ng0, ⟨_, (at_bx b7 a6).resolve_left nfg, ?_⟩, ?_, _, _, _, rfl⟩
        · rw [goR_take hc]
          unfold stepR
          rw [if_pos hsw, ← row_set, ← row_set]
          have t47 := t46.trans (bx_tx b7)
          exact (((xf.same s4).tx t47).set _ (j1.tx t47)).set _ (j2.tx t47)
        · rw [chg_take hc, if_pos hsw, nV_app]
          exact a7
      · have hsw : swaps (goR (p.take i) r) cm = false := decide_eq_false hk
        walk_at "go"
        refine ⟨s, ⟨xs, af, ?_⟩, ?_, _, _, _, rfl⟩
        · rw [goR_take hc]
          unfold stepR
          rw [if_neg (by rw [hsw]; decide)]
          exact xf
        · rw [chg_take hc, if_neg (by rw [hsw]; decide), List.append_nil]
          exact ag
    · obtain ⟨s, ⟨xs, af, xf⟩, ag, a, b, c, rfl⟩ := q
      rw [List.take_length] at xf ag
      walk_at "go"
      refine st_tupI (at_seq af) xf (fun w4 H4 s4 i4 => ?_)
      walk_at "go"
      refine newT (by simp) (fun t H5 n5 s5 a5 => ?_)
      exact qG hw' _ H5 (by walk_at "sm") ⟨t, w4, g, rfl, sqT_of a5, i4.same s5, ng0, same_at s5 (same_at s4 ag)⟩
end
def sp_run (K : PySem.W.Frag) (C : Addr) : Sp := fun vs H Q E => ∃ pv rv p r, vs = [pv, rv] ∧ Im K H pv (dP p) ∧ Im K H rv (dR r) ∧ p.length ≤ 100000 ∧ r.length ≤ 100000 ∧ upP p ∧
  (r.length < wide p → ∀ H', Same H H' → E (.ref C) none H') ∧ (wide p ≤ r.length → ∀ v H', Same H H' → Im K H' v (dR (goR p r)) → Q v H')
def t_run (K : PySem.W.Frag) (C_BadRow : Addr) (E : XK) : TS := (tRet (tOp (rIxT K) (tCall (sp_gone_through K C_BadRow) [] E (tCons (tVar 0) (tCons (tVar 1) tNil))) (tC (.int 0))))
abbrev n_run : List Str := ["program", "row"]
section
variable {K : PySem.W.Frag} {vs : List V} {H : Hp} {Q : VK} {E : XK}
theorem len_run {C : Addr} (h : sp_run K C vs H Q E) : vs.length = 2 := by
  obtain ⟨pv, rv, p, r, rfl, _⟩ := h
  rfl
theorem rd_run {C : Addr} (h : sp_run K C vs H Q E) : t_run K C E { nx := fun _ H' => Q .non H', rt := Q } (start n_run vs) H := by
  obtain ⟨pv, rv, p, r, rfl, hp, hr, zp, zr, up, qE, qG⟩ := h
  show t_run K C E ⟨_, _, _, _⟩ [some pv, some rv] H
  unfold t_run
  walk_at "go"
  refine ⟨pv, rv, p, r, rfl, hp, hr, zp, zr, up, qE, fun hw v H' s g => ?_⟩
  obtain ⟨a, b, l, rfl, ha, hb, hl, al⟩ := g
  walk_at "go"
  refine st_ixT 0 ha rfl rfl ?_
  exact qG hw b H' s hb
end
/-- the neighbours' compares that order -/
def stepRow (l : Nat) : Prog := (List.range (l + 1)).map fun k => (l - k, l + 1 - k)
def stepsOf (m : Nat) : Prog := (List.range (m - 1)).flatMap stepRow
theorem stepsOf_ok (m : Nat) : okP m (stepsOf m) := fun c hc => by
  obtain ⟨l, hl, hc⟩ := List.mem_flatMap.mp hc
  obtain ⟨k, hk, rfl⟩ := List.mem_map.mp hc
  have h1 := List.mem_range.mp hl
  have h2 := List.mem_range.mp hk
  constructor
  · show l - k < l + 1 - k
    omega
  · show l + 1 - k < m
    omega
theorem flat_succ (m : Nat) : (List.range (m + 1)).flatMap stepRow = (List.range m).flatMap stepRow ++ stepRow m := by
  rw [List.range_succ, List.flatMap_append]
  simp
theorem stepRow_take {l j : Nat} (h : j < l + 1) : (stepRow l).take (j + 1) = (stepRow l).take j ++ [(l - j, l + 1 - j)] := by
  rw [List.take_add_one]
  congr 1
  unfold stepRow
  rw [List.getElem?_map, List.getElem?_range h]
  rfl
theorem stepRow_len (l : Nat) : (stepRow l).length = l + 1 := by simp [stepRow]
theorem steps_len : ∀ m : Nat, ((List.range m).flatMap stepRow).length ≤ m * 1000 + 0 ∨ 1000 ≤ m
  | 0 => .inl (by simp)
  | m + 1 => by
    rcases steps_len m with h | h
    · by_cases q : 1000 ≤ m + 1
      · exact .inr q
      · refine .inl ?_
        rw [flat_succ, List.length_append, stepRow_len]
        omega
    · exact .inr (by omega)
theorem stepsOf_len {m : Nat} (h : m ≤ 100) : (stepsOf m).length ≤ 100000 := by
  unfold stepsOf
  rcases steps_len (m - 1) with q | q <;> omega
/-- a new list of programs' compares -/
def NewP (K : PySem.W.Frag) (H : Hp) (p : Prog) (Q : VK) : Prop := ∀ a H' xs, Same H H' → Fr H a → At H' a (.lst xs) → ImAll K H' xs (p.map dC) → Q (.ref a) H'
def sp_law_steps (K : PySem.W.Frag) : Sp := fun vs H Q _ => ∃ m : Nat, vs = [.int m] ∧ m ≤ 100 ∧ NewP K H (stepsOf m) Q
def t_law_steps (K : PySem.W.Frag) : TS := (tSeq (tAsg (tLst tNil) (gName 1))
    (tSeq (tFor (iRng2 (tCons (tC (.int 1)) (tCons (tVar 0) tNil))) (gName 2) (tFor (iRng1 (tCons (tVar 2) tNil)) (gName 3) (tDrop (tBM K "list" rAppend (tVar 1) (tCons (tTup (tCons (tOp oSub (tOp oSub (tVar 2) (tC (.int 1))) (tVar 3)) (tCons (tOp oSub (tVar 2) (tVar 3)) tNil))) tNil)))))
    (tRet (tVar 1))))
abbrev n_law_steps : List Str := ["_law_places", "_law_found", "_law_last", "_law_k"]
section
variable {K : PySem.W.Frag} {vs : List V} {H : Hp} {Q : VK} {E : XK}
theorem len_law_steps (h : sp_law_steps K vs H Q E) : vs.length = 1 := by
  obtain ⟨m, rfl, _⟩ := h
  rfl
theorem rd_law_steps (h : sp_law_steps K vs H Q E) : t_law_steps K { nx := fun _ H' => Q .non H', rt := Q } (start n_law_steps vs) H := by
  obtain ⟨m, rfl, hm, q⟩ := h
  show t_law_steps K ⟨_, _, _, _⟩ [some (.int m), none, none, none] H
  unfold t_law_steps
  walk_at "go"
  refine newL (by simp) (fun f H1 nf s1 af => ?_)
  walk_at "go"
  refine st_r2 (m - 1) (by omega) (by omega) (by omega) ?_
  refine loop_r (fun i σ' H' => Same H H' ∧ (∃ xs, At H' f (.lst xs) ∧ ImAll K H' xs (((List.range i).flatMap stepRow).map dC)) ∧ ∃ a b, σ' = [some (.int m), some (.ref f), a, b]) ⟨s1, ⟨[], af, .nil⟩, none, none, rfl⟩ (fun l σ' H' hl w => ?_) (fun σ' H' w => ?_)
  · obtain ⟨s, ⟨xs, af, xf⟩, a, b, rfl⟩ := w
    walk_at "go"
    refine st_r1 (l + 1) (by omega) (by omega) ?_
    refine loop_r0 (fun j σ' H' => Same H H' ∧ (∃ xs, At H' f (.lst xs) ∧ ImAll K H' xs (((List.range l).flatMap stepRow ++ (stepRow l).take j).map dC)) ∧ ∃ b, σ' = [some (.int m), some (.ref f), some (.int (1 + (l : Int))), b]) ⟨s, ⟨xs, af, by simpa using xf⟩, b, rfl⟩ (fun j σ' H' hj w => ?_) (fun σ' H' w => ?_)
    · obtain ⟨s, ⟨xs, af, xf⟩, b, rfl⟩ := w
      walk_at "go"
      refine st_tyL af ?_
      walk_at "go"
      refine newI (K := K) (.cons (.int _) (.cons (.int _) .nil)) (by simp) (fun w2 H2 s2 i2 => ?_)
      walk_at "go"
      have zl := xf.length
      have hlen : xs.length ≤ 100000 := by
        rw [zl, List.length_map, List.length_append, List.length_take, stepRow_len]
        rcases steps_len l with h | h <;> omega
      refine st_app (same_at s2 af) (by omega) (fun H3 b3 a3 => ?_)
      refine ⟨same_bx (s.trans s2) b3 nf, ⟨_, a3, ?_⟩, _, rfl⟩
      rw [stepRow_take hj, ← List.append_assoc, List.map_append]
      have ec : (PyData.tuple [.int (1 + (l : Int) - 1 - (j : Int)), .int (1 + (l : Int) - (j : Int))]) = dC (l - j, l + 1 - j) := by
        unfold dC
        congr 2
        · congr 1
          show _ = ((l - j : Nat) : Int)
          omega
        · congr 2
          show _ = ((l + 1 - j : Nat) : Int)
          omega
      rw [ec] at i2
      exact ((xf.same s2).tx (bx_tx b3)).snoc (i2.tx (bx_tx b3))
    · obtain ⟨s, ⟨xs, af, xf⟩, b, rfl⟩ := w
      refine ⟨s, ⟨xs, af, ?_⟩, _, _, rfl⟩
      rw [List.take_of_length_le (by rw [stepRow_len]; exact Nat.le_refl _)] at xf
      rw [flat_succ]
      exact xf
  · obtain ⟨s, ⟨xs, af, xf⟩, a, b, rfl⟩ := w
    walk_at "go"
    exact q f H' xs s nf af xf
end
theorem map_erase {α β : Type} (g : α → β) : ∀ (l : List α) (i : Nat), (l.eraseIdx i).map g = (l.map g).eraseIdx i
  | [], _ => rfl
  | _ :: _, 0 => rfl
  | a :: l, i + 1 => congrArg (List.cons (g a)) (map_erase g l i)
def insAt {α : Type} (f : List α) (i : Nat) (c : α) : List α := f.take i ++ [c] ++ f.drop i
theorem insAt_map {α β : Type} (g : α → β) (f : List α) (i : Nat) (c : α) : (insAt f i c).map g = insAt (f.map g) i (g c) := by simp [insAt, List.map_take, List.map_drop]
theorem insAt_len {α : Type} {f : List α} {i : Nat} {c : α} : (insAt f i c).length = f.length + 1 := by
  unfold insAt
  simp
  omega
/-- one drawn compare put in, in one way another left out -/
def drawIn (ns : List Int) (at_ m way : Nat) (f : Prog) (k : Nat) : Prog :=
  let z := mixed ns (at_ + 1 + k)
  let g := insAt f (z / 7 % (f.length + 1)) (cmpBy z m)
  if way = 4 ∧ k % 2 = 0 then g.eraseIdx (z / 11 % g.length) else g
def baseOf (m way : Nat) : Prog := if way > 2 then (if way = 5 then (stepsOf m).reverse else stepsOf m) else []
def progBy (ns : List Int) (at_ m many : Nat) : Prog := if m < 2 then [] else (List.range many).foldl (drawIn ns at_ m (mixed ns at_ % 6)) (baseOf m (mixed ns at_ % 6))
theorem okP_ins {m : Nat} {f : Prog} {i : Nat} {c : Cmp} (h : okP m f) (hc : okC m c) : okP m (insAt f i c) := fun d hd => by
  unfold insAt at hd
  rw [List.append_assoc] at hd
  rcases List.mem_append.mp hd with q | q
  · exact h d (List.mem_of_mem_take q)
  · rcases List.mem_append.mp q with q | q
    · rw [List.mem_singleton.mp q]
      exact hc
    · exact h d (List.mem_of_mem_drop q)
theorem okP_draw {ns : List Int} {at_ m way : Nat} {f : Prog} {k : Nat} (hm : 2 ≤ m) (h : okP m f) : okP m (drawIn ns at_ m way f k) := by
  have g := okP_ins (i := mixed ns (at_ + 1 + k) / 7 % (f.length + 1)) h (cmpBy_ok (k := mixed ns (at_ + 1 + k)) hm)
  unfold drawIn
  dsimp only
  split
  · exact fun d hd => g d (List.mem_of_mem_eraseIdx hd)
  · exact g
theorem draw_len {ns : List Int} {at_ m way : Nat} {f : Prog} {k : Nat} : (drawIn ns at_ m way f k).length ≤ f.length + 1 := by
  unfold drawIn
  dsimp only
  split
  · exact Nat.le_trans (List.length_eraseIdx_le _ _) (Nat.le_of_eq insAt_len)
  · exact Nat.le_of_eq insAt_len
theorem draws_ok {ns : List Int} {at_ m way : Nat} (hm : 2 ≤ m) : ∀ (l : List Nat) {f : Prog}, okP m f → okP m (l.foldl (drawIn ns at_ m way) f)
  | [], _, h => h
  | k :: l, _, h => draws_ok hm l (okP_draw hm h)
theorem draws_len {ns : List Int} {at_ m way : Nat} : ∀ (l : List Nat) (f : Prog), (l.foldl (drawIn ns at_ m way) f).length ≤ f.length + l.length
  | [], _ => Nat.le_refl _
  | k :: l, f => by
    have h1 := draws_len (ns := ns) (at_ := at_) (m := m) (way := way) l (drawIn ns at_ m way f k)
    have h2 := draw_len (ns := ns) (at_ := at_) (m := m) (way := way) (f := f) (k := k)
    show ((l.foldl (drawIn ns at_ m way) (drawIn ns at_ m way f k)).length) ≤ f.length + (l.length + 1)
    omega
theorem base_ok (m way : Nat) : okP m (baseOf m way) := fun c hc => by
  unfold baseOf at hc
  split at hc
  · split at hc
    · exact stepsOf_ok m c (List.mem_reverse.mp hc)
    · exact stepsOf_ok m c hc
  · cases hc
theorem base_len {m way : Nat} (h : m ≤ 100) : (baseOf m way).length ≤ 100000 := by
  have := stepsOf_len h
  unfold baseOf
  split
  · split
    · rw [List.length_reverse]
      exact this
    · exact this
  · exact Nat.zero_le _
theorem progBy_ok (ns : List Int) (at_ m many : Nat) : okP m (progBy ns at_ m many) := by
  unfold progBy
  split
  · exact fun c hc => nomatch hc
  · exact draws_ok (by omega) _ (base_ok m _)
theorem progBy_len {ns : List Int} {at_ m many : Nat} (h : m ≤ 100) : (progBy ns at_ m many).length ≤ 100000 + many := by
  unfold progBy
  split
  · exact Nat.zero_le _
  · have h1 := draws_len (ns := ns) (at_ := at_) (m := m) (way := mixed ns at_ % 6) (List.range many) (baseOf m (mixed ns at_ % 6))
    have h2 := base_len (way := mixed ns at_ % 6) h
    rw [List.length_range] at h1
    omega
theorem imAll_ins {K : PySem.W.Frag} {H : Hp} {vs : List V} {ds : List PyData} {v : V} {d : PyData} (i : Nat) (h : ImAll K H vs ds) (h2 : Im K H v d) : ImAll K H (vs.take i ++ [v] ++ vs.drop i) (insAt ds i d) := ((h.take i).append (.cons h2 .nil)).append (h.drop i)
def sp_law_program_by (K : PySem.W.Frag) : Sp := fun vs H Q _ => ∃ v ns, ∃ at_ m many : Nat, vs = [v, .int at_, .int m, .int many] ∧ Scr K H v ns ∧ m ≤ 100 ∧ many ≤ 1000 ∧ ∀ w H', Same H H' → Im K H' w (dP (progBy ns at_ m many)) → Q w H'
def t_law_program_by (K : PySem.W.Frag) : TS := (tSeq (tIfS (tTest (tOp oLt (tVar 2) (tC (.int 2)))) (tRet (tTup tNil)) tNext)
    (tSeq (tAsg (tOp oMod (tCall (sp_law_mixed K) [] E0 (tCons (tVar 0) (tCons (tVar 1) tNil))) (tC (.int 6))) (gName 4))
    (tSeq (tAsg (tLst tNil) (gName 5))
    (tSeq (tIfS (tTest (tOp oGt (tVar 4) (tC (.int 2)))) (tAsg (tCall (sp_law_steps K) [] E0 (tCons (tVar 2) tNil)) (gName 5)) tNext)
    (tSeq (tIfS (tTest (tOp rEq (tVar 4) (tC (.int 5)))) (tAsg (tRevL K (tVar 5)) (gName 5)) tNext)
    (tSeq (tFor (iRng1 (tCons (tVar 3) tNil)) (gName 6) (tSeq (tAsg (tCall (sp_law_mixed K) [] E0 (tCons (tVar 0) (tCons (tOp oAdd (tOp oAdd (tVar 1) (tC (.int 1))) (tVar 6)) tNil))) (gName 7))
    (tSeq (tAsg (tCall (sp_law_compare_by K) [] E0 (tCons (tVar 7) (tCons (tVar 2) tNil))) (gName 8))
    (tSeq (tDrop (tBM K "list" mIns (tVar 5) (tCons (tOp oMod (tOp oDiv (tVar 7) (tC (.int 7))) (tOp oAdd (tCB (cLen K) (tCons (tVar 5) tNil)) (tC (.int 1)))) (tCons (tVar 8) tNil))))
    (tIfS (tAnd (tTest (tOp rEq (tVar 4) (tC (.int 4)))) (tTest (tOp rEq (tOp oMod (tVar 6) (tC (.int 2))) (tC (.int 0))))) (tDrop (tBM K "list" rPopAt (tVar 5) (tCons (tOp oMod (tOp oDiv (tVar 7) (tC (.int 11))) (tCB (cLen K) (tCons (tVar 5) tNil))) tNil))) tNext)))))
    (tRet (tCB (cTup K) (tCons (tVar 5) tNil)))))))))
abbrev n_law_program_by : List Str := ["_law_script", "_law_at", "_law_places", "_law_many", "_law_way", "_law_found", "_law_k", "_law_number", "_law_one"]
section
variable {K : PySem.W.Frag} {vs : List V} {H : Hp} {Q : VK} {E : XK}
theorem len_law_program_by (h : sp_law_program_by K vs H Q E) : vs.length = 4 := by
  obtain ⟨v, ns, a, m, k, rfl, _⟩ := h
  rfl
theorem rd_law_program_by (h : sp_law_program_by K vs H Q E) : t_law_program_by K { nx := fun _ H' => Q .non H', rt := Q } (start n_law_program_by vs) H := by
  obtain ⟨v, ns, at_, m, many, rfl, hs, hm, hk, q⟩ := h
  show t_law_program_by K ⟨_, _, _, _⟩ [some v, some (.int at_), some (.int m), some (.int many), none, none, none, none, none] H
  unfold t_law_program_by
  walk_at "go"
  refine st_y2 (fun h2 => ?_) (fun h2 => ?_)
  · walk_at "go"
    refine newI (K := K) .nil (by simp) (fun w H1 s1 i1 => ?_)
    have e : progBy ns at_ m many = [] := by
      unfold progBy
      rw [if_pos (by omega)]
    rw [e] at q
    exact q w H1 s1 i1
  · have h2' : 2 ≤ m := by omega
    have ep : progBy ns at_ m many = (List.range many).foldl (drawIn ns at_ m (mixed ns at_ % 6)) (baseOf m (mixed ns at_ % 6)) := by
      unfold progBy
      rw [if_neg (by omega)]
    rw [ep] at q
    walk_at "go"
    refine ⟨v, ns, at_, rfl, hs, ?_⟩
    walk_at "go"
    obtain ⟨way, ew⟩ : ∃ way, way = mixed ns at_ % 6 := ⟨_, rfl⟩
    have ew' : ((mixed ns at_ : Nat) : Int) % 6 = (way : Int) := by omega
    rw [ew']
    rw [← ew] at q
    refine newL (by simp) (fun f0 H1 nf0 s1 af0 => ?_)
    -- behind the choice of what is begun with
    have key : ∀ f H2 xs, Same H H2 → Fr H f → At H2 f (.lst xs) → ImAll K H2 xs ((baseOf m way).map dC) → tSeq (tFor (iRng1 (tCons (tVar 3) tNil)) (gName 6)
        (tSeq (tAsg (tCall (sp_law_mixed K) [] E0 (tCons (tVar 0) (tCons (tOp oAdd (tOp oAdd (tVar 1) (tC (.int 1))) (tVar 6)) tNil))) (gName 7))
        (tSeq (tAsg (tCall (sp_law_compare_by K) [] E0 (tCons (tVar 7) (tCons (tVar 2) tNil))) (gName 8))
        (tSeq (tDrop (tBM K "list" mIns (tVar 5) (tCons (tOp oMod (tOp oDiv (tVar 7) (tC (.int 7))) (tOp oAdd (tCB (cLen K) (tCons (tVar 5) tNil)) (tC (.int 1)))) (tCons (tVar 8) tNil))))
        (tIfS (tAnd (tTest (tOp rEq (tVar 4) (tC (.int 4)))) (tTest (tOp rEq (tOp oMod (tVar 6) (tC (.int 2))) (tC (.int 0))))) (tDrop (tBM K "list" rPopAt (tVar 5) (tCons (tOp oMod (tOp oDiv (tVar 7) (tC (.int 11))) (tCB (cLen K) (tCons (tVar 5) tNil))) tNil))) tNext)))))
        (tRet (tCB (cTup K) (tCons (tVar 5) tNil))) ⟨fun _ H' => Q .non H', Q, fun _ _ => False, fun _ _ => False⟩ [some v, some (.int at_), some (.int m), some (.int many), some (.int way), some (.ref f), none, none, none] H2 := fun f H2 xs s2 nf af xf => by
      walk_at "go"
      refine st_r1 many rfl (by omega) ?_
      have lb : (baseOf m way).length ≤ 100000 := base_len hm
      refine loop_r0 (fun i σ' H' => Same H H' ∧ (∃ xs, At H' f (.lst xs) ∧ ImAll K H' xs (((List.range i).foldl (drawIn ns at_ m way) (baseOf m way)).map dC)) ∧ ∃ a b c, σ' = [some v, some (.int at_), some (.int m), some (.int many), some (.int way), some (.ref f), a, b, c]) ⟨s2, ⟨xs, af, xf⟩, none, none, none, rfl⟩ (fun i σ' H' hi w => ?_) (fun σ' H' w => ?_)
      · obtain ⟨s, ⟨xs, af, xf⟩, a, b, c, rfl⟩ := w
        obtain ⟨g, eg⟩ : ∃ g, g = (List.range i).foldl (drawIn ns at_ m way) (baseOf m way) := ⟨_, rfl⟩
        rw [← eg] at xf
        have enext : (List.range (i + 1)).foldl (drawIn ns at_ m way) (baseOf m way) = drawIn ns at_ m way g i := by
          rw [List.range_succ, List.foldl_append, ← eg]
          rfl
        have lg : g.length ≤ 101000 := by
          have := draws_len (ns := ns) (at_ := at_) (m := m) (way := way) (List.range i) (baseOf m way)
          rw [← eg, List.length_range] at this
          omega
        rw [enext]
        walk_at "go"
        have e1 : (at_ : Int) + 1 + (i : Int) = ((at_ + 1 + i : Nat) : Int) := by omega
        rw [e1]
        refine ⟨v, ns, _, rfl, hs.tx (.of s), ?_⟩
        walk_at "go"
        obtain ⟨z, ez⟩ : ∃ z, z = mixed ns (at_ + 1 + i) := ⟨_, rfl⟩
        rw [← ez]
        refine ⟨z, m, rfl, h2', fun w3 H3 s3 i3 => ?_⟩
        walk_at "go"
        have af3 := same_at s3 af
        refine st_tyL af3 ?_
        walk_at "go"
        refine st_lenL (at_seq af3) ?_
        have lx := xf.length
        rw [List.length_map] at lx
        rw [lx]
        have ei : (z : Int) / 7 % ((g.length : Int) + 1) = ((z / 7 % (g.length + 1) : Nat) : Int) := by
          rw [Int.natCast_emod]
          rfl
        walk_at "go"
        rw [ei]
        refine st_ins af3 (by omega) (by
          have : z / 7 % (g.length + 1) < g.length + 1 := Nat.mod_lt _ (by omega)
          omega) (fun H4 b4 a4 => ?_)
        rw [Int.toNat_natCast] at a4
        have s4 : Same H H4 := same_bx (s.trans s3) b4 nf
        have x4 := imAll_ins (z / 7 % (g.length + 1)) ((xf.same s3).tx (bx_tx b4)) (i3.tx (bx_tx b4))
        rw [← insAt_map] at x4
        have l4 : (insAt g (z / 7 % (g.length + 1)) (cmpBy z m)).length = g.length + 1 := insAt_len
        have edraw : drawIn ns at_ m way g i = if way = 4 ∧ i % 2 = 0 then (insAt g (z / 7 % (g.length + 1)) (cmpBy z m)).eraseIdx (z / 11 % (insAt g (z / 7 % (g.length + 1)) (cmpBy z m)).length) else insAt g (z / 7 % (g.length + 1)) (cmpBy z m) := by
          unfold drawIn
          rw [← ez]
        have fin : ¬ (way = 4 ∧ i % 2 = 0) → Same H H4 ∧ (∃ xs, At H4 f (.lst xs) ∧ ImAll K H4 xs ((drawIn ns at_ m way g i).map dC)) ∧ ∃ a b c, [some v, some (V.int at_), some (.int m), some (.int many), some (.int way), some (.ref f), some (.int i), some (.int z), some w3] = [some v, some (.int at_), some (.int m), some (.int many), some (.int way), some (.ref f), a, b, c] := fun hno => by
          refine ⟨s4, ⟨_, a4, ?_⟩, _, _, _, rfl⟩
          rw [edraw, if_neg hno]
          exact x4
        walk_at "go"
        refine st_y2 (fun hw4 => ?_) (fun hw4 => ?_)
        · walk_at "go"
          refine st_y2 (fun hi2 => ?_) (fun hi2 => ?_)
          · walk_at "go"
            refine st_tyL a4 ?_
            walk_at "go"
            refine st_lenL (at_seq a4) ?_
            have lx4 := x4.length
            rw [List.length_map, l4] at lx4
            rw [lx4]
            have ej : (z : Int) / 11 % ((g.length + 1 : Nat) : Int) = ((z / 11 % (g.length + 1) : Nat) : Int) := by
              rw [Int.natCast_emod]
              rfl
            walk_at "go"
            have hlt : z / 11 % (g.length + 1) < g.length + 1 := Nat.mod_lt _ (by omega)
            rw [ej]
            refine st_popAt a4 rfl (by omega) (List.getElem?_eq_getElem (by rw [lx4]; exact hlt)) (fun H5 b5 a5 => ?_)
            refine ⟨same_bx s4 b5 nf, ⟨_, a5, ?_⟩, _, _, _, rfl⟩
            rw [edraw, if_pos ⟨by omega, by omega⟩, l4]
            have := (x4.tx (bx_tx b5)).eraseIdx (z / 11 % (g.length + 1))
            rw [← map_erase] at this
            exact this
          · walk_at "go"
            exact fin (fun h => hi2 (by omega))
        · walk_at "go"
          exact fin (fun h => hw4 (by omega))
      · obtain ⟨s, ⟨xs, af, xf⟩, a, b, c, rfl⟩ := w
        walk_at "go"
        refine st_tupI (at_seq af) xf (fun w3 H3 s3 i3 => ?_)
        exact q w3 H3 (s.trans s3) i3
    walk_at "gt"
    walk_at "go1"
    walk_at "gt"
    refine st_y2 (fun hw2 => ?_) (fun hw2 => ?_)
    · walk_at "gt"
      refine ⟨m, rfl, hm, fun f H2 xs s2 nf af xf => ?_⟩
      walk_at "gt"
      walk_at "go1"
      walk_at "gt"
      refine st_y2 (fun hw5 => ?_) (fun hw5 => ?_)
      · walk_at "gt"
        refine st_revL (at_seq af) (fun f3 H3 n3 s3 a3 => ?_)
        walk_at "gt"
        refine key f3 H3 _ ((s1.trans s2).trans s3) (same_none (s1.trans s2) n3) a3 ?_
        have e : baseOf m way = (stepsOf m).reverse := by
          unfold baseOf
          rw [if_pos (by omega), if_pos (by omega)]
        rw [e, List.map_reverse]
        exact (xf.same s3).reverse
      · walk_at "gt"
        refine key f H2 xs (s1.trans s2) (same_none s1 nf) af ?_
        have e : baseOf m way = stepsOf m := by
          unfold baseOf
          rw [if_pos (by omega), if_neg (by omega)]
        rw [e]
        exact xf
    · walk_at "gt"
      walk_at "go1"
      walk_at "gt"
      refine key f0 H1 [] s1 nf0 af0 ?_
      have e : baseOf m way = [] := by
        unfold baseOf
        rw [if_neg (by omega)]
      rw [e]
      exact .nil
end
/-! ### the suite's looks at what was caught -/
theorem st_isE {K : PySem.W.Frag} {mg : Str → Option Value} {x : Str} {D C a : Addr} {b : Bool} {H : Hp} {Q : VK} (X : ExcK K mg x C) (sd : PySem.W.subIn K (.ref D) (.ref D) = some true) (s : subRef K D C b) (q : Q (.bl b) H) : rIsE K D a [.ref a, .ref C] H Q := ⟨.ref C, .ref C, b, rfl, fun _ r => r, kit_ref X sd s, q⟩
theorem st_isE0 {K : PySem.W.Frag} {D a : Addr} {H : Hp} {Q : VK} (X : PySem.W.keepIn K (.ref D) = true) (sd : PySem.W.subIn K (.ref D) (.ref D) = some true) (q : Q (.bl true) H) : rIsE K D a [.ref a, .ref D] H Q := ⟨.ref D, .ref D, true, rfl, fun _ r => r, by
  unfold PySem.W.kitOne
  rw [if_pos (by simp)], q⟩
theorem st_isEv {K : PySem.W.Frag} {D a : Addr} {H : Hp} {Q : VK} (s : PySem.W.subIn K (.ref D) (.type "ValueError") = some true) (q : Q (.bl true) H) : rIsE K D a [.ref a, .ty "ValueError"] H Q := ⟨.ty "ValueError", .type "ValueError", true, rfl, fun _ r => r, kit_val s, q⟩
/-- what a raise of the class is answered by within try .. except F -/
theorem st_as {K : PySem.W.Frag} {C F : Addr} {i : Nat} {ts : Addr → TS} {Wo : WX} {D : Ends} {σ : L2.St} {H : Hp} (ck : CaughtK K C F) (h : ∀ a, H a = none → ts a { nx := fun σ' H' => D.nx (σ'.set i none) H', rt := D.rt, bk := fun σ' H' => D.bk (σ'.set i none) H', ct := fun σ' H' => D.ct (σ'.set i none) H' } (σ.set i (some (.ref a))) H) :
    wAs K (.ref F) i (fun a cls d => tWhen (cls = .ref C ∧ d = none) (ts a)) Wo D (.ref C) none σ H := ⟨true, ck.ex, fun _ a ha => ⟨⟨rfl, rfl⟩, h a ha⟩, fun e => nomatch e⟩
theorem nums_im {K : PySem.W.Frag} {H : Hp} : ∀ l : List Nat, ImAll K H (nV l) (l.map fun (k : Nat) => PyData.int (k : Int))
  | [] => .nil
  | k :: l => .cons (.int _) (nums_im l)
theorem nums_dp {K : PySem.W.Frag} {H : Hp} (l : List Nat) : DpAll K H (nV l) (l.map fun (k : Nat) => PyData.int (k : Int)) := (nums_im l).dp
theorem sh_nums (l : List Nat) : Sh 1 (.list (l.map fun (k : Nat) => PyData.int (k : Int))) := sh_list (sh_map fun i _ => sh_int _)
theorem base_small {m way : Nat} (h : m ≤ 100) : (baseOf m way).length ≤ 99000 := by
  have h1 : (stepsOf m).length ≤ 99000 := by
    unfold stepsOf
    rcases steps_len (m - 1) with q | q <;> omega
  unfold baseOf
  split
  · split
    · rw [List.length_reverse]
      exact h1
    · exact h1
  · exact Nat.zero_le _
theorem progBy_small {ns : List Int} {at_ m many : Nat} (h : m ≤ 100) (hm : many ≤ 1000) : (progBy ns at_ m many).length ≤ 100000 := by
  unfold progBy
  split
  · exact Nat.zero_le _
  · have h1 := draws_len (ns := ns) (at_ := at_) (m := m) (way := mixed ns at_ % 6) (List.range many) (baseOf m (mixed ns at_ % 6))
    have h2 := base_small (way := mixed ns at_ % 6) h
    rw [List.length_range] at h1
    omega
/-! ### whole numbers as rows of bits -/
theorem bnot_nat (a : Nat) : Builtin.bitNot (a : Int) = -(a : Int) - 1 := rfl
theorem band_nat (a b : Nat) : Builtin.bitAnd (a : Int) (b : Int) = ((a &&& b : Nat) : Int) := by
  unfold Builtin.bitAnd
  rw [decide_eq_true (by omega : (0 : Int) ≤ (a : Int)), decide_eq_true (by omega : (0 : Int) ≤ (b : Int))]
  rfl
theorem bor_nat (a b : Nat) : Builtin.bitOr (a : Int) (b : Int) = ((a ||| b : Nat) : Int) := by
  unfold Builtin.bitOr Builtin.bitAnd
  rw [decide_eq_false (by rw [bnot_nat]; omega), decide_eq_false (by rw [bnot_nat]; omega)]
  dsimp only
  have e : ∀ z : Nat, Builtin.bitNot (Builtin.bitNot (z : Int)) = (z : Int) := fun z => by unfold Builtin.bitNot; omega
  rw [e, e, e]
  rfl
theorem bandn_nat (a b : Nat) : Builtin.bitAnd (a : Int) (Builtin.bitNot (b : Int)) = ((a - (a &&& b) : Nat) : Int) := by
  unfold Builtin.bitAnd
  rw [decide_eq_true (by omega : (0 : Int) ≤ (a : Int)), decide_eq_false (by rw [bnot_nat]; omega)]
  dsimp only
  have e : ∀ z : Nat, Builtin.bitNot (Builtin.bitNot (z : Int)) = (z : Int) := fun z => by unfold Builtin.bitNot; omega
  rw [e]
  have h : a &&& b ≤ a := Nat.and_le_left
  show (a : Int) - ((a &&& b : Nat) : Int) = _
  omega
/-- a without b's bits -/
theorem less_bits : ∀ (n a b : Nat), a ≤ n → ∃ r, (a &&& b) + r = a ∧ ∀ i, r.testBit i = (a.testBit i && !b.testBit i)
  | 0, a, b, h => ⟨0, by
      have e : a = 0 := by omega
      subst e
      simp, fun i => by
      have e : a = 0 := by omega
      subst e
      simp⟩
  | n + 1, a, b, h => by
    by_cases h0 : a = 0
    · subst h0
      exact ⟨0, by simp, fun i => by simp⟩
    · obtain ⟨r, h1, h2⟩ := less_bits n (a / 2) (b / 2) (by omega)
      have e1 : (a &&& b) / 2 = a / 2 &&& b / 2 := Nat.and_div_two
      have e2 : (a &&& b) % 2 = (if a % 2 = 1 ∧ b % 2 = 1 then 1 else 0) := by
        have t := Nat.testBit_and a b 0
        rw [Nat.testBit_zero, Nat.testBit_zero, Nat.testBit_zero] at t
        have q1 : (a &&& b) % 2 = 0 ∨ (a &&& b) % 2 = 1 := by omega
        have q2 : a % 2 = 0 ∨ a % 2 = 1 := by omega
        have q3 : b % 2 = 0 ∨ b % 2 = 1 := by omega
        rcases q1 with q1 | q1 <;> rcases q2 with q2 | q2 <;> rcases q3 with q3 | q3 <;> simp [q1, q2, q3] at t ⊢
      refine ⟨2 * r + (if a % 2 = 1 ∧ b % 2 = 0 then 1 else 0), ?_, fun i => ?_⟩
      · have e3 : (a &&& b) = 2 * ((a &&& b) / 2) + (a &&& b) % 2 := by omega
        rw [e3, e1, e2]
        have q2 : a % 2 = 0 ∨ a % 2 = 1 := by omega
        have q3 : b % 2 = 0 ∨ b % 2 = 1 := by omega
        rcases q2 with q2 | q2 <;> rcases q3 with q3 | q3 <;> simp [q2, q3] <;> omega
      · cases i with
        | zero =>
          rw [Nat.testBit_zero, Nat.testBit_zero, Nat.testBit_zero]
          have q2 : a % 2 = 0 ∨ a % 2 = 1 := by omega
          have q3 : b % 2 = 0 ∨ b % 2 = 1 := by omega
          rcases q2 with q2 | q2 <;> rcases q3 with q3 | q3 <;> simp [q2, q3]
        | succ i =>
          rw [Nat.testBit_succ, Nat.testBit_succ, Nat.testBit_succ]
          have e : (2 * r + (if a % 2 = 1 ∧ b % 2 = 0 then 1 else 0)) / 2 = r := by split <;> omega
          rw [e]
          exact h2 i
theorem less_bit (a b i : Nat) : (a - (a &&& b)).testBit i = (a.testBit i && !b.testBit i) := by
  obtain ⟨r, h1, h2⟩ := less_bits a a b (Nat.le_refl a)
  rw [show a - (a &&& b) = r by omega]
  exact h2 i
theorem bit_shr (a k : Nat) : ((a >>> k) &&& 1 != 0) = a.testBit k := by
  rw [Nat.testBit, Nat.and_comm]
theorem bit_eq {a b : Nat} (h : ∀ i, a.testBit i = b.testBit i) : a = b := Nat.eq_of_testBit_eq h
theorem shl_bit (r i : Nat) : (1 <<< r).testBit i = decide (i = r) := by
  rw [Nat.testBit_shiftLeft]
  by_cases h : i ≥ r
  · by_cases e : i = r
    · subst e
      simp
    · have : i - r ≠ 0 := by omega
      obtain ⟨k, hk⟩ : ∃ k, i - r = k + 1 := ⟨i - r - 1, by omega⟩
      simp [h, e, hk, Nat.testBit_succ]
  · have e : i ≠ r := by omega
    simp [h, e]
/-! ### rows of noughts and ones -/
abbrev Bits := List Bool
def bget (bs : Bits) (i : Nat) : Bool := bs.getD i false
def bitsOf (m r : Nat) : Bits := (List.range m).map fun at_ => r.testBit (m - 1 - at_)
def hot (bs : Bits) (c : Cmp) : Bool := bget bs c.1 && !bget bs c.2
def stepB (bs : Bits) (c : Cmp) : Bits := (bs.set c.1 (bget bs c.1 && bget bs c.2)).set c.2 (bget bs c.1 || bget bs c.2)
def goB (p : Prog) (bs : Bits) : Bits := p.foldl stepB bs
def sortedB (bs : Bits) : Bool := (List.range (bs.length - 1)).all fun k => !(bget bs k && !bget bs (k + 1))
theorem bitsOf_len (m r : Nat) : (bitsOf m r).length = m := by simp [bitsOf]
theorem stepB_len (bs : Bits) (c : Cmp) : (stepB bs c).length = bs.length := by simp [stepB]
theorem goB_len : ∀ (p : Prog) (bs : Bits), (goB p bs).length = bs.length
  | [], _ => rfl
  | c :: p, bs => by
    show (goB p (stepB bs c)).length = bs.length
    rw [goB_len p, stepB_len]
theorem bget_set {bs : Bits} {i j : Nat} {b : Bool} (h : i < bs.length) : bget (bs.set i b) j = if i = j then b else bget bs j := by
  unfold bget List.getD
  rw [List.getElem?_set]
  by_cases e : i = j
  · subst e
    simp [h]
  · simp [e]
theorem bget_step {bs : Bits} {c : Cmp} {j : Nat} (h1 : c.1 < bs.length) (h2 : c.2 < bs.length) : bget (stepB bs c) j = if c.2 = j then (bget bs c.1 || bget bs c.2) else if c.1 = j then (bget bs c.1 && bget bs c.2) else bget bs j := by
  unfold stepB
  rw [bget_set (by rw [List.length_set]; exact h2), bget_set h1]
theorem bget_bits {m r at_ : Nat} (h : at_ < m) : bget (bitsOf m r) at_ = r.testBit (m - 1 - at_) := by
  unfold bget bitsOf List.getD
  rw [List.getElem?_map, List.getElem?_range h]
  rfl
theorem goB_take {p : Prog} {bs : Bits} {i : Nat} {c : Cmp} (h : p[i]? = some c) : goB (p.take (i + 1)) bs = stepB (goB (p.take i) bs) c := by
  unfold goB
  rw [List.take_add_one, h, List.foldl_append]
  rfl
/-! ### columns: one number a place, one bit a row -/
structure Cols (m : Nat) (cs : List Nat) (f : Nat → Bits) : Prop where
  len : cs.length = m
  flen : ∀ r, (f r).length = m
  bit : ∀ at_, at_ < m → ∀ r, (cs.getD at_ 0).testBit r = (decide (r < 2 ^ m) && bget (f r) at_)
/-- the column of a place, as the program lays it -/
def colBits (m at_ n : Nat) : Nat := (List.range n).foldl (fun b r => if r.testBit (m - 1 - at_) then b ||| 1 <<< r else b) 0
theorem colBits_succ (m at_ n : Nat) : colBits m at_ (n + 1) = if n.testBit (m - 1 - at_) then colBits m at_ n ||| 1 <<< n else colBits m at_ n := by
  unfold colBits
  rw [List.range_succ, List.foldl_append]
  rfl
theorem colBits_bit (m at_ : Nat) : ∀ n r, (colBits m at_ n).testBit r = (decide (r < n) && r.testBit (m - 1 - at_))
  | 0, r => by simp [colBits]
  | n + 1, r => by
    rw [colBits_succ]
    have ih := colBits_bit m at_ n r
    by_cases e : r = n
    · subst e
      by_cases q : r.testBit (m - 1 - at_) = true
      · rw [if_pos q, Nat.testBit_or, shl_bit, q]
        simp
      · rw [if_neg q, ih]
        simp at q
        simp [q]
    · have e2 : (r < n + 1) ↔ (r < n) := by omega
      by_cases q : n.testBit (m - 1 - at_) = true
      · rw [if_pos q, Nat.testBit_or, shl_bit, ih]
        simp [e, e2]
      · rw [if_neg q, ih]
        simp [e2]
def colsOf (m : Nat) : List Nat := (List.range m).map fun at_ => colBits m at_ (2 ^ m)
theorem colsOf_ok (m : Nat) : Cols m (colsOf m) (bitsOf m) := ⟨by simp [colsOf], bitsOf_len m, fun at_ h r => by
  rw [bget_bits h, ← colBits_bit m at_ (2 ^ m) r]
  unfold colsOf List.getD
  rw [List.getElem?_map, List.getElem?_range h]
  rfl⟩
def cmpCols (cs : List Nat) (c : Cmp) : List Nat := (cs.set c.1 (cs.getD c.1 0 &&& cs.getD c.2 0)).set c.2 (cs.getD c.1 0 ||| cs.getD c.2 0)
/-- does it change one -/
def colHot (cs : List Nat) (c : Cmp) : Bool := !decide (cs.getD c.1 0 &&& cs.getD c.2 0 = cs.getD c.1 0)
theorem getD_set {cs : List Nat} {i j : Nat} {b : Nat} (h : i < cs.length) : (cs.set i b).getD j 0 = if i = j then b else cs.getD j 0 := by
  unfold List.getD
  rw [List.getElem?_set]
  by_cases e : i = j
  · subst e
    simp [h]
  · simp [e]
theorem cmpCols_ok {m : Nat} {cs : List Nat} {f : Nat → Bits} {c : Cmp} (h : Cols m cs f) (hc : okC m c) : Cols m (cmpCols cs c) (fun r => stepB (f r) c) := by
  obtain ⟨h1, h2⟩ := hc
  refine ⟨by simp [cmpCols, h.len], fun r => by rw [stepB_len, h.flen], fun at_ ha r => ?_⟩
  have l1 : c.1 < m := by omega
  rw [bget_step (by rw [h.flen]; omega) (by rw [h.flen]; omega)]
  unfold cmpCols
  rw [getD_set (by rw [List.length_set, h.len]; omega), getD_set (by rw [h.len]; omega)]
  split
  · rw [Nat.testBit_or, h.bit _ l1, h.bit _ h2]
    cases decide (r < 2 ^ m) <;> simp
  · split
    · rw [Nat.testBit_and, h.bit _ l1, h.bit _ h2]
      cases decide (r < 2 ^ m) <;> simp
    · exact h.bit _ ha r
theorem colHot_iff {m : Nat} {cs : List Nat} {f : Nat → Bits} {c : Cmp} (h : Cols m cs f) (hc : okC m c) : colHot cs c = (List.range (2 ^ m)).any fun r => hot (f r) c := by
  obtain ⟨h1, h2⟩ := hc
  have l1 : c.1 < m := by omega
  rw [Bool.eq_iff_iff, List.any_eq_true]
  unfold colHot
  rw [Bool.not_eq_true', decide_eq_false_iff_not]
  constructor
  · intro q
    apply Classical.byContradiction
    intro no
    apply q
    apply bit_eq
    intro r
    rw [Nat.testBit_and, h.bit _ l1, h.bit _ h2]
    by_cases e : r < 2 ^ m
    · have : ¬ hot (f r) c = true := fun z => no ⟨r, List.mem_range.mpr e, z⟩
      unfold hot at this
      revert this
      cases bget (f r) c.1 <;> cases bget (f r) c.2 <;> simp [e]
    · simp [e]
  · rintro ⟨r, hr, hh⟩ q
    have hr := List.mem_range.mp hr
    have t := congrArg (fun z : Nat => z.testBit r) q
    simp only [Nat.testBit_and] at t
    rw [h.bit _ l1, h.bit _ h2] at t
    unfold hot at hh
    revert t hh
    cases bget (f r) c.1 <;> cases bget (f r) c.2 <;> simp [hr]
def goCols (p : Prog) (cs : List Nat) : List Nat := p.foldl cmpCols cs
theorem goCols_take {p : Prog} {cs : List Nat} {i : Nat} {c : Cmp} (h : p[i]? = some c) : goCols (p.take (i + 1)) cs = cmpCols (goCols (p.take i) cs) c := by
  unfold goCols
  rw [List.take_add_one, h, List.foldl_append]
  rfl
theorem goCols_ok {m : Nat} : ∀ {p : Prog} {cs : List Nat} {f : Nat → Bits}, Cols m cs f → okP m p → Cols m (goCols p cs) (fun r => goB p (f r))
  | [], _, _, h, _ => h
  | c :: p, cs, f, h, hp => goCols_ok (p := p) (cmpCols_ok h (hp c List.mem_cons_self)) fun d hd => hp d (List.mem_cons_of_mem _ hd)
/-- the rows out of order, as one number -/
def wrongTo (cs : List Nat) (k : Nat) : Nat := (List.range k).foldl (fun w at_ => w ||| (cs.getD at_ 0 - (cs.getD at_ 0 &&& cs.getD (at_ + 1) 0))) 0
theorem wrongTo_succ (cs : List Nat) (k : Nat) : wrongTo cs (k + 1) = wrongTo cs k ||| (cs.getD k 0 - (cs.getD k 0 &&& cs.getD (k + 1) 0)) := by
  unfold wrongTo
  rw [List.range_succ, List.foldl_append]
  rfl
theorem wrongTo_bit {m : Nat} {cs : List Nat} {f : Nat → Bits} (h : Cols m cs f) : ∀ (k : Nat), k ≤ m - 1 → ∀ r, (wrongTo cs k).testBit r = (decide (r < 2 ^ m) && (List.range k).any fun i => bget (f r) i && !bget (f r) (i + 1))
  | 0, _, r => by simp [wrongTo]
  | k + 1, hk, r => by
    rw [wrongTo_succ, Nat.testBit_or, wrongTo_bit h k (by omega) r, less_bit, h.bit k (by omega), h.bit (k + 1) (by omega), List.range_succ, List.any_append]
    cases decide (r < 2 ^ m) <;> simp
def wrongN (p : Prog) (m : Nat) : Nat := wrongTo (goCols p (colsOf m)) (m - 1)
/-- is the row out of order behind the program -/
def badRow (p : Prog) (m r : Nat) : Bool := !sortedB (goB p (bitsOf m r))
theorem wrongN_bit {p : Prog} {m : Nat} (h : okP m p) (r : Nat) : (wrongN p m).testBit r = (decide (r < 2 ^ m) && badRow p m r) := by
  have g := goCols_ok (colsOf_ok m) h
  unfold wrongN
  rw [wrongTo_bit g (m - 1) (Nat.le_refl _) r]
  unfold badRow sortedB
  rw [goB_len, bitsOf_len, List.not_all_eq_any_not]
  simp
/-- the first row that is out of order behind the program -/
def firstBad (p : Prog) (m : Nat) : Option Nat := (List.range (2 ^ m)).find? (badRow p m)
theorem wrongN_zero {p : Prog} {m : Nat} (h : okP m p) : wrongN p m = 0 ↔ firstBad p m = none := by
  unfold firstBad
  rw [List.find?_eq_none]
  constructor
  · intro e r hr
    have := wrongN_bit h r
    rw [e, Nat.zero_testBit, decide_eq_true (List.mem_range.mp hr)] at this
    rw [Bool.true_and] at this
    rw [← this]
    decide
  · intro e
    apply bit_eq
    intro r
    rw [wrongN_bit h, Nat.zero_testBit]
    by_cases q : r < 2 ^ m
    · have := e r (List.mem_range.mpr q)
      simp at this
      simp [this]
    · simp [q]
def ordersB (p : Prog) (m : Nat) : Bool := (firstBad p m).isNone
def sp_columns_of (K : PySem.W.Frag) : Sp := fun vs H Q _ => ∃ m : Nat, vs = [.int m] ∧ m ≤ 16 ∧ ∀ l H', Same H H' → Fr H l → At H' l (.lst (nV (colsOf m))) → Q (.ref l) H'
def t_columns_of (K : PySem.W.Frag) : TS := (tSeq (tAsg (tLst tNil) (gName 1))
    (tSeq (tFor (iRng1 (tCons (tVar 0) tNil)) (gName 2) (tSeq (tAsg (tC (.int 0)) (gName 3))
    (tSeq (tFor (iRng1 (tCons (tOp oShl (tC (.int 1)) (tVar 0)) tNil)) (gName 4) (tIfS (tTru K (tOp oAnd (tOp oShr (tVar 4) (tOp oSub (tOp oSub (tVar 0) (tC (.int 1))) (tVar 2))) (tC (.int 1)))) (tAsg (tOp oOr (tVar 3) (tOp oShl (tC (.int 1)) (tVar 4))) (gName 3)) tNext))
    (tDrop (tBM K "list" rAppend (tVar 1) (tCons (tVar 3) tNil))))))
    (tRet (tVar 1))))
abbrev n_columns_of : List Str := ["places", "found", "at", "bits", "row"]
section
variable {K : PySem.W.Frag} {vs : List V} {H : Hp} {Q : VK} {E : XK}
theorem len_columns_of (h : sp_columns_of K vs H Q E) : vs.length = 1 := by
  obtain ⟨m, rfl, _⟩ := h
  rfl
theorem rd_columns_of (h : sp_columns_of K vs H Q E) : t_columns_of K { nx := fun _ H' => Q .non H', rt := Q } (start n_columns_of vs) H := by
  obtain ⟨m, rfl, hm, q⟩ := h
  show t_columns_of K ⟨_, _, _, _⟩ [some (.int m), none, none, none, none] H
  unfold t_columns_of
  walk_at "go"
  refine newL (by simp) (fun f H1 nf s1 af => ?_)
  walk_at "go"
  refine st_r1 m rfl (by omega) ?_
  refine loop_r0 (fun i σ' H' => Same H H' ∧ At H' f (.lst (nV ((List.range i).map fun at_ => colBits m at_ (2 ^ m)))) ∧ ∃ a b c, σ' = [some (.int m), some (.ref f), a, b, c]) ⟨s1, af, none, none, none, rfl⟩ (fun i σ' H' hi w => ?_) (fun σ' H' w => ?_)
  · obtain ⟨s, af, a, b, c, rfl⟩ := w
    walk_at "go"
    have p20 : (2 : Nat) ^ m ≤ 2 ^ 16 := Nat.pow_le_pow_right (by decide) hm
    have p20' : (2 : Nat) ^ 16 = 65536 := by decide
    refine st_r1 (2 ^ m) (by rw [Int.toNat_natCast, Int.one_mul, Int.natCast_pow]; rfl) (by omega) ?_
    refine loop_r0 (fun r σ' H2 => H2 = H' ∧ ∃ c, σ' = [some (.int m), some (.ref f), some (.int (i : Nat)), some (.int (colBits m i r : Nat)), c]) ⟨rfl, c, rfl⟩ (fun r σ' H2 hr w => ?_) (fun σ' H2 w => ?_)
    · obtain ⟨rfl, c, rfl⟩ := w
      walk_at "go"
      have e1 : (r : Int) / 2 ^ ((m : Int) - 1 - (i : Int)).toNat = ((r >>> (m - 1 - i) : Nat) : Int) := by
        rw [show ((m : Int) - 1 - (i : Int)).toNat = m - 1 - i by omega, Nat.shiftRight_eq_div_pow, Int.natCast_ediv, Int.natCast_pow]
        rfl
      have e2 : Builtin.bitAnd ((r : Int) / 2 ^ ((m : Int) - 1 - (i : Int)).toNat) 1 = (((r >>> (m - 1 - i)) &&& 1 : Nat) : Int) := by
        rw [e1]
        exact band_nat _ 1
      rw [e2]
      have e3 : ((((r >>> (m - 1 - i)) &&& 1 : Nat) : Int) != 0) = r.testBit (m - 1 - i) := by
        rw [← bit_shr, Bool.eq_iff_iff, bne_iff_ne, bne_iff_ne]
        omega
      refine ⟨_, rfl, ?_⟩
      rw [e3]
      have ec := colBits_succ m i r
      refine st_b2 (fun hb => ?_) (fun hb => ?_)
      · rw [if_pos hb] at ec
        walk_at "go"
        refine ⟨rfl, some (.int (r : Int)), ?_⟩
        rw [ec, ← bor_nat]
        congr 5
        rw [Int.toNat_natCast, Int.one_mul, Nat.one_shiftLeft, Int.natCast_pow]
        rfl
      · rw [if_neg (by rw [hb]; decide)] at ec
        walk_at "go"
        refine ⟨rfl, some (.int (r : Int)), ?_⟩
        rw [ec]
    · obtain ⟨rfl, c, rfl⟩ := w
      walk_at "go"
      refine st_tyL af ?_
      walk_at "go"
      refine st_app af (by rw [nV_len]; simp; omega) (fun H3 b3 a3 => ?_)
      refine ⟨same_bx s b3 nf, ?_, _, _, _, rfl⟩
      rw [List.range_succ, List.map_append, nV_app]
      exact a3
  · obtain ⟨s, af, a, b, c, rfl⟩ := w
    walk_at "go"
    exact q f H' s nf af
end
def sp_compared (K : PySem.W.Frag) : Sp := fun vs H Q _ => ∃ l cs, ∃ c : Cmp, vs = [.ref l, .int c.1, .int c.2] ∧ At H l (.lst (nV cs)) ∧ c.1 < c.2 ∧ c.2 < cs.length ∧ ∀ H', Bx l H H' → At H' l (.lst (nV (cmpCols cs c))) → Q (.bl (colHot cs c)) H'
theorem nV_at {cs : List Nat} {i : Nat} (h : i < cs.length) : (nV cs)[i]? = some (.int (cs.getD i 0 : Nat)) := by
  unfold nV
  rw [List.getElem?_map, List.getElem?_eq_getElem h]
  simp [List.getD, List.getElem?_eq_getElem h]
theorem nV_set (cs : List Nat) (i b : Nat) : (nV cs).set i (.int (b : Nat)) = nV (cs.set i b) := List.map_set.symm
def t_compared (K : PySem.W.Frag) : TS := (tSeq (tAsg (tOp (rIxL K) (tVar 0) (tVar 1)) (gName 3))
    (tSeq (tAsg (tOp (rIxL K) (tVar 0) (tVar 2)) (gName 4))
    (tSeq (tAsg (tOp oAnd (tVar 3) (tVar 4)) (gSub (tVar 0) (tVar 1) rSetL))
    (tSeq (tAsg (tOp oOr (tVar 3) (tVar 4)) (gSub (tVar 0) (tVar 2) rSetL))
    (tRet (tOp rNe (tOp (rIxL K) (tVar 0) (tVar 1)) (tVar 3)))))))
abbrev n_compared : List Str := ["columns", "low", "high", "one", "other"]
section
variable {K : PySem.W.Frag} {vs : List V} {H : Hp} {Q : VK} {E : XK}
theorem len_compared (h : sp_compared K vs H Q E) : vs.length = 3 := by
  obtain ⟨l, cs, c, rfl, _⟩ := h
  rfl
theorem rd_compared (h : sp_compared K vs H Q E) : t_compared K { nx := fun _ H' => Q .non H', rt := Q } (start n_compared vs) H := by
  obtain ⟨l, cs, c, rfl, al, h1, h2, q⟩ := h
  show t_compared K ⟨_, _, _, _⟩ [some (.ref l), some (.int c.1), some (.int c.2), none, none] H
  unfold t_compared
  walk_at "go"
  refine st_ixL c.1 (at_seq al) rfl (nV_at (by omega)) ?_
  walk_at "go"
  refine st_ixL c.2 (at_seq al) rfl (nV_at h2) ?_
  walk_at "go"
  rw [band_nat]
  refine st_setL c.1 al rfl (by rw [nV_len]; omega) (fun H1 b1 a1 => ?_)
  rw [nV_set] at a1
  walk_at "go"
  rw [bor_nat]
  refine st_setL c.2 a1 rfl (by rw [nV_len, List.length_set]; omega) (fun H2 b2 a2 => ?_)
  rw [nV_set] at a2
  walk_at "go"
  have e : (cmpCols cs c).getD c.1 0 = (cs.getD c.1 0 &&& cs.getD c.2 0) := by
    unfold cmpCols
    rw [getD_set (by rw [List.length_set]; exact h2), getD_set (by omega), if_neg (by omega), if_pos rfl]
  have g := nV_at (cs := cmpCols cs c) (i := c.1) (by simp [cmpCols]; omega)
  rw [e] at g
  refine st_ixL c.1 (at_seq a2) rfl g ?_
  walk_at "go"
  have b12 : Bx l H H2 := ⟨b1.1, fun a o ne h => b2.2 a o ne (b1.2 a o ne h)⟩
  have r := q H2 b12 a2
  unfold colHot at r
  have e2 : decide (((cs.getD c.1 0 &&& cs.getD c.2 0 : Nat) : Int) = ((cs.getD c.1 0 : Nat) : Int)) = decide (cs.getD c.1 0 &&& cs.getD c.2 0 = cs.getD c.1 0) := decide_eq_decide.mpr Int.ofNat_inj
  rw [e2]
  exact r
end
/-- a program that is one, of so many places -/
def Good (K : PySem.W.Frag) (H : Hp) (v : V) (m : Nat) (p : Prog) : Prop := Im K H v (dP p) ∧ okP m p ∧ p.length ≤ 100000
def sp_behind (K : PySem.W.Frag) : Sp := fun vs H Q _ => ∃ pv p, ∃ m : Nat, vs = [pv, .int m] ∧ Good K H pv m p ∧ m ≤ 16 ∧ ∀ l H', Same H H' → Fr H l → At H' l (.lst (nV (goCols p (colsOf m)))) → Q (.ref l) H'
theorem goCols_len : ∀ (p : Prog) (cs : List Nat), (goCols p cs).length = cs.length
  | [], _ => rfl
  | c :: p, cs => by
    show (goCols p (cmpCols cs c)).length = cs.length
    rw [goCols_len p]
    simp [cmpCols]
theorem colsOf_len (m : Nat) : (colsOf m).length = m := by simp [colsOf]
def t_behind (K : PySem.W.Frag) : TS := (tSeq (tAsg (tCall (sp_columns_of K) [] E0 (tCons (tVar 1) tNil)) (gName 2))
    (tSeq (tFor (iTup K (tVar 0)) (gTup K 2 (gCons (gName 3) (gCons (gName 4) gNil))) (tDrop (tCall (sp_compared K) [] E0 (tCons (tVar 2) (tCons (tVar 3) (tCons (tVar 4) tNil))))))
    (tRet (tVar 2))))
abbrev n_behind : List Str := ["program", "places", "columns", "low", "high"]
section
variable {K : PySem.W.Frag} {vs : List V} {H : Hp} {Q : VK} {E : XK}
theorem len_behind (h : sp_behind K vs H Q E) : vs.length = 2 := by
  obtain ⟨pv, p, m, rfl, _⟩ := h
  rfl
theorem rd_behind (h : sp_behind K vs H Q E) : t_behind K { nx := fun _ H' => Q .non H', rt := Q } (start n_behind vs) H := by
  obtain ⟨pv, p, m, rfl, ⟨hp, ok, zp⟩, hm, q⟩ := h
  show t_behind K ⟨_, _, _, _⟩ [some pv, some (.int m), none, none, none] H
  unfold t_behind
  walk_at "go"
  refine ⟨m, rfl, hm, fun l H1 s1 nl al => ?_⟩
  walk_at "go"
  refine loop_t (hp.same s1) (fun i σ' H' => Same H H' ∧ Tx H1 H' ∧ At H' l (.lst (nV (goCols (p.take i) (colsOf m)))) ∧ ∃ a b, σ' = [some pv, some (.int m), some (.ref l), a, b]) ⟨s1, Tx.refl _, al, none, none, rfl⟩ (fun i σ' H' w => w.2.1) (fun i d y σ' H' hd w iy => ?_) (fun σ' H' w => ?_)
  · obtain ⟨s, t, al, a, b, rfl⟩ := w
    obtain ⟨c, hc, rfl⟩ := dP_at hd
    have okc := ok c (List.mem_of_getElem? hc)
    walk_at "go"
    refine st_gtup iy rfl (fun xs hx => ?_)
    cases hx with
    | cons h1 t1 =>
    cases t1 with
    | cons h2 t2 =>
    cases t2
    cases h1
    cases h2
    walk_at "go"
    refine ⟨l, _, c, rfl, al, okc.1, by rw [goCols_len, colsOf_len]; exact okc.2, fun H2 b2 a2 => ?_⟩
    refine ⟨same_bx s b2 nl, t.trans (bx_tx b2), ?_, _, _, rfl⟩
    rw [goCols_take hc]
    exact a2
  · obtain ⟨s, t, al, a, b, rfl⟩ := w
    rw [List.length_map, List.take_length] at al
    walk_at "go"
    exact q l H' s nl al
end
def sp_wrong_rows (K : PySem.W.Frag) : Sp := fun vs H Q _ => ∃ pv p, ∃ m : Nat, vs = [pv, .int m] ∧ Good K H pv m p ∧ m ≤ 16 ∧ ∀ H', Same H H' → Q (.int (wrongN p m : Nat)) H'
def t_wrong_rows (K : PySem.W.Frag) : TS := (tSeq (tAsg (tCall (sp_behind K) [] E0 (tCons (tVar 0) (tCons (tVar 1) tNil))) (gName 2))
    (tSeq (tAsg (tC (.int 0)) (gName 3))
    (tSeq (tFor (iRng2 (tCons (tC (.int 1)) (tCons (tVar 1) tNil))) (gName 4) (tAsg (tOp oOr (tVar 3) (tOp oAnd (tOp (rIxL K) (tVar 2) (tOp oSub (tVar 4) (tC (.int 1)))) (tUn uInv (tOp (rIxL K) (tVar 2) (tVar 4))))) (gName 3)))
    (tRet (tVar 3)))))
abbrev n_wrong_rows : List Str := ["program", "places", "columns", "found", "at"]
section
variable {K : PySem.W.Frag} {vs : List V} {H : Hp} {Q : VK} {E : XK}
theorem len_wrong_rows (h : sp_wrong_rows K vs H Q E) : vs.length = 2 := by
  obtain ⟨pv, p, m, rfl, _⟩ := h
  rfl
theorem rd_wrong_rows (h : sp_wrong_rows K vs H Q E) : t_wrong_rows K { nx := fun _ H' => Q .non H', rt := Q } (start n_wrong_rows vs) H := by
  obtain ⟨pv, p, m, rfl, g, hm, q⟩ := h
  show t_wrong_rows K ⟨_, _, _, _⟩ [some pv, some (.int m), none, none, none] H
  unfold t_wrong_rows
  walk_at "go"
  refine ⟨pv, p, m, rfl, g, hm, fun l H1 s1 nl al => ?_⟩
  walk_at "go"
  refine st_r2 (m - 1) (by omega) (by omega) (by omega) ?_
  refine loop_r (fun i σ' H' => H' = H1 ∧ ∃ a, σ' = [some pv, some (.int m), some (.ref l), some (.int (wrongTo (goCols p (colsOf m)) i : Nat)), a]) ⟨rfl, none, rfl⟩ (fun i σ' H' hi w => ?_) (fun σ' H' w => ?_)
  · obtain ⟨rfl, a, rfl⟩ := w
    have lc : (goCols p (colsOf m)).length = m := by rw [goCols_len, colsOf_len]
    walk_at "go"
    refine st_ixL i (at_seq al) (by omega) (nV_at (by omega)) ?_
    walk_at "go"
    refine st_ixL (i + 1) (at_seq al) (by omega) (nV_at (by omega)) ?_
    walk_at "go"
    refine ⟨rfl, some (.int (1 + (i : Int))), ?_⟩
    rw [wrongTo_succ, ← bor_nat, ← bandn_nat]
  · obtain ⟨rfl, a, rfl⟩ := w
    walk_at "go"
    exact q H' s1
end
/-- what is no program of so many places: refused -/
def Refuse (K : PySem.W.Frag) (C : Addr) (H : Hp) (v : V) (m : Nat) (E : XK) : Prop := ∃ d, Dp K H v d ∧ (∀ ds, d = .tuple ds → ds.length ≤ 100000) ∧ isProg m d = false ∧ ∀ H', Same H H' → E (.ref C) none H'
def sp_need (K : PySem.W.Frag) (C : Addr) : Sp := fun vs H Q E => ∃ pv, ∃ m : Nat, vs = [pv, .int m] ∧ (Refuse K C H pv m E ∨ ∃ p, Good K H pv m p ∧ ∀ v H', Same H H' → Q v H')
def t_need (K : PySem.W.Frag) (C_BadProgram : Addr) (E : XK) : TS := (tIfS (tNot (tB (tCall (sp_is_program K) [] E0 (tCons (tVar 0) (tCons (tVar 1) tNil))))) (tRaiseC C_BadProgram E) tNext)
abbrev n_need : List Str := ["program", "places"]
section
variable {K : PySem.W.Frag} {vs : List V} {H : Hp} {Q : VK} {E : XK}
theorem len_need {C : Addr} (h : sp_need K C vs H Q E) : vs.length = 2 := by
  obtain ⟨pv, m, rfl, _⟩ := h
  rfl
theorem rd_need {C : Addr} (h : sp_need K C vs H Q E) : t_need K C E { nx := fun _ H' => Q .non H', rt := Q } (start n_need vs) H := by
  obtain ⟨pv, m, rfl, h⟩ := h
  show t_need K C E ⟨_, _, _, _⟩ [some pv, some (.int m)] H
  unfold t_need
  walk_at "go"
  rcases h with ⟨d, hd, hz, no, qE⟩ | ⟨p, ⟨hp, ok, zp⟩, q⟩
  · refine ⟨pv, d, m, rfl, hd, hz, fun H1 s1 => ?_⟩
    rw [no]
    walk_at "go"
    exact qE H1 s1
  · refine ⟨pv, dP p, m, rfl, hp.dp, fun ds e => by cases e; simpa using zp, fun H1 s1 => ?_⟩
    rw [isProg_ok ok]
    walk_at "go"
    exact q _ H1 s1
end
def sp_orders (K : PySem.W.Frag) (C : Addr) : Sp := fun vs H Q E => ∃ pv, ∃ m : Nat, vs = [pv, .int m] ∧ (Refuse K C H pv m E ∨ ∃ p, Good K H pv m p ∧ m ≤ 16 ∧ ∀ H', Same H H' → Q (.bl (ordersB p m)) H')
theorem Good.same {K : PySem.W.Frag} {H H' : Hp} {v : V} {m : Nat} {p : Prog} (h : Good K H v m p) (s : Same H H') : Good K H' v m p := ⟨h.1.same s, h.2⟩
theorem ordersB_wrong {p : Prog} {m : Nat} (h : okP m p) : decide (((wrongN p m : Nat) : Int) = 0) = ordersB p m := by
  unfold ordersB
  rw [Bool.eq_iff_iff, decide_eq_true_eq, Option.isNone_iff_eq_none, ← wrongN_zero h]
  omega
def t_orders (K : PySem.W.Frag) (C_BadProgram : Addr) (E : XK) : TS := (tSeq (tDrop (tCall (sp_need K C_BadProgram) [] E (tCons (tVar 0) (tCons (tVar 1) tNil))))
    (tRet (tOp rEq (tCall (sp_wrong_rows K) [] E0 (tCons (tVar 0) (tCons (tVar 1) tNil))) (tC (.int 0)))))
abbrev n_orders : List Str := ["program", "places"]
section
variable {K : PySem.W.Frag} {vs : List V} {H : Hp} {Q : VK} {E : XK}
theorem len_orders {C : Addr} (h : sp_orders K C vs H Q E) : vs.length = 2 := by
  obtain ⟨pv, m, rfl, _⟩ := h
  rfl
theorem rd_orders {C : Addr} (h : sp_orders K C vs H Q E) : t_orders K C E { nx := fun _ H' => Q .non H', rt := Q } (start n_orders vs) H := by
  obtain ⟨pv, m, rfl, h⟩ := h
  show t_orders K C E ⟨_, _, _, _⟩ [some pv, some (.int m)] H
  unfold t_orders
  walk_at "go"
  rcases h with r | ⟨p, g, hm, q⟩
  · exact ⟨pv, m, rfl, .inl r⟩
  · refine ⟨pv, m, rfl, .inr ⟨p, g, fun v H1 s1 => ?_⟩⟩
    walk_at "go"
    refine ⟨pv, p, m, rfl, g.same s1, hm, fun H2 s2 => ?_⟩
    walk_at "go"
    rw [ordersB_wrong g.2.1]
    exact q H2 (s1.trans s2)
end
def dB (bs : Bits) : PyData := .tuple (bs.map fun b => PyData.int (if b = true then 1 else 0))
/-- the least one, or None -/
def dW (p : Prog) (m : Nat) : PyData := match firstBad p m with
  | none => .none
  | some r => dB (bitsOf m r)
def sp_witness (K : PySem.W.Frag) (C : Addr) : Sp := fun vs H Q E => ∃ pv, ∃ m : Nat, vs = [pv, .int m] ∧ (Refuse K C H pv m E ∨ ∃ p, Good K H pv m p ∧ m ≤ 16 ∧ ∀ v H', Same H H' → Im K H' v (dW p m) → Q v H')
theorem shr1 (a k : Nat) : Builtin.bitAnd ((a : Int) / 2 ^ ((k : Int)).toNat) 1 = (if a.testBit k = true then 1 else 0) := by
  rw [Int.toNat_natCast]
  have e1 : (a : Int) / 2 ^ k = ((a >>> k : Nat) : Int) := by
    rw [Nat.shiftRight_eq_div_pow, Int.natCast_ediv, Int.natCast_pow]
    rfl
  rw [e1]
  have e2 := band_nat (a >>> k) 1
  rw [show ((1 : Nat) : Int) = 1 from rfl] at e2
  rw [e2, ← bit_shr]
  have e3 : (a >>> k) &&& 1 = (a >>> k) % 2 := by rw [Nat.and_one_is_mod]
  rw [e3]
  have : (a >>> k) % 2 = 0 ∨ (a >>> k) % 2 = 1 := by omega
  rcases this with h | h <;> rw [h] <;> rfl
def t_witness (K : PySem.W.Frag) (C_BadProgram : Addr) (E : XK) : TS := (tSeq (tDrop (tCall (sp_need K C_BadProgram) [] E (tCons (tVar 0) (tCons (tVar 1) tNil))))
    (tSeq (tAsg (tCall (sp_wrong_rows K) [] E0 (tCons (tVar 0) (tCons (tVar 1) tNil))) (gName 2))
    (tSeq (tIfS (tTest (tOp rEq (tVar 2) (tC (.int 0)))) (tRet (tC .non)) tNext)
    (tSeq (tAsg (tC (.int 0)) (gName 3))
    (tSeq (tWhile (tNot (tTru K (tOp oAnd (tOp oShr (tVar 2) (tVar 3)) (tC (.int 1))))) (tAsg (tOp oAdd (tVar 3) (tC (.int 1))) (gName 3)))
    (tRet (tCB (cTup K) (tCons (tLc (iRng1 (tCons (tVar 1) tNil)) (gName 4) tYes (tOp oAnd (tOp oShr (tVar 3) (tOp oSub (tOp oSub (tVar 1) (tC (.int 1))) (tVar 4))) (tC (.int 1))) [4]) tNil))))))))
abbrev n_witness : List Str := ["program", "places", "wrong", "number", "at"]
section
variable {K : PySem.W.Frag} {vs : List V} {H : Hp} {Q : VK} {E : XK}
theorem len_witness {C : Addr} (h : sp_witness K C vs H Q E) : vs.length = 2 := by
  obtain ⟨pv, m, rfl, _⟩ := h
  rfl
theorem rd_witness {C : Addr} (h : sp_witness K C vs H Q E) : t_witness K C E { nx := fun _ H' => Q .non H', rt := Q } (start n_witness vs) H := by
  obtain ⟨pv, m, rfl, h⟩ := h
  show t_witness K C E ⟨_, _, _, _⟩ [some pv, some (.int m), none, none, none] H
  unfold t_witness
  walk_at "go"
  rcases h with r | ⟨p, g, hm, q⟩
  · exact ⟨pv, m, rfl, .inl r⟩
  · refine ⟨pv, m, rfl, .inr ⟨p, g, fun v H1 s1 => ?_⟩⟩
    walk_at "go"
    refine ⟨pv, p, m, rfl, g.same s1, hm, fun H2 s2 => ?_⟩
    have s02 := s1.trans s2
    have hz := wrongN_zero g.2.1
    walk_at "go"
    refine st_y2 (fun hw => ?_) (fun hw => ?_)
    · walk_at "go"
      refine q _ H2 s02 ?_
      unfold dW
      rw [hz.mp (by omega)]
      exact .non
    · cases ef : firstBad p m with
      | none => exact absurd (hz.mpr ef) (by omega)
      | some r =>
      unfold dW at q
      rw [ef] at q
      unfold firstBad at ef
      have hr1 := List.find?_some ef
      have hr2 := List.mem_of_find?_eq_some ef
      have hr3 := List.mem_range.mp hr2
      have hleast : ∀ k, k < r → badRow p m k = false := fun k hk => by
        obtain ⟨_, as, bs, e1, e2⟩ := List.find?_eq_some_iff_append.mp ef
        have e3 : as.length = r := by
          have l1 : as.length < 2 ^ m := by
            have := congrArg List.length e1
            simp at this
            omega
          have := congrArg (fun l => l[as.length]?) e1
          simp [List.getElem?_range l1] at this
          exact this
        have e4 : k ∈ as := by
          have := congrArg (fun l => l[k]?) e1
          rw [List.getElem?_append_left (by omega)] at this
          rw [List.getElem?_range (by omega)] at this
          exact List.mem_of_getElem? this.symm
        simpa using e2 k e4
      walk_at "go"
      refine st_while (fun k σ' H' => H' = H2 ∧ ∃ n : Nat, n ≤ r ∧ k = r - n ∧ σ' = [some pv, some (.int m), some (.int (wrongN p m : Nat)), some (.int n), none]) r ⟨rfl, 0, by omega, by omega, rfl⟩ (fun k σ' H' w => ?_)
      obtain ⟨rfl, n, hn, rfl, rfl⟩ := w
      walk_at "go"
      rw [shr1, wrongN_bit g.2.1, decide_eq_true (show n < 2 ^ m by omega), Bool.true_and]
      by_cases e : n = r
      · subst e
        refine ⟨_, rfl, ?_⟩
        rw [hr1]
        show if (!true) = true then _ else _
        walk_at "go"
        refine st_r1 m rfl (by omega) ?_
        refine lc_r0 (K := K) (σw := [some pv, some (.int m), some (.int (wrongN p m : Nat)), some (.int n), none]) (fun _ => true) (fun i => .int (if n.testBit (m - 1 - i) = true then 1 else 0)) rfl (by omega) (fun i H3 hi s3 CT CF kT kF => ?_) (fun l H3 xs n3 s3 a3 x3 => ?_)
        · walk_at "go"
          refine ⟨rfl, ?_⟩
          walk_at "go"
          rw [show ((m : Int) - 1 - (i : Int)) = ((m - 1 - i : Nat) : Int) by omega, shr1]
          exact kT rfl _ _ (Same.refl _) (.int _)
        · rw [given_all] at x3
          walk_at "go"
          refine st_tupI (at_seq a3) x3 (fun w4 H4 s4 i4 => ?_)
          refine q w4 H4 ((s02.trans s3).trans s4) ?_
          show Im K H4 w4 (dB (bitsOf m n))
          rw [show dB (bitsOf m n) = .tuple ((List.range m).map fun i => PyData.int (if n.testBit (m - 1 - i) = true then 1 else 0)) by unfold dB bitsOf; rw [List.map_map]; rfl]
          exact i4
      · refine ⟨_, rfl, ?_⟩
        rw [hleast n (by omega)]
        show if (!false) = true then _ else _
        walk_at "go"
        refine st_turn ?_
        walk_at "go"
        exact ⟨r - (n + 1), by omega, rfl, n + 1, by omega, rfl, rfl⟩
end
/-! ### all rows of keys below the number of places, the marks the places -/
def longRows (m at_ : Nat) (rs : List Row) : List Row := rs.flatMap fun r => (List.range m).map fun (k : Nat) => r ++ [((k : Int), Mrk.i at_)]
def keyRows (m : Nat) : Nat → List Row
  | 0 => [[]]
  | n + 1 => longRows m n (keyRows m n)
theorem keyRows_len (m : Nat) : ∀ n, (keyRows m n).length = m ^ n
  | 0 => rfl
  | n + 1 => by
    show (longRows m n (keyRows m n)).length = _
    unfold longRows
    rw [List.length_flatMap, show (fun r : Row => ((List.range m).map fun (k : Nat) => r ++ [((k : Int), Mrk.i n)]).length) = fun _ => m by funext r; simp]
    rw [show (List.map (fun (_ : Row) => m) (keyRows m n)).sum = (keyRows m n).length * m by
      induction keyRows m n with
      | nil => simp
      | cons a l ih => simp [Nat.add_mul]; omega]
    rw [keyRows_len m n, Nat.pow_succ]
theorem keyRows_each {m : Nat} : ∀ {n : Nat} {r : Row}, r ∈ keyRows m n → r.length = n
  | 0, r, h => by
    simp [keyRows] at h
    subst h
    rfl
  | n + 1, r, h => by
    obtain ⟨s, hs, hr⟩ := List.mem_flatMap.mp h
    obtain ⟨k, _, rfl⟩ := List.mem_map.mp hr
    rw [List.length_append, keyRows_each hs]
    rfl
/-- the mark of a place, where it is a number -/
def mark (r : Row) (i : Nat) : Int := match (r.getD i noT).2 with
  | .i k => k
  | _ => 0
def marked (r : Row) : Prop := ∀ t ∈ r, ∃ k, t.2 = Mrk.i k
/-- equal keys stand as their marks rise -/
def inOrder (r : Row) : Bool := (List.range r.length).all fun k => (List.range k).all fun i => !(decide (key r i = key r k) && decide (mark r k < mark r i))
theorem stepR_perm {r : Row} {c : Cmp} (h1 : c.1 < r.length) (h2 : c.2 < r.length) : (stepR r c).Perm r := by
  unfold stepR
  split
  · have e1 : r.getD c.1 noT = r[c.1] := by simp [List.getD, List.getElem?_eq_getElem h1]
    have e2 : r.getD c.2 noT = r[c.2] := by simp [List.getD, List.getElem?_eq_getElem h2]
    rw [e1, e2]
    exact List.set_set_perm h1 h2
  · exact List.Perm.refl r
theorem goR_perm : ∀ {p : Prog} {r : Row}, okP r.length p → (goR p r).Perm r
  | [], _, _ => List.Perm.refl _
  | c :: p, r, h => by
    obtain ⟨h1, h2⟩ := h c List.mem_cons_self
    have q := goR_perm (p := p) (r := stepR r c) (fun d hd => by rw [stepR_len]; exact h d (List.mem_cons_of_mem _ hd))
    exact q.trans (stepR_perm (by omega) h2)
theorem marked_go {p : Prog} {r : Row} (ok : okP r.length p) (h : marked r) : marked (goR p r) := fun t ht => h t ((goR_perm ok).mem_iff.mp ht)
theorem keyRows_marked {m : Nat} : ∀ {n : Nat} {r : Row}, r ∈ keyRows m n → marked r
  | 0, r, h => by
    simp [keyRows] at h
    subst h
    exact fun t ht => nomatch ht
  | n + 1, r, h => by
    obtain ⟨s, hs, hr⟩ := List.mem_flatMap.mp h
    obtain ⟨k, _, rfl⟩ := List.mem_map.mp hr
    intro t ht
    rcases List.mem_append.mp ht with q | q
    · exact keyRows_marked hs t q
    · rw [List.mem_singleton.mp q]
      exact ⟨_, rfl⟩
def keepsB (p : Prog) (m : Nat) : Bool := (keyRows m m).all fun r => inOrder (goR p r)
def sp_rows_of (K : PySem.W.Frag) : Sp := fun vs H Q _ => ∃ m : Nat, vs = [.int m] ∧ m ≤ 5 ∧ ∀ l H' xs, Same H H' → Fr H l → At H' l (.lst xs) → ImAll K H' xs ((keyRows m m).map dR) → Q (.ref l) H'
theorem longRows_snoc (m at_ : Nat) (rs : List Row) (r : Row) : longRows m at_ (rs ++ [r]) = longRows m at_ rs ++ (List.range m).map fun (k : Nat) => r ++ [((k : Int), Mrk.i at_)] := by
  unfold longRows
  rw [List.flatMap_append]
  simp
theorem longRows_len (m at_ : Nat) : ∀ rs : List Row, (longRows m at_ rs).length = rs.length * m
  | [] => by simp [longRows]
  | r :: rs => by
    have := longRows_len m at_ rs
    unfold longRows at this ⊢
    rw [List.flatMap_cons, List.length_append, this]
    simp [Nat.add_mul]
    omega
theorem pow_small {m i : Nat} (hm : m ≤ 5) (hi : i ≤ m) : m ^ i ≤ 3125 := by
  have h1 : m ^ i ≤ 5 ^ i := Nat.pow_le_pow_left hm i
  have h2 : 5 ^ i ≤ 5 ^ 5 := Nat.pow_le_pow_right (by decide) (by omega)
  have h3 : (5 : Nat) ^ 5 = 3125 := by decide
  omega
def t_rows_of (K : PySem.W.Frag) : TS := (tSeq (tAsg (tLst (tCons (tTup tNil) tNil)) (gName 1))
    (tSeq (tFor (iRng1 (tCons (tVar 0) tNil)) (gName 2) (tSeq (tAsg (tLst tNil) (gName 3))
    (tSeq (tFor (iList K (tVar 1)) (gName 4) (tDrop (tBM K "list" rExtend (tVar 3) (tCons (tLc (iRng1 (tCons (tVar 0) tNil)) (gName 5) tYes (tOp (rCatA K) (tVar 4) (tTup (tCons (tTup (tCons (tVar 5) (tCons (tVar 2) tNil))) tNil))) [5]) tNil))))
    (tAsg (tVar 3) (gName 1)))))
    (tRet (tVar 1))))
abbrev n_rows_of : List Str := ["places", "found", "at", "longer", "row", "key"]
section
variable {K : PySem.W.Frag} {vs : List V} {H : Hp} {Q : VK} {E : XK}
theorem len_rows_of (h : sp_rows_of K vs H Q E) : vs.length = 1 := by
  obtain ⟨m, rfl, _⟩ := h
  rfl
theorem rd_rows_of (h : sp_rows_of K vs H Q E) : t_rows_of K { nx := fun _ H' => Q .non H', rt := Q } (start n_rows_of vs) H := by
  obtain ⟨m, rfl, hm, q⟩ := h
  show t_rows_of K ⟨_, _, _, _⟩ [some (.int m), none, none, none, none, none] H
  unfold t_rows_of
  walk_at "go"
  refine newI (K := K) .nil (by simp) (fun w1 H1 s1 i1 => ?_)
  walk_at "go"
  refine newL (by simp) (fun f H2 nf s2 af => ?_)
  walk_at "go"
  refine st_r1 m rfl (by omega) ?_
  refine loop_r0 (fun i σ' H' => Same H H' ∧ ∃ f xs, Fr H f ∧ At H' f (.lst xs) ∧ ImAll K H' xs ((keyRows m i).map dR) ∧ ∃ a b c d, σ' = [some (.int m), some (.ref f), a, b, c, d]) ⟨s1.trans s2, f, _, same_none s1 nf, af, .cons (i1.same s2) .nil, none, none, none, none, rfl⟩ (fun i σ' H' hi w => ?_) (fun σ' H' w => ?_)
  · obtain ⟨s, f, xs, nf, af, xf, a, b, c, d, rfl⟩ := w
    have lx := xf.length
    rw [List.length_map, keyRows_len] at lx
    have hp1 := pow_small hm (show i ≤ m by omega)
    walk_at "go"
    refine newL (by simp) (fun g H3 ng s3 ag => ?_)
    walk_at "go"
    have ng0 : Fr H g := same_none s ng
    have nfg : f ≠ g := at_ne af ng
    refine loop_l (K := K) (at_seq (same_at s3 af)) (fun j σ' H4 => Same H H4 ∧ Tx H3 H4 ∧ At H4 f (.lst xs) ∧ (∃ ys, At H4 g (.lst ys) ∧ ImAll K H4 ys ((longRows m i ((keyRows m i).take j)).map dR)) ∧ ∃ c d, σ' = [some (.int m), some (.ref f), some (.int (i : Nat)), some (.ref g), c, d]) ⟨s.trans s3, Tx.refl _, same_at s3 af, ⟨[], ag, .nil⟩, c, d, rfl⟩ (fun j σ' H4 w => at_seq w.2.2.1) (fun j x σ' H4 hx w => ?_) (fun σ' H4 w => ?_)
    · obtain ⟨s4, t4, af4, ⟨ys, ag4, yf⟩, c, d, rfl⟩ := w
      have xf4 := (xf.same s3).tx t4
      obtain ⟨dd, hd, ix⟩ := xf4.get hx
      rw [List.getElem?_map] at hd
      obtain ⟨r, hr, rfl⟩ := Option.map_eq_some_iff.mp hd
      have hjr := (List.getElem?_eq_some_iff.mp hr).1
      have lr := keyRows_each (List.mem_of_getElem? hr)
      walk_at "go"
      refine st_tyL ag4 ?_
      walk_at "go"
      refine st_r1 m rfl (by omega) ?_
      refine lc_r0 (K := K) (σw := [some (.int m), some (.ref f), some (.int (i : Nat)), some (.ref g), some x, none]) (fun _ => true) (fun k => dR (r ++ [((k : Int), Mrk.i i)])) rfl (by omega) (fun k H5 hk s5 CT CF kT kF => ?_) (fun l H5 zs n5 s5 a5 x5 => ?_)
      · walk_at "go"
        refine ⟨rfl, ?_⟩
        walk_at "go"
        refine newI (K := K) (.cons (.int _) (.cons (.int _) .nil)) (by simp) (fun w6 H6 s6 i6 => ?_)
        walk_at "go"
        refine newI (K := K) (.cons i6 .nil) (by simp) (fun w7 H7 s7 i7 => ?_)
        refine st_catI (ix.same ((s5.trans s6).trans s7)) i7 (by simp; omega) (fun w8 H8 s8 i8 => ?_)
        refine kT rfl _ _ ((s6.trans s7).trans s8) ?_
        rw [show dR (r ++ [((k : Int), Mrk.i i)]) = .tuple (r.map dT ++ [.tuple [.int k, .int i]]) by unfold dR; rw [List.map_append]; rfl]
        exact i8
      · rw [given_all] at x5
        walk_at "go"
        have ly := yf.length
        rw [List.length_map, longRows_len, List.length_take] at ly
        have lz := x5.length
        rw [List.length_map, List.length_range] at lz
        have hjm : min j (keyRows m i).length * m ≤ 3125 * 5 := Nat.mul_le_mul (by rw [keyRows_len]; omega) hm
        refine st_extL (same_at s5 ag4) a5 (by omega) (fun H6 b6 a6 => ?_)
        refine ⟨same_bx (s4.trans s5) b6 ng0, (t4.trans (.of s5)).trans (bx_tx b6), (at_bx b6 (same_at s5 af4)).resolve_left nfg, ⟨_, a6, ?_⟩, _, _, rfl⟩
        rw [List.take_add_one, hr]
        show ImAll K H6 (ys ++ zs) ((longRows m i ((keyRows m i).take j ++ [r])).map dR)
        rw [longRows_snoc, List.map_append, List.map_map]
        exact ((yf.same s5).tx (bx_tx b6)).append (x5.tx (bx_tx b6))
    · obtain ⟨s4, t4, af4, ⟨ys, ag4, yf⟩, c, d, rfl⟩ := w
      rw [show (keyRows m i).take xs.length = keyRows m i from List.take_of_length_le (by rw [keyRows_len]; omega)] at yf
      walk_at "go"
      exact ⟨s4, g, ys, ng0, ag4, yf, _, _, _, _, rfl⟩
  · obtain ⟨s, f, xs, nf, af, xf, a, b, c, d, rfl⟩ := w
    walk_at "go"
    exact q f H' xs s nf af xf
end
def sp_in_order (K : PySem.W.Frag) : Sp := fun vs H Q _ => ∃ rv r, vs = [rv] ∧ Im K H rv (dR r) ∧ marked r ∧ r.length ≤ 100000 ∧ ∀ H', Same H H' → Q (.bl (inOrder r)) H'
theorem marked_at {r : Row} {i : Nat} (h : marked r) (hi : i < r.length) : (r.map dT)[i]? = some (.tuple [.int (key r i), .int (mark r i)]) := by
  rw [row_at hi]
  obtain ⟨k, hk⟩ := h r[i] (List.getElem_mem hi)
  have e : r.getD i noT = r[i] := by simp [List.getD, List.getElem?_eq_getElem hi]
  unfold mark
  rw [e, hk]
  rfl
def t_in_order (K : PySem.W.Frag) : TS := (tSeq (tFor (iRng1 (tCons (tCB (cLen K) (tCons (tVar 0) tNil)) tNil)) (gName 1) (tFor (iRng1 (tCons (tVar 1) tNil)) (gName 2) (tIfS (tAnd (tTest (tOp rEq (tOp (rIxT K) (tOp (rIxT K) (tVar 0) (tVar 2)) (tC (.int 0))) (tOp (rIxT K) (tOp (rIxT K) (tVar 0) (tVar 1)) (tC (.int 0))))) (tTest (tOp oGt (tOp (rIxT K) (tOp (rIxT K) (tVar 0) (tVar 2)) (tC (.int 1))) (tOp (rIxT K) (tOp (rIxT K) (tVar 0) (tVar 1)) (tC (.int 1)))))) (tRet (tC (.bl false))) tNext)))
    (tRet (tC (.bl true))))
abbrev n_in_order : List Str := ["row", "k", "low"]
section
variable {K : PySem.W.Frag} {vs : List V} {H : Hp} {Q : VK} {E : XK}
theorem len_in_order (h : sp_in_order K vs H Q E) : vs.length = 1 := by
  obtain ⟨rv, r, rfl, _⟩ := h
  rfl
theorem rd_in_order (h : sp_in_order K vs H Q E) : t_in_order K { nx := fun _ H' => Q .non H', rt := Q } (start n_in_order vs) H := by
  obtain ⟨rv, r, rfl, hr, hmk, zr, q⟩ := h
  show t_in_order K ⟨_, _, _, _⟩ [some rv, none, none] H
  unfold t_in_order
  walk_at "go"
  refine st_lenI hr ?_
  rw [List.length_map]
  walk_at "go"
  refine st_r1 r.length rfl (by omega) ?_
  refine loop_r0 (fun k σ' H' => H' = H ∧ ((List.range k).all fun k => (List.range k).all fun i => !(decide (key r i = key r k) && decide (mark r k < mark r i))) = true ∧ ∃ a b, σ' = [some rv, a, b]) ⟨rfl, rfl, none, none, rfl⟩ (fun k σ' H' hk w => ?_) (fun σ' H' w => ?_)
  · obtain ⟨rfl, hall, a, b, rfl⟩ := w
    walk_at "go"
    refine st_r1 k rfl (by omega) ?_
    refine loop_r0 (fun i σ' H2 => H2 = H' ∧ ((List.range i).all fun i => !(decide (key r i = key r k) && decide (mark r k < mark r i))) = true ∧ ∃ b, σ' = [some rv, some (.int (k : Nat)), b]) ⟨rfl, rfl, b, rfl⟩ (fun i σ' H2 hi w => ?_) (fun σ' H2 w => ?_)
    · obtain ⟨rfl, hin, b, rfl⟩ := w
      have li : i < r.length := by omega
      have gi := marked_at hmk li
      have gk := marked_at hmk hk
      have no : inOrder r = false ∨ ¬ (key r i = key r k ∧ mark r k < mark r i) := by
        by_cases h : key r i = key r k ∧ mark r k < mark r i
        · refine .inl ?_
          unfold inOrder
          rw [List.all_eq_false]
          refine ⟨k, List.mem_range.mpr hk, ?_⟩
          rw [Bool.not_eq_true, List.all_eq_false]
          exact ⟨i, List.mem_range.mpr hi, by simp [h.1, h.2]⟩
        · exact .inr h
      have go1 : ¬ (key r i = key r k ∧ mark r k < mark r i) → ((List.range (i + 1)).all fun i => !(decide (key r i = key r k) && decide (mark r k < mark r i))) = true := fun h => by
        rw [List.range_succ, List.all_append, hin]
        simp only [List.all_cons, List.all_nil, Bool.and_true, Bool.true_and]
        by_cases e : key r i = key r k
        · have : ¬ mark r k < mark r i := fun z => h ⟨e, z⟩
          simp [this]
        · simp [e]
      walk_at "go"
      refine st_ixI i hr rfl gi (fun w1 i1 => ?_)
      walk_at "go"
      refine st_ixI 0 i1 rfl rfl (fun k1 e1 => ?_)
      cases e1
      walk_at "go"
      refine st_ixI k hr rfl gk (fun w2 i2 => ?_)
      walk_at "go"
      refine st_ixI 0 i2 rfl rfl (fun k1 e1 => ?_)
      cases e1
      walk_at "go"
      refine st_y2 (fun he => ?_) (fun he => ?_)
      · walk_at "go"
        refine st_ixI i hr rfl gi (fun w1 i1 => ?_)
        walk_at "go"
        refine st_ixI 1 i1 rfl rfl (fun k1 e1 => ?_)
        cases e1
        walk_at "go"
        refine st_ixI k hr rfl gk (fun w2 i2 => ?_)
        walk_at "go"
        refine st_ixI 1 i2 rfl rfl (fun k1 e1 => ?_)
        cases e1
        walk_at "go"
        refine st_y2 (fun hm => ?_) (fun hm => ?_)
        · walk_at "go"
          have e := no.resolve_right (fun z => z ⟨he, hm⟩)
          rw [← e]
          exact q H2 (Same.refl _)
        · walk_at "go"
          exact ⟨rfl, go1 (fun z => hm z.2), _, rfl⟩
      · walk_at "go"
        exact ⟨rfl, go1 (fun z => he z.1), _, rfl⟩
    · obtain ⟨rfl, hin, b, rfl⟩ := w
      refine ⟨rfl, ?_, _, _, rfl⟩
      rw [List.range_succ, List.all_append, hall]
      simp only [List.all_cons, List.all_nil, Bool.and_true, Bool.true_and]
      exact hin
  · obtain ⟨rfl, hall, a, b, rfl⟩ := w
    walk_at "go"
    have e : inOrder r = true := hall
    rw [← e]
    exact q H' (Same.refl _)
end
def sp_keeps (K : PySem.W.Frag) (C : Addr) : Sp := fun vs H Q E => ∃ pv, ∃ m : Nat, vs = [pv, .int m] ∧ (Refuse K C H pv m E ∨ ∃ p, Good K H pv m p ∧ m ≤ 5 ∧ ∀ H', Same H H' → Q (.bl (keepsB p m)) H')
theorem imAll_bools {K : PySem.W.Frag} {H : Hp} : ∀ {bs : List Bool} {vs : List V}, ImAll K H vs (bs.map PyData.bool) → vs = bs.map V.bl
  | [], _, .nil => rfl
  | b :: bs, _, .cons h t => by
    rw [im_bl h, imAll_bools t]
    rfl
def t_keeps (K : PySem.W.Frag) (C_BadProgram : Addr) (C_BadRow : Addr) (E : XK) : TS := (tSeq (tDrop (tCall (sp_need K C_BadProgram) [] E (tCons (tVar 0) (tCons (tVar 1) tNil))))
    (tRet (tCB (rAll K) (tCons (tLc (iList K (tCall (sp_rows_of K) [] E0 (tCons (tVar 1) tNil))) (gName 2) tYes (tCall (sp_in_order K) [] E0 (tCons (tCall (sp_run K C_BadRow) [] E0 (tCons (tVar 0) (tCons (tVar 2) tNil))) tNil)) [2]) tNil))))
abbrev n_keeps : List Str := ["program", "places", "row"]
section
variable {K : PySem.W.Frag} {vs : List V} {H : Hp} {Q : VK} {E : XK}
theorem len_keeps {C : Addr} (h : sp_keeps K C vs H Q E) : vs.length = 2 := by
  obtain ⟨pv, m, rfl, _⟩ := h
  rfl
theorem rd_keeps {C C2 : Addr} (h : sp_keeps K C vs H Q E) : t_keeps K C C2 E { nx := fun _ H' => Q .non H', rt := Q } (start n_keeps vs) H := by
  obtain ⟨pv, m, rfl, h⟩ := h
  show t_keeps K C C2 E ⟨_, _, _, _⟩ [some pv, some (.int m), none] H
  unfold t_keeps
  walk_at "go"
  rcases h with r | ⟨p, g, hm, q⟩
  · exact ⟨pv, m, rfl, .inl r⟩
  · refine ⟨pv, m, rfl, .inr ⟨p, g, fun v H1 s1 => ?_⟩⟩
    walk_at "go"
    refine ⟨m, rfl, hm, fun l H2 xs s2 n2 a2 x2 => ?_⟩
    walk_at "go"
    have lx := x2.length
    rw [List.length_map, keyRows_len] at lx
    have hpw := pow_small hm (Nat.le_refl m)
    refine lc_l (K := K) (σw := [some pv, some (.int m), none]) (at_seq a2) (fun _ => true) (fun i => .bool (inOrder (goR p ((keyRows m m).getD i [])))) rfl (by omega) (fun i y H3 hy s3 CT CF kT kF => ?_) (fun l3 H3 ys n3 s3 a3 x3 => ?_)
    · obtain ⟨dd, hd, ix⟩ := (x2.same s3).get hy
      rw [List.getElem?_map] at hd
      obtain ⟨r, hr, rfl⟩ := Option.map_eq_some_iff.mp hd
      have er : (keyRows m m).getD i [] = r := by simp [List.getD, hr]
      have hrm := List.mem_of_getElem? hr
      have lr := keyRows_each hrm
      have okr : okP r.length p := by rw [lr]; exact g.2.1
      rw [er] at kT
      walk_at "go"
      refine ⟨rfl, ?_⟩
      walk_at "go"
      have s03 : Same H H3 := (s1.trans s2).trans s3
      refine ⟨pv, y, p, r, rfl, g.1.same s03, ix, g.2.2, by omega, g.2.1.up, fun hn => absurd (wide_ok okr) (by omega), fun _ w H4 s4 i4 => ?_⟩
      walk_at "go"
      refine ⟨w, goR p r, rfl, i4, marked_go okr (keyRows_marked hrm), by rw [goR_len]; omega, fun H5 s5 => ?_⟩
      exact kT rfl _ _ (s4.trans s5) (.bl _)
    · rw [given_all, lx] at x3
      have e : (List.range (m ^ m)).map (fun i => PyData.bool (inOrder (goR p ((keyRows m m).getD i [])))) = (keyRows m m).map fun r => PyData.bool (inOrder (goR p r)) := by
        rw [← keyRows_len m m]
        exact range_map (keyRows m m) [] fun r => PyData.bool (inOrder (goR p r))
      rw [e] at x3
      have eb : ys = ((keyRows m m).map fun r => inOrder (goR p r)).map V.bl := imAll_bools (by rw [List.map_map]; exact x3)
      subst eb
      walk_at "go"
      refine st_all (at_seq a3) ?_
      rw [List.all_map]
      exact q H3 ((s1.trans s2).trans s3)
end
/-! ### the compares that change none of the rows of noughts and ones -/
def noC : Cmp := (0, 0)
def busyAt (p : Prog) (m k : Nat) : Bool := (List.range (2 ^ m)).any fun r => hot (goB (p.take k) (bitsOf m r)) (p.getD k noC)
def idleL (p : Prog) (m : Nat) : List Nat := (List.range p.length).filter fun k => !busyAt p m k
def lessP (p : Prog) (m : Nat) : Prog := ((List.range p.length).filter fun k => busyAt p m k).map fun k => p.getD k noC
theorem okP_take {m : Nat} {p : Prog} (h : okP m p) (k : Nat) : okP m (p.take k) := fun c hc => h c (List.mem_of_mem_take hc)
theorem busy_col {p : Prog} {m k : Nat} {c : Cmp} (h : okP m p) (hc : p[k]? = some c) : colHot (goCols (p.take k) (colsOf m)) c = busyAt p m k := by
  rw [colHot_iff (goCols_ok (colsOf_ok m) (okP_take h k)) (h c (List.mem_of_getElem? hc))]
  unfold busyAt
  rw [show p.getD k noC = c by simp [List.getD, hc]]
theorem filt_succ (f : Nat → Bool) (n : Nat) : (List.range (n + 1)).filter f = (List.range n).filter f ++ (if f n = true then [n] else []) := by
  rw [List.range_succ, List.filter_append]
  congr 1
  rw [List.filter_cons]
  rfl
theorem lessP_ok {p : Prog} {m : Nat} (h : okP m p) : okP m (lessP p m) := fun c hc => by
  obtain ⟨k, hk, rfl⟩ := List.mem_map.mp hc
  have hk' := List.mem_range.mp (List.mem_filter.mp hk).1
  apply h
  simp [List.getD, List.getElem?_eq_getElem hk']
def doesB (p : Prog) (m : Nat) (keep : Bool) : Bool := ordersB p m && (!keep || keepsB p m)
def goneFrom (m : Nat) (keep : Bool) : Nat → Nat → Prog → Prog
  | 0, _, p => p
  | n + 1, k, p => if doesB (p.eraseIdx k) m keep = true then goneFrom m keep n k (p.eraseIdx k) else goneFrom m keep n (k + 1) p
def goneOnce (m : Nat) (keep : Bool) (p : Prog) : Prog := goneFrom m keep p.length 0 p
def shortN (m : Nat) (keep : Bool) : Nat → Prog → Prog
  | 0, p => p
  | n + 1, p => if goneOnce m keep p = p then p else shortN m keep n (goneOnce m keep p)
def shortP (m : Nat) (keep : Bool) (p : Prog) : Prog := shortN m keep p.length p
theorem goneFrom_sub (m : Nat) (keep : Bool) : ∀ (n k : Nat) (p : Prog), (goneFrom m keep n k p).Sublist p
  | 0, _, p => List.Sublist.refl p
  | n + 1, k, p => by
    unfold goneFrom
    split
    · exact (goneFrom_sub m keep n k _).trans (List.eraseIdx_sublist p k)
    · exact goneFrom_sub m keep n (k + 1) p
theorem goneOnce_sub (m : Nat) (keep : Bool) (p : Prog) : (goneOnce m keep p).Sublist p := goneFrom_sub m keep _ _ p
theorem goneOnce_less {m : Nat} {keep : Bool} {p : Prog} (h : goneOnce m keep p ≠ p) : (goneOnce m keep p).length < p.length := by
  have s := goneOnce_sub m keep p
  rcases Nat.lt_or_ge (goneOnce m keep p).length p.length with q | q
  · exact q
  · exact absurd (s.eq_of_length_le q) h
theorem okP_sub {m : Nat} {p q : Prog} (h : okP m p) (s : q.Sublist p) : okP m q := fun c hc => h c (s.subset hc)
theorem shortN_more {m : Nat} {keep : Bool} : ∀ {n : Nat} {p : Prog}, p.length ≤ n → goneOnce m keep p ≠ p → shortN m keep n p = shortN m keep (n - 1) (goneOnce m keep p)
  | 0, p, h, ne => by
    have := goneOnce_less ne
    omega
  | n + 1, p, _, ne => by
    show (if goneOnce m keep p = p then p else shortN m keep n (goneOnce m keep p)) = shortN m keep n _
    rw [if_neg ne]
theorem shortN_fix {m : Nat} {keep : Bool} : ∀ {n : Nat} {p : Prog}, goneOnce m keep p = p → shortN m keep n p = p
  | 0, _, _ => rfl
  | n + 1, p, h => if_pos h
theorem shortN_len {m : Nat} {keep : Bool} : ∀ {n : Nat} {p : Prog}, p.length ≤ n → shortN m keep p.length p = shortN m keep n p
  | n, p, h => by
    induction n using Nat.strongRecOn generalizing p with
    | ind n ih =>
      by_cases e : goneOnce m keep p = p
      · rw [shortN_fix e, shortN_fix e]
      · rw [shortN_more (Nat.le_refl _) e, shortN_more h e]
        have hl := goneOnce_less e
        have h1 := ih (p.length - 1) (by omega) (p := goneOnce m keep p) (by omega)
        have h2 := ih (n - 1) (by omega) (p := goneOnce m keep p) (by omega)
        rw [← h1, ← h2]
/-! ### all rows of noughts and ones, in order -/
def longB (rs : List Bits) : List Bits := rs.flatMap fun r => [r ++ [false], r ++ [true]]
def binRows : Nat → List Bits
  | 0 => [[]]
  | n + 1 => longB (binRows n)
theorem range_two : ∀ k : Nat, List.range (2 * k) = (List.range k).flatMap fun r => [2 * r, 2 * r + 1]
  | 0 => rfl
  | k + 1 => by
    rw [show 2 * (k + 1) = 2 * k + 1 + 1 by omega, List.range_succ, List.range_succ, range_two k, List.range_succ, List.flatMap_append]
    simp
theorem bitsOf_two (n r : Nat) (b : Bool) : bitsOf (n + 1) (2 * r + (if b = true then 1 else 0)) = bitsOf n r ++ [b] := by
  unfold bitsOf
  rw [List.range_succ, List.map_append]
  congr 1
  · apply List.map_congr_left
    intro k hk
    have hk := List.mem_range.mp hk
    rw [show n + 1 - 1 - k = (n - 1 - k) + 1 by omega, Nat.testBit_succ]
    congr 1
    cases b <;> simp <;> omega
  · show [(2 * r + if b = true then 1 else 0).testBit (n + 1 - 1 - n)] = [b]
    rw [show n + 1 - 1 - n = 0 by omega, Nat.testBit_zero]
    cases b <;> simp <;> omega
theorem binRows_bits : ∀ n : Nat, binRows n = (List.range (2 ^ n)).map (bitsOf n)
  | 0 => rfl
  | n + 1 => by
    show longB (binRows n) = _
    rw [binRows_bits n, Nat.pow_succ, Nat.mul_comm, range_two, List.map_flatMap]
    unfold longB
    rw [List.flatMap_map]
    congr 1
    funext r
    show [bitsOf n r ++ [false], bitsOf n r ++ [true]] = [bitsOf (n + 1) (2 * r), bitsOf (n + 1) (2 * r + 1)]
    have h0 := bitsOf_two n r false
    have h1 := bitsOf_two n r true
    simp only [Bool.false_eq_true, if_false, if_true, Nat.add_zero] at h0 h1
    rw [h0, h1]
theorem binRows_len (n : Nat) : (binRows n).length = 2 ^ n := by
  rw [binRows_bits]
  simp
theorem binRows_at {n r : Nat} (h : r < 2 ^ n) : (binRows n)[r]? = some (bitsOf n r) := by
  rw [binRows_bits, List.getElem?_map, List.getElem?_range h]
  rfl
theorem longB_snoc (rs : List Bits) (r : Bits) : longB (rs ++ [r]) = longB rs ++ [r ++ [false], r ++ [true]] := by
  unfold longB
  rw [List.flatMap_append]
  simp
theorem longB_len : ∀ rs : List Bits, (longB rs).length = 2 * rs.length
  | [] => rfl
  | r :: rs => by
    have := longB_len rs
    unfold longB at this ⊢
    rw [List.flatMap_cons, List.length_append, this]
    simp
    omega
theorem binRows_each {n : Nat} {r : Bits} (h : r ∈ binRows n) : r.length = n := by
  rw [binRows_bits] at h
  obtain ⟨k, _, rfl⟩ := List.mem_map.mp h
  exact bitsOf_len n k
/-! ### bits as numbers -/
def bI (b : Bool) : Int := if b = true then 1 else 0
def bV (bs : Bits) : List V := (bs.map bI).map V.int
theorem dB_ints (bs : Bits) : dB bs = .tuple ((bs.map bI).map PyData.int) := by
  unfold dB
  rw [List.map_map]
  rfl
theorem bV_at {bs : Bits} {i : Nat} (h : i < bs.length) : (bV bs)[i]? = some (.int (bI (bget bs i))) := by
  unfold bV bget
  rw [List.getElem?_map, List.getElem?_map, List.getElem?_eq_getElem h]
  simp [List.getD, List.getElem?_eq_getElem h]
theorem bV_len (bs : Bits) : (bV bs).length = bs.length := by simp [bV]
theorem bV_set0 (bs : Bits) (i : Nat) : (bV bs).set i (.int 0) = bV (bs.set i false) := by
  unfold bV
  rw [List.map_set, List.map_set]
  rfl
theorem bV_set1 (bs : Bits) (i : Nat) : (bV bs).set i (.int 1) = bV (bs.set i true) := by
  unfold bV
  rw [List.map_set, List.map_set]
  rfl
theorem bI_lt (a b : Bool) : bI b < bI a ↔ (a && !b) = true := by cases a <;> cases b <;> decide
theorem stepB_hot {bs : Bits} {c : Cmp} (h : hot bs c = true) : stepB bs c = (bs.set c.1 false).set c.2 true := by
  unfold hot at h
  unfold stepB
  rw [Bool.and_eq_true, Bool.not_eq_true'] at h
  rw [h.1, h.2]
  rfl
theorem set_bget {bs : Bits} {i : Nat} : bs.set i (bget bs i) = bs := by
  apply List.ext_getElem?
  intro j
  rw [List.getElem?_set]
  by_cases e : i = j
  · subst e
    by_cases h : i < bs.length
    · simp [h, bget, List.getD]
    · simp [h]
  · simp [e]
theorem stepB_cold {bs : Bits} {c : Cmp} (h : hot bs c = false) : stepB bs c = bs := by
  unfold hot at h
  unfold stepB
  have h1 : (bget bs c.1 && bget bs c.2) = bget bs c.1 := by
    revert h
    cases bget bs c.1 <;> cases bget bs c.2 <;> simp
  have h2 : (bget bs c.1 || bget bs c.2) = bget bs c.2 := by
    revert h
    cases bget bs c.1 <;> cases bget bs c.2 <;> simp
  rw [h1, h2, set_bget, set_bget]
/-! ### in order -/
theorem up_all {f : Nat → Int} {n : Nat} (h : ∀ k, k + 1 < n → f k ≤ f (k + 1)) : ∀ (d i : Nat), i + d < n → f i ≤ f (i + d)
  | 0, i, _ => Int.le_refl _
  | d + 1, i, hd => Int.le_trans (up_all h d i (by omega)) (by rw [show i + (d + 1) = i + d + 1 by omega]; exact h (i + d) (by omega))
theorem sortedB_iff (bs : Bits) : sortedB bs = true ↔ (bs.map bI).Pairwise (· ≤ ·) := by
  unfold sortedB
  rw [List.all_eq_true, List.pairwise_iff_getElem]
  have ge : ∀ (i : Nat) (h : i < (bs.map bI).length), (bs.map bI)[i] = bI (bget bs i) := fun i h => by
    have h' : i < bs.length := by simpa using h
    simp [bget, List.getD, List.getElem?_eq_getElem h']
  constructor
  · intro h i j hi hj hij
    rw [ge i hi, ge j hj]
    have hl : j < bs.length := by simpa using hj
    have := up_all (f := fun k => bI (bget bs k)) (n := bs.length) (fun k hk => by
      have q := h k (List.mem_range.mpr (by omega))
      have : ¬ bI (bget bs (k + 1)) < bI (bget bs k) := fun z => by
        rw [(bI_lt _ _).mp z] at q
        exact nomatch q
      exact Int.not_lt.mp this) (j - i) i (by omega)
    rw [show i + (j - i) = j by omega] at this
    exact this
  · intro h k hk
    have hk := List.mem_range.mp hk
    have q := h k (k + 1) (by simp; omega) (by simp; omega) (by omega)
    rw [ge, ge] at q
    rw [Bool.not_eq_true', ← Bool.not_eq_true]
    exact fun z => absurd ((bI_lt _ _).mpr z) (Int.not_lt.mpr q)
theorem sorted_perm : ∀ {a b : List Int}, a.Perm b → a.Pairwise (· ≤ ·) → b.Pairwise (· ≤ ·) → a = b
  | [], b, p, _, _ => (List.Perm.nil_eq p)
  | x :: a, [], p, _, _ => absurd p (by simp)
  | x :: a, y :: b, p, h1, h2 => by
    have hx : x ∈ y :: b := p.subset List.mem_cons_self
    have hy : y ∈ x :: a := p.symm.subset List.mem_cons_self
    have le1 : x ≤ y := by
      rcases List.mem_cons.mp hy with e | e
      · omega
      · exact (List.pairwise_cons.mp h1).1 y e
    have le2 : y ≤ x := by
      rcases List.mem_cons.mp hx with e | e
      · omega
      · exact (List.pairwise_cons.mp h2).1 x e
    have e : x = y := by omega
    subst e
    rw [sorted_perm (List.Perm.cons_inv p) (List.pairwise_cons.mp h1).2 (List.pairwise_cons.mp h2).2]
theorem sorted_same {a b : List Int} (p : b.Perm a) (s : b.Pairwise (· ≤ ·)) : decide (a = b) = decide (a.Pairwise (· ≤ ·)) := by
  apply decide_eq_decide.mpr
  constructor
  · intro e
    rw [e]
    exact s
  · intro h
    exact (sorted_perm p s h).symm
theorem find_at {f : Nat → Bool} {n i : Nat} (hi : i < n) (h : f i = true) (hl : ∀ k, k < i → f k = false) : (List.range n).find? f = some i := by
  have e : List.range n = List.range i ++ ([i] ++ (List.range' (i + 1) (n - (i + 1)))) := by
    rw [List.range_eq_range', List.range_eq_range', show [i] = List.range' i 1 from rfl, List.range'_append_1, show 1 + (n - (i + 1)) = n - i by omega]
    have := List.range'_append_1 (s := 0) (m := i) (n := n - i)
    rw [Nat.zero_add] at this
    rw [this]
    congr 1
    omega
  rw [e, List.find?_append, List.find?_eq_none.mpr (fun k hk => by rw [hl k (List.mem_range.mp hk)]; decide)]
  simp [h]
theorem find_no {f : Nat → Bool} {n : Nat} (hl : ∀ k, k < n → f k = false) : (List.range n).find? f = none := List.find?_eq_none.mpr fun k hk => by
  rw [hl k (List.mem_range.mp hk)]
  decide
theorem eqv_ints (a b : List Int) : PyData.eqv (.list (a.map .int)) (.list (b.map .int)) = decide (a = b) := by
  rw [PyData.eqv]
  exact eqvAll_map eqv_int a b
theorem ints_im {K : PySem.W.Frag} {H : Hp} (l : List Int) : ImAll K H (l.map V.int) (l.map PyData.int) := ImAll.ints l
theorem st_sortI {K : PySem.W.Frag} {H : Hp} {Q : VK} {p : Addr} {ns : List Int} (hp : SqL K H p (ns.map V.int)) (h : ∀ l H2 (ns' : List Int), Fr H l → Same H H2 → At H2 l (.lst (ns'.map V.int)) → ns'.Perm ns → ns'.Pairwise (· ≤ ·) → Q (.ref l) H2) : rSortedI K [.ref p] H Q := ⟨p, ns, rfl, hp, fun ns' l pm pw nl => h l _ ns' nl (same_new nl) upd_same pm pw⟩
/-! ### without the idle ones: by rows that are gone through -/
def lessI (S : List Bits) (p : Prog) : Prog := ((List.range p.length).filter fun k => S.any fun s => hot (goB (p.take k) s) (p.getD k noC)).map fun k => p.getD k noC
def allB (m : Nat) : List Bits := (List.range (2 ^ m)).map (bitsOf m)
theorem lessP_I (p : Prog) (m : Nat) : lessP p m = lessI (allB m) p := by
  unfold lessP lessI
  congr 2
  funext k
  unfold busyAt allB
  rw [List.any_map]
  rfl
theorem lessI_cons (S : List Bits) (c : Cmp) (p : Prog) : lessI S (c :: p) = (if (S.any fun s => hot s c) = true then [c] else []) ++ lessI (S.map fun s => stepB s c) p := by
  unfold lessI
  rw [List.length_cons, List.range_succ_eq_map, List.filter_cons]
  have e : (List.map Nat.succ (List.range p.length)).filter (fun k => S.any fun s => hot (goB ((c :: p).take k) s) ((c :: p).getD k noC)) = ((List.range p.length).filter fun k => (S.map fun s => stepB s c).any fun s => hot (goB (p.take k) s) (p.getD k noC)).map Nat.succ := by
    rw [List.filter_map]
    congr 2
    funext k
    show (S.any fun s => hot (goB (c :: p.take k) s) (p.getD k noC)) = _
    rw [List.any_map]
    rfl
  rw [e]
  show List.map _ (if (S.any fun s => hot s c) = true then _ else _) = _
  split
  · rw [List.map_cons, List.map_map]
    rfl
  · rw [List.map_map]
    rfl
theorem cold_same {S : List Bits} {c : Cmp} (h : ¬ (S.any fun s => hot s c) = true) : (S.map fun s => stepB s c) = S := by
  have : ∀ s ∈ S, stepB s c = s := fun s hs => stepB_cold (by
    rw [← Bool.not_eq_true]
    intro z
    exact h (List.any_eq_true.mpr ⟨s, hs, z⟩))
  rw [List.map_congr_left this]
  exact List.map_id' S
theorem lessI_busy {S : List Bits} {c : Cmp} {p : Prog} (h : (S.any fun s => hot s c) = true) : lessI S (c :: p) = c :: lessI (S.map fun s => stepB s c) p := by
  rw [lessI_cons, if_pos h]
  rfl
theorem lessI_idle {S : List Bits} {c : Cmp} {p : Prog} (h : ¬ (S.any fun s => hot s c) = true) : lessI S (c :: p) = lessI S p := by
  rw [lessI_cons, if_neg h, cold_same h]
  rfl
theorem lessI_sub : ∀ (S : List Bits) (p : Prog), (lessI S p).Sublist p
  | _, [] => List.Sublist.refl _
  | S, c :: p => by
    by_cases h : (S.any fun s => hot s c) = true
    · rw [lessI_busy h]
      exact List.Sublist.cons_cons c (lessI_sub _ p)
    · rw [lessI_idle h]
      exact (lessI_sub S p).cons c
theorem lessI_twice : ∀ (S : List Bits) (p : Prog), lessI S (lessI S p) = lessI S p
  | _, [] => rfl
  | S, c :: p => by
    by_cases h : (S.any fun s => hot s c) = true
    · rw [lessI_busy h, lessI_busy h, lessI_twice _ p]
    · rw [lessI_idle h]
      exact lessI_twice S p
theorem lessP_sub (p : Prog) (m : Nat) : (lessP p m).Sublist p := by
  rw [lessP_I]
  exact lessI_sub _ p
theorem lessP_twice (p : Prog) (m : Nat) : lessP (lessP p m) m = lessP p m := by
  rw [lessP_I (lessP p m), lessP_I p]
  exact lessI_twice _ p
theorem filt_len (f : Nat → Bool) : ∀ l : List Nat, (l.filter f).length + (l.filter fun k => !f k).length = l.length
  | [] => rfl
  | a :: l => by
    have ih := filt_len f l
    rw [List.filter_cons, List.filter_cons]
    cases f a <;> simp <;> omega
theorem lens (p : Prog) (m : Nat) : (lessP p m).length + (idleL p m).length = p.length := by
  have := filt_len (busyAt p m) (List.range p.length)
  rw [List.length_range] at this
  unfold lessP idleL
  rw [List.length_map]
  exact this
theorem idle_none (p : Prog) (m : Nat) : idleL (lessP p m) m = [] := by
  have h := lens (lessP p m) m
  rw [lessP_twice] at h
  exact List.eq_nil_of_length_eq_zero (by omega)
/-! ### a row, and what stands at a height of it -/
def thr (m : Nat) (t : Int) (r : Row) : Bits := (List.range m).map fun i => decide (t ≤ key r i)
theorem thr_len (m : Nat) (t : Int) (r : Row) : (thr m t r).length = m := by simp [thr]
theorem thr_at {m i : Nat} {t : Int} {r : Row} (h : i < m) : bget (thr m t r) i = decide (t ≤ key r i) := by
  unfold bget thr List.getD
  rw [List.getElem?_map, List.getElem?_range h]
  rfl
theorem key_set {r : Row} {i j : Nat} {t : Thing} (h : i < r.length) : key (r.set i t) j = if i = j then t.1 else key r j := by
  unfold key List.getD
  rw [List.getElem?_set]
  by_cases e : i = j
  · subst e
    simp [h]
  · simp [e]
theorem key_step {r : Row} {c : Cmp} {j : Nat} (h1 : c.1 < r.length) (h2 : c.2 < r.length) : key (stepR r c) j = if swaps r c = true then (if c.2 = j then key r c.1 else if c.1 = j then key r c.2 else key r j) else key r j := by
  unfold stepR
  split
  · rw [key_set (by rw [List.length_set]; exact h2), key_set h1]
    rfl
  · rfl
theorem thr_step {m : Nat} {t : Int} {r : Row} {c : Cmp} (hc : okC m c) (hm : m ≤ r.length) : thr m t (stepR r c) = stepB (thr m t r) c := by
  obtain ⟨h1, h2⟩ := hc
  have l1 : c.1 < m := by omega
  apply List.ext_getElem?
  intro j
  by_cases hj : j < m
  · have e : ∀ bs : Bits, bs.length = m → bs[j]? = some (bget bs j) := fun bs hb => by
      rw [List.getElem?_eq_getElem (by omega)]
      simp [bget, List.getD, List.getElem?_eq_getElem (show j < bs.length by omega)]
    rw [e _ (thr_len _ _ _), e _ (by rw [stepB_len, thr_len]), thr_at hj, bget_step (by rw [thr_len]; exact l1) (by rw [thr_len]; exact h2), thr_at l1, thr_at h2, thr_at hj, key_step (by omega) (by omega)]
    congr 1
    unfold swaps
    by_cases hk : key r c.2 < key r c.1
    · rw [if_pos (decide_eq_true hk)]
      by_cases e2 : c.2 = j
      · subst e2
        rw [if_pos rfl, if_pos rfl]
        by_cases a : t ≤ key r c.1
        · simp [a]
        · have b : ¬ t ≤ key r c.2 := by omega
          simp [a, b]
      · rw [if_neg e2, if_neg e2]
        by_cases e1 : c.1 = j
        · subst e1
          rw [if_pos rfl, if_pos rfl]
          by_cases b : t ≤ key r c.2
          · have a : t ≤ key r c.1 := by omega
            simp [a, b]
          · simp [b]
        · rw [if_neg e1, if_neg e1]
    · rw [if_neg (by rw [decide_eq_false hk]; decide)]
      by_cases e2 : c.2 = j
      · subst e2
        rw [if_pos rfl]
        by_cases a : t ≤ key r c.1
        · have b : t ≤ key r c.2 := by omega
          simp [a, b]
        · simp [a]
      · rw [if_neg e2]
        by_cases e1 : c.1 = j
        · subst e1
          rw [if_pos rfl]
          by_cases a : t ≤ key r c.1
          · have b : t ≤ key r c.2 := by omega
            simp [a, b]
          · simp [a]
        · rw [if_neg e1]
  · rw [List.getElem?_eq_none (by rw [thr_len]; omega), List.getElem?_eq_none (by rw [stepB_len, thr_len]; omega)]
theorem swaps_hot {m : Nat} {r : Row} {c : Cmp} (hc : okC m c) (h : swaps r c = true) : hot (thr m (key r c.1) r) c = true := by
  obtain ⟨h1, h2⟩ := hc
  have hk : key r c.2 < key r c.1 := of_decide_eq_true h
  unfold hot
  rw [thr_at (by omega), thr_at h2, decide_eq_true (Int.le_refl _), decide_eq_false (by omega)]
  rfl
theorem lessI_go {m : Nat} : ∀ {S : List Bits} {p : Prog} {r : Row}, okP m p → m ≤ r.length → (∀ t, thr m t r ∈ S) → goR (lessI S p) r = goR p r
  | _, [], _, _, _, _ => rfl
  | S, c :: p, r, ok, hm, hS => by
    have okc := ok c List.mem_cons_self
    have okp : okP m p := fun d hd => ok d (List.mem_cons_of_mem _ hd)
    by_cases h : (S.any fun s => hot s c) = true
    · rw [lessI_busy h]
      show goR (lessI _ p) (stepR r c) = goR p (stepR r c)
      refine lessI_go okp (by rw [stepR_len]; exact hm) (fun t => ?_)
      rw [thr_step okc hm]
      exact List.mem_map.mpr ⟨_, hS t, rfl⟩
    · rw [lessI_idle h]
      have hn : swaps r c = false := by
        rw [← Bool.not_eq_true]
        exact fun z => h (List.any_eq_true.mpr ⟨_, hS (key r c.1), swaps_hot okc z⟩)
      show _ = goR p (stepR r c)
      have e : stepR r c = r := by
        unfold stepR
        rw [if_neg (by rw [hn]; decide)]
      rw [e]
      exact lessI_go okp hm hS
theorem bits_all : ∀ {n : Nat} {bs : Bits}, bs.length = n → bs ∈ binRows n
  | 0, bs, h => by
    have := List.eq_nil_of_length_eq_zero h
    subst this
    exact List.mem_cons_self
  | n + 1, bs, h => by
    have hne : bs ≠ [] := fun e => by
      subst e
      cases h
    have e := List.dropLast_concat_getLast hne
    have := bits_all (n := n) (bs := bs.dropLast) (by rw [List.length_dropLast]; omega)
    refine List.mem_flatMap.mpr ⟨_, this, ?_⟩
    rw [← e]
    cases bs.getLast hne
    · rw [List.dropLast_concat]
      exact List.mem_cons_self
    · rw [List.dropLast_concat]
      exact List.mem_cons_of_mem _ List.mem_cons_self
theorem lessP_go {m : Nat} {p : Prog} {r : Row} (ok : okP m p) (hm : m ≤ r.length) : goR (lessP p m) r = goR p r := by
  rw [lessP_I]
  refine lessI_go ok hm (fun t => ?_)
  unfold allB
  rw [← binRows_bits]
  exact bits_all (thr_len m t r)
/-! ### the three rules -/
def roundRow (m s : Nat) : Prog := (List.range ((m - s) / 2)).map fun i => (s + 2 * i, s + 2 * i + 1)
def roundsOf (m : Nat) : Prog := (List.range m).flatMap fun t => roundRow m (t % 2)
def powL : List Nat := [32, 16, 8, 4, 2, 1]
def powersOf (m : Nat) : List Nat := powL.filter fun p => decide (p < m)
def passL (m part far side : Nat) : Prog := ((List.range (m - far)).filter fun low => decide (low / part % 2 = side)).map fun low => (low, low + far)
def quickIn (m part : Nat) (ps : List Nat) : Prog := ps.flatMap fun power => if power > part then passL m part (power - part) 1 else []
def quickPart (m part : Nat) : Prog := passL m part part 0 ++ quickIn m part (powersOf m)
def quickOf (m : Nat) : Prog := (powersOf m).flatMap (quickPart m)
def ruleP (which m : Nat) : Prog := if which = 0 then stepsOf m else if which = 1 then roundsOf m else quickOf m
def nameR (which : Nat) : Str := if which = 0 then "step" else if which = 1 then "rounds" else "quick"
def noName (s : Str) : Prop := s ≠ "step" ∧ s ≠ "rounds" ∧ s ≠ "quick"
def pwr (k : Nat) : List Nat := (List.range k).map fun i => 2 ^ i
theorem pwr_all : ∀ m : Nat, m < 65 → ∀ k : Nat, k < 7 → m ≤ 2 ^ k → (k = 0 ∨ 2 ^ (k - 1) < m) → (pwr k).reverse = powersOf m := by decide +kernel
theorem pwr_succ (k : Nat) : pwr (k + 1) = pwr k ++ [2 ^ k] := by
  unfold pwr
  rw [List.range_succ, List.map_append]
  rfl
theorem flat_take {α β : Type} (f : α → List β) {l : List α} {i : Nat} {a : α} (h : l[i]? = some a) : (l.take (i + 1)).flatMap f = (l.take i).flatMap f ++ f a := by
  rw [List.take_add_one, h, List.flatMap_append]
  simp
theorem powers_at {m i p : Nat} (h : (powersOf m)[i]? = some p) : 0 < p ∧ p < m ∧ p ≤ 32 := by
  have := List.mem_of_getElem? h
  unfold powersOf at this
  rw [List.mem_filter] at this
  have hp : ∀ q ∈ powL, 0 < q ∧ q ≤ 32 := by decide
  exact ⟨(hp p this.1).1, by simpa using this.2, (hp p this.1).2⟩
theorem powers_len (m : Nat) : (powersOf m).length ≤ 6 := List.length_filter_le _ powL
theorem passL_len (m part far side : Nat) : (passL m part far side).length ≤ m := by
  unfold passL
  rw [List.length_map]
  have := List.length_filter_le (fun low => decide (low / part % 2 = side)) (List.range (m - far))
  rw [List.length_range] at this
  omega
theorem quickIn_len {m part : Nat} : ∀ ps : List Nat, (quickIn m part ps).length ≤ ps.length * m
  | [] => Nat.zero_le _
  | p :: ps => by
    have ih := quickIn_len (m := m) (part := part) ps
    have key : (if p > part then passL m part (p - part) 1 else []).length ≤ m := by
      split
      · exact passL_len m part (p - part) 1
      · exact Nat.zero_le _
    unfold quickIn at ih ⊢
    rw [List.flatMap_cons, List.length_append, List.length_cons, Nat.succ_mul]
    omega
theorem passL_ok {m part far side : Nat} (h0 : 0 < far) : okP m (passL m part far side) := fun c hc => by
  obtain ⟨low, hl, rfl⟩ := List.mem_map.mp hc
  have h1 := List.mem_range.mp (List.mem_filter.mp hl).1
  constructor
  · show low < low + far
    omega
  · show low + far < m
    omega
theorem quickOf_ok (m : Nat) : okP m (quickOf m) := fun c hc => by
  obtain ⟨part, hp, hc⟩ := List.mem_flatMap.mp hc
  have hp0 : 0 < part := by
    unfold powersOf at hp
    have hq : ∀ q ∈ powL, 0 < q := by decide
    exact hq part (List.mem_filter.mp hp).1
  rcases List.mem_append.mp hc with h | h
  · exact passL_ok hp0 c h
  · obtain ⟨power, _, h⟩ := List.mem_flatMap.mp h
    split at h
    · exact passL_ok (by omega) c h
    · cases h
theorem roundsOf_ok (m : Nat) : okP m (roundsOf m) := fun c hc => by
  obtain ⟨t, ht, hc⟩ := List.mem_flatMap.mp hc
  obtain ⟨i, hi, rfl⟩ := List.mem_map.mp hc
  have h1 := List.mem_range.mp hi
  have h2 : t % 2 < 2 := Nat.mod_lt _ (by decide)
  constructor
  · show t % 2 + 2 * i < t % 2 + 2 * i + 1
    omega
  · show t % 2 + 2 * i + 1 < m
    omega
theorem ruleP_ok (which m : Nat) : okP m (ruleP which m) := by
  unfold ruleP
  split
  · exact stepsOf_ok m
  · split
    · exact roundsOf_ok m
    · exact quickOf_ok m
/-! ### how many -/
def mergF : Nat → Nat → Nat → Nat
  | n, a, b => if a = 0 ∨ b = 0 then 0 else if a = 1 ∧ b = 1 then 1 else match n with
    | 0 => 0
    | n + 1 => mergF n ((a + 1) / 2) ((b + 1) / 2) + mergF n (a / 2) (b / 2) + (a + b - 1) / 2
def cntF : Nat → Nat → Nat
  | 0, _ => 0
  | n + 1, m => if m < 2 then 0 else cntF n ((m + 1) / 2) + cntF n (m - (m + 1) / 2) + mergF 6 ((m + 1) / 2) (m - (m + 1) / 2)
def countR (which m : Nat) : Nat := if which < 2 then m * (m - 1) / 2 else cntF 6 m
theorem counts : ∀ m : Nat, m < 41 → (stepsOf m).length = m * (m - 1) / 2 ∧ (roundsOf m).length = m * (m - 1) / 2 ∧ (quickOf m).length = cntF 6 m := by decide +kernel
theorem rule_len {which m : Nat} (h : m < 41) : (ruleP which m).length = countR which m := by
  obtain ⟨h1, h2, h3⟩ := counts m h
  unfold ruleP countR
  by_cases e0 : which = 0
  · rw [if_pos e0, if_pos (by omega), h1]
  · rw [if_neg e0]
    by_cases e1 : which = 1
    · rw [if_pos e1, if_pos (by omega), h2]
    · rw [if_neg e1, if_neg (by omega), h3]
theorem rg2 : ∀ m : Nat, m < 41 → ∀ s : Nat, s < 2 → (2 : Int) ≠ 0 ∧ (2 : Int).natAbs < 1073741824 ∧ Builtin.Range.small (s : Int) ((m : Int) - 1) 2 = true ∧ Builtin.Range.rangeSize (s : Int) ((m : Int) - 1) 2 = (((m - s) / 2 : Nat) : Int) := by decide +kernel
theorem flat_succ2 (f : Nat → Prog) (m : Nat) : (List.range (m + 1)).flatMap f = (List.range m).flatMap f ++ f m := by
  rw [List.range_succ, List.flatMap_append]
  simp
theorem roundRow_len (m s : Nat) : (roundRow m s).length = (m - s) / 2 := by simp [roundRow]
theorem roundRow_take {m s i : Nat} (h : i < (m - s) / 2) : (roundRow m s).take (i + 1) = (roundRow m s).take i ++ [(s + 2 * i, s + 2 * i + 1)] := by
  rw [List.take_add_one]
  congr 1
  unfold roundRow
  rw [List.getElem?_map, List.getElem?_range h]
  rfl
theorem rounds_len (m : Nat) : ∀ n, ((List.range n).flatMap fun t => roundRow m (t % 2)).length ≤ n * m
  | 0 => Nat.zero_le _
  | n + 1 => by
    have := rounds_len m n
    rw [flat_succ2, List.length_append, roundRow_len, Nat.succ_mul]
    omega
def sp_by_steps (K : PySem.W.Frag) : Sp := fun vs H Q _ => ∃ m : Nat, vs = [.int m] ∧ m ≤ 100 ∧ NewP K H (stepsOf m) Q
def t_by_steps (K : PySem.W.Frag) : TS := (tSeq (tAsg (tLst tNil) (gName 1))
    (tSeq (tFor (iRng2 (tCons (tC (.int 1)) (tCons (tVar 0) tNil))) (gName 2) (tFor (iRng3 (tCons (tOp oSub (tVar 2) (tC (.int 1))) (tCons (tUn uNeg (tC (.int 1))) (tCons (tUn uNeg (tC (.int 1))) tNil)))) (gName 3) (tDrop (tBM K "list" rAppend (tVar 1) (tCons (tTup (tCons (tVar 3) (tCons (tOp oAdd (tVar 3) (tC (.int 1))) tNil))) tNil)))))
    (tRet (tVar 1))))
abbrev n_by_steps : List Str := ["places", "found", "last", "low"]
section
variable {K : PySem.W.Frag} {vs : List V} {H : Hp} {Q : VK} {E : XK}
theorem len_by_steps (h : sp_by_steps K vs H Q E) : vs.length = 1 := by
  obtain ⟨m, rfl, _⟩ := h
  rfl
theorem rd_by_steps (h : sp_by_steps K vs H Q E) : t_by_steps K { nx := fun _ H' => Q .non H', rt := Q } (start n_by_steps vs) H := by
  obtain ⟨m, rfl, hm, q⟩ := h
  show t_by_steps K ⟨_, _, _, _⟩ [some (.int m), none, none, none] H
  unfold t_by_steps
  walk_at "go"
  refine newL (by simp) (fun f H1 nf s1 af => ?_)
  walk_at "go"
  refine st_r2 (m - 1) (by omega) (by omega) (by omega) ?_
  refine loop_r (fun i σ' H' => Same H H' ∧ (∃ xs, At H' f (.lst xs) ∧ ImAll K H' xs (((List.range i).flatMap stepRow).map dC)) ∧ ∃ a b, σ' = [some (.int m), some (.ref f), a, b]) ⟨s1, ⟨[], af, .nil⟩, none, none, rfl⟩ (fun l σ' H' hl w => ?_) (fun σ' H' w => ?_)
  · obtain ⟨s, ⟨xs, af, xf⟩, a, b, rfl⟩ := w
    walk_at "go"
    refine st_r3 (l + 1) (by
      have := RgC.neg (i := 1 + (l : Int) - 1) (j := -1) (by omega) (by omega) (by decide) (by decide)
      rw [show (1 + (l : Int) - 1 - -1).toNat = l + 1 by omega] at this
      exact this) ?_
    refine loop_c (fun j σ' H' => Same H H' ∧ (∃ xs, At H' f (.lst xs) ∧ ImAll K H' xs (((List.range l).flatMap stepRow ++ (stepRow l).take j).map dC)) ∧ ∃ b, σ' = [some (.int m), some (.ref f), some (.int (1 + (l : Int))), b]) ⟨s, ⟨xs, af, by simpa using xf⟩, b, rfl⟩ (fun j σ' H' hj w => ?_) (fun σ' H' w => ?_)
    · obtain ⟨s, ⟨xs, af, xf⟩, b, rfl⟩ := w
      walk_at "go"
      refine st_tyL af ?_
      walk_at "go"
      refine newI (K := K) (.cons (.int _) (.cons (.int _) .nil)) (by simp) (fun w2 H2 s2 i2 => ?_)
      walk_at "go"
      have zl := xf.length
      have hlen : xs.length ≤ 100000 := by
        rw [zl, List.length_map, List.length_append, List.length_take, stepRow_len]
        rcases steps_len l with h | h <;> omega
      refine st_app (same_at s2 af) (by omega) (fun H3 b3 a3 => ?_)
      refine ⟨same_bx (s.trans s2) b3 nf, ⟨_, a3, ?_⟩, _, rfl⟩
      rw [stepRow_take hj, ← List.append_assoc, List.map_append]
      have ec : (PyData.tuple [.int (1 + (l : Int) - 1 + (j : Nat) * -1), .int (1 + (l : Int) - 1 + (j : Nat) * -1 + 1)]) = dC (l - j, l + 1 - j) := by
        unfold dC
        congr 2
        · congr 1
          show _ = ((l - j : Nat) : Int)
          omega
        · congr 2
          show _ = ((l + 1 - j : Nat) : Int)
          omega
      rw [ec] at i2
      exact ((xf.same s2).tx (bx_tx b3)).append (.cons (i2.tx (bx_tx b3)) .nil)
    · obtain ⟨s, ⟨xs, af, xf⟩, b, rfl⟩ := w
      refine ⟨s, ⟨xs, af, ?_⟩, _, _, rfl⟩
      rw [List.take_of_length_le (by rw [stepRow_len]; exact Nat.le_refl _)] at xf
      rw [flat_succ]
      exact xf
  · obtain ⟨s, ⟨xs, af, xf⟩, a, b, rfl⟩ := w
    walk_at "go"
    exact q f H' xs s nf af xf
end
def sp_by_rounds (K : PySem.W.Frag) : Sp := fun vs H Q _ => ∃ m : Nat, vs = [.int m] ∧ m ≤ 40 ∧ NewP K H (roundsOf m) Q
theorem dC_low (s i : Nat) : (PyData.tuple [.int ((s : Int) + (i : Nat) * 2), .int ((s : Int) + (i : Nat) * 2 + 1)]) = dC (s + 2 * i, s + 2 * i + 1) := by
  unfold dC
  congr 2
  · congr 1
    show _ = ((s + 2 * i : Nat) : Int)
    omega
  · congr 2
    show _ = ((s + 2 * i + 1 : Nat) : Int)
    omega
def t_by_rounds (K : PySem.W.Frag) : TS := (tSeq (tAsg (tLst tNil) (gName 1))
    (tSeq (tFor (iRng1 (tCons (tVar 0) tNil)) (gName 2) (tFor (iRng3 (tCons (tOp oMod (tVar 2) (tC (.int 2))) (tCons (tOp oSub (tVar 0) (tC (.int 1))) (tCons (tC (.int 2)) tNil)))) (gName 3) (tDrop (tBM K "list" rAppend (tVar 1) (tCons (tTup (tCons (tVar 3) (tCons (tOp oAdd (tVar 3) (tC (.int 1))) tNil))) tNil)))))
    (tRet (tVar 1))))
abbrev n_by_rounds : List Str := ["places", "found", "turn", "low"]
section
variable {K : PySem.W.Frag} {vs : List V} {H : Hp} {Q : VK} {E : XK}
theorem len_by_rounds (h : sp_by_rounds K vs H Q E) : vs.length = 1 := by
  obtain ⟨m, rfl, _⟩ := h
  rfl
theorem rd_by_rounds (h : sp_by_rounds K vs H Q E) : t_by_rounds K { nx := fun _ H' => Q .non H', rt := Q } (start n_by_rounds vs) H := by
  obtain ⟨m, rfl, hm, q⟩ := h
  show t_by_rounds K ⟨_, _, _, _⟩ [some (.int m), none, none, none] H
  unfold t_by_rounds
  walk_at "go"
  refine newL (by simp) (fun f H1 nf s1 af => ?_)
  walk_at "go"
  refine st_r1 m rfl (by omega) ?_
  refine loop_r0 (fun i σ' H' => Same H H' ∧ (∃ xs, At H' f (.lst xs) ∧ ImAll K H' xs (((List.range i).flatMap fun t => roundRow m (t % 2)).map dC)) ∧ ∃ a b, σ' = [some (.int m), some (.ref f), a, b]) ⟨s1, ⟨[], af, .nil⟩, none, none, rfl⟩ (fun t σ' H' ht w => ?_) (fun σ' H' w => ?_)
  · obtain ⟨s, ⟨xs, af, xf⟩, a, b, rfl⟩ := w
    have hlr := rounds_len m t
    have htm : t * m ≤ 40 * 40 := Nat.mul_le_mul (by omega) hm
    walk_at "go"
    obtain ⟨z, ez, hz⟩ : ∃ z : Nat, z = t % 2 ∧ z < 2 := ⟨_, rfl, Nat.mod_lt _ (by decide)⟩
    rw [show (t : Int) % 2 = (z : Int) by omega]
    refine st_r3 ((m - z) / 2) (rg2 m (by omega) z hz) ?_
    refine loop_c (fun j σ' H' => Same H H' ∧ (∃ xs, At H' f (.lst xs) ∧ ImAll K H' xs (((List.range t).flatMap (fun t => roundRow m (t % 2)) ++ (roundRow m z).take j).map dC)) ∧ ∃ b, σ' = [some (.int m), some (.ref f), some (.int (t : Nat)), b]) ⟨s, ⟨xs, af, by simpa using xf⟩, b, rfl⟩ (fun j σ' H' hj w => ?_) (fun σ' H' w => ?_)
    · obtain ⟨s, ⟨xs, af, xf⟩, b, rfl⟩ := w
      walk_at "go"
      refine st_tyL af ?_
      walk_at "go"
      refine newI (K := K) (.cons (.int _) (.cons (.int _) .nil)) (by simp) (fun w2 H2 s2 i2 => ?_)
      walk_at "go"
      have zl := xf.length
      have hlen : xs.length ≤ 100000 := by
        rw [zl, List.length_map, List.length_append, List.length_take, roundRow_len]
        omega
      refine st_app (same_at s2 af) (by omega) (fun H3 b3 a3 => ?_)
      refine ⟨same_bx (s.trans s2) b3 nf, ⟨_, a3, ?_⟩, _, rfl⟩
      rw [roundRow_take hj, ← List.append_assoc, List.map_append]
      rw [dC_low] at i2
      exact ((xf.same s2).tx (bx_tx b3)).append (.cons (i2.tx (bx_tx b3)) .nil)
    · obtain ⟨s, ⟨xs, af, xf⟩, b, rfl⟩ := w
      refine ⟨s, ⟨xs, af, ?_⟩, _, _, rfl⟩
      rw [List.take_of_length_le (by rw [roundRow_len]; exact Nat.le_refl _), ez] at xf
      rw [flat_succ2]
      exact xf
  · obtain ⟨s, ⟨xs, af, xf⟩, a, b, rfl⟩ := w
    walk_at "go"
    exact q f H' xs s nf af xf
end
def sp_halves (K : PySem.W.Frag) : Sp := fun vs H Q _ => ∃ m : Nat, vs = [.int m] ∧ m ≤ 64 ∧ ∀ l H', Same H H' → Fr H l → At H' l (.lst (nV (powersOf m))) → Q (.ref l) H'
def t_halves (K : PySem.W.Frag) : TS := (tSeq (tAsg (tLst tNil) (gName 1))
    (tSeq (tAsg (tC (.int 1)) (gName 2))
    (tSeq (tWhile (tTest (tOp oLt (tVar 2) (tVar 0))) (tSeq (tDrop (tBM K "list" rAppend (tVar 1) (tCons (tVar 2) tNil)))
    (tAsg (tOp oMul (tC (.int 2)) (tVar 2)) (gName 2))))
    (tRet (tRevL K (tVar 1))))))
abbrev n_halves : List Str := ["places", "found", "power"]
section
variable {K : PySem.W.Frag} {vs : List V} {H : Hp} {Q : VK} {E : XK}
theorem len_halves (h : sp_halves K vs H Q E) : vs.length = 1 := by
  obtain ⟨m, rfl, _⟩ := h
  rfl
theorem rd_halves (h : sp_halves K vs H Q E) : t_halves K { nx := fun _ H' => Q .non H', rt := Q } (start n_halves vs) H := by
  obtain ⟨m, rfl, hm, q⟩ := h
  show t_halves K ⟨_, _, _, _⟩ [some (.int m), none, none] H
  unfold t_halves
  walk_at "go"
  refine newL (by simp) (fun f H1 nf s1 af => ?_)
  walk_at "go"
  refine st_while (fun j σ' H' => Same H H' ∧ ∃ k : Nat, k < 7 ∧ (k = 0 ∨ 2 ^ (k - 1) < m) ∧ j = m - 2 ^ k ∧ At H' f (.lst (nV (pwr k))) ∧ σ' = [some (.int m), some (.ref f), some (.int (2 ^ k : Nat))]) (m - 2 ^ 0) ⟨s1, 0, by decide, .inl rfl, rfl, af, rfl⟩ (fun j σ' H' w => ?_)
  obtain ⟨s, k, hk, hk1, rfl, af, rfl⟩ := w
  have hp0 : 0 < 2 ^ k := Nat.two_pow_pos k
  walk_at "go"
  refine st_y2 (fun h => ?_) (fun h => ?_)
  · have hlt : 2 ^ k < m := by omega
    have hk6 : k < 6 := by
      rcases Nat.lt_or_ge k 6 with z | z
      · exact z
      · have : 2 ^ 6 ≤ 2 ^ k := Nat.pow_le_pow_right (by decide) z
        have e : (2 : Nat) ^ 6 = 64 := by decide
        omega
    refine st_turn ?_
    walk_at "go"
    refine st_tyL af ?_
    walk_at "go"
    refine st_app af (by rw [nV_len]; simp [pwr]; omega) (fun H2 b2 a2 => ?_)
    walk_at "go"
    have e2 : 2 ^ (k + 1) = 2 * 2 ^ k := by rw [Nat.pow_succ, Nat.mul_comm]
    refine ⟨m - 2 ^ (k + 1), by omega, same_bx s b2 nf, k + 1, by omega, .inr (by rw [Nat.add_sub_cancel]; exact hlt), rfl, ?_, ?_⟩
    · rw [pwr_succ, nV_app]
      exact a2
    · rw [e2]
      rfl
  · walk_at "go"
    refine st_revL (at_seq af) (fun l H2 nl s2 a2 => ?_)
    refine q l H2 (s.trans s2) (same_none s nl) ?_
    rw [← pwr_all m (by omega) k hk (by omega) hk1]
    rw [show nV (pwr k).reverse = (nV (pwr k)).reverse by unfold nV; rw [List.map_reverse]]
    exact a2
end
def sp_passed (K : PySem.W.Frag) : Sp := fun vs H Q _ => ∃ m part far side : Nat, vs = [.int m, .int part, .int far, .int side] ∧ m ≤ 64 ∧ 0 < part ∧ part ≤ 64 ∧ far ≤ m ∧ NewP K H (passL m part far side) Q
def t_passed (K : PySem.W.Frag) : TS := (tRet (tLc (iRng1 (tCons (tOp oSub (tVar 0) (tVar 2)) tNil)) (gName 4) (tTest (tOp rEq (tOp oMod (tOp oDiv (tVar 4) (tVar 1)) (tC (.int 2))) (tVar 3))) (tTup (tCons (tVar 4) (tCons (tOp oAdd (tVar 4) (tVar 2)) tNil))) [4]))
abbrev n_passed : List Str := ["places", "part", "far", "side", "low"]
section
variable {K : PySem.W.Frag} {vs : List V} {H : Hp} {Q : VK} {E : XK}
theorem len_passed (h : sp_passed K vs H Q E) : vs.length = 4 := by
  obtain ⟨m, p, f, s, rfl, _⟩ := h
  rfl
theorem rd_passed (h : sp_passed K vs H Q E) : t_passed K { nx := fun _ H' => Q .non H', rt := Q } (start n_passed vs) H := by
  obtain ⟨m, part, far, side, rfl, hm, hp, hp2, hf, q⟩ := h
  show t_passed K ⟨_, _, _, _⟩ [some (.int m), some (.int part), some (.int far), some (.int side), none] H
  unfold t_passed
  walk_at "go"
  refine st_r1 (m - far) (by omega) (by omega) ?_
  refine lc_r0 (K := K) (σw := [some (.int m), some (.int part), some (.int far), some (.int side), none]) (fun low => decide (low / part % 2 = side)) (fun low => dC (low, low + far)) rfl (by omega) (fun low H1 hl s1 CT CF kT kF => ?_) (fun p H1 xs n1 s1 a1 x1 => ?_)
  · walk_at "go"
    refine ⟨rfl, ?_⟩
    walk_at "go"
    have e : ((low : Int) / (part : Int) % 2 = (side : Int)) ↔ low / part % 2 = side := by
      rw [show (low : Int) / (part : Int) % 2 = ((low / part % 2 : Nat) : Int) by rw [Int.natCast_emod, Int.natCast_ediv]; rfl]
      omega
    refine st_y2 (fun h => ?_) (fun h => ?_)
    · walk_at "go"
      refine newI (K := K) (.cons (.int _) (.cons (.int _) .nil)) (by simp) (fun w2 H2 s2 i2 => ?_)
      exact kT (decide_eq_true (e.mp h)) _ _ s2 i2
    · walk_at "go"
      exact kF (decide_eq_false (fun z => h (e.mpr z))) _ (Same.refl _)
  · refine q p H1 xs s1 n1 a1 ?_
    rw [show (passL m part far side).map dC = given (m - far) (fun low => decide (low / part % 2 = side)) (fun low => dC (low, low + far)) by unfold passL given; rw [List.map_map]; rfl]
    exact x1
end
def sp_by_merging (K : PySem.W.Frag) : Sp := fun vs H Q _ => ∃ m : Nat, vs = [.int m] ∧ m ≤ 64 ∧ NewP K H (quickOf m) Q
theorem nV_get {l : List Nat} {i : Nat} {x : V} (h : (nV l)[i]? = some x) : ∃ k, l[i]? = some k ∧ x = .int (k : Nat) := by
  unfold nV at h
  rw [List.getElem?_map] at h
  obtain ⟨k, hk, rfl⟩ := Option.map_eq_some_iff.mp h
  exact ⟨k, hk, rfl⟩
theorem quickPart_len (m part : Nat) : (quickPart m part).length ≤ 7 * m := by
  unfold quickPart
  rw [List.length_append]
  have h1 := passL_len m part part 0
  have h2 := quickIn_len (m := m) (part := part) (powersOf m)
  have h3 : (powersOf m).length * m ≤ 6 * m := Nat.mul_le_mul (powers_len m) (Nat.le_refl m)
  omega
theorem quick_len (m : Nat) : ∀ l : List Nat, (l.flatMap (quickPart m)).length ≤ l.length * (7 * m)
  | [] => Nat.zero_le _
  | p :: l => by
    have ih := quick_len m l
    have := quickPart_len m p
    rw [List.flatMap_cons, List.length_append, List.length_cons, Nat.succ_mul]
    omega
theorem quickIn_take {m part i power : Nat} {ps : List Nat} (h : ps[i]? = some power) : quickIn m part (ps.take (i + 1)) = quickIn m part (ps.take i) ++ (if power > part then passL m part (power - part) 1 else []) := flat_take _ h
def t_by_merging (K : PySem.W.Frag) : TS := (tSeq (tAsg (tLst tNil) (gName 1))
    (tSeq (tAsg (tCall (sp_halves K) [] E0 (tCons (tVar 0) tNil)) (gName 2))
    (tSeq (tFor (iList K (tVar 2)) (gName 3) (tSeq (tDrop (tBM K "list" rExtend (tVar 1) (tCons (tCall (sp_passed K) [] E0 (tCons (tVar 0) (tCons (tVar 3) (tCons (tVar 3) (tCons (tC (.int 0)) tNil))))) tNil)))
    (tFor (iList K (tVar 2)) (gName 4) (tIfS (tTest (tOp oGt (tVar 4) (tVar 3))) (tDrop (tBM K "list" rExtend (tVar 1) (tCons (tCall (sp_passed K) [] E0 (tCons (tVar 0) (tCons (tVar 3) (tCons (tOp oSub (tVar 4) (tVar 3)) (tCons (tC (.int 1)) tNil))))) tNil))) tNext))))
    (tRet (tVar 1)))))
abbrev n_by_merging : List Str := ["places", "found", "powers", "part", "power"]
section
variable {K : PySem.W.Frag} {vs : List V} {H : Hp} {Q : VK} {E : XK}
theorem len_by_merging (h : sp_by_merging K vs H Q E) : vs.length = 1 := by
  obtain ⟨m, rfl, _⟩ := h
  rfl
theorem rd_by_merging (h : sp_by_merging K vs H Q E) : t_by_merging K { nx := fun _ H' => Q .non H', rt := Q } (start n_by_merging vs) H := by
  obtain ⟨m, rfl, hm, q⟩ := h
  show t_by_merging K ⟨_, _, _, _⟩ [some (.int m), none, none, none, none] H
  unfold t_by_merging
  walk_at "go"
  refine newL (by simp) (fun f H1 nf s1 af => ?_)
  walk_at "go"
  refine ⟨m, rfl, hm, fun l H2 s2 nl al => ?_⟩
  have nfl : l ≠ f := fun e => by
    subst e
    exact nomatch (nl.symm.trans af)
  walk_at "go"
  refine loop_l (K := K) (at_seq al) (fun i σ' H' => Same H H' ∧ At H' l (.lst (nV (powersOf m))) ∧ (∃ xs, At H' f (.lst xs) ∧ ImAll K H' xs ((((powersOf m).take i).flatMap (quickPart m)).map dC)) ∧ ∃ a b, σ' = [some (.int m), some (.ref f), some (.ref l), a, b]) ⟨s1.trans s2, al, ⟨[], same_at s2 af, .nil⟩, none, none, rfl⟩ (fun i σ' H' w => at_seq w.2.1) (fun i x σ' H' hx w => ?_) (fun σ' H' w => ?_)
  · obtain ⟨s, al, ⟨xs, af, xf⟩, a, b, rfl⟩ := w
    obtain ⟨part, hpart, rfl⟩ := nV_get hx
    obtain ⟨hp0, hpm, hp32⟩ := powers_at hpart
    have hql := quick_len m ((powersOf m).take i)
    have hti : ((powersOf m).take i).length * (7 * m) ≤ 6 * (7 * 64) := Nat.mul_le_mul (by rw [List.length_take]; have := powers_len m; omega) (by omega)
    have lx := xf.length
    rw [List.length_map] at lx
    walk_at "go"
    refine st_tyL af ?_
    walk_at "go"
    refine ⟨m, part, part, 0, rfl, hm, hp0, by omega, by omega, fun g H3 ys s3 ng ag yf => ?_⟩
    have ly := yf.length
    rw [List.length_map] at ly
    have hpl := passL_len m part part 0
    walk_at "go"
    refine st_extL (same_at s3 af) ag (by omega) (fun H4 b4 a4 => ?_)
    have al4 := (at_bx b4 (same_at s3 al)).resolve_left nfl
    have x4 := ((xf.same s3).append yf).tx (bx_tx b4)
    have s4 := same_bx (s.trans s3) b4 nf
    walk_at "go"
    refine loop_l (K := K) (at_seq al4) (fun j σ' H' => Same H H' ∧ At H' l (.lst (nV (powersOf m))) ∧ (∃ xs, At H' f (.lst xs) ∧ ImAll K H' xs ((((powersOf m).take i).flatMap (quickPart m) ++ passL m part part 0 ++ quickIn m part ((powersOf m).take j)).map dC)) ∧ ∃ b, σ' = [some (.int m), some (.ref f), some (.ref l), some (.int (part : Nat)), b]) ⟨s4, al4, ⟨_, a4, by rw [show quickIn m part ((powersOf m).take 0) = [] from rfl, List.append_nil, List.map_append]; exact x4⟩, b, rfl⟩ (fun j σ' H' w => at_seq w.2.1) (fun j x σ' H' hx2 w => ?_) (fun σ' H' w => ?_)
    · obtain ⟨s5, al5, ⟨zs, af5, zf⟩, b, rfl⟩ := w
      obtain ⟨power, hpower, rfl⟩ := nV_get hx2
      obtain ⟨hq0, hqm, hq32⟩ := powers_at hpower
      have lz := zf.length
      rw [List.length_map, List.length_append, List.length_append] at lz
      have hqi := quickIn_len (m := m) (part := part) ((powersOf m).take j)
      have htj : ((powersOf m).take j).length * m ≤ 6 * 64 := Nat.mul_le_mul (by rw [List.length_take]; have := powers_len m; omega) hm
      have et := quickIn_take (m := m) (part := part) hpower
      walk_at "go"
      refine st_y2 (fun hgt => ?_) (fun hgt => ?_)
      · rw [if_pos (by omega)] at et
        walk_at "go"
        refine st_tyL af5 ?_
        walk_at "go"
        rw [show (power : Int) - (part : Int) = ((power - part : Nat) : Int) by omega]
        refine ⟨m, part, power - part, 1, rfl, hm, hp0, by omega, by omega, fun g6 H6 ys6 s6 ng6 ag6 yf6 => ?_⟩
        have ly6 := yf6.length
        rw [List.length_map] at ly6
        have hpl6 := passL_len m part (power - part) 1
        walk_at "go"
        refine st_extL (same_at s6 af5) ag6 (by omega) (fun H7 b7 a7 => ?_)
        refine ⟨same_bx (s5.trans s6) b7 nf, (at_bx b7 (same_at s6 al5)).resolve_left nfl, ⟨_, a7, ?_⟩, _, rfl⟩
        rw [et, ← List.append_assoc, List.map_append]
        exact ((zf.same s6).append yf6).tx (bx_tx b7)
      · rw [if_neg (by omega), List.append_nil] at et
        walk_at "go"
        refine ⟨s5, al5, ⟨zs, af5, ?_⟩, _, rfl⟩
        rw [et]
        exact zf
    · obtain ⟨s5, al5, ⟨zs, af5, zf⟩, b, rfl⟩ := w
      refine ⟨s5, al5, ⟨zs, af5, ?_⟩, _, _, rfl⟩
      rw [nV_len, List.take_length] at zf
      rw [flat_take _ hpart]
      unfold quickPart
      rw [← List.append_assoc]
      exact zf
  · obtain ⟨s, al, ⟨xs, af, xf⟩, a, b, rfl⟩ := w
    rw [nV_len, List.take_length] at xf
    walk_at "go"
    exact q f H' xs s nf af xf
end
def lv_merging (n : Nat) : Sp := fun vs H Q _ => ∃ a b : Nat, vs = [.int a, .int b] ∧ a ≤ 2 ^ n ∧ b ≤ 2 ^ n ∧ Q (.int (mergF n a b : Nat)) H
def sp_merging (_ : PySem.W.Frag) : Sp := lv_merging 6
theorem mergF_zero {n a b : Nat} (h : a = 0 ∨ b = 0) : mergF n a b = 0 := by
  unfold mergF
  rw [if_pos h]
theorem mergF_one {n : Nat} : mergF n 1 1 = 1 := by
  unfold mergF
  rw [if_neg (by decide), if_pos (by decide)]
theorem mergF_more {n a b : Nat} (h : ¬ (a = 0 ∨ b = 0)) (h1 : ¬ (a = 1 ∧ b = 1)) : mergF (n + 1) a b = mergF n ((a + 1) / 2) ((b + 1) / 2) + mergF n (a / 2) (b / 2) + (a + b - 1) / 2 := by
  rw [mergF, if_neg h, if_neg h1]
def t_merging (K : PySem.W.Frag) (S : Sp) : TS := (tSeq (tIfS (tOr (tTest (tOp rEq (tVar 0) (tC (.int 0)))) (tTest (tOp rEq (tVar 1) (tC (.int 0))))) (tRet (tC (.int 0))) tNext)
    (tSeq (tIfS (tAnd (tTest (tOp rEq (tVar 0) (tC (.int 1)))) (tTest (tOp rEq (tVar 1) (tC (.int 1))))) (tRet (tC (.int 1))) tNext)
    (tSeq (tAsg (tCall S [] E0 (tCons (tOp oDiv (tOp oAdd (tVar 0) (tC (.int 1))) (tC (.int 2))) (tCons (tOp oDiv (tOp oAdd (tVar 1) (tC (.int 1))) (tC (.int 2))) tNil))) (gName 2))
    (tRet (tOp oAdd (tOp oAdd (tVar 2) (tCall S [] E0 (tCons (tOp oDiv (tVar 0) (tC (.int 2))) (tCons (tOp oDiv (tVar 1) (tC (.int 2))) tNil)))) (tOp oDiv (tOp oSub (tOp oAdd (tVar 0) (tVar 1)) (tC (.int 1))) (tC (.int 2))))))))
abbrev n_merging : List Str := ["one", "other", "even"]
section
variable {K : PySem.W.Frag} {vs : List V} {H : Hp} {Q : VK} {E : XK}
theorem ll_merging (n : Nat) (h : lv_merging n vs H Q E) : vs.length = 2 := by
  obtain ⟨a, b, rfl, _⟩ := h
  rfl
theorem r0_merging (h : lv_merging 0 vs H Q E) : t_merging K (fun _ _ _ _ => False) { nx := fun _ H' => Q .non H', rt := Q } (start n_merging vs) H := by
  obtain ⟨a, b, rfl, ha, hb, q⟩ := h
  show t_merging K _ ⟨_, _, _, _⟩ [some (.int a), some (.int b), none] H
  unfold t_merging
  have e1 : (2 : Nat) ^ 0 = 1 := rfl
  walk_at "go"
  refine st_y2 (fun h0 => ?_) (fun h0 => ?_)
  · walk_at "go"
    rw [mergF_zero (.inl (by omega))] at q
    exact q
  · walk_at "go"
    refine st_y2 (fun h1 => ?_) (fun h1 => ?_)
    · walk_at "go"
      rw [mergF_zero (.inr (by omega))] at q
      exact q
    · have ea : a = 1 := by omega
      have eb : b = 1 := by omega
      subst ea eb
      walk_at "go"
      rw [mergF_one] at q
      exact q
theorem rs_merging (n : Nat) (h : lv_merging (n + 1) vs H Q E) : t_merging K (lv_merging n) { nx := fun _ H' => Q .non H', rt := Q } (start n_merging vs) H := by
  obtain ⟨a, b, rfl, ha, hb, q⟩ := h
  show t_merging K _ ⟨_, _, _, _⟩ [some (.int a), some (.int b), none] H
  unfold t_merging
  have e2 : (2 : Nat) ^ (n + 1) = 2 * 2 ^ n := by rw [Nat.pow_succ, Nat.mul_comm]
  -- behind the two tests
  have key : ¬ (a = 0 ∨ b = 0) → ¬ (a = 1 ∧ b = 1) → tSeq (tAsg (tCall (lv_merging n) [] E0 (tCons (tOp oDiv (tOp oAdd (tVar 0) (tC (.int 1))) (tC (.int 2))) (tCons (tOp oDiv (tOp oAdd (tVar 1) (tC (.int 1))) (tC (.int 2))) tNil))) (gName 2))
      (tRet (tOp oAdd (tOp oAdd (tVar 2) (tCall (lv_merging n) [] E0 (tCons (tOp oDiv (tVar 0) (tC (.int 2))) (tCons (tOp oDiv (tVar 1) (tC (.int 2))) tNil)))) (tOp oDiv (tOp oSub (tOp oAdd (tVar 0) (tVar 1)) (tC (.int 1))) (tC (.int 2)))))
      ⟨fun _ H' => Q .non H', Q, fun _ _ => False, fun _ _ => False⟩ [some (.int a), some (.int b), none] H := fun h0 h1 => by
    rw [mergF_more h0 h1] at q
    walk_at "go"
    refine ⟨(a + 1) / 2, (b + 1) / 2, ?_, by omega, by omega, ?_⟩
    · rw [show ((a : Int) + 1) / 2 = (((a + 1) / 2 : Nat) : Int) by omega, show ((b : Int) + 1) / 2 = (((b + 1) / 2 : Nat) : Int) by omega]
    walk_at "go"
    refine ⟨a / 2, b / 2, ?_, by omega, by omega, ?_⟩
    · rw [show (a : Int) / 2 = ((a / 2 : Nat) : Int) by omega, show (b : Int) / 2 = ((b / 2 : Nat) : Int) by omega]
    walk_at "go"
    rw [show ((mergF n ((a + 1) / 2) ((b + 1) / 2) : Nat) : Int) + ((mergF n (a / 2) (b / 2) : Nat) : Int) + ((a : Int) + (b : Int) - 1) / 2 = ((mergF n ((a + 1) / 2) ((b + 1) / 2) + mergF n (a / 2) (b / 2) + (a + b - 1) / 2 : Nat) : Int) by
      have : ((a : Int) + (b : Int) - 1) / 2 = (((a + b - 1) / 2 : Nat) : Int) := by omega
      rw [this]
      omega]
    exact q
  walk_at "gt"
  walk_at "go1"
  walk_at "gt"
  refine st_y2 (fun h0 => ?_) (fun h0 => ?_)
  · walk_at "go"
    rw [mergF_zero (.inl (by omega))] at q
    exact q
  · walk_at "gt"
    refine st_y2 (fun h1 => ?_) (fun h1 => ?_)
    · walk_at "go"
      rw [mergF_zero (.inr (by omega))] at q
      exact q
    · walk_at "gt"
      walk_at "go1"
      walk_at "gt"
      refine st_y2 (fun h2 => ?_) (fun h2 => ?_)
      · walk_at "gt"
        refine st_y2 (fun h3 => ?_) (fun h3 => ?_)
        · have ea : a = 1 := by omega
          have eb : b = 1 := by omega
          subst ea eb
          walk_at "go"
          rw [mergF_one] at q
          exact q
        · walk_at "gt"
          exact key (by omega) (by omega)
      · walk_at "gt"
        exact key (by omega) (by omega)
end
theorem name_cases {s : Str} (h : ∃ which, which < 3 ∧ s = nameR which) : s = "step" ∨ s = "rounds" ∨ s = "quick" := by
  obtain ⟨w, hw, rfl⟩ := h
  have : w = 0 ∨ w = 1 ∨ w = 2 := by omega
  rcases this with rfl | rfl | rfl
  · exact .inl rfl
  · exact .inr (.inl rfl)
  · exact .inr (.inr rfl)
theorem ne_sr : ¬ (("step" : Str) = "rounds") := by decide +kernel
theorem ne_sq : ¬ (("step" : Str) = "quick") := by decide +kernel
theorem ne_rs : ¬ (("rounds" : Str) = "step") := by decide +kernel
theorem ne_rq : ¬ (("rounds" : Str) = "quick") := by decide +kernel
theorem ne_qs : ¬ (("quick" : Str) = "step") := by decide +kernel
theorem ne_qr : ¬ (("quick" : Str) = "rounds") := by decide +kernel
/-- a name of none, or one of the three -/
def Named (C : Addr) (H : Hp) (s : Str) (E : XK) (R : Nat → Prop) : Prop := (noName s ∧ E (.ref C) none H) ∨ (s = nameR 0 ∧ R 0) ∨ (s = nameR 1 ∧ R 1) ∨ (s = nameR 2 ∧ R 2)
def sp_made (K : PySem.W.Frag) (C : Addr) : Sp := fun vs H Q E => ∃ s, ∃ m : Nat, vs = [.str s, .int m] ∧ m ≤ 40 ∧ Named C H s E fun which => ∀ w H', Same H H' → Im K H' w (dP (ruleP which m)) → Q w H'
def t_made (K : PySem.W.Frag) (C_NoRule : Addr) (E : XK) : TS := (tSeq (tIfS (tTest (tOp rEq (tVar 0) (tC (.str "step")))) (tRet (tCB (cTup K) (tCons (tCall (sp_by_steps K) [] E0 (tCons (tVar 1) tNil)) tNil))) tNext)
    (tSeq (tIfS (tTest (tOp rEq (tVar 0) (tC (.str "rounds")))) (tRet (tCB (cTup K) (tCons (tCall (sp_by_rounds K) [] E0 (tCons (tVar 1) tNil)) tNil))) tNext)
    (tSeq (tIfS (tTest (tOp rEq (tVar 0) (tC (.str "quick")))) (tRet (tCB (cTup K) (tCons (tCall (sp_by_merging K) [] E0 (tCons (tVar 1) tNil)) tNil))) tNext)
    (tRaiseC C_NoRule E))))
abbrev n_made : List Str := ["rule", "places"]
section
variable {K : PySem.W.Frag} {vs : List V} {H : Hp} {Q : VK} {E : XK}
theorem len_made {C : Addr} (h : sp_made K C vs H Q E) : vs.length = 2 := by
  obtain ⟨s, m, rfl, _⟩ := h
  rfl
theorem rd_made {C : Addr} (h : sp_made K C vs H Q E) : t_made K C E { nx := fun _ H' => Q .non H', rt := Q } (start n_made vs) H := by
  obtain ⟨s, m, rfl, hm, h⟩ := h
  show t_made K C E ⟨_, _, _, _⟩ [some (.str s), some (.int m)] H
  unfold t_made
  walk_at "go"
  rcases h with ⟨⟨n1, n2, n3⟩, qE⟩ | ⟨rfl, q⟩ | ⟨rfl, q⟩ | ⟨rfl, q⟩
  · refine st_yF n1 ?_
    walk_at "go"
    exact qE
  · refine st_yT rfl ?_
    walk_at "go"
    refine ⟨m, rfl, by omega, fun f H1 xs s1 nf af xf => ?_⟩
    walk_at "go"
    refine st_tupI (at_seq af) xf (fun w2 H2 s2 i2 => ?_)
    exact q w2 H2 (s1.trans s2) i2
  · refine st_yF ne_rs ?_
    walk_at "go"
    refine st_yT rfl ?_
    walk_at "go"
    refine ⟨m, rfl, hm, fun f H1 xs s1 nf af xf => ?_⟩
    walk_at "go"
    refine st_tupI (at_seq af) xf (fun w2 H2 s2 i2 => ?_)
    exact q w2 H2 (s1.trans s2) i2
  · refine st_yF ne_qs ?_
    walk_at "go"
    refine st_yF ne_qr ?_
    walk_at "go"
    refine st_yT rfl ?_
    walk_at "go"
    refine ⟨m, rfl, by omega, fun f H1 xs s1 nf af xf => ?_⟩
    walk_at "go"
    refine st_tupI (at_seq af) xf (fun w2 H2 s2 i2 => ?_)
    exact q w2 H2 (s1.trans s2) i2
end
def sp_keeps_by (K : PySem.W.Frag) (C : Addr) : Sp := fun vs H Q E => ∃ s, vs = [.str s] ∧ Named C H s E fun which => Q (.bl (decide (which < 2))) H
def t_keeps_by (K : PySem.W.Frag) (C_NoRule : Addr) (E : XK) : TS := (tSeq (tIfS (tTest (tOp rEq (tVar 0) (tC (.str "quick")))) (tRet (tC (.bl false))) tNext)
    (tSeq (tIfS (tOr (tTest (tOp rEq (tVar 0) (tC (.str "step")))) (tTest (tOp rEq (tVar 0) (tC (.str "rounds"))))) (tRet (tC (.bl true))) tNext)
    (tRaiseC C_NoRule E)))
abbrev n_keeps_by : List Str := ["rule"]
section
variable {K : PySem.W.Frag} {vs : List V} {H : Hp} {Q : VK} {E : XK}
theorem len_keeps_by {C : Addr} (h : sp_keeps_by K C vs H Q E) : vs.length = 1 := by
  obtain ⟨s, rfl, _⟩ := h
  rfl
theorem rd_keeps_by {C : Addr} (h : sp_keeps_by K C vs H Q E) : t_keeps_by K C E { nx := fun _ H' => Q .non H', rt := Q } (start n_keeps_by vs) H := by
  obtain ⟨s, rfl, h⟩ := h
  show t_keeps_by K C E ⟨_, _, _, _⟩ [some (.str s)] H
  unfold t_keeps_by
  walk_at "go"
  rcases h with ⟨⟨n1, n2, n3⟩, qE⟩ | ⟨rfl, q⟩ | ⟨rfl, q⟩ | ⟨rfl, q⟩
  · refine st_yF n3 ?_
    walk_at "go"
    exact qE
  · refine st_yF ne_sq ?_
    walk_at "go"
    refine st_yT rfl ?_
    walk_at "go"
    exact q
  · refine st_yF ne_rq ?_
    walk_at "go"
    refine st_yF ne_rs ?_
    walk_at "go"
    refine st_yT rfl ?_
    walk_at "go"
    exact q
  · refine st_yT rfl ?_
    walk_at "go"
    exact q
end
def cntR (n which m : Nat) : Nat := if which < 2 then m * (m - 1) / 2 else cntF n m
def lv_count_of (C : Addr) (n : Nat) : Sp := fun vs H Q E => ∃ s, ∃ m : Nat, vs = [.str s, .int m] ∧ m ≤ 2 ^ n ∧ m ≤ 64 ∧ Named C H s E fun which => Q (.int (cntR n which m : Nat)) H
def sp_count_of (_ : PySem.W.Frag) (C : Addr) : Sp := lv_count_of C 6
theorem half_mul (m : Nat) (h : m ≤ 64) : (m : Int) * ((m : Int) - 1) / 2 = ((m * (m - 1) / 2 : Nat) : Int) := by
  have : ∀ m : Nat, m < 65 → (m : Int) * ((m : Int) - 1) / 2 = ((m * (m - 1) / 2 : Nat) : Int) := by decide +kernel
  exact this m (by omega)
def t_count_of (K : PySem.W.Frag) (C_NoRule : Addr) (S : Sp) (E : XK) : TS := (tSeq (tIfS (tOr (tTest (tOp rEq (tVar 0) (tC (.str "step")))) (tTest (tOp rEq (tVar 0) (tC (.str "rounds"))))) (tRet (tOp oDiv (tOp oMul (tVar 1) (tOp oSub (tVar 1) (tC (.int 1)))) (tC (.int 2)))) tNext)
    (tSeq (tIfS (tTest (tOp rNe (tVar 0) (tC (.str "quick")))) (tRaiseC C_NoRule E) tNext)
    (tSeq (tIfS (tTest (tOp oLt (tVar 1) (tC (.int 2)))) (tRet (tC (.int 0))) tNext)
    (tSeq (tAsg (tOp oDiv (tOp oAdd (tVar 1) (tC (.int 1))) (tC (.int 2))) (gName 2))
    (tRet (tOp oAdd (tOp oAdd (tCall S [] E0 (tCons (tVar 0) (tCons (tVar 2) tNil))) (tCall S [] E0 (tCons (tVar 0) (tCons (tOp oSub (tVar 1) (tVar 2)) tNil)))) (tCall (sp_merging K) [] E0 (tCons (tVar 2) (tCons (tOp oSub (tVar 1) (tVar 2)) tNil)))))))))
abbrev n_count_of : List Str := ["rule", "places", "up"]
section
variable {K : PySem.W.Frag} {vs : List V} {H : Hp} {Q : VK} {E : XK}
theorem ll_count_of {C : Addr} (n : Nat) (h : lv_count_of C n vs H Q E) : vs.length = 2 := by
  obtain ⟨s, m, rfl, _⟩ := h
  rfl
theorem r0_count_of {C : Addr} (h : lv_count_of C 0 vs H Q E) : t_count_of K C (fun _ _ _ _ => False) E { nx := fun _ H' => Q .non H', rt := Q } (start n_count_of vs) H := by
  obtain ⟨s, m, rfl, hm, hm2, h⟩ := h
  show t_count_of K C _ E ⟨_, _, _, _⟩ [some (.str s), some (.int m), none] H
  unfold t_count_of
  have e1 : (2 : Nat) ^ 0 = 1 := rfl
  walk_at "go"
  rcases h with ⟨⟨n1, n2, n3⟩, qE⟩ | ⟨rfl, q⟩ | ⟨rfl, q⟩ | ⟨rfl, q⟩
  · refine st_yF n1 ?_
    walk_at "go"
    exact qE
  · refine st_yT rfl ?_
    walk_at "go"
    rw [half_mul m hm2]
    exact q
  · refine st_yF ne_rs ?_
    walk_at "go"
    refine st_yT rfl ?_
    walk_at "go"
    rw [half_mul m hm2]
    exact q
  · refine st_yF ne_qs ?_
    walk_at "go"
    refine st_yF ne_qr ?_
    walk_at "go"
    refine st_nF rfl ?_
    walk_at "go"
    exact q
theorem rs_count_of {C : Addr} (n : Nat) (h : lv_count_of C (n + 1) vs H Q E) : t_count_of K C (lv_count_of C n) E { nx := fun _ H' => Q .non H', rt := Q } (start n_count_of vs) H := by
  obtain ⟨s, m, rfl, hm, hm2, h⟩ := h
  show t_count_of K C _ E ⟨_, _, _, _⟩ [some (.str s), some (.int m), none] H
  unfold t_count_of
  have e2 : (2 : Nat) ^ (n + 1) = 2 * 2 ^ n := by rw [Nat.pow_succ, Nat.mul_comm]
  walk_at "go"
  rcases h with ⟨⟨n1, n2, n3⟩, qE⟩ | ⟨rfl, q⟩ | ⟨rfl, q⟩ | ⟨rfl, q⟩
  · refine st_yF n1 ?_
    walk_at "go"
    exact qE
  · refine st_yT rfl ?_
    walk_at "go"
    rw [half_mul m hm2]
    exact q
  · refine st_yF ne_rs ?_
    walk_at "go"
    refine st_yT rfl ?_
    walk_at "go"
    rw [half_mul m hm2]
    exact q
  · refine st_yF ne_qs ?_
    walk_at "go"
    refine st_yF ne_qr ?_
    walk_at "go"
    refine st_nF rfl ?_
    walk_at "go"
    have ec : cntR (n + 1) 2 m = if m < 2 then 0 else cntF n ((m + 1) / 2) + cntF n (m - (m + 1) / 2) + mergF 6 ((m + 1) / 2) (m - (m + 1) / 2) := rfl
    rw [ec] at q
    refine st_y2 (fun h2 => ?_) (fun h2 => ?_)
    · rw [if_pos (by omega)] at q
      walk_at "go"
      exact q
    · rw [if_neg (by omega)] at q
      walk_at "go"
      rw [show ((m : Int) + 1) / 2 = (((m + 1) / 2 : Nat) : Int) by omega]
      refine ⟨"quick", (m + 1) / 2, rfl, by omega, by omega, .inr (.inr (.inr ⟨rfl, ?_⟩))⟩
      walk_at "go"
      rw [show (m : Int) - (((m + 1) / 2 : Nat) : Int) = ((m - (m + 1) / 2 : Nat) : Int) by omega]
      refine ⟨"quick", m - (m + 1) / 2, rfl, by omega, by omega, .inr (.inr (.inr ⟨rfl, ?_⟩))⟩
      walk_at "go"
      rw [show (m : Int) - (((m + 1) / 2 : Nat) : Int) = ((m - (m + 1) / 2 : Nat) : Int) by omega]
      have e6 : (2 : Nat) ^ 6 = 64 := by decide
      refine ⟨(m + 1) / 2, m - (m + 1) / 2, rfl, by omega, by omega, ?_⟩
      walk_at "go"
      exact q
end
/-! ### neighbours' compares: a row dominates what it dominated -/
def suf (bs : Bits) (x : Nat) : Nat := (bs.drop x).countP id
theorem suf_end {bs : Bits} {x : Nat} (h : bs.length ≤ x) : suf bs x = 0 := by
  unfold suf
  rw [List.drop_eq_nil_of_le h]
  rfl
theorem suf_at {bs : Bits} {x : Nat} (h : x < bs.length) : suf bs x = (if bget bs x = true then 1 else 0) + suf bs (x + 1) := by
  unfold suf
  rw [List.drop_eq_getElem_cons h, List.countP_cons]
  have e : bget bs x = bs[x] := by simp [bget, List.getD, List.getElem?_eq_getElem h]
  rw [e]
  cases bs[x] <;> simp <;> omega
theorem suf_ext {a b : Bits} (hl : a.length = b.length) : ∀ (d x : Nat), a.length - x = d → (∀ y, x ≤ y → bget a y = bget b y) → suf a x = suf b x
  | 0, x, hd, _ => by rw [suf_end (by omega), suf_end (by omega)]
  | d + 1, x, hd, h => by
    rw [suf_at (bs := a) (x := x) (by omega), suf_at (bs := b) (x := x) (by omega), h x (Nat.le_refl x), suf_ext hl d (x + 1) (by omega) fun y hy => h y (by omega)]
/-- a neighbours' compare -/
theorem suf_step {bs : Bits} {i : Nat} (h : i + 1 < bs.length) (x : Nat) : suf (stepB bs (i, i + 1)) x = if x = i + 1 then min (suf bs i) (suf bs (i + 2) + 1) else suf bs x := by
  have hl : (stepB bs (i, i + 1)).length = bs.length := stepB_len _ _
  have bg : ∀ y, bget (stepB bs (i, i + 1)) y = if i + 1 = y then (bget bs i || bget bs (i + 1)) else if i = y then (bget bs i && bget bs (i + 1)) else bget bs y := fun y => bget_step (c := (i, i + 1)) (by show i < _; omega) h
  have top : ∀ x, i + 2 ≤ x → suf (stepB bs (i, i + 1)) x = suf bs x := fun x hx => suf_ext hl _ x rfl fun y hy => by
    rw [bg, if_neg (by omega), if_neg (by omega)]
  have h1 : suf (stepB bs (i, i + 1)) (i + 1) = (if (bget bs i || bget bs (i + 1)) = true then 1 else 0) + suf bs (i + 2) := by
    rw [suf_at (x := i + 1) (by omega), bg, if_pos rfl, top (i + 2) (Nat.le_refl _)]
  have h0 : suf (stepB bs (i, i + 1)) i = (if (bget bs i && bget bs (i + 1)) = true then 1 else 0) + ((if (bget bs i || bget bs (i + 1)) = true then 1 else 0) + suf bs (i + 2)) := by
    have e : bget (stepB bs (i, i + 1)) i = (bget bs i && bget bs (i + 1)) := by rw [bg, if_neg (by omega), if_pos rfl]
    rw [suf_at (x := i) (by omega), e, h1]
  have b1 : suf bs (i + 1) = (if bget bs (i + 1) = true then 1 else 0) + suf bs (i + 2) := suf_at h
  have b0 : suf bs i = (if bget bs i = true then 1 else 0) + suf bs (i + 1) := suf_at (by omega)
  have same0 : suf (stepB bs (i, i + 1)) i = suf bs i := by
    rw [h0, b0, b1]
    cases bget bs i <;> cases bget bs (i + 1) <;> simp <;> omega
  have low : ∀ (d x : Nat), i - x = d → x ≤ i → suf (stepB bs (i, i + 1)) x = suf bs x := fun d => by
    induction d with
    | zero =>
      intro x hd hx
      rw [show x = i by omega]
      exact same0
    | succ d ih =>
      intro x hd hx
      have e : bget (stepB bs (i, i + 1)) x = bget bs x := by rw [bg, if_neg (by omega), if_neg (by omega)]
      rw [suf_at (bs := stepB bs (i, i + 1)) (x := x) (by omega), suf_at (bs := bs) (x := x) (by omega), e, ih (x + 1) (by omega) (by omega)]
  by_cases e : x = i + 1
  · subst e
    rw [if_pos rfl, h1, b0, b1]
    cases bget bs i <;> cases bget bs (i + 1) <;> simp <;> omega
  · rw [if_neg e]
    by_cases q : x ≤ i
    · exact low _ x rfl q
    · exact top x (by omega)
def nearP (p : Prog) : Prop := ∀ c ∈ p, c.2 = c.1 + 1
def Dom (a b : Bits) : Prop := a.length = b.length ∧ ∀ x, suf b x ≤ suf a x
theorem dom_step {a b : Bits} {c : Cmp} (h : Dom a b) (hc : okC a.length c) (hn : c.2 = c.1 + 1) : Dom (stepB a c) (stepB b c) := by
  obtain ⟨i, j⟩ := c
  have hn : j = i + 1 := hn
  subst hn
  have h2 : i + 1 < a.length := hc.2
  refine ⟨by rw [stepB_len, stepB_len]; exact h.1, fun x => ?_⟩
  rw [suf_step h2, suf_step (by rw [← h.1]; exact h2)]
  have q1 := h.2 i
  have q2 := h.2 (i + 2)
  have q3 := h.2 x
  split <;> omega
theorem dom_go : ∀ {p : Prog} {a b : Bits}, Dom a b → okP a.length p → nearP p → Dom (goB p a) (goB p b)
  | [], _, _, h, _, _ => h
  | c :: p, a, b, h, ok, hn => dom_go (p := p) (dom_step h (ok c List.mem_cons_self) (hn c List.mem_cons_self)) (fun d hd => by rw [stepB_len]; exact ok d (List.mem_cons_of_mem _ hd)) fun d hd => hn d (List.mem_cons_of_mem _ hd)
theorem suf_zero_step {bs : Bits} {c : Cmp} (hc : okC bs.length c) (hn : c.2 = c.1 + 1) : suf (stepB bs c) 0 = suf bs 0 := by
  obtain ⟨i, j⟩ := c
  have hn : j = i + 1 := hn
  subst hn
  rw [suf_step hc.2, if_neg (by omega)]
theorem suf_zero_go : ∀ {p : Prog} {bs : Bits}, okP bs.length p → nearP p → suf (goB p bs) 0 = suf bs 0
  | [], _, _, _ => rfl
  | c :: p, bs, ok, hn => by
    show suf (goB p (stepB bs c)) 0 = _
    rw [suf_zero_go (p := p) (fun d hd => by rw [stepB_len]; exact ok d (List.mem_cons_of_mem _ hd)) fun d hd => hn d (List.mem_cons_of_mem _ hd)]
    exact suf_zero_step (ok c List.mem_cons_self) (hn c List.mem_cons_self)
theorem suf_le (bs : Bits) (x : Nat) : suf bs x ≤ bs.length - x := by
  unfold suf
  have := List.countP_le_length (p := id) (l := bs.drop x)
  rw [List.length_drop] at this
  exact this
theorem suf_mono (bs : Bits) : ∀ x, suf bs (x + 1) ≤ suf bs x ∧ suf bs x ≤ suf bs (x + 1) + 1 := fun x => by
  by_cases h : x < bs.length
  · rw [suf_at h]
    split <;> omega
  · rw [suf_end (by omega), suf_end (by omega)]
    omega
theorem suf_below (bs : Bits) : ∀ x, suf bs 0 ≤ suf bs x + x
  | 0 => Nat.le_refl _
  | x + 1 => by
    have h1 := suf_below bs x
    have h2 := suf_mono bs x
    omega
/-- so many ones, ahead -/
def heavy (m c : Nat) : Bits := (List.range m).map fun i => decide (i < c)
theorem heavy_len (m c : Nat) : (heavy m c).length = m := by simp [heavy]
theorem heavy_at {m c i : Nat} (h : i < m) : bget (heavy m c) i = decide (i < c) := by
  unfold bget heavy List.getD
  rw [List.getElem?_map, List.getElem?_range h]
  rfl
theorem suf_heavy {m c : Nat} (hc : c ≤ m) : ∀ (d x : Nat), m - x = d → suf (heavy m c) x = c - x
  | 0, x, hd => by
    rw [suf_end (by rw [heavy_len]; omega)]
    omega
  | d + 1, x, hd => by
    rw [suf_at (by rw [heavy_len]; omega), heavy_at (by omega), suf_heavy hc d (x + 1) (by omega)]
    by_cases h : x < c
    · rw [decide_eq_true h]
      simp
      omega
    · rw [decide_eq_false h]
      simp
      omega
theorem dom_heavy {m : Nat} {bs : Bits} (hl : bs.length = m) : Dom bs (heavy m (suf bs 0)) := by
  have h0 := suf_le bs 0
  refine ⟨by rw [heavy_len, hl], fun x => ?_⟩
  rw [suf_heavy (by omega) _ x rfl]
  have := suf_below bs x
  omega
/-- a sorted row: the ones behind -/
theorem suf_sorted {bs : Bits} (h : sortedB bs = true) : ∀ (d x : Nat), bs.length - x = d → suf bs x = min (suf bs 0) (bs.length - x) := by
  -- where a place holds one, all behind hold one
  have up : ∀ (d x : Nat), bs.length - x = d → x < bs.length → bget bs x = true → suf bs x = bs.length - x := fun d => by
    induction d with
    | zero => intro x hd hx; omega
    | succ d ih =>
      intro x hd hx hb
      rw [suf_at hx, hb, if_pos rfl]
      by_cases e : x + 1 < bs.length
      · have q := List.all_eq_true.mp h x (List.mem_range.mpr (by omega))
        rw [hb] at q
        have : bget bs (x + 1) = true := by simpa using q
        rw [ih (x + 1) (by omega) e this]
        omega
      · rw [suf_end (by omega)]
        omega
  have main : ∀ x, suf bs x = min (suf bs 0) (bs.length - x) := fun x => by
    induction x with
    | zero =>
      have := suf_le bs 0
      omega
    | succ x ih =>
      by_cases hx : x < bs.length
      · cases hb : bget bs x with
        | true =>
          have e := up _ x rfl hx hb
          have e2 := suf_at hx
          rw [hb, if_pos rfl] at e2
          omega
        | false =>
          have e2 := suf_at hx
          rw [hb, if_neg (by decide)] at e2
          by_cases z : suf bs 0 ≤ bs.length - (x + 1)
          · omega
          · have le := suf_le bs (x + 1)
            omega
      · rw [suf_end (by omega)]
        omega
  exact fun _ x _ => main x
theorem sorted_suf {bs : Bits} (h : ∀ x, suf bs x = min (suf bs 0) (bs.length - x)) : sortedB bs = true := by
  unfold sortedB
  rw [List.all_eq_true]
  intro k hk
  have hk := List.mem_range.mp hk
  cases h1 : bget bs k with
  | false => rfl
  | true =>
    cases h2 : bget bs (k + 1) with
    | true => rfl
    | false =>
      exfalso
      have a := suf_at (bs := bs) (x := k) (by omega)
      have b := suf_at (bs := bs) (x := k + 1) (by omega)
      rw [h1, if_pos rfl] at a
      rw [h2, if_neg (by decide)] at b
      have ha := h k
      have hb := h (k + 1)
      have hc := h (k + 1 + 1)
      omega
/-- a program of neighbours' compares that sorts the rows with the ones ahead sorts all -/
theorem near_sorts {m : Nat} {p : Prog} (ok : okP m p) (hn : nearP p) (h : ∀ c, c ≤ m → sortedB (goB p (heavy m c)) = true) {bs : Bits} (hl : bs.length = m) : sortedB (goB p bs) = true := by
  have h0 := suf_le bs 0
  have hc : suf bs 0 ≤ m := by omega
  have d := dom_go (dom_heavy hl) (by rw [hl]; exact ok) hn
  have z1 := suf_zero_go (p := p) (bs := bs) (by rw [hl]; exact ok) hn
  have z2 := suf_zero_go (p := p) (bs := heavy m (suf bs 0)) (by rw [heavy_len]; exact ok) hn
  have s := suf_sorted (h _ hc)
  have l1 : (goB p bs).length = m := by rw [goB_len, hl]
  have l2 : (goB p (heavy m (suf bs 0))).length = m := by rw [goB_len, heavy_len]
  rw [suf_heavy hc _ 0 rfl, Nat.sub_zero] at z2
  apply sorted_suf
  intro x
  have q1 := d.2 x
  rw [s _ x rfl, z2, l2] at q1
  have q2 := suf_le (goB p bs) x
  have q3 : suf (goB p bs) x ≤ suf (goB p bs) 0 := by
    clear q1 q2
    induction x with
    | zero => exact Nat.le_refl _
    | succ x ih => exact Nat.le_trans (suf_mono _ x).1 ih
  rw [z1, l1] at *
  omega
/-! ### columns of any rows -/
structure ColsN (N m : Nat) (cs : List Nat) (f : Nat → Bits) : Prop where
  len : cs.length = m
  flen : ∀ r, (f r).length = m
  bit : ∀ at_, at_ < m → ∀ r, r < N → (cs.getD at_ 0).testBit r = bget (f r) at_
theorem colsN_step {N m : Nat} {cs : List Nat} {f : Nat → Bits} {c : Cmp} (h : ColsN N m cs f) (hc : okC m c) : ColsN N m (cmpCols cs c) (fun r => stepB (f r) c) := by
  obtain ⟨h1, h2⟩ := hc
  refine ⟨by simp [cmpCols, h.len], fun r => by rw [stepB_len, h.flen], fun at_ ha r hr => ?_⟩
  have l1 : c.1 < m := by omega
  rw [bget_step (by rw [h.flen]; omega) (by rw [h.flen]; omega)]
  unfold cmpCols
  rw [getD_set (by rw [List.length_set, h.len]; omega), getD_set (by rw [h.len]; omega)]
  split
  · rw [Nat.testBit_or, h.bit _ l1 r hr, h.bit _ h2 r hr]
  · split
    · rw [Nat.testBit_and, h.bit _ l1 r hr, h.bit _ h2 r hr]
    · exact h.bit _ ha r hr
theorem colsN_go {N m : Nat} : ∀ {p : Prog} {cs : List Nat} {f : Nat → Bits}, ColsN N m cs f → okP m p → ColsN N m (goCols p cs) (fun r => goB p (f r))
  | [], _, _, h, _ => h
  | c :: p, cs, f, h, hp => colsN_go (p := p) (colsN_step h (hp c List.mem_cons_self)) fun d hd => hp d (List.mem_cons_of_mem _ hd)
def mkBits (f : Nat → Bool) (n : Nat) : Nat := (List.range n).foldl (fun b r => if f r then b ||| 1 <<< r else b) 0
theorem mkBits_bit (f : Nat → Bool) : ∀ n r, (mkBits f n).testBit r = (decide (r < n) && f r)
  | 0, r => by simp [mkBits]
  | n + 1, r => by
    have ih := mkBits_bit f n r
    have e1 : mkBits f (n + 1) = if f n then mkBits f n ||| 1 <<< n else mkBits f n := by
      unfold mkBits
      rw [List.range_succ, List.foldl_append]
      rfl
    rw [e1]
    by_cases e : r = n
    · subst e
      by_cases q : f r = true
      · rw [if_pos q, Nat.testBit_or, shl_bit, q]
        simp
      · rw [if_neg q, ih]
        simp at q
        simp [q]
    · have e2 : (r < n + 1) ↔ (r < n) := by omega
      by_cases q : f n = true
      · rw [if_pos q, Nat.testBit_or, shl_bit, ih]
        simp [e, e2]
      · rw [if_neg q, ih]
        simp [e2]
/-- each column lies within the next but so many -/
def upTo (cs : List Nat) (far n : Nat) : Bool := (List.range n).all fun i => Nat.beq (cs.getD i 0 &&& cs.getD (i + far) 0) (cs.getD i 0)
theorem upTo_bit {cs : List Nat} {far n i r : Nat} (h : upTo cs far n = true) (hi : i < n) (hb : (cs.getD i 0).testBit r = true) : (cs.getD (i + far) 0).testBit r = true := by
  have q := List.all_eq_true.mp h i (List.mem_range.mpr hi)
  have e := Nat.eq_of_beq_eq_true q
  rw [← e, Nat.testBit_and, Bool.and_eq_true] at hb
  exact hb.2
def heavyCols (m : Nat) : List Nat := (List.range m).map fun i => mkBits (fun c => decide (i < c)) (m + 1)
theorem heavyCols_ok (m : Nat) : ColsN (m + 1) m (heavyCols m) (heavy m) := ⟨by simp [heavyCols], heavy_len m, fun at_ h r hr => by
  have e : (heavyCols m).getD at_ 0 = mkBits (fun c => decide (at_ < c)) (m + 1) := by
    unfold heavyCols List.getD
    rw [List.getElem?_map, List.getElem?_range h]
    rfl
  rw [e, mkBits_bit, heavy_at h, decide_eq_true hr, Bool.true_and]⟩
theorem heavy_sorts {m : Nat} {p : Prog} (ok : okP m p) (h : upTo (goCols p (heavyCols m)) 1 (m - 1) = true) : ∀ c, c ≤ m → sortedB (goB p (heavy m c)) = true := fun c hc => by
  have g := colsN_go (heavyCols_ok m) ok
  unfold sortedB
  rw [List.all_eq_true, goB_len, heavy_len]
  intro k hk
  have hk' := List.mem_range.mp hk
  cases h1 : bget (goB p (heavy m c)) k with
  | false => rfl
  | true =>
    have b1 := g.bit k (by omega) c (by omega)
    have b2 := g.bit (k + 1) (by omega) c (by omega)
    rw [h1] at b1
    rw [upTo_bit h hk' b1] at b2
    rw [← b2]
    rfl
theorem near_steps (m : Nat) : nearP (stepsOf m) := fun c hc => by
  obtain ⟨l, _, hc⟩ := List.mem_flatMap.mp hc
  obtain ⟨k, hk, rfl⟩ := List.mem_map.mp hc
  have := List.mem_range.mp hk
  show l + 1 - k = l - k + 1
  omega
theorem near_rounds (m : Nat) : nearP (roundsOf m) := fun c hc => by
  obtain ⟨t, _, hc⟩ := List.mem_flatMap.mp hc
  obtain ⟨i, _, rfl⟩ := List.mem_map.mp hc
  rfl
/-! ### rounds: a turn on columns, pair by pair -/
def pairL : List Nat → List Nat
  | a :: b :: r => (a &&& b) :: (a ||| b) :: pairL r
  | l => l
def roundL : Nat → List Nat → List Nat
  | 0, cs => pairL cs
  | _, [] => []
  | _, a :: r => a :: pairL r
theorem cmp_pre (pre r : List Nat) (a b : Nat) : cmpCols (pre ++ a :: b :: r) (pre.length, pre.length + 1) = pre ++ (a &&& b) :: (a ||| b) :: r := by
  unfold cmpCols
  have e1 : (pre ++ a :: b :: r).getD pre.length 0 = a := by simp [List.getD]
  have e2 : (pre ++ a :: b :: r).getD (pre.length + 1) 0 = b := by simp [List.getD, List.getElem?_append_right]
  rw [e1, e2]
  simp [List.set_append]
theorem pair_go : ∀ (n : Nat) (cs pre : List Nat), cs.length ≤ n → goCols ((List.range (cs.length / 2)).map fun i => (pre.length + 2 * i, pre.length + 2 * i + 1)) (pre ++ cs) = pre ++ pairL cs
  | _, [], pre, _ => by simp [goCols, pairL]
  | _, [a], pre, _ => by simp [goCols, pairL]
  | 0, a :: b :: r, pre, h => by simp at h
  | n + 1, a :: b :: r, pre, h => by
    have el : (a :: b :: r).length / 2 = r.length / 2 + 1 := by
      simp only [List.length_cons]
      omega
    rw [el, List.range_succ_eq_map, List.map_cons, List.map_map]
    show goCols _ (cmpCols (pre ++ a :: b :: r) (pre.length, pre.length + 1)) = _
    rw [cmp_pre]
    have ih := pair_go n r (pre ++ [a &&& b, a ||| b]) (by simp only [List.length_cons] at h; omega)
    rw [List.append_assoc, List.append_assoc] at ih
    have ef : ((fun i => (pre.length + 2 * i, pre.length + 2 * i + 1)) ∘ Nat.succ) = fun i : Nat => ((pre ++ [a &&& b, a ||| b]).length + 2 * i, (pre ++ [a &&& b, a ||| b]).length + 2 * i + 1) := by
      funext i
      simp only [Function.comp, List.length_append, List.length_cons, List.length_nil, Nat.succ_eq_add_one]
      congr 1 <;> omega
    rw [ef]
    exact ih
theorem round_go {m s : Nat} {cs : List Nat} (hs : s < 2) (hl : cs.length = m) : goCols (roundRow m s) cs = roundL s cs := by
  have h2 : s = 0 ∨ s = 1 := by omega
  rcases h2 with rfl | rfl
  · have := pair_go cs.length cs [] (Nat.le_refl _)
    rw [hl] at this
    simpa [roundRow, roundL] using this
  · cases cs with
    | nil =>
      have : m = 0 := by simpa using hl.symm
      subst this
      rfl
    | cons a r =>
      have := pair_go r.length r [a] (Nat.le_refl _)
      have e : (m - 1) / 2 = r.length / 2 := by
        simp only [List.length_cons] at hl
        omega
      unfold roundRow
      rw [e]
      exact this
def turnsL (n : Nat) (cs : List Nat) : List Nat := (List.range n).foldl (fun cs t => roundL (t % 2) cs) cs
theorem pairL_len : ∀ (n : Nat) (cs : List Nat), cs.length ≤ n → (pairL cs).length = cs.length
  | _, [], _ => rfl
  | _, [_], _ => rfl
  | 0, _ :: _ :: _, h => by simp at h
  | n + 1, a :: b :: r, h => by
    have := pairL_len n r (by simp only [List.length_cons] at h; omega)
    show (pairL r).length + 1 + 1 = r.length + 1 + 1
    rw [this]
theorem roundL_len (s : Nat) (cs : List Nat) : (roundL s cs).length = cs.length := by
  cases s with
  | zero => exact pairL_len _ cs (Nat.le_refl _)
  | succ s =>
    cases cs with
    | nil => rfl
    | cons a r =>
      show (pairL r).length + 1 = r.length + 1
      rw [pairL_len _ r (Nat.le_refl _)]
theorem goCols_app (p q : Prog) (cs : List Nat) : goCols (p ++ q) cs = goCols q (goCols p cs) := by
  unfold goCols
  rw [List.foldl_append]
theorem turns_go {m : Nat} {cs : List Nat} (hl : cs.length = m) : ∀ n : Nat, goCols ((List.range n).flatMap fun t => roundRow m (t % 2)) cs = turnsL n cs ∧ (turnsL n cs).length = m
  | 0 => ⟨rfl, hl⟩
  | n + 1 => by
    obtain ⟨h1, h2⟩ := turns_go hl n
    have e : turnsL (n + 1) cs = roundL (n % 2) (turnsL n cs) := by
      unfold turnsL
      rw [List.range_succ, List.foldl_append]
      rfl
    rw [flat_succ2, goCols_app, h1, round_go (Nat.mod_lt _ (by decide)) h2, e]
    exact ⟨rfl, by rw [roundL_len]; exact h2⟩
theorem turn_checks : ∀ m : Nat, m < 41 → upTo (turnsL m (heavyCols m)) 1 (m - 1) = true := by decide +kernel
theorem rounds_sort {m : Nat} (hm : m < 41) {bs : Bits} (hl : bs.length = m) : sortedB (goB (roundsOf m) bs) = true := by
  refine near_sorts (roundsOf_ok m) (near_rounds m) (heavy_sorts (roundsOf_ok m) ?_) hl
  have := (turns_go (m := m) (heavyCols_ok m).len m).1
  unfold roundsOf
  rw [this]
  exact turn_checks m hm
/-! ### step: one more put in its place -/
def upB (bs : Bits) (a b : Nat) : Prop := ∀ i, a ≤ i → i + 1 < b → bget bs i = true → bget bs (i + 1) = true
theorem step_row {m l : Nat} (hl : l + 1 < m) {bs : Bits} (hb : bs.length = m) (h : upB bs 0 (l + 1)) : upB (goB (stepRow l) bs) 0 (l + 2) := by
  -- behind so many compares
  have inv : ∀ j, j ≤ l + 1 → ∃ cs, cs = goB ((stepRow l).take j) bs ∧ cs.length = m ∧ upB cs 0 (l + 1 - j) ∧ upB cs (l + 1 - j) (l + 2) ∧ (0 < j → j ≤ l → bget cs (l - j) = true → bget cs (l + 2 - j) = true) := fun j => by
    induction j with
    | zero => exact fun _ => ⟨_, rfl, by rw [goB_len, hb], h, fun i h1 h2 => by omega, fun h => absurd h (by omega)⟩
    | succ j ih =>
      intro hj
      obtain ⟨cs, ec, hc, h1, h2, h3⟩ := ih (by omega)
      have lt : l - j < m := by omega
      have hs : goB ((stepRow l).take (j + 1)) bs = stepB cs (l - j, l + 1 - j) := by
        rw [stepRow_take (by omega), ec]
        unfold goB
        rw [List.foldl_append]
        rfl
      have bg : ∀ y, bget (stepB cs (l - j, l + 1 - j)) y = if l + 1 - j = y then (bget cs (l - j) || bget cs (l + 1 - j)) else if l - j = y then (bget cs (l - j) && bget cs (l + 1 - j)) else bget cs y := fun y => bget_step (c := (l - j, l + 1 - j)) (by show l - j < _; omega) (by show l + 1 - j < _; omega)
      refine ⟨_, hs.symm, by rw [stepB_len, hc], fun i a1 a2 q => ?_, fun i a1 a2 q => ?_, fun _ a2 q => ?_⟩
      · rw [bg, if_neg (by omega), if_neg (by omega)] at q ⊢
        exact h1 i a1 (by omega) q
      · by_cases e : i = l - j
        · subst e
          rw [bg, if_neg (by omega), if_pos rfl, Bool.and_eq_true] at q
          rw [bg, if_pos (by omega), q.1]
          rfl
        · by_cases e2 : i = l + 1 - j
          · subst e2
            rw [bg, if_pos rfl, Bool.or_eq_true] at q
            rw [bg, if_neg (by omega), if_neg (by omega)]
            rcases q with q | q
            · have := h3 (by omega) (by omega) q
              rw [show l + 1 - j + 1 = l + 2 - j by omega]
              exact this
            · exact h2 _ (by omega) a2 q
          · rw [bg, if_neg (by omega), if_neg (by omega)] at q ⊢
            exact h2 i (by omega) a2 q
      · rw [bg, if_neg (by omega), if_neg (by omega)] at q
        rw [bg, if_pos (by omega)]
        have := h1 (l - (j + 1)) (Nat.zero_le _) (by omega) q
        rw [show l - (j + 1) + 1 = l - j by omega] at this
        rw [this]
        rfl
  obtain ⟨cs, ec, hc, h1, h2, h3⟩ := inv (l + 1) (Nat.le_refl _)
  rw [List.take_of_length_le (by rw [stepRow_len]; exact Nat.le_refl _)] at ec
  rw [← ec]
  rw [show l + 1 - (l + 1) = 0 by omega] at h2
  exact h2
theorem upB_sorted {bs : Bits} (h : upB bs 0 bs.length) : sortedB bs = true := by
  unfold sortedB
  rw [List.all_eq_true]
  intro k hk
  have hk := List.mem_range.mp hk
  cases h1 : bget bs k with
  | false => rfl
  | true =>
    rw [h k (Nat.zero_le _) (by omega) h1]
    rfl
theorem sorted_upB {bs : Bits} (h : sortedB bs = true) : upB bs 0 bs.length := fun i _ hi q => by
  have := List.all_eq_true.mp h i (List.mem_range.mpr (by omega))
  rw [q] at this
  simpa using this
theorem goB_app (p q : Prog) (bs : Bits) : goB (p ++ q) bs = goB q (goB p bs) := by
  unfold goB
  rw [List.foldl_append]
theorem steps_sort {m : Nat} {bs : Bits} (hl : bs.length = m) : sortedB (goB (stepsOf m) bs) = true := by
  have inv : ∀ n, n ≤ m - 1 → upB (goB ((List.range n).flatMap stepRow) bs) 0 (n + 1) := fun n => by
    induction n with
    | zero => exact fun _ i h1 h2 => by omega
    | succ n ih =>
      intro hn
      rw [flat_succ, goB_app]
      exact step_row (m := m) (by omega) (by rw [goB_len, hl]) (ih (by omega))
  apply upB_sorted
  rw [goB_len, hl]
  have := inv (m - 1) (Nat.le_refl _)
  intro i h1 h2 q
  exact this i h1 (by omega) q
/-! ### quick: passes on classes -/
def passTo (part far side n : Nat) : Prog := ((List.range n).filter fun low => decide (low / part % 2 = side)).map fun low => (low, low + far)
theorem passTo_succ (part far side n : Nat) : passTo part far side (n + 1) = passTo part far side n ++ (if n / part % 2 = side then [(n, n + far)] else []) := by
  unfold passTo
  rw [filt_succ, List.map_append]
  congr 1
  by_cases h : n / part % 2 = side <;> simp [h]
theorem pass_to {m part far side : Nat} (h0 : 0 < far) (hd : ∀ x, x / part % 2 = side → (x + far) / part % 2 ≠ side) {bs : Bits} (hl : bs.length = m) : ∀ n, n ≤ m - far → ∀ y, y < m →
    bget (goB (passTo part far side n) bs) y = if y < n ∧ y / part % 2 = side then (bget bs y && bget bs (y + far)) else if far ≤ y ∧ y - far < n ∧ (y - far) / part % 2 = side then (bget bs (y - far) || bget bs y) else bget bs y
  | 0, _, y, _ => by
    rw [if_neg (by omega), if_neg (by omega)]
    rfl
  | n + 1, hn, y, hy => by
    have ih := pass_to h0 hd hl n (by omega)
    rw [passTo_succ, goB_app]
    by_cases hs : n / part % 2 = side
    · rw [if_pos hs]
      have hlen : (goB (passTo part far side n) bs).length = m := by rw [goB_len, hl]
      show bget (stepB (goB (passTo part far side n) bs) (n, n + far)) y = _
      rw [bget_step (c := (n, n + far)) (by show n < _; omega) (by show n + far < _; omega)]
      have hhi := hd n hs
      have en : bget (goB (passTo part far side n) bs) n = bget bs n := by
        rw [ih n (by omega), if_neg (by omega), if_neg]
        intro z
        have := hd (n - far) z.2.2
        rw [show n - far + far = n by omega] at this
        exact this hs
      have ef : bget (goB (passTo part far side n) bs) (n + far) = bget bs (n + far) := by
        rw [ih (n + far) (by omega), if_neg (by omega), if_neg (by omega)]
      rw [en, ef]
      by_cases e1 : n + far = y
      · subst e1
        rw [if_pos rfl, if_neg (fun z => hhi z.2), if_pos ⟨by omega, by omega, by rw [Nat.add_sub_cancel]; exact hs⟩, Nat.add_sub_cancel]
      · rw [if_neg e1]
        by_cases e2 : n = y
        · subst e2
          rw [if_pos rfl, if_pos ⟨by omega, hs⟩]
        · rw [if_neg e2, ih y hy]
          have c1 : (y < n + 1 ∧ y / part % 2 = side) ↔ (y < n ∧ y / part % 2 = side) := ⟨fun z => ⟨by omega, z.2⟩, fun z => ⟨by omega, z.2⟩⟩
          have c2 : (far ≤ y ∧ y - far < n + 1 ∧ (y - far) / part % 2 = side) ↔ (far ≤ y ∧ y - far < n ∧ (y - far) / part % 2 = side) := ⟨fun z => ⟨z.1, by omega, z.2.2⟩, fun z => ⟨z.1, by omega, z.2.2⟩⟩
          simp only [c1, c2]
    · rw [if_neg hs]
      show bget (goB (passTo part far side n) bs) y = _
      rw [ih y hy]
      have c1 : (y < n + 1 ∧ y / part % 2 = side) ↔ (y < n ∧ y / part % 2 = side) := by
        constructor
        · rintro ⟨a, b⟩
          refine ⟨?_, b⟩
          rcases Nat.lt_or_ge y n with z | z
          · exact z
          · have : y = n := by omega
            subst this
            exact absurd b hs
        · rintro ⟨a, b⟩
          exact ⟨by omega, b⟩
      have c2 : (far ≤ y ∧ y - far < n + 1 ∧ (y - far) / part % 2 = side) ↔ (far ≤ y ∧ y - far < n ∧ (y - far) / part % 2 = side) := by
        constructor
        · rintro ⟨a, b, c⟩
          refine ⟨a, ?_, c⟩
          rcases Nat.lt_or_ge (y - far) n with z | z
          · exact z
          · have : y - far = n := by omega
            rw [this] at c
            exact absurd c hs
        · rintro ⟨a, b, c⟩
          exact ⟨a, by omega, c⟩
      simp only [c1, c2]
/-- a pass, seen on a class mod p -/
theorem pass_view {m p g side ρ : Nat} (hp : 0 < p) (hg : g % 2 = 1) (hs : side < 2) (hρ : ρ < p) {bs : Bits} (hl : bs.length = m) {k : Nat} (hk : ρ + p * k < m) :
    bget (goB (passL m p (p * g) side) bs) (ρ + p * k) = if k % 2 = side ∧ ρ + p * (k + g) < m then (bget bs (ρ + p * k) && bget bs (ρ + p * (k + g))) else if g ≤ k ∧ (k - g) % 2 = side then (bget bs (ρ + p * (k - g)) || bget bs (ρ + p * k)) else bget bs (ρ + p * k) := by
  have dv : ∀ k, (ρ + p * k) / p = k := fun k => by rw [Nat.add_mul_div_left _ _ hp, Nat.div_eq_of_lt hρ, Nat.zero_add]
  have g0 : 0 < g := by omega
  have hd : ∀ x, x / p % 2 = side → (x + p * g) / p % 2 ≠ side := fun x hx => by
    rw [Nat.add_mul_div_left _ _ hp]
    omega
  have far0 : 0 < p * g := Nat.mul_pos hp g0
  have e0 : passL m p (p * g) side = passTo p (p * g) side (m - p * g) := rfl
  rw [e0, pass_to far0 hd hl (m - p * g) (Nat.le_refl _) _ hk, dv k]
  have ek : ρ + p * k + p * g = ρ + p * (k + g) := by rw [Nat.mul_add, Nat.add_assoc]
  rw [ek]
  have c1 : (ρ + p * k < m - p * g ∧ k % 2 = side) ↔ (k % 2 = side ∧ ρ + p * (k + g) < m) := by
    rw [← ek]
    omega
  simp only [c1]
  by_cases q : k % 2 = side ∧ ρ + p * (k + g) < m
  · rw [if_pos q, if_pos q]
  · rw [if_neg q, if_neg q]
    by_cases h : g ≤ k
    · have em : p * g ≤ p * k := Nat.mul_le_mul_left p h
      have es : ρ + p * k - p * g = ρ + p * (k - g) := by
        rw [Nat.mul_sub]
        omega
      rw [es, dv (k - g)]
      have lt : ρ + p * (k - g) < m - p * g := by omega
      have c2 : (p * g ≤ ρ + p * k ∧ ρ + p * (k - g) < m - p * g ∧ (k - g) % 2 = side) ↔ (g ≤ k ∧ (k - g) % 2 = side) := ⟨fun z => ⟨h, z.2.2⟩, fun z => ⟨by omega, lt, z.2⟩⟩
      simp only [c2]
    · have nlt : ¬ p * g ≤ ρ + p * k := by
        intro z
        have h1 : p * (k + 1) ≤ p * g := Nat.mul_le_mul_left p (by omega)
        rw [Nat.mul_add, Nat.mul_one] at h1
        omega
      rw [if_neg (fun z => nlt z.1), if_neg (fun z => h z.1)]
/-- all classes mod q are sorted -/
def StC (q m : Nat) (bs : Bits) : Prop := ∀ σ, σ < q → ∃ u, (∀ i, σ + q * i < m → bget bs (σ + q * i) = decide (u ≤ i)) ∧ ∀ j, m ≤ σ + q * j → u ≤ j
/-- within a class: its even ones sorted, its odd ones sorted, near to one another -/
def StG (p m G : Nat) (bs : Bits) : Prop := ∀ ρ, ρ < p → ∃ s t, (∀ i, ρ + p * (2 * i) < m → bget bs (ρ + p * (2 * i)) = decide (t ≤ i)) ∧ (∀ i, ρ + p * (2 * i + 1) < m → bget bs (ρ + p * (2 * i + 1)) = decide (s ≤ i)) ∧ s ≤ t ∧ t ≤ s + G ∧
  (∀ j, m ≤ ρ + p * (2 * j) → t ≤ j) ∧ ∀ j, m ≤ ρ + p * (2 * j + 1) → s ≤ j
theorem mul_up {p a b : Nat} (ρ : Nat) (h : a ≤ b) : ρ + p * a ≤ ρ + p * b := Nat.add_le_add_left (Nat.mul_le_mul_left p h) ρ
/-- the first compares of a pass -/
theorem first_pass {m p D : Nat} (hp : 0 < p) (hm : m ≤ 2 * p * D) {bs : Bits} (hl : bs.length = m) (h : StC (2 * p) m bs) : StG p m D (goB (passL m p p 0) bs) := fun ρ hρ => by
  obtain ⟨t, ht, ht2⟩ := h ρ (by omega)
  obtain ⟨s, hs, hs2⟩ := h (ρ + p) (by omega)
  have e0 : ∀ i, ρ + 2 * p * i = ρ + p * (2 * i) := fun i => by rw [Nat.mul_comm 2 p, Nat.mul_assoc]
  have e1 : ∀ i, ρ + p + 2 * p * i = ρ + p * (2 * i + 1) := fun i => by rw [Nat.mul_add, Nat.mul_comm 2 p, Nat.mul_assoc]; omega
  have ht : ∀ i, ρ + p * (2 * i) < m → bget bs (ρ + p * (2 * i)) = decide (t ≤ i) := fun i hi => by
    rw [← e0] at hi ⊢
    exact ht i hi
  have hs : ∀ i, ρ + p * (2 * i + 1) < m → bget bs (ρ + p * (2 * i + 1)) = decide (s ≤ i) := fun i hi => by
    rw [← e1] at hi ⊢
    exact hs i hi
  have ht2 : ∀ j, m ≤ ρ + p * (2 * j) → t ≤ j := fun j hj => ht2 j (by rw [e0]; exact hj)
  have hs2 : ∀ j, m ≤ ρ + p * (2 * j + 1) → s ≤ j := fun j hj => hs2 j (by rw [e1]; exact hj)
  have view := fun k hk => pass_view (m := m) (p := p) (g := 1) (side := 0) hp rfl (by decide) hρ hl (k := k) hk
  rw [Nat.mul_one] at view
  refine ⟨min s t, max s t, fun i hi => ?_, fun i hi => ?_, by omega, ?_, fun j hj => ?_, fun j hj => ?_⟩
  · rw [view (2 * i) hi, ht i hi]
    by_cases q : ρ + p * (2 * i + 1) < m
    · rw [if_pos ⟨by omega, q⟩, hs i q, ← Bool.decide_and]
      exact decide_eq_decide.mpr (by omega)
    · have := hs2 i (by omega)
      rw [if_neg (fun z => q z.2), if_neg (by omega)]
      exact decide_eq_decide.mpr (by omega)
  · have q : ρ + p * (2 * i) < m := Nat.lt_of_le_of_lt (mul_up ρ (by omega)) hi
    rw [view (2 * i + 1) hi, if_neg (by omega), if_pos ⟨by omega, by omega⟩, Nat.add_sub_cancel, ht i q, hs i hi, ← Bool.decide_or]
    exact decide_eq_decide.mpr (by omega)
  · have hD : m ≤ ρ + p * (2 * D) := by
      rw [← e0]
      omega
    have h1 := ht2 D hD
    have h2 := hs2 D (Nat.le_trans hD (mul_up ρ (by omega)))
    omega
  · have h1 := ht2 j hj
    have h2 := hs2 j (Nat.le_trans hj (mul_up ρ (by omega)))
    omega
  · have := hs2 j hj
    omega
/-- the compares that bring the two nearer -/
theorem next_pass {m p e : Nat} (hp : 0 < p) (he : 0 < e) {bs : Bits} (hl : bs.length = m) (h : StG p m (2 * e) bs) : StG p m e (goB (passL m p (p * (2 * e - 1)) 1) bs) := fun ρ hρ => by
  obtain ⟨s, t, ht, hs, hst, hts, ht2, hs2⟩ := h ρ hρ
  have view := fun k hk => pass_view (m := m) (p := p) (g := 2 * e - 1) (side := 1) hp (by omega) (by decide) hρ hl (k := k) hk
  refine ⟨max s (t - e), min (s + e) t, fun i hi => ?_, fun i hi => ?_, by omega, by omega, fun j hj => ?_, fun j hj => ?_⟩
  · rw [view (2 * i) hi, if_neg (by omega), ht i hi]
    by_cases q : e ≤ i
    · have e1 : 2 * i - (2 * e - 1) = 2 * (i - e) + 1 := by omega
      have lt : ρ + p * (2 * (i - e) + 1) < m := Nat.lt_of_le_of_lt (mul_up ρ (by omega)) hi
      rw [if_pos ⟨by omega, by omega⟩, e1, hs (i - e) lt, ← Bool.decide_or]
      exact decide_eq_decide.mpr (by omega)
    · rw [if_neg (by omega)]
      apply decide_eq_decide.mpr
      omega
  · rw [view (2 * i + 1) hi, hs i hi]
    have e1 : 2 * i + 1 + (2 * e - 1) = 2 * (i + e) := by omega
    rw [e1]
    by_cases q : ρ + p * (2 * (i + e)) < m
    · rw [if_pos ⟨by omega, q⟩, ht (i + e) q, ← Bool.decide_and]
      exact decide_eq_decide.mpr (by omega)
    · have := ht2 (i + e) (by omega)
      rw [if_neg (fun z => q z.2), if_neg (by omega)]
      apply decide_eq_decide.mpr
      omega
  · have := ht2 j hj
    omega
  · have h1 := hs2 j hj
    have h2 := ht2 (j + 1) (Nat.le_trans hj (mul_up ρ (by omega)))
    omega
theorem near_one {m p : Nat} {bs : Bits} (h : StG p m 1 bs) : StC p m bs := fun ρ hρ => by
  obtain ⟨s, t, ht, hs, hst, hts, ht2, hs2⟩ := h ρ hρ
  refine ⟨s + t, fun k hk => ?_, fun j hj => ?_⟩
  · rcases Nat.mod_two_eq_zero_or_one k with q | q
    · have e : k = 2 * (k / 2) := by omega
      rw [e] at hk ⊢
      rw [ht _ hk]
      apply decide_eq_decide.mpr
      omega
    · have e : k = 2 * (k / 2) + 1 := by omega
      rw [e] at hk ⊢
      rw [hs _ hk]
      apply decide_eq_decide.mpr
      omega
  · rcases Nat.mod_two_eq_zero_or_one j with q | q
    · have e : j = 2 * (j / 2) := by omega
      rw [e] at hj
      have := ht2 _ hj
      omega
    · have e : j = 2 * (j / 2) + 1 := by omega
      have hj2 := Nat.le_trans hj (mul_up (p := p) ρ (show j ≤ 2 * (j / 2 + 1) by omega))
      rw [e] at hj
      have h1 := hs2 _ hj
      have h2 := ht2 _ hj2
      omega
def downs : Nat → List Nat
  | 0 => [1]
  | k + 1 => 2 ^ (k + 1) :: downs k
theorem powers_downs : ∀ m : Nat, m < 41 → 2 ≤ m → ∃ k, k < 6 ∧ powersOf m = downs k ∧ m ≤ 2 ^ (k + 1) := by decide +kernel
theorem quickIn_cons (m part power : Nat) (ps : List Nat) : quickIn m part (power :: ps) = (if power > part then passL m part (power - part) 1 else []) ++ quickIn m part ps := rfl
theorem quickIn_low {m a : Nat} : ∀ {j : Nat}, j ≤ a → quickIn m (2 ^ a) (downs j) = []
  | 0, _ => by
    have : 0 < 2 ^ a := Nat.two_pow_pos a
    show quickIn m (2 ^ a) [1] = []
    rw [quickIn_cons, if_neg (by omega)]
    rfl
  | j + 1, h => by
    have : 2 ^ (j + 1) ≤ 2 ^ a := Nat.pow_le_pow_right (by decide) h
    show quickIn m (2 ^ a) (2 ^ (j + 1) :: downs j) = []
    rw [quickIn_cons, if_neg (by omega), quickIn_low (by omega)]
    rfl
theorem in_go {m a : Nat} : ∀ (d : Nat) {bs : Bits}, bs.length = m → StG (2 ^ a) m (2 ^ d) bs → StG (2 ^ a) m 1 (goB (quickIn m (2 ^ a) (downs (a + d))) bs)
  | 0, bs, _, h => by
    rw [Nat.add_zero, quickIn_low (Nat.le_refl a)]
    exact h
  | d + 1, bs, hl, h => by
    have hp : 0 < 2 ^ a := Nat.two_pow_pos a
    have he : 0 < 2 ^ d := Nat.two_pow_pos d
    have e1 : 2 ^ (a + d + 1) = 2 ^ a * (2 * 2 ^ d) := by rw [show a + d + 1 = a + (d + 1) by omega, Nat.pow_add, Nat.pow_succ, Nat.mul_comm (2 ^ d) 2]
    have gt : 2 ^ (a + d + 1) > 2 ^ a := Nat.pow_lt_pow_right (by decide) (by omega)
    have e2 : 2 ^ (a + d + 1) - 2 ^ a = 2 ^ a * (2 * 2 ^ d - 1) := by
      rw [e1, Nat.mul_sub, Nat.mul_one]
    show StG (2 ^ a) m 1 (goB (quickIn m (2 ^ a) (2 ^ (a + d + 1) :: downs (a + d))) bs)
    rw [quickIn_cons, if_pos gt, goB_app, e2]
    refine in_go d (by rw [goB_len, hl]) ?_
    refine next_pass hp he hl ?_
    rw [show 2 * 2 ^ d = 2 ^ (d + 1) by rw [Nat.pow_succ, Nat.mul_comm]]
    exact h
theorem part_go {m a k : Nat} (hk : a ≤ k) (hm : m ≤ 2 ^ (k + 1)) (hpw : powersOf m = downs k) {bs : Bits} (hl : bs.length = m) (h : StC (2 * 2 ^ a) m bs) : StC (2 ^ a) m (goB (quickPart m (2 ^ a)) bs) := by
  unfold quickPart
  rw [goB_app, hpw, show k = a + (k - a) by omega]
  refine near_one (in_go (k - a) (by rw [goB_len, hl]) (first_pass (Nat.two_pow_pos a) ?_ hl h))
  rw [Nat.mul_assoc, ← Nat.pow_add, show a + (k - a) = k by omega, Nat.mul_comm, ← Nat.pow_succ]
  exact hm
theorem out_go {m k : Nat} (hm : m ≤ 2 ^ (k + 1)) (hpw : powersOf m = downs k) : ∀ (a : Nat) {bs : Bits}, a ≤ k → bs.length = m → StC (2 * 2 ^ a) m bs → StC 1 m (goB ((downs a).flatMap (quickPart m)) bs)
  | 0, bs, ha, hl, h => by
    have := part_go (a := 0) ha hm hpw hl h
    show StC 1 m (goB (quickPart m 1 ++ []) bs)
    rw [List.append_nil]
    exact this
  | a + 1, bs, ha, hl, h => by
    have q := part_go (a := a + 1) ha hm hpw hl h
    show StC 1 m (goB (quickPart m (2 ^ (a + 1)) ++ (downs a).flatMap (quickPart m)) bs)
    rw [goB_app]
    refine out_go hm hpw a (by omega) (by rw [goB_len, hl]) ?_
    rw [show 2 * 2 ^ a = 2 ^ (a + 1) by rw [Nat.pow_succ, Nat.mul_comm]]
    exact q
theorem start_c {q m : Nat} (h : m ≤ q) (bs : Bits) : StC q m bs := fun σ hσ => by
  refine ⟨if σ < m ∧ bget bs σ = false then 1 else 0, fun i hi => ?_, fun j hj => ?_⟩
  · have i0 : i = 0 := by
      rcases Nat.eq_zero_or_pos i with z | z
      · exact z
      · have : q * 1 ≤ q * i := Nat.mul_le_mul_left q z
        omega
    subst i0
    rw [Nat.mul_zero, Nat.add_zero] at hi ⊢
    cases hb : bget bs σ <;> simp [hi]
  · rcases Nat.eq_zero_or_pos j with z | z
    · subst z
      rw [if_neg (by omega)]
      exact Nat.le_refl 0
    · split <;> omega
theorem quick_sort {m : Nat} (hm : m < 41) {bs : Bits} (hl : bs.length = m) : sortedB (goB (quickOf m) bs) = true := by
  apply upB_sorted
  rw [goB_len, hl]
  by_cases h2 : 2 ≤ m
  · obtain ⟨k, hk, hpw, hmk⟩ := powers_downs m hm h2
    have h := out_go hmk hpw k (Nat.le_refl k) hl (start_c (by rw [Nat.mul_comm, ← Nat.pow_succ]; exact hmk) bs)
    rw [← hpw] at h
    obtain ⟨u, hu, _⟩ := h 0 (by decide)
    intro i _ hi q
    have h1 := hu i (by omega)
    have h2 := hu (i + 1) (by omega)
    rw [Nat.zero_add, Nat.one_mul] at h1 h2
    have e : goB (quickOf m) bs = goB ((powersOf m).flatMap (quickPart m)) bs := rfl
    rw [e] at q ⊢
    rw [h1] at q
    rw [h2]
    have := of_decide_eq_true q
    exact decide_eq_true (by omega)
  · intro i _ hi q
    omega
/-! ### sorted(a tuple of pairs of ints) -/
section
variable {prog : Program} {w : World} {A : Around} {E : Value → Shared → Prop} {s : Shared}
/-- the heap behind the gathering: a new list of these -/
abbrev gath (h : Heap) (vs : List Value) : Heap := (h.push (seqObj "list" #[] 0)).update h.objs.size (Obj.mapSeq (· ++ vs.toArray))
theorem gatherT {l : Addr} {vs : List Value} {R : List Value → Shared → Prop} (hl : IsTup s.heap l vs.toArray) (fit : vs.length ≤ sizeLine) (h : R vs { s with heap := gath s.heap vs }) :
    wpAny (model prog w) A (collect (.ref l)) R E s := by
  obtain ⟨ob, g1, g2, n1, g3⟩ := hl
  have g4 : (s.heap.push (seqObj "list" #[] 0)).get? l = some ob := Heap.get?_push_of_some _ g1
  have own : (s.heap.push (seqObj "list" #[] 0)).get? s.heap.objs.size = some (seqObj "list" #[] 0) := Heap.get?_push_size _ rfl
  unfold collect
  apply wpAny_bind
  apply wpAny_runValue
  apply codeAny_builtin entry_proto_collect'
  show wpAny _ _ (do again (.builtin "list.__iadd__" ⟨[← newList [], .ref l], []⟩)) _ _ s
  apply wpAny_bind
  refine wpAny_newList ?_
  apply wpAny_pure
  refine ⟨Code.quiet_builtin _ (by decide +kernel), ?_⟩
  apply codeAny_builtin entry_list_iadd'
  show wpAny _ _ (Builtin.List.listExtendWith (.ref s.heap.objs.size) (.ref l) (.ref s.heap.objs.size)) _ _ { s with heap := s.heap.push (seqObj "list" #[] 0) }
  unfold Builtin.List.listExtendWith
  apply wpAny_bind
  refine wpAny_typeOf (T := "tuple") ⟨ob, g4, g2⟩ ?_
  have tt : (Value.type "tuple" == Value.type "tuple") = true := by rfl
  rw [if_pos (by rw [tt]; simp)]
  apply wpAny_bind
  refine listItems_at g4 g3 ?_
  apply wpAny_bind
  refine listItems_at (xs := #[]) (n := 0) own rfl ?_
  rw [if_neg (by simp)]
  apply wpAny_bind
  refine listUpdate_at (xs := #[]) (n := 0) own rfl ?_ (Nat.zero_le _) ?_
  · apply wpAny_pure
    have own2 := get?_update_seq own (· ++ vs.toArray)
    show wpAny (model prog w) A (load s.heap.objs.size >>= fun o => match o.data with
      | .seq xs _ => pure xs.toList
      | _ => unsupported "internal:collect") R E { s with heap := gath s.heap vs }
    apply wpAny_bind
    refine wpAny_load own2 ?_
    have e : ((#[] : Array Value) ++ vs.toArray).toList = vs := by simp
    show wpAny _ _ (pure ((#[] : Array Value) ++ vs.toArray).toList) R E _
    rw [e]
    exact wpAny_pure h
  · show (#[] ++ vs.toArray).size ≤ sizeLine + 1
    simp
    omega
/-- sorted of a tuple of pairs -/
theorem sortT {l : Addr} {vs : List Value} {k : Value → Int × Int} {R : Value → Shared → Prop} (hl : IsTup s.heap l vs.toArray) (fit : vs.length ≤ sizeLine) (pr : ∀ v ∈ vs, Srt.IsPair s.heap v (k v).1 (k v).2)
    (h : ∀ (h' : Heap) (d : Addr) (out : List Value), SrtO.Srtd (fun v u => SrtO.lexB (k v) (k u)) out → SrtO.Stb (fun v u => SrtO.lexB (k v) (k u)) out vs → (∀ b o, s.heap.get? b = some o → h'.get? b = some o) → s.heap.objs.size ≤ d → (∃ n, h'.get? d = some (seqObj "list" out.toArray n)) → R (.ref d) { s with heap := h' }) :
    wpAny (model prog w) A (call (.builtin "sorted") [.ref l]) R E s := by
  apply Calls.call_function_entry kind_sorted plain_sorted entry_sorted (args_sorted1 _)
  unfold Builtin.«sorted»
  apply wpAny_bind (m := checkCount "sorted" 1 1 _)
  apply wpAny_pure
  apply wpAny_bind
  refine gatherT hl fit ?_
  apply wpAny_bind
  refine wpAny_newList ?_ fit
  have z : (gath s.heap vs).objs.size = s.heap.objs.size + 1 := by rw [Heap.size_update, size_push']
  have there : ((gath s.heap vs).push (seqObj "list" vs.toArray 0)).get? (s.heap.objs.size + 1) = some (seqObj "list" vs.toArray 0) := by
    rw [← z]
    exact Heap.get?_push_size _ rfl
  have old : ∀ b o, s.heap.get? b = some o → ((gath s.heap vs).push (seqObj "list" vs.toArray 0)).get? b = some o := fun b o q => by
    have lt := Heap.lt_size q
    apply Heap.get?_push_of_some
    rw [Heap.get?_update_ne _ _ _ _ (Nat.ne_of_lt lt)]
    exact Heap.get?_push_of_some _ q
  show wpAny _ _ _ _ _ { s with heap := (gath s.heap vs).push (seqObj "list" vs.toArray 0) }
  rw [z]
  apply wpAny_bind
  apply wpAny_holding
  refine wpAny_call_entry slot_list_sort ⟨_, there, rfl⟩ entry_list_sort (SrtO.list_sort_ord (SrtO.swo_lex k) there fit (fun two => ?_) fun out h1 h2 => ⟨_, rfl, ?_⟩) (args_list_sort _)
  · refine SrtO.pairs_sortableO (by omega) (fun v hv => (pr v hv).keeps fun b o e _ => old b o e) fun o e => ?_
    cases e.symm.trans there
    exact fun c => absurd (Value.type.inj c) (by decide)
  · exact wpAny_pure ⟨_, rfl, h _ _ out h1 h2 (fun b o e => sortedAll_old e) (Nat.le_succ _) (sortedAll_at s.heap vs out.toArray)⟩
end
/-- sorted(t), t a tuple of pairs of ints (k says which): a new list, sorted, equal ones in their order -/
def rSortedPT (K : PySem.W.Frag) : List V → Hp → VK → Prop := fun vs H Q => ∃ (a : Addr) (xs : List V) (k : V → Int × Int), vs = [V.ref a] ∧ SqT K H a xs ∧ (∀ x ∈ xs, ∃ t, x = V.ref t ∧ SqT K H t [.int (k x).1, .int (k x).2]) ∧
  ∀ ys p, SrtO.Srtd (ltP k) ys → SrtO.Stb (ltP k) ys xs → H p = none → Q (.ref p) (upd H p (.lst ys))
theorem cr_sortedPT {X : Cx} : CallR X (.builtin "sorted") (rSortedPT X.K) := by
  intro pins s σ H vs us Q I r h
  obtain ⟨a, xs, k, rfl, ha, hx, q⟩ := h
  obtain ⟨its, rv, hl, hz⟩ := I.tuple ha
  obtain ⟨u, rfl, ru⟩ := vals1 r
  obtain rfl : u = Value.ref a := ru
  obtain ⟨e1, e2⟩ := refs_back rv fun x m => by
    obtain ⟨t, e, _⟩ := hx x m
    exact ⟨t, e⟩
  refine sortT (k := fun u => k (backV u)) hl (by rw [← rv.length]; exact hz) (fun v hv => ?_) fun h' d out h1 h2 kp hd hn => ?_
  · obtain ⟨t, rfl⟩ := e2 v hv
    have hm : V.ref t ∈ xs := by
      rw [e1]
      exact List.mem_map.mpr ⟨_, hv, rfl⟩
    obtain ⟨t', e, ht⟩ := hx _ hm
    cases e
    obtain ⟨two, r2, ⟨o, ho, hc, n, hd⟩, _⟩ := I.tuple ht
    obtain ⟨u1, u2, rfl, ri, rj⟩ := vals2 r2
    obtain ⟨t1, rfl⟩ := ri
    obtain ⟨t2, rfl⟩ := rj
    exact ⟨t, o, t1, t2, n, rfl, ho, hc, hd⟩
  · have h3 : ∀ u ∈ out, ∃ a, u = Value.ref a := fun u hu => e2 u (h2.perm.mem_iff.mp hu)
    obtain ⟨n, hn⟩ := hn
    have hb : SrtO.Stb (ltP k) (out.map backV) xs := by
      rw [e1]
      exact SrtO.Stb.map (ltP_swo k) backV h2
    have len := hb.len
    exact ⟨.ref d, upd H d (.lst (out.map backV)), I.laid (t' := s.toks) kp hd ⟨by rw [len]; exact hz, out, n, vals_back h3, hn⟩, rfl, q _ d (SrtO.srtd_map h1) hb (I.hok.fresh hd)⟩
/-! ### whole rows: sorted, and as they stood -/
theorem thr_go {m : Nat} {t : Int} : ∀ {p : Prog} {r : Row}, okP m p → m ≤ r.length → thr m t (goR p r) = goB p (thr m t r)
  | [], _, _, _ => rfl
  | c :: p, r, ok, hm => by
    show thr m t (goR p (stepR r c)) = goB p (stepB (thr m t r) c)
    rw [thr_go (p := p) (r := stepR r c) (fun d hd => ok d (List.mem_cons_of_mem _ hd)) (by rw [stepR_len]; exact hm), thr_step (ok c List.mem_cons_self) hm]
theorem row_up {m : Nat} {p : Prog} {r : Row} (h : ∀ bs : Bits, bs.length = m → sortedB (goB p bs) = true) (ok : okP m p) (hl : r.length = m) {k : Nat} (hk : k + 1 < m) : key (goR p r) k ≤ key (goR p r) (k + 1) := by
  by_cases z : key (goR p r) (k + 1) < key (goR p r) k
  · exfalso
    have s := h (thr m (key (goR p r) k) r) (thr_len _ _ _)
    rw [← thr_go ok (by omega)] at s
    have u := sorted_upB s k (Nat.zero_le _) (by rw [thr_len]; exact hk)
    rw [thr_at (by omega), thr_at hk, decide_eq_true (Int.le_refl _)] at u
    have := of_decide_eq_true (u rfl)
    omega
  · omega
theorem rule_sorts {w m : Nat} (hm : m < 41) {bs : Bits} (hl : bs.length = m) : sortedB (goB (ruleP w m) bs) = true := by
  unfold ruleP
  split
  · exact steps_sort hl
  · split
    · exact rounds_sort hm hl
    · exact quick_sort hm hl
/-- equal keys stand as their marks rise -/
def stab (r : Row) : Prop := ∀ i j, i < j → j < r.length → key r i = key r j → mark r i < mark r j
theorem mark_set {r : Row} {i j : Nat} {t : Thing} (h : i < r.length) : mark (r.set i t) j = if i = j then (match t.2 with | .i k => k | _ => 0) else mark r j := by
  unfold mark List.getD
  rw [List.getElem?_set]
  by_cases e : i = j
  · subst e
    simp [h] <;> rfl
  · simp [e]
theorem mark_step {r : Row} {c : Cmp} {j : Nat} (h1 : c.1 < r.length) (h2 : c.2 < r.length) (hs : swaps r c = true) : mark (stepR r c) j = if c.2 = j then mark r c.1 else if c.1 = j then mark r c.2 else mark r j := by
  unfold stepR
  rw [if_pos hs, mark_set (by rw [List.length_set]; exact h2), mark_set h1]
  rfl
theorem stab_step {r : Row} {c : Cmp} (hn : c.2 = c.1 + 1) (h2 : c.2 < r.length) (h : stab r) : stab (stepR r c) := by
  by_cases hs : swaps r c = true
  · have hk : key r c.2 < key r c.1 := of_decide_eq_true hs
    intro i j hij hj e
    rw [stepR_len] at hj
    rw [key_step (by omega) h2, if_pos hs, key_step (by omega) h2, if_pos hs] at e
    rw [mark_step (by omega) h2 hs, mark_step (by omega) h2 hs]
    by_cases e1 : c.2 = i
    · rw [if_pos e1] at e ⊢
      rw [if_neg (by omega), if_neg (by omega)] at e ⊢
      exact h c.1 j (by omega) hj e
    · rw [if_neg e1] at e ⊢
      by_cases e2 : c.1 = i
      · rw [if_pos e2] at e ⊢
        by_cases e3 : c.2 = j
        · rw [if_pos e3] at e ⊢
          omega
        · rw [if_neg e3, if_neg (by omega)] at e ⊢
          exact h c.2 j (by omega) hj e
      · rw [if_neg e2] at e ⊢
        by_cases e3 : c.2 = j
        · rw [if_pos e3] at e ⊢
          exact h i c.1 (by omega) (by omega) e
        · rw [if_neg e3] at e ⊢
          by_cases e4 : c.1 = j
          · rw [if_pos e4] at e ⊢
            exact h i c.2 (by omega) h2 e
          · rw [if_neg e4] at e ⊢
            exact h i j hij hj e
  · unfold stepR
    rw [if_neg hs]
    exact h
theorem stab_go : ∀ {p : Prog} {r : Row}, nearP p → okP r.length p → stab r → stab (goR p r)
  | [], _, _, _, h => h
  | c :: p, r, hn, ok, h => by
    have hc := ok c List.mem_cons_self
    show stab (goR p (stepR r c))
    refine stab_go (p := p) (fun d hd => hn d (List.mem_cons_of_mem _ hd)) (fun d hd => by rw [stepR_len]; exact ok d (List.mem_cons_of_mem _ hd)) (stab_step (hn c List.mem_cons_self) hc.2 h)
/-- the k-th thing bears the mark k -/
def counted (r : Row) : Prop := ∀ i, i < r.length → (r.getD i noT).2 = Mrk.i (i : Int)
theorem counted_stab {r : Row} (h : counted r) : stab r := fun i j hij hj _ => by
  unfold mark
  rw [h i (by omega), h j hj]
  show (i : Int) < (j : Int)
  omega
theorem counted_marked {r : Row} (h : counted r) : marked r := fun t ht => by
  obtain ⟨i, hi, e⟩ := List.mem_iff_getElem.mp ht
  have := h i hi
  rw [show r.getD i noT = r[i] by simp [List.getD, List.getElem?_eq_getElem hi], e] at this
  exact ⟨_, this⟩
theorem near_rule {w m : Nat} (h : w < 2) : nearP (ruleP w m) := by
  unfold ruleP
  split
  · exact near_steps m
  · rw [if_pos (by omega)]
    exact near_rounds m
/-! ### things sorted: by key, then by mark -/
def mk2 (t : Thing) : Int × Int := (t.1, match t.2 with | .i k => k | _ => 0)
def lexLe (a b : Int × Int) : Prop := SrtO.lexB b a = false
theorem lex_anti {a b : Int × Int} (h1 : lexLe a b) (h2 : lexLe b a) : a = b := by
  have q1 := SrtO.lexB_no.mp h1
  have q2 := SrtO.lexB_no.mp h2
  obtain ⟨a1, a2⟩ := a
  obtain ⟨b1, b2⟩ := b
  dsimp only at q1 q2
  have : a1 = b1 := by omega
  subst this
  have : a2 = b2 := by omega
  rw [this]
theorem lex_perm : ∀ {a b : List (Int × Int)}, a.Perm b → a.Pairwise lexLe → b.Pairwise lexLe → a = b
  | [], b, p, _, _ => List.Perm.nil_eq p
  | x :: a, [], p, _, _ => absurd p (by simp)
  | x :: a, y :: b, p, h1, h2 => by
    have hx : x ∈ y :: b := p.subset List.mem_cons_self
    have hy : y ∈ x :: a := p.symm.subset List.mem_cons_self
    have e : x = y := by
      rcases List.mem_cons.mp hy with e | e
      · exact e.symm
      · rcases List.mem_cons.mp hx with f | f
        · exact f
        · exact lex_anti ((List.pairwise_cons.mp h1).1 y e) ((List.pairwise_cons.mp h2).1 x f)
    subst e
    rw [lex_perm (List.Perm.cons_inv p) (List.pairwise_cons.mp h1).2 (List.pairwise_cons.mp h2).2]
def d2 (q : Int × Int) : PyData := .tuple [.int q.1, .int q.2]
theorem dT_mk {t : Thing} {k : Int} (h : t.2 = Mrk.i k) : dT t = d2 (mk2 t) := by
  unfold dT d2 mk2
  rw [h]
  rfl
theorem dTs_mk {r : Row} (h : marked r) : r.map dT = (r.map mk2).map d2 := by
  rw [List.map_map]
  apply List.map_congr_left
  intro t ht
  obtain ⟨k, hk⟩ := h t ht
  exact dT_mk hk
section
open Classical
/-- what pair a value is, in a heap -/
noncomputable def pairOf (K : PySem.W.Frag) (H : Hp) (v : V) : Int × Int := if h : ∃ q : Int × Int, ∃ t, v = V.ref t ∧ SqT K H t [.int q.1, .int q.2] then Classical.choose h else (0, 0)
theorem pairOf_is {K : PySem.W.Frag} {H : Hp} {v : V} (h : ∃ q : Int × Int, ∃ t, v = V.ref t ∧ SqT K H t [.int q.1, .int q.2]) : ∃ t, v = V.ref t ∧ SqT K H t [.int (pairOf K H v).1, .int (pairOf K H v).2] := by
  unfold pairOf
  rw [dif_pos h]
  exact Classical.choose_spec h
end
theorem im_d2 {K : PySem.W.Frag} {H : Hp} {v : V} {q : Int × Int} (h : Im K H v (d2 q)) : ∃ t, v = V.ref t ∧ SqT K H t [.int q.1, .int q.2] := by
  obtain ⟨a, xs, rfl, hs, ht⟩ := im_tup h
  have e := imAll_ints (ns := [q.1, q.2]) ht
  rw [e] at hs
  exact ⟨a, rfl, hs⟩
/-- sorted(t), by the pairs that stand there -/
def rSortedPD (K : PySem.W.Frag) : List V → Hp → VK → Prop := fun vs H Q => ∃ (a : Addr) (xs : List V) (L : List (Int × Int)), vs = [V.ref a] ∧ SqT K H a xs ∧ xs.length = L.length ∧ (∀ (i : Nat) (x : V) (q : Int × Int), xs[i]? = some x → L[i]? = some q → ∃ t, x = V.ref t ∧ SqT K H t [.int q.1, .int q.2]) ∧
  ∀ (ys : List V) (qs : List (Int × Int)) (p : Addr), ys.length = qs.length → (∀ (i : Nat) (y : V) (q : Int × Int), ys[i]? = some y → qs[i]? = some q → ∃ t, y = V.ref t ∧ SqT K H t [.int q.1, .int q.2]) → qs.Perm L → qs.Pairwise lexLe → H p = none → Q (.ref p) (upd H p (.lst ys))
theorem cr_sortedPD {X : Cx} : CallR X (.builtin "sorted") (rSortedPD X.K) := by
  intro pins s σ H vs us Q I r h
  obtain ⟨a, xs, L, rfl, ha, hl, hx, q⟩ := h
  have isP : ∀ x ∈ xs, ∃ t, x = V.ref t ∧ SqT X.K H t [.int (pairOf X.K H x).1, .int (pairOf X.K H x).2] := fun x m => by
    obtain ⟨i, hi, e⟩ := List.mem_iff_getElem.mp m
    obtain ⟨t, e1, e2⟩ := hx i x _ (by rw [List.getElem?_eq_getElem hi, e]) (List.getElem?_eq_getElem (by omega))
    exact pairOf_is ⟨_, t, e1, e2⟩
  have eL : xs.map (pairOf X.K H) = L := by
    apply List.ext_getElem (by simp [hl])
    intro i h1 h2
    have hi : i < xs.length := by simpa using h1
    rw [List.getElem_map]
    obtain ⟨t, e1, e2⟩ := hx i xs[i] L[i] (List.getElem?_eq_getElem hi) (List.getElem?_eq_getElem h2)
    obtain ⟨t', e3, e4⟩ := isP xs[i] (List.getElem_mem hi)
    rw [e1] at e3
    cases e3
    have inj := I.tuple_inj e4 e2
    simp only [List.cons.injEq, V.int.injEq, and_true] at inj
    exact Prod.ext inj.1 inj.2
  refine cr_sortedPT pins s σ H _ us Q I r ⟨a, xs, pairOf X.K H, rfl, ha, isP, fun ys p h1 h2 np => ?_⟩
  refine q ys (ys.map (pairOf X.K H)) p (by simp) (fun i y z e1 e2 => ?_) ?_ ?_ np
  · rw [List.getElem?_map, e1] at e2
    cases e2
    exact isP y (h2.perm.mem_iff.mp (List.mem_of_getElem? e1))
  · rw [← eL]
    exact h2.perm.map _
  · exact List.pairwise_map.mpr h1
theorem imAll_d2 {K : PySem.W.Frag} {H : Hp} : ∀ {ys : List V} {qs : List (Int × Int)}, ys.length = qs.length → (∀ (i : Nat) (y : V) (q : Int × Int), ys[i]? = some y → qs[i]? = some q → ∃ t, y = V.ref t ∧ SqT K H t [.int q.1, .int q.2]) → ImAll K H ys (qs.map d2)
  | [], [], _, _ => .nil
  | y :: ys, [], h, _ => by simp at h
  | [], q :: qs, h, _ => by simp at h
  | y :: ys, q :: qs, h, hh => by
    obtain ⟨t, rfl, ht⟩ := hh 0 y q rfl rfl
    exact .cons (.tup ht (.cons (.int _) (.cons (.int _) .nil))) (imAll_d2 (by simpa using h) fun i y q e1 e2 => hh (i + 1) y q (by simpa using e1) (by simpa using e2))
theorem st_sortD {K : PySem.W.Frag} {H : Hp} {Q : VK} {x : V} {r : Row} (hx : Im K H x (dR r)) (hm : marked r) (h : ∀ l H2 ys (qs : List (Int × Int)), Fr H l → Same H H2 → At H2 l (.lst ys) → ImAll K H2 ys (qs.map d2) → qs.Perm (r.map mk2) → qs.Pairwise lexLe → Q (.ref l) H2) : rSortedPD K [x] H Q := by
  obtain ⟨a, xs, rfl, hs, ht⟩ := im_tup hx
  rw [dTs_mk hm] at ht
  have el := ht.length
  rw [List.length_map] at el
  refine ⟨a, xs, r.map mk2, rfl, hs, el, fun i x q e1 e2 => ?_, fun ys qs p l1 h1 h2 h3 np => h p _ ys qs np (same_new np) upd_same ((imAll_d2 l1 h1).same (same_new np)) h2 h3⟩
  obtain ⟨d, e3, e4⟩ := ht.get e1
  rw [List.getElem?_map, e2] at e3
  cases e3
  exact im_d2 e4
theorem sh_d2s (qs : List (Int × Int)) : Sh 2 (.list (qs.map d2)) := sh_list (sh_map fun q _ => sh_tup fun d hd => by
  simp only [List.mem_cons, List.not_mem_nil, or_false] at hd
  rcases hd with rfl | rfl <;> exact sh_int _)
def sp_law_in_order (K : PySem.W.Frag) : Sp := fun vs H Q _ => ∃ rv fv r f, ∃ keep : Bool, vs = [rv, fv, .bl keep] ∧ Im K H rv (dR r) ∧ Im K H fv (dR f) ∧ marked r ∧ f.Perm r ∧ (∀ k, k + 1 < f.length → key f k ≤ key f (k + 1)) ∧ (keep = true → stab f) ∧ f.length ≤ 1000 ∧ ∀ H', Same H H' → Q (.bl true) H'
def t_law_in_order (K : PySem.W.Frag) : TS := (tSeq (tIfS (tOr (tNot (tB (tCB (rIsi K) (tCons (tVar 1) (tCons (tC (.ty "tuple")) tNil))))) (tTest (tOp (rNeD K) (tCB (rSortedPD K) (tCons (tVar 1) tNil)) (tCB (rSortedPD K) (tCons (tVar 0) tNil))))) (tRet (tC (.bl false))) tNext)
    (tSeq (tFor (iRng2 (tCons (tC (.int 1)) (tCons (tCB (cLen K) (tCons (tVar 1) tNil)) tNil))) (gName 3) (tSeq (tIfS (tTest (tOp oGt (tOp (rIxT K) (tOp (rIxT K) (tVar 1) (tOp oSub (tVar 3) (tC (.int 1)))) (tC (.int 0))) (tOp (rIxT K) (tOp (rIxT K) (tVar 1) (tVar 3)) (tC (.int 0))))) (tRet (tC (.bl false))) tNext)
    (tIfS (tAnd (tB (tVar 2)) (tAnd (tTest (tOp rEq (tOp (rIxT K) (tOp (rIxT K) (tVar 1) (tOp oSub (tVar 3) (tC (.int 1)))) (tC (.int 0))) (tOp (rIxT K) (tOp (rIxT K) (tVar 1) (tVar 3)) (tC (.int 0))))) (tTest (tOp oGt (tOp (rIxT K) (tOp (rIxT K) (tVar 1) (tOp oSub (tVar 3) (tC (.int 1)))) (tC (.int 1))) (tOp (rIxT K) (tOp (rIxT K) (tVar 1) (tVar 3)) (tC (.int 1))))))) (tRet (tC (.bl false))) tNext)))
    (tRet (tC (.bl true)))))
abbrev n_law_in_order : List Str := ["_law_row", "_law_found", "_law_keep", "_law_k"]
section
variable {K : PySem.W.Frag} {vs : List V} {H : Hp} {Q : VK} {E : XK}
theorem len_law_in_order (h : sp_law_in_order K vs H Q E) : vs.length = 3 := by
  obtain ⟨rv, fv, r, f, k, rfl, _⟩ := h
  rfl
theorem rd_law_in_order (h : sp_law_in_order K vs H Q E) : t_law_in_order K { nx := fun _ H' => Q .non H', rt := Q } (start n_law_in_order vs) H := by
  obtain ⟨rv, fv, r, f, keep, rfl, ir, jf, mr, pm, up, st, zf, q⟩ := h
  have mf : marked f := fun t ht => mr t (pm.mem_iff.mp ht)
  show t_law_in_order K ⟨_, _, _, _⟩ [some rv, some fv, some (.bl keep), none] H
  unfold t_law_in_order
  walk_at "go"
  refine st_isi jf.dp (kit_all _).2.2.1 ?_
  rw [show isD (dR f) "tuple" = true from isD_tup _]
  walk_at "go"
  refine st_sortD jf mf (fun l1 H1 ys qs n1 s1 a1 x1 p1 o1 => ?_)
  walk_at "go"
  refine st_sortD (ir.same s1) mr (fun l2 H2 zs qs2 n2 s2 a2 x2 p2 o2 => ?_)
  have e : qs = qs2 := lex_perm (p1.trans ((pm.map mk2).trans p2.symm)) o1 o2
  subst e
  refine st_neD (.lst (at_seq (same_at s2 a1)) (x1.same s2).dp) (.lst (at_seq a2) x2.dp) ((sh_d2s _).shaped (by decide)) ((sh_d2s _).shaped (by decide)) ?_
  rw [eqv_self (sh_d2s _)]
  walk_at "go"
  have s02 := s1.trans s2
  have if2 := jf.same s02
  refine st_lenI if2 ?_
  rw [List.length_map]
  walk_at "go"
  refine st_r2 (f.length - 1) (by omega) (by omega) (by omega) ?_
  refine loop_r (fun i σ' H' => H' = H2 ∧ ∃ a, σ' = [some rv, some fv, some (.bl keep), a]) ⟨rfl, none, rfl⟩ (fun i σ' H' hi w => ?_) (fun σ' H' w => ?_)
  · obtain ⟨rfl, a, rfl⟩ := w
    have g0 := marked_at mf (show i < f.length by omega)
    have g1 := marked_at mf (show i + 1 < f.length by omega)
    have hup := up i (by omega)
    walk_at "go"
    refine st_ixI i if2 (by omega) g0 (fun w1 i1 => ?_)
    walk_at "go"
    refine st_ixI 0 i1 rfl rfl (fun k1 e1 => ?_)
    cases e1
    walk_at "go"
    refine st_ixI (i + 1) if2 (by omega) g1 (fun w2 i2 => ?_)
    walk_at "go"
    refine st_ixI 0 i2 rfl rfl (fun k1 e1 => ?_)
    cases e1
    walk_at "go"
    cases keep with
    | false =>
      walk_at "go"
      exact ⟨rfl, _, rfl⟩
    | true =>
      walk_at "go"
      refine st_ixI i if2 (by omega) g0 (fun w1 i1 => ?_)
      walk_at "go"
      refine st_ixI 0 i1 rfl rfl (fun k1 e1 => ?_)
      cases e1
      walk_at "go"
      refine st_ixI (i + 1) if2 (by omega) g1 (fun w2 i2 => ?_)
      walk_at "go"
      refine st_ixI 0 i2 rfl rfl (fun k1 e1 => ?_)
      cases e1
      walk_at "go"
      refine st_y2 (fun he => ?_) (fun he => ?_)
      · have hst := st rfl i (i + 1) (by omega) (by omega) he
        walk_at "go"
        refine st_ixI i if2 (by omega) g0 (fun w1 i1 => ?_)
        walk_at "go"
        refine st_ixI 1 i1 rfl rfl (fun k1 e1 => ?_)
        cases e1
        walk_at "go"
        refine st_ixI (i + 1) if2 (by omega) g1 (fun w2 i2 => ?_)
        walk_at "go"
        refine st_ixI 1 i2 rfl rfl (fun k1 e1 => ?_)
        cases e1
        walk_at "go"
        exact ⟨rfl, _, rfl⟩
      · walk_at "go"
        exact ⟨rfl, _, rfl⟩
  · obtain ⟨rfl, a, rfl⟩ := w
    walk_at "go"
    exact q H' s02
end
/-- a drawn row -/
def keysOf (z many : Nat) : List Int := [(z : Int) % 2, (z : Int) % 4 - 2, (z : Int) % ((many : Int) + 1), -(z : Int), (z : Int) * z * z - 10 ^ 25]
def markOf (_ k : Nat) : Mrk := .i k
def thingBy (ns : List Int) (at_ many k : Nat) : Thing := ((keysOf (mixed ns (at_ + 1 + k)) many).getD (mixed ns at_ % 5) 0, markOf (mixed ns (at_ + 1 + k)) k)
def rowBy (ns : List Int) (at_ many : Nat) : Row := (List.range many).map (thingBy ns at_ many)
theorem rowBy_len (ns : List Int) (at_ many : Nat) : (rowBy ns at_ many).length = many := by simp [rowBy]
def sp_law_row_by (K : PySem.W.Frag) : Sp := fun vs H Q _ => ∃ v ns, ∃ at_ many : Nat, vs = [v, .int at_, .int many] ∧ Scr K H v ns ∧ many ≤ 1000 ∧ ∀ w H', Same H H' → Im K H' w (dR (rowBy ns at_ many)) → Q w H'
def t_law_row_by (K : PySem.W.Frag) : TS := (tSeq (tAsg (tOp oMod (tCall (sp_law_mixed K) [] E0 (tCons (tVar 0) (tCons (tVar 1) tNil))) (tC (.int 5))) (gName 3))
    (tSeq (tAsg (tLst tNil) (gName 4))
    (tSeq (tFor (iRng1 (tCons (tVar 2) tNil)) (gName 5) (tSeq (tAsg (tCall (sp_law_mixed K) [] E0 (tCons (tVar 0) (tCons (tOp oAdd (tOp oAdd (tVar 1) (tC (.int 1))) (tVar 5)) tNil))) (gName 6))
    (tSeq (tAsg (tOp (rIxL K) (tLst (tCons (tOp oMod (tVar 6) (tC (.int 2))) (tCons (tOp oSub (tOp oMod (tVar 6) (tC (.int 4))) (tC (.int 2))) (tCons (tOp oMod (tVar 6) (tOp oAdd (tVar 2) (tC (.int 1)))) (tCons (tUn uNeg (tVar 6)) (tCons (tOp oSub (tOp oMulW (tOp oMul (tVar 6) (tVar 6)) (tVar 6)) (tOp oPow (tC (.int 10)) (tC (.int 25)))) tNil)))))) (tVar 3)) (gName 7))
    (tDrop (tBM K "list" rAppend (tVar 4) (tCons (tTup (tCons (tVar 7) (tCons (tVar 5) tNil))) tNil))))))
    (tRet (tCB (cTup K) (tCons (tVar 4) tNil))))))
abbrev n_law_row_by : List Str := ["_law_script", "_law_at", "_law_many", "_law_kinds", "_law_row", "_law_k", "_law_number", "_law_key"]
section
variable {K : PySem.W.Frag} {vs : List V} {H : Hp} {Q : VK} {E : XK}
theorem len_law_row_by (h : sp_law_row_by K vs H Q E) : vs.length = 3 := by
  obtain ⟨v, ns, a, k, rfl, _⟩ := h
  rfl
theorem rd_law_row_by (h : sp_law_row_by K vs H Q E) : t_law_row_by K { nx := fun _ H' => Q .non H', rt := Q } (start n_law_row_by vs) H := by
  obtain ⟨v, ns, at_, many, rfl, hs, hk, q⟩ := h
  show t_law_row_by K ⟨_, _, _, _⟩ [some v, some (.int at_), some (.int many), none, none, none, none, none] H
  unfold t_law_row_by
  walk_at "go"
  refine ⟨v, ns, at_, rfl, hs, ?_⟩
  walk_at "go"
  obtain ⟨kd, ekd⟩ : ∃ kd, kd = mixed ns at_ % 5 := ⟨_, rfl⟩
  have lkd : kd < 5 := by omega
  have ekd' : ((mixed ns at_ : Nat) : Int) % 5 = (kd : Int) := by omega
  rw [ekd']
  refine newL (by simp) (fun f H1 nf s1 af => ?_)
  walk_at "go"
  refine st_r1 many rfl (by omega) ?_
  refine loop_r0 (fun i σ' H' => Same H H' ∧ (∃ xs, At H' f (.lst xs) ∧ ImAll K H' xs (((List.range i).map (thingBy ns at_ many)).map dT)) ∧ ∃ a b c, σ' = [some v, some (.int at_), some (.int many), some (.int kd), some (.ref f), a, b, c]) ⟨s1, ⟨[], af, .nil⟩, none, none, none, rfl⟩ (fun i σ' H' hi w => ?_) (fun σ' H' w => ?_)
  · obtain ⟨s, ⟨xs, af, xf⟩, a, b, c, rfl⟩ := w
    walk_at "go"
    have e1 : (at_ : Int) + 1 + (i : Int) = ((at_ + 1 + i : Nat) : Int) := by omega
    rw [e1]
    refine ⟨v, ns, _, rfl, hs.tx (.of s), ?_⟩
    obtain ⟨z, ez⟩ : ∃ z, z = mixed ns (at_ + 1 + i) := ⟨_, rfl⟩
    have lz : z < 2147483647 := by rw [ez]; exact mixed_lt _ _
    rw [← ez]
    walk_at "go"
    have b1 : ((z : Int)).natAbs < 2 ^ 100 := by omega
    have b2 : ((z : Int) * z).natAbs < 2 ^ 100 := by
      rw [Int.natAbs_mul, Int.natAbs_natCast]
      exact Nat.lt_of_lt_of_le (Nat.mul_lt_mul'' lz lz) (by decide)
    refine st_mulW b2 b1 ?_
    walk_at "go"
    refine newL (by simp) (fun p2 H2 n2 s2 a2 => ?_)
    walk_at "go"
    have hkey : ([V.int ((z : Int) % 2), .int ((z : Int) % 4 - 2), .int ((z : Int) % ((many : Int) + 1)), .int (-(z : Int)), .int ((z : Int) * z * z - 10 ^ (25 : Int).toNat)] : List V)[kd]? = some (.int ((keysOf z many).getD kd 0)) := by
      have : ([V.int ((z : Int) % 2), .int ((z : Int) % 4 - 2), .int ((z : Int) % ((many : Int) + 1)), .int (-(z : Int)), .int ((z : Int) * z * z - 10 ^ (25 : Int).toNat)] : List V) = (keysOf z many).map V.int := rfl
      rw [this, List.getElem?_map]
      have hl : kd < (keysOf z many).length := lkd
      rw [List.getElem?_eq_getElem hl]
      simp [List.getD, List.getElem?_eq_getElem hl]
    refine st_ixL kd (at_seq a2) rfl hkey ?_
    walk_at "go"
    have af2 := same_at s2 af
    refine st_tyL af2 ?_
    walk_at "go"
    refine newI (K := K) (.cons (.int _) (.cons (.int _) .nil)) (by simp) (fun w4 H4 s4 i4 => ?_)
    walk_at "go"
    have s24 : Same H2 H4 := s4
    have lx := xf.length
    rw [List.length_map, List.length_map, List.length_range] at lx
    refine st_app (same_at s24 af2) (by omega) (fun H5 b5 a5 => ?_)
    have sH4 : Same H H4 := s.trans (s2.trans s24)
    refine ⟨same_bx sH4 b5 nf, ⟨_, a5, ?_⟩, _, _, _, rfl⟩
    rw [List.range_succ, List.map_append, List.map_append]
    have et : dT (thingBy ns at_ many i) = .tuple [.int ((keysOf z many).getD kd 0), .int (i : Int)] := by
      unfold thingBy dT
      rw [← ez, ← ekd]
      rfl
    show ImAll K H5 (xs ++ [w4]) (((List.range i).map (thingBy ns at_ many)).map dT ++ [dT (thingBy ns at_ many i)])
    rw [et]
    exact ((xf.same (s2.trans s24)).tx (bx_tx b5)).snoc (i4.tx (bx_tx b5))
  · obtain ⟨s, ⟨xs, af, xf⟩, a, b, c, rfl⟩ := w
    walk_at "go"
    refine st_tupI (at_seq af) xf (fun w3 H3 s3 i3 => ?_)
    exact q w3 H3 (s.trans s3) i3
end
def fallRow (m : Nat) : Row := (List.range m).map fun k => ((m : Int) - ((k / 2 : Nat) : Int), Mrk.i (k : Int))
theorem fallRow_len (m : Nat) : (fallRow m).length = m := by simp [fallRow]
theorem fallRow_counted (m : Nat) : counted (fallRow m) := fun i hi => by
  rw [fallRow_len] at hi
  unfold fallRow List.getD
  rw [List.getElem?_map, List.getElem?_range hi]
  rfl
theorem rowBy_counted (ns : List Int) (at_ m : Nat) : counted (rowBy ns at_ m) := fun i hi => by
  rw [rowBy_len] at hi
  unfold rowBy List.getD
  rw [List.getElem?_map, List.getElem?_range hi]
  rfl
theorem rule_orders {w m : Nat} (hm : m < 41) : ordersB (ruleP w m) m = true := by
  unfold ordersB firstBad
  rw [find_no (fun k _ => by
    unfold badRow
    rw [rule_sorts hm (bitsOf_len m k)]
    rfl)]
  rfl
def sp_law (K : PySem.W.Frag) : Sp := fun vs H Q _ => ∃ v ns, vs = [v] ∧ Scr K H v ns ∧ ∀ H', Q (.bl true) H'
def t_law (K : PySem.W.Frag) (C_BadProgram : Addr) (C_BadRow : Addr) (C_NoRule : Addr) : TS := (tSeq (tAsg (tOp oMod (tCall (sp_law_cell_at K) [] E0 (tCons (tVar 0) (tCons (tC (.int 0)) tNil))) (tC (.int 41))) (gName 1))
    (tSeq (tAsg (tOp (rIxL K) (tLst (tCons (tC (.str "step")) (tCons (tC (.str "rounds")) (tCons (tC (.str "quick")) tNil)))) (tOp oMod (tCall (sp_law_cell_at K) [] E0 (tCons (tVar 0) (tCons (tC (.int 1)) tNil))) (tC (.int 3)))) (gName 2))
    (tSeq (tAsg (tCall (sp_made K C_NoRule) [] E0 (tCons (tVar 2) (tCons (tVar 1) tNil))) (gName 3))
    (tSeq (tAsg (tCall (sp_keeps_by K C_NoRule) [] E0 (tCons (tVar 2) tNil)) (gName 4))
    (tSeq (tIfS (tOr (tTest (tOp rNe (tCB (cLen K) (tCons (tVar 3) tNil)) (tCall (sp_count_of K C_NoRule) [] E0 (tCons (tVar 2) (tCons (tVar 1) tNil))))) (tTest (tOp rNe (tVar 4) (tOp rNe (tVar 2) (tC (.str "quick")))))) (tRet (tC (.bl false))) tNext)
    (tSeq (tAsg (tLc (iRng1 (tCons (tC (.int 3)) tNil)) (gName 7) tYes (tCall (sp_law_row_by K) [] E0 (tCons (tVar 0) (tCons (tOp oAdd (tC (.int 10)) (tOp oMul (tC (.int 50)) (tVar 7))) (tCons (tVar 1) tNil)))) [7]) (gName 5))
    (tSeq (tDrop (tBM K "list" rAppend (tVar 5) (tCons (tCB (cTup K) (tCons (tLc (iRng1 (tCons (tVar 1) tNil)) (gName 7) tYes (tTup (tCons (tOp oSub (tVar 1) (tOp oDiv (tVar 7) (tC (.int 2)))) (tCons (tVar 7) tNil))) [7]) tNil)) tNil)))
    (tSeq (tFor (iList K (tVar 5)) (gName 6) (tIfS (tNot (tB (tCall (sp_law_in_order K) [] E0 (tCons (tVar 6) (tCons (tCall (sp_run K C_BadRow) [] E0 (tCons (tVar 3) (tCons (tVar 6) tNil))) (tCons (tVar 4) tNil)))))) (tRet (tC (.bl false))) tNext))
    (tRet (tOrV (tOp oGt (tVar 1) (tC (.int 8))) (tOp rIsB (tCall (sp_orders K C_BadProgram) [] E0 (tCons (tVar 3) (tCons (tVar 1) tNil))) (tC (.bl true)))))))))))))
abbrev n_law : List Str := ["_law_script", "_law_places", "_law_rule", "_law_program", "_law_keep", "_law_rows", "_law_row", "_law_k"]
section
variable {K : PySem.W.Frag} {vs : List V} {H : Hp} {Q : VK} {E : XK}
theorem len_law (h : sp_law K vs H Q E) : vs.length = 1 := by
  obtain ⟨v, ns, rfl, _⟩ := h
  rfl
theorem rd_law {C CR CN : Addr} (h : sp_law K vs H Q E) : t_law K C CR CN { nx := fun _ H' => Q .non H', rt := Q } (start n_law vs) H := by
  obtain ⟨v, ns, rfl, hs, q⟩ := h
  show t_law K C CR CN ⟨_, _, _, _⟩ [some v, none, none, none, none, none, none, none] H
  unfold t_law
  walk_at "go"
  refine ⟨v, ns, 0, rfl, hs, ?_⟩
  walk_at "go"
  obtain ⟨m, em, hm⟩ : ∃ m : Nat, cellAt ns 0 % 41 = (m : Int) ∧ m < 41 := ⟨(cellAt ns 0 % 41).toNat, by omega, by omega⟩
  rw [em]
  refine newL (by simp) (fun l0 H0 n0 s0 a0 => ?_)
  walk_at "go"
  have hs0 := hs.tx (.of s0)
  refine ⟨v, ns, 1, rfl, hs0, ?_⟩
  walk_at "go"
  obtain ⟨w, ew, hw⟩ : ∃ w : Nat, cellAt ns 1 % 3 = (w : Int) ∧ w < 3 := ⟨(cellAt ns 1 % 3).toNat, by omega, by omega⟩
  have hw3 : w = 0 ∨ w = 1 ∨ w = 2 := by omega
  have hname : ([V.str "step", .str "rounds", .str "quick"] : List V)[w]? = some (.str (nameR w)) := by
    rcases hw3 with rfl | rfl | rfl <;> rfl
  refine st_ixL w (at_seq a0) ew hname ?_
  walk_at "go"
  have hnamed : ∀ {C : Addr} {H : Hp} {E : XK} {R : Nat → Prop}, R w → Named C H (nameR w) E R := fun {C H E R} r => by
    rcases hw3 with rfl | rfl | rfl
    · exact .inr (.inl ⟨rfl, r⟩)
    · exact .inr (.inr (.inl ⟨rfl, r⟩))
    · exact .inr (.inr (.inr ⟨rfl, r⟩))
  have e6 : (2 : Nat) ^ 6 = 64 := by decide
  refine ⟨nameR w, m, rfl, by omega, hnamed (fun pv H1 s1 ip => ?_)⟩
  obtain ⟨P, eP⟩ : ∃ P, P = ruleP w m := ⟨_, rfl⟩
  have okp : okP m P := by rw [eP]; exact ruleP_ok w m
  have lP : P.length = countR w m := by rw [eP]; exact rule_len hm
  have lP2 : P.length ≤ 100000 := by
    rw [eP]
    unfold ruleP
    split
    · exact stepsOf_len (by omega)
    · split
      · have h1 := rounds_len m m
        have h2 : m * m ≤ 40 * 40 := Nat.mul_le_mul (by omega) (by omega)
        unfold roundsOf
        omega
      · have h1 := quick_len m (powersOf m)
        have h2 : (powersOf m).length * (7 * m) ≤ 6 * (7 * 64) := Nat.mul_le_mul (powers_len m) (by omega)
        unfold quickOf
        omega
  rw [← eP] at ip
  walk_at "go"
  refine ⟨nameR w, rfl, hnamed ?_⟩
  walk_at "go"
  refine st_lenI ip ?_
  rw [List.length_map, lP]
  walk_at "go"
  refine ⟨nameR w, m, rfl, by omega, by omega, hnamed ?_⟩
  have ec : cntR 6 w m = countR w m := rfl
  rw [ec]
  walk_at "go"
  have ekeep : (!decide (nameR w = "quick")) = decide (w < 2) := by
    rcases hw3 with rfl | rfl | rfl <;> decide +kernel
  rw [ekeep]
  refine st_nF rfl ?_
  walk_at "go"
  have s01 : Same H H1 := s0.trans s1
  have hs1 := hs.tx (.of s01)
  refine st_r1 3 rfl (by decide) ?_
  refine lc_r0 (K := K) (σw := [some v, some (.int m), some (.str (nameR w)), some pv, some (.bl (decide (w < 2))), none, none, none]) (fun _ => true) (fun i => dR (rowBy ns (10 + 50 * i) m)) rfl (by omega) (fun i H2 hi s2 CT CF kT kF => ?_) (fun l2 H2 xs n2 s2 a2 x2 => ?_)
  · walk_at "go"
    refine ⟨rfl, ?_⟩
    walk_at "go"
    rw [show (10 : Int) + 50 * (i : Int) = ((10 + 50 * i : Nat) : Int) by omega]
    refine ⟨v, ns, 10 + 50 * i, m, rfl, hs1.tx (.of s2), by omega, fun w3 H3 s3 i3 => ?_⟩
    exact kT rfl _ _ s3 i3
  · rw [given_all] at x2
    walk_at "go"
    refine st_tyL a2 ?_
    walk_at "go"
    refine st_r1 m rfl (by omega) ?_
    refine lc_r0 (K := K) (σw := [some v, some (.int m), some (.str (nameR w)), some pv, some (.bl (decide (w < 2))), some (.ref l2), none, none]) (fun _ => true) (fun k => dT ((m : Int) - ((k / 2 : Nat) : Int), Mrk.i (k : Int))) rfl (by omega) (fun k H3 hk s3 CT CF kT kF => ?_) (fun l3 H3 ys n3 s3 a3 x3 => ?_)
    · walk_at "go"
      refine ⟨rfl, ?_⟩
      walk_at "go"
      refine newI (K := K) (.cons (.int _) (.cons (.int _) .nil)) (by simp) (fun w4 H4 s4 i4 => ?_)
      refine kT rfl _ _ s4 ?_
      rw [show (k : Int) / 2 = ((k / 2 : Nat) : Int) by omega] at i4
      exact i4
    · rw [given_all] at x3
      have ef : (List.range m).map (fun k => dT ((m : Int) - ((k / 2 : Nat) : Int), Mrk.i (k : Int))) = (fallRow m).map dT := by
        unfold fallRow
        rw [List.map_map]
        rfl
      rw [ef] at x3
      walk_at "go"
      refine st_tupI (at_seq a3) x3 (fun w4 H4 s4 i4 => ?_)
      walk_at "go"
      have lx := x2.length
      rw [List.length_map, List.length_range] at lx
      have s24 := s3.trans s4
      refine st_app (same_at s24 a2) (by omega) (fun H5 b5 a5 => ?_)
      have t15 : Same H1 H5 := same_bx (s2.trans s24) b5 n2
      have x5 : ImAll K H5 (xs ++ [w4]) ((((List.range 3).map fun i => rowBy ns (10 + 50 * i) m) ++ [fallRow m]).map dR) := by
        rw [List.map_append, List.map_map]
        exact ((x2.same s24).tx (bx_tx b5)).snoc (i4.tx (bx_tx b5))
      have rows : ∀ r ∈ ((List.range 3).map fun i => rowBy ns (10 + 50 * i) m) ++ [fallRow m], r.length = m ∧ counted r := fun r hr => by
        rcases List.mem_append.mp hr with h | h
        · obtain ⟨i, _, rfl⟩ := List.mem_map.mp h
          exact ⟨rowBy_len ns (10 + 50 * i) m, rowBy_counted ns (10 + 50 * i) m⟩
        · rw [List.mem_singleton.mp h]
          exact ⟨fallRow_len m, fallRow_counted m⟩
      walk_at "go"
      refine loop_l (K := K) (at_seq a5) (fun i σ' H' => Same H5 H' ∧ ∃ a, σ' = [some v, some (.int m), some (.str (nameR w)), some pv, some (.bl (decide (w < 2))), some (.ref l2), a, none]) ⟨Same.refl _, none, rfl⟩ (fun i σ' H' w => at_seq (same_at w.1 a5)) (fun i x σ' H' hx ww => ?_) (fun σ' H' ww => ?_)
      · obtain ⟨s, a, rfl⟩ := ww
        obtain ⟨dd, hd, ix⟩ := (x5.same s).get hx
        rw [List.getElem?_map] at hd
        obtain ⟨r, hr, rfl⟩ := Option.map_eq_some_iff.mp hd
        obtain ⟨lr, cr⟩ := rows r (List.mem_of_getElem? hr)
        have okr : okP r.length P := by rw [lr]; exact okp
        have ip5 : Im K H' pv (dP P) := (ip.same t15).same s
        walk_at "go"
        refine ⟨pv, x, P, r, rfl, ip5, ix, lP2, by omega, okp.up, fun hn => absurd (wide_ok okr) (by omega), fun _ w6 H6 s6 i6 => ?_⟩
        walk_at "go"
        refine ⟨x, w6, r, goR P r, decide (w < 2), rfl, ix.same s6, i6, counted_marked cr, goR_perm okr, fun k hk => ?_, fun hk => ?_, by rw [goR_len]; omega, fun H7 s7 => ?_⟩
        · rw [goR_len, lr] at hk
          exact row_up (m := m) (fun bs hb => by rw [eP]; exact rule_sorts hm hb) okp lr hk
        · have hw2 : w < 2 := of_decide_eq_true hk
          exact stab_go (by rw [eP]; exact near_rule hw2) okr (counted_stab cr)
        · walk_at "go"
          exact ⟨s.trans (s6.trans s7), _, rfl⟩
      · obtain ⟨s, a, rfl⟩ := ww
        walk_at "go"
        by_cases h8 : (8 : Int) < (m : Int)
        · rw [decide_eq_true h8]
          walk_at "go"
          exact q _
        · rw [decide_eq_false h8]
          walk_at "go"
          refine ⟨pv, m, rfl, .inr ⟨P, ⟨(ip.same t15).same s, okp, lP2⟩, by omega, fun H7 s7 => ?_⟩⟩
          rw [eP, rule_orders hm]
          walk_at "go"
          exact q _
theorem law_start {a : Addr} {ns : List Int} {n : Nat} (_ : ns.length ≤ n) (hO : Only H) (hS : SqL K H a (ns.map V.int)) : sp_law K [.ref a] H (fun v _ => v = .bl true) fun _ _ _ => False := ⟨_, ns, rfl, scr_of hO hS, fun _ => rfl⟩
end
def topS (i : Nat) : Stmt := PySem.Challenge.pw_sortforge_k09_whole_made_ones.main.body.getD i (.Pass ⟨0, 0, 0, 0⟩)
abbrev s_by_steps : Stmt := topS 6
theorem sc_by_steps : FnScope n_by_steps ["places"] (defScope s_by_steps) := ⟨rfl, rfl, rfl, by decide +kernel, rfl, by decide +kernel, by decide +kernel⟩
theorem ok_by_steps {P : Program} {w : World} {K : PySem.W.Frag} {mg : Str → Option Value} {base : Heap} {f : Addr} {fd : FuncData} (F : Fun K "by_steps" "by_steps" s_by_steps f fd) (g : mg "by_steps" = some (.ref f)) (B : Blt mg) :
    Cal P w K mg base 1 "by_steps" (sp_by_steps K) [] := cal_of (F.ok (k := 0) sc_by_steps (fun vs H Q E h => len_by_steps h) (fun cdv A outer s H vs Q E hr h => by
      exact ⟨t_by_steps K, (pss_cons (ps_set (i := 1) sc_by_steps.nd rfl (by first | exact Or.inl rfl | exact Or.inr rfl) (pe_lst pa_nil))
    (pss_cons (ps_for PassesOwn.never rfl (pi_range2 (by rfl) B.range (pa_cons pe_int (pa_cons (pv 0) pa_nil))) (pg_name (i := 2) sc_by_steps.nd rfl (by first | exact Or.inl rfl | exact Or.inr rfl)) (pss_one (ps_for PassesOwn.never rfl (pi_range3 (by rfl) B.range (pa_cons (pe_op op_sub (pv 2) pe_int) (pa_cons (pe_un un_neg pe_int) (pa_cons (pe_un un_neg pe_int) pa_nil)))) (pg_name (i := 3) sc_by_steps.nd rfl (by first | exact Or.inl rfl | exact Or.inr rfl)) (pss_one (ps_expr (pe_bm PySem.F.plainAttrs_list PySem.F.slot_list_append PySem.F.type_list_append mt_append (pv 1) (pa_cons (pe_tup (pa_cons (pv 3) (pa_cons (pe_op op_add (pv 3) pe_int) pa_nil))) pa_nil)))))))
    (pss_one (ps_ret (pv 1))))), rd_by_steps h⟩)) g F.kp (F.binds (ps := ["places"]) fun _ _ _ _ _ _ us hl => match us, hl with | [_], _ => rfl)
abbrev s_by_rounds : Stmt := topS 7
theorem sc_by_rounds : FnScope n_by_rounds ["places"] (defScope s_by_rounds) := ⟨rfl, rfl, rfl, by decide +kernel, rfl, by decide +kernel, by decide +kernel⟩
theorem ok_by_rounds {P : Program} {w : World} {K : PySem.W.Frag} {mg : Str → Option Value} {base : Heap} {f : Addr} {fd : FuncData} (F : Fun K "by_rounds" "by_rounds" s_by_rounds f fd) (g : mg "by_rounds" = some (.ref f)) (B : Blt mg) :
    Cal P w K mg base 1 "by_rounds" (sp_by_rounds K) [] := cal_of (F.ok (k := 0) sc_by_rounds (fun vs H Q E h => len_by_rounds h) (fun cdv A outer s H vs Q E hr h => by
      exact ⟨t_by_rounds K, (pss_cons (ps_set (i := 1) sc_by_rounds.nd rfl (by first | exact Or.inl rfl | exact Or.inr rfl) (pe_lst pa_nil))
    (pss_cons (ps_for PassesOwn.never rfl (pi_range1 (by rfl) B.range (pa_cons (pv 0) pa_nil)) (pg_name (i := 2) sc_by_rounds.nd rfl (by first | exact Or.inl rfl | exact Or.inr rfl)) (pss_one (ps_for PassesOwn.never rfl (pi_range3 (by rfl) B.range (pa_cons (pe_op op_mod (pv 2) pe_int) (pa_cons (pe_op op_sub (pv 0) pe_int) (pa_cons pe_int pa_nil)))) (pg_name (i := 3) sc_by_rounds.nd rfl (by first | exact Or.inl rfl | exact Or.inr rfl)) (pss_one (ps_expr (pe_bm PySem.F.plainAttrs_list PySem.F.slot_list_append PySem.F.type_list_append mt_append (pv 1) (pa_cons (pe_tup (pa_cons (pv 3) (pa_cons (pe_op op_add (pv 3) pe_int) pa_nil))) pa_nil)))))))
    (pss_one (ps_ret (pv 1))))), rd_by_rounds h⟩)) g F.kp (F.binds (ps := ["places"]) fun _ _ _ _ _ _ us hl => match us, hl with | [_], _ => rfl)
abbrev s_halves : Stmt := topS 8
theorem sc_halves : FnScope n_halves ["places"] (defScope s_halves) := ⟨rfl, rfl, rfl, by decide +kernel, rfl, by decide +kernel, by decide +kernel⟩
theorem ok_halves {P : Program} {w : World} {K : PySem.W.Frag} {mg : Str → Option Value} {base : Heap} {f : Addr} {fd : FuncData} (F : Fun K "halves" "halves" s_halves f fd) (g : mg "halves" = some (.ref f)) (B : Blt mg) :
    Cal P w K mg base 1 "halves" (sp_halves K) [] := cal_of (F.ok (k := 0) sc_halves (fun vs H Q E h => len_halves h) (fun cdv A outer s H vs Q E hr h => by
      exact ⟨t_halves K, (pss_cons (ps_set (i := 1) sc_halves.nd rfl (by first | exact Or.inl rfl | exact Or.inr rfl) (pe_lst pa_nil))
    (pss_cons (ps_set (i := 2) sc_halves.nd rfl (by first | exact Or.inl rfl | exact Or.inr rfl) pe_int)
    (pss_cons (ps_while PassesOwn.never (pt_cmpR op_lt (pv 2) (pv 0) (nomark _)) (pss_cons (ps_expr (pe_bm PySem.F.plainAttrs_list PySem.F.slot_list_append PySem.F.type_list_append mt_append (pv 1) (pa_cons (pv 2) pa_nil)))
    (pss_one (ps_set (i := 2) sc_halves.nd rfl (by first | exact Or.inl rfl | exact Or.inr rfl) (pe_op op_mul pe_int (pv 2))))))
    (pss_one (ps_ret (pe_revL (pv 1))))))), rd_halves h⟩)) g F.kp (F.binds (ps := ["places"]) fun _ _ _ _ _ _ us hl => match us, hl with | [_], _ => rfl)
abbrev s_passed : Stmt := topS 9
theorem sc_passed : FnScope n_passed ["places", "part", "far", "side"] (defScope s_passed) := ⟨rfl, rfl, rfl, by decide +kernel, rfl, by decide +kernel, by decide +kernel⟩
theorem ok_passed {P : Program} {w : World} {K : PySem.W.Frag} {mg : Str → Option Value} {base : Heap} {f : Addr} {fd : FuncData} (F : Fun K "passed" "passed" s_passed f fd) (g : mg "passed" = some (.ref f)) (B : Blt mg) :
    Cal P w K mg base 1 "passed" (sp_passed K) [] := cal_of (F.ok (k := 0) sc_passed (fun vs H Q E h => len_passed h) (fun cdv A outer s H vs Q E hr h => by
      exact ⟨t_passed K, (pss_one (ps_ret (pe_lc (own := [("low", 4)]) (g := (gName 4)) (tt := (tTest (tOp rEq (tOp oMod (tOp oDiv (tVar 4) (tVar 1)) (tC (.int 2))) (tVar 3)))) rfl sc_passed.nd (pi_range1 (by rfl) B.range (pa_cons (pe_op op_sub (pv 0) (pv 2)) pa_nil)) (blkOk_by (own := [("low", 4)]) (N := n_passed) (sc := defScope s_passed) (by decide +kernel)) (fun _ _ _ _ _ => (pg_name (i := 4) sc_passed.nd rfl (by first | exact Or.inl rfl | exact Or.inr rfl))) (fun _ _ _ _ _ => (pts_one (pt_cmpR op_eq (pe_op op_mod (pe_op op_fdiv (pv 4) (pv 1)) pe_int) (pv 3) (nomark _)))) (fun _ _ _ _ _ => (pe_tup (pa_cons (pv 4) (pa_cons (pe_op op_add (pv 4) (pv 2)) pa_nil))))))), rd_passed h⟩)) g F.kp (F.binds (ps := ["places", "part", "far", "side"]) fun _ _ _ _ _ _ us hl => match us, hl with | [_, _, _, _], _ => rfl)
abbrev s_by_merging : Stmt := topS 10
theorem sc_by_merging : FnScope n_by_merging ["places"] (defScope s_by_merging) := ⟨rfl, rfl, rfl, by decide +kernel, rfl, by decide +kernel, by decide +kernel⟩
theorem ok_by_merging {P : Program} {w : World} {K : PySem.W.Frag} {mg : Str → Option Value} {base : Heap} {f : Addr} {fd : FuncData} (F : Fun K "by_merging" "by_merging" s_by_merging f fd) (g : mg "by_merging" = some (.ref f)) (B : Blt mg) (c_halves : Cal P w K mg base 1 "halves" (sp_halves K) []) (c_passed : Cal P w K mg base 1 "passed" (sp_passed K) []) :
    Cal P w K mg base 2 "by_merging" (sp_by_merging K) [] := cal_of (F.ok (k := 1) sc_by_merging (fun vs H Q E h => len_by_merging h) (fun cdv A outer s H vs Q E hr h => by
      exact ⟨t_by_merging K, (pss_cons (ps_set (i := 1) sc_by_merging.nd rfl (by first | exact Or.inl rfl | exact Or.inr rfl) (pe_lst pa_nil))
    (pss_cons (ps_set (i := 2) sc_by_merging.nd rfl (by first | exact Or.inl rfl | exact Or.inr rfl) (C8.pe_c c_halves hr (by decide) (by rfl) (pa_cons (pv 0) pa_nil)))
    (pss_cons (ps_for PassesOwn.never rfl (pi_list (pv 2)) (pg_name (i := 3) sc_by_merging.nd rfl (by first | exact Or.inl rfl | exact Or.inr rfl)) (pss_cons (ps_expr (pe_bm PySem.F.plainAttrs_list PySem.F.slot_list_extend PySem.F.type_list_extend mt_extend (pv 1) (pa_cons (C8.pe_c c_passed hr (by decide) (by rfl) (pa_cons (pv 0) (pa_cons (pv 3) (pa_cons (pv 3) (pa_cons pe_int pa_nil))))) pa_nil)))
    (pss_one (ps_for PassesOwn.never rfl (pi_list (pv 2)) (pg_name (i := 4) sc_by_merging.nd rfl (by first | exact Or.inl rfl | exact Or.inr rfl)) (pss_one (ps_if (pt_cmpR op_gt (pv 4) (pv 3) (nomark _)) (pss_one (ps_expr (pe_bm PySem.F.plainAttrs_list PySem.F.slot_list_extend PySem.F.type_list_extend mt_extend (pv 1) (pa_cons (C8.pe_c c_passed hr (by decide) (by rfl) (pa_cons (pv 0) (pa_cons (pv 3) (pa_cons (pe_op op_sub (pv 4) (pv 3)) (pa_cons pe_int pa_nil))))) pa_nil)))) pss_nil))))))
    (pss_one (ps_ret (pv 1)))))), rd_by_merging h⟩)) g F.kp (F.binds (ps := ["places"]) fun _ _ _ _ _ _ us hl => match us, hl with | [_], _ => rfl)
abbrev s_made : Stmt := topS 11
theorem sc_made : FnScope n_made ["rule", "places"] (defScope s_made) := ⟨rfl, rfl, rfl, by decide +kernel, rfl, by decide +kernel, by decide +kernel⟩
theorem ok_made {P : Program} {w : World} {K : PySem.W.Frag} {mg : Str → Option Value} {base : Heap} {f : Addr} {fd : FuncData} (F : Fun K "made" "made" s_made f fd) (g : mg "made" = some (.ref f)) {C_NoRule : Addr} (X_NoRule : ExcK K mg "NoRule" C_NoRule) (B : Blt mg) (c_by_merging : Cal P w K mg base 2 "by_merging" (sp_by_merging K) []) (c_by_rounds : Cal P w K mg base 1 "by_rounds" (sp_by_rounds K) []) (c_by_steps : Cal P w K mg base 1 "by_steps" (sp_by_steps K) []) :
    CalX P w K mg base 3 "made" (sp_made K C_NoRule) := calX_of (F.okX (k := 2) sc_made (fun vs H Q E h => len_made h) (fun cdv A outer s H vs Q E hr h => by
      exact ⟨t_made K C_NoRule E, (pss_cons (ps_if (pt_cmpR op_eq (pv 0) pe_str (nomark _)) (pss_one (ps_ret (pe_callTy call_tuple_of (by rfl) B.tuple (by decide +kernel) (pa_cons (C8.pe_c c_by_steps hr (by decide) (by rfl) (pa_cons (pv 1) pa_nil)) pa_nil)))) pss_nil)
    (pss_cons (ps_if (pt_cmpR op_eq (pv 0) pe_str (nomark _)) (pss_one (ps_ret (pe_callTy call_tuple_of (by rfl) B.tuple (by decide +kernel) (pa_cons (C8.pe_c c_by_rounds hr (by decide) (by rfl) (pa_cons (pv 1) pa_nil)) pa_nil)))) pss_nil)
    (pss_cons (ps_if (pt_cmpR op_eq (pv 0) pe_str (nomark _)) (pss_one (ps_ret (pe_callTy call_tuple_of (by rfl) B.tuple (by decide +kernel) (pa_cons (C8.pe_c c_by_merging hr (by decide) (by rfl) (pa_cons (pv 1) pa_nil)) pa_nil)))) pss_nil)
    (pss_one (ps_raiseC (takes_of rfl rfl rfl rfl) X_NoRule (by rfl)))))), rd_made h⟩)) g F.kp (F.binds (ps := ["rule", "places"]) fun _ _ _ _ _ _ us hl => match us, hl with | [_, _], _ => rfl)
abbrev s_merging : Stmt := topS 12
theorem sc_merging : FnScope n_merging ["one", "other"] (defScope s_merging) := ⟨rfl, rfl, rfl, by decide +kernel, rfl, by decide +kernel, by decide +kernel⟩
theorem ok_merging_bot {P : Program} {w : World} {K : PySem.W.Frag} {mg : Str → Option Value} {base : Heap} {f : Addr} {fd : FuncData} (F : Fun K "merging" "merging" s_merging f fd) (g : mg "merging" = some (.ref f)) (B : Blt mg) : Cal P w K mg base 1 "merging" (fun _ _ _ _ => False) [] := cal_of (F.ok (k := 0) sc_merging (fun vs H Q E h => h.elim) (fun cdv A outer s H vs Q E hr h => h.elim)) g F.kp (F.binds (ps := ["one", "other"]) fun _ _ _ _ _ _ us hl => match us, hl with | [_, _], _ => rfl)
theorem ok_merging_up {P : Program} {w : World} {K : PySem.W.Frag} {mg : Str → Option Value} {base : Heap} {f : Addr} {fd : FuncData} (F : Fun K "merging" "merging" s_merging f fd) (g : mg "merging" = some (.ref f)) (B : Blt mg) {j : Nat} {S S' : Sp} (hj : 0 ≤ j) (IH : Cal P w K mg base j "merging" S []) (hl : ∀ vs H Q E, S' vs H Q E → vs.length = 2) (hrd : ∀ vs H Q E, S' vs H Q E → t_merging K S { nx := fun _ H' => Q .non H', rt := Q } (start n_merging vs) H) : Cal P w K mg base (j + 1) "merging" S' [] := cal_of (F.ok (k := j) sc_merging (fun vs H Q E h => hl vs H Q E h) (fun cdv A outer s H vs Q E hr h => by
      exact ⟨t_merging K S, (pss_cons (ps_if (PW.pt (pw_or (pt_cmpR op_eq (pv 0) pe_int (nomark _)) (pw_or1 (pt_cmpR op_eq (pv 1) pe_int (nomark _))))) (pss_one (ps_ret pe_int)) pss_nil)
    (pss_cons (ps_if (PW.pt (pw_and (pt_cmpR op_eq (pv 0) pe_int (nomark _)) (pw_and1 (pt_cmpR op_eq (pv 1) pe_int (nomark _))))) (pss_one (ps_ret pe_int)) pss_nil)
    (pss_cons (ps_set (i := 2) sc_merging.nd rfl (by first | exact Or.inl rfl | exact Or.inr rfl) (C8.pe_c IH hr (Nat.le_refl _) (by rfl) (pa_cons (pe_op op_fdiv (pe_op op_add (pv 0) pe_int) pe_int) (pa_cons (pe_op op_fdiv (pe_op op_add (pv 1) pe_int) pe_int) pa_nil))))
    (pss_one (ps_ret (pe_op op_add (pe_op op_add (pv 2) (C8.pe_c IH hr (Nat.le_refl _) (by rfl) (pa_cons (pe_op op_fdiv (pv 0) pe_int) (pa_cons (pe_op op_fdiv (pv 1) pe_int) pa_nil)))) (pe_op op_fdiv (pe_op op_sub (pe_op op_add (pv 0) (pv 1)) pe_int) pe_int))))))), hrd vs H Q E h⟩)) g F.kp (F.binds (ps := ["one", "other"]) fun _ _ _ _ _ _ us hl => match us, hl with | [_, _], _ => rfl)
theorem ok_merging_at {P : Program} {w : World} {K : PySem.W.Frag} {mg : Str → Option Value} {base : Heap} {f : Addr} {fd : FuncData} (F : Fun K "merging" "merging" s_merging f fd) (g : mg "merging" = some (.ref f)) (B : Blt mg) : ∀ i : Nat, Cal P w K mg base (2 + i) "merging" (lv_merging i) []
  | 0 => ok_merging_up (j := 1) F g B (by omega) (ok_merging_bot F g B) (fun vs H Q E h => ll_merging 0 h) (fun vs H Q E h => r0_merging h)
  | i + 1 => ok_merging_up (j := 2 + i) F g B (by omega) (ok_merging_at F g B i) (fun vs H Q E h => ll_merging (i + 1) h) (fun vs H Q E h => rs_merging i h)
theorem ok_merging {P : Program} {w : World} {K : PySem.W.Frag} {mg : Str → Option Value} {base : Heap} {f : Addr} {fd : FuncData} (F : Fun K "merging" "merging" s_merging f fd) (g : mg "merging" = some (.ref f)) (B : Blt mg) : Cal P w K mg base 8 "merging" (sp_merging K) [] := ok_merging_at F g B 6
abbrev s_count_of : Stmt := topS 13
theorem sc_count_of : FnScope n_count_of ["rule", "places"] (defScope s_count_of) := ⟨rfl, rfl, rfl, by decide +kernel, rfl, by decide +kernel, by decide +kernel⟩
theorem ok_count_of_bot {P : Program} {w : World} {K : PySem.W.Frag} {mg : Str → Option Value} {base : Heap} {f : Addr} {fd : FuncData} (F : Fun K "count_of" "count_of" s_count_of f fd) (g : mg "count_of" = some (.ref f)) {C_NoRule : Addr} (X_NoRule : ExcK K mg "NoRule" C_NoRule) (B : Blt mg) (c_merging : Cal P w K mg base 8 "merging" (sp_merging K) []) : CalX P w K mg base 9 "count_of" (fun _ _ _ _ => False) := calX_of (F.okX (k := 8) sc_count_of (fun vs H Q E h => h.elim) (fun cdv A outer s H vs Q E hr h => h.elim)) g F.kp (F.binds (ps := ["rule", "places"]) fun _ _ _ _ _ _ us hl => match us, hl with | [_, _], _ => rfl)
theorem ok_count_of_up {P : Program} {w : World} {K : PySem.W.Frag} {mg : Str → Option Value} {base : Heap} {f : Addr} {fd : FuncData} (F : Fun K "count_of" "count_of" s_count_of f fd) (g : mg "count_of" = some (.ref f)) {C_NoRule : Addr} (X_NoRule : ExcK K mg "NoRule" C_NoRule) (B : Blt mg) (c_merging : Cal P w K mg base 8 "merging" (sp_merging K) []) {j : Nat} {S S' : Sp} (hj : 8 ≤ j) (IH : CalX P w K mg base j "count_of" S) (hl : ∀ vs H Q E, S' vs H Q E → vs.length = 2) (hrd : ∀ vs H Q E, S' vs H Q E → t_count_of K C_NoRule S E { nx := fun _ H' => Q .non H', rt := Q } (start n_count_of vs) H) : CalX P w K mg base (j + 1) "count_of" S' := calX_of (F.okX (k := j) sc_count_of (fun vs H Q E h => hl vs H Q E h) (fun cdv A outer s H vs Q E hr h => by
      exact ⟨t_count_of K C_NoRule S E, (pss_cons (ps_if (PW.pt (pw_or (pt_cmpR op_eq (pv 0) pe_str (nomark _)) (pw_or1 (pt_cmpR op_eq (pv 0) pe_str (nomark _))))) (pss_one (ps_ret (pe_op op_fdiv (pe_op op_mul (pv 1) (pe_op op_sub (pv 1) pe_int)) pe_int))) pss_nil)
    (pss_cons (ps_if (pt_cmpR op_ne (pv 0) pe_str (nomark _)) (pss_one (ps_raiseC (takes_of rfl rfl rfl rfl) X_NoRule (by rfl))) pss_nil)
    (pss_cons (ps_if (pt_cmpR op_lt (pv 1) pe_int (nomark _)) (pss_one (ps_ret pe_int)) pss_nil)
    (pss_cons (ps_set (i := 2) sc_count_of.nd rfl (by first | exact Or.inl rfl | exact Or.inr rfl) (pe_op op_fdiv (pe_op op_add (pv 1) pe_int) pe_int))
    (pss_one (ps_ret (pe_op op_add (pe_op op_add (pe_x0 IH hr (Nat.le_refl _) (by rfl) (pa_cons (pv 0) (pa_cons (pv 2) pa_nil))) (pe_x0 IH hr (Nat.le_refl _) (by rfl) (pa_cons (pv 0) (pa_cons (pe_op op_sub (pv 1) (pv 2)) pa_nil)))) (C8.pe_c c_merging hr hj (by rfl) (pa_cons (pv 2) (pa_cons (pe_op op_sub (pv 1) (pv 2)) pa_nil)))))))))), hrd vs H Q E h⟩)) g F.kp (F.binds (ps := ["rule", "places"]) fun _ _ _ _ _ _ us hl => match us, hl with | [_, _], _ => rfl)
theorem ok_count_of_at {P : Program} {w : World} {K : PySem.W.Frag} {mg : Str → Option Value} {base : Heap} {f : Addr} {fd : FuncData} (F : Fun K "count_of" "count_of" s_count_of f fd) (g : mg "count_of" = some (.ref f)) {C_NoRule : Addr} (X_NoRule : ExcK K mg "NoRule" C_NoRule) (B : Blt mg) (c_merging : Cal P w K mg base 8 "merging" (sp_merging K) []) : ∀ i : Nat, CalX P w K mg base (10 + i) "count_of" (lv_count_of C_NoRule i)
  | 0 => ok_count_of_up (j := 9) F g X_NoRule B c_merging (by omega) (ok_count_of_bot F g X_NoRule B c_merging) (fun vs H Q E h => ll_count_of 0 h) (fun vs H Q E h => r0_count_of h)
  | i + 1 => ok_count_of_up (j := 10 + i) F g X_NoRule B c_merging (by omega) (ok_count_of_at F g X_NoRule B c_merging i) (fun vs H Q E h => ll_count_of (i + 1) h) (fun vs H Q E h => rs_count_of i h)
theorem ok_count_of {P : Program} {w : World} {K : PySem.W.Frag} {mg : Str → Option Value} {base : Heap} {f : Addr} {fd : FuncData} (F : Fun K "count_of" "count_of" s_count_of f fd) (g : mg "count_of" = some (.ref f)) {C_NoRule : Addr} (X_NoRule : ExcK K mg "NoRule" C_NoRule) (B : Blt mg) (c_merging : Cal P w K mg base 8 "merging" (sp_merging K) []) : CalX P w K mg base 16 "count_of" (sp_count_of K C_NoRule) := ok_count_of_at F g X_NoRule B c_merging 6
abbrev s_keeps_by : Stmt := topS 14
theorem sc_keeps_by : FnScope n_keeps_by ["rule"] (defScope s_keeps_by) := ⟨rfl, rfl, rfl, by decide +kernel, rfl, by decide +kernel, by decide +kernel⟩
theorem ok_keeps_by {P : Program} {w : World} {K : PySem.W.Frag} {mg : Str → Option Value} {base : Heap} {f : Addr} {fd : FuncData} (F : Fun K "keeps_by" "keeps_by" s_keeps_by f fd) (g : mg "keeps_by" = some (.ref f)) {C_NoRule : Addr} (X_NoRule : ExcK K mg "NoRule" C_NoRule) (B : Blt mg) :
    CalX P w K mg base 1 "keeps_by" (sp_keeps_by K C_NoRule) := calX_of (F.okX (k := 0) sc_keeps_by (fun vs H Q E h => len_keeps_by h) (fun cdv A outer s H vs Q E hr h => by
      exact ⟨t_keeps_by K C_NoRule E, (pss_cons (ps_if (pt_cmpR op_eq (pv 0) pe_str (nomark _)) (pss_one (ps_ret pe_bl)) pss_nil)
    (pss_cons (ps_if (PW.pt (pw_or (pt_cmpR op_eq (pv 0) pe_str (nomark _)) (pw_or1 (pt_cmpR op_eq (pv 0) pe_str (nomark _))))) (pss_one (ps_ret pe_bl)) pss_nil)
    (pss_one (ps_raiseC (takes_of rfl rfl rfl rfl) X_NoRule (by rfl))))), rd_keeps_by h⟩)) g F.kp (F.binds (ps := ["rule"]) fun _ _ _ _ _ _ us hl => match us, hl with | [_], _ => rfl)
abbrev s_is_place : Stmt := topS 16
theorem sc_is_place : FnScope n_is_place ["thing"] (defScope s_is_place) := ⟨rfl, rfl, rfl, by decide +kernel, rfl, by decide +kernel, by decide +kernel⟩
theorem ok_is_place {P : Program} {w : World} {K : PySem.W.Frag} {mg : Str → Option Value} {base : Heap} {f : Addr} {fd : FuncData} (F : Fun K "is_place" "is_place" s_is_place f fd) (g : mg "is_place" = some (.ref f)) (B : Blt mg) :
    Cal P w K mg base 1 "is_place" (sp_is_place K) [] := cal_of (F.ok (k := 0) sc_is_place (fun vs H Q E h => len_is_place h) (fun cdv A outer s H vs Q E hr h => by
      exact ⟨t_is_place K, (pss_one (ps_ret (pe_and (pe_callB call_isi (by rfl) B.isinstance (by decide +kernel) (pa_cons (pv 0) (pa_cons (pe_bltn (v := .ty "int") (by rfl) B.int (by decide +kernel) rfl) pa_nil))) (pe_and (pe_not (pe_callB call_isi (by rfl) B.isinstance (by decide +kernel) (pa_cons (pv 0) (pa_cons (pe_bltn (v := .ty "bool") (by rfl) B.bool (by decide +kernel) rfl) pa_nil)))) (pe_one (pe_cmpR op_ge (pv 0) pe_int (nomark _))))))), rd_is_place h⟩)) g F.kp (F.binds (ps := ["thing"]) fun _ _ _ _ _ _ us hl => match us, hl with | [_], _ => rfl)
abbrev s_is_compare : Stmt := topS 17
theorem sc_is_compare : FnScope n_is_compare ["thing", "places"] (defScope s_is_compare) := ⟨rfl, rfl, rfl, by decide +kernel, rfl, by decide +kernel, by decide +kernel⟩
theorem ok_is_compare {P : Program} {w : World} {K : PySem.W.Frag} {mg : Str → Option Value} {base : Heap} {f : Addr} {fd : FuncData} (F : Fun K "is_compare" "is_compare" s_is_compare f fd) (g : mg "is_compare" = some (.ref f)) (B : Blt mg) (c_is_place : Cal P w K mg base 1 "is_place" (sp_is_place K) []) :
    Cal P w K mg base 2 "is_compare" (sp_is_compare K) [] := cal_of (F.ok (k := 1) sc_is_compare (fun vs H Q E h => len_is_compare h) (fun cdv A outer s H vs Q E hr h => by
      exact ⟨t_is_compare K, (pss_cons (ps_if (PW.pt (pw_or (pt_not (pt_val (pe_callB call_isi (by rfl) B.isinstance (by decide +kernel) (pa_cons (pv 0) (pa_cons (pe_bltn (v := .ty "tuple") (by rfl) B.tuple (by decide +kernel) rfl) pa_nil))))) (pw_or (pt_cmpR op_ne (pe_callB call_len_seq (by rfl) B.len (by decide +kernel) (pa_cons (pv 0) pa_nil)) pe_int (nomark _)) (pw_or (pt_not (pt_val (C8.pe_c c_is_place hr (by decide) (by rfl) (pa_cons (pe_ix ix_tup (pv 0) pe_int (fun _ _ => rfl)) pa_nil)))) (pw_or1 (pt_not (pt_val (C8.pe_c c_is_place hr (by decide) (by rfl) (pa_cons (pe_ix ix_tup (pv 0) pe_int (fun _ _ => rfl)) pa_nil))))))))) (pss_one (ps_ret pe_bl)) pss_nil)
    (pss_one (ps_ret (pe_and (pe_cmpR op_lt (pe_ix ix_tup (pv 0) pe_int (fun _ _ => rfl)) (pe_ix ix_tup (pv 0) pe_int (fun _ _ => rfl)) (nomark _)) (pe_one (pe_cmpR op_lt (pe_ix ix_tup (pv 0) pe_int (fun _ _ => rfl)) (pv 1) (nomark _))))))), rd_is_compare h⟩)) g F.kp (F.binds (ps := ["thing", "places"]) fun _ _ _ _ _ _ us hl => match us, hl with | [_, _], _ => rfl)
abbrev s_is_program : Stmt := topS 18
theorem sc_is_program : FnScope n_is_program ["thing", "places"] (defScope s_is_program) := ⟨rfl, rfl, rfl, by decide +kernel, rfl, by decide +kernel, by decide +kernel⟩
theorem ok_is_program {P : Program} {w : World} {K : PySem.W.Frag} {mg : Str → Option Value} {base : Heap} {f : Addr} {fd : FuncData} (F : Fun K "is_program" "is_program" s_is_program f fd) (g : mg "is_program" = some (.ref f)) (B : Blt mg) (c_is_compare : Cal P w K mg base 2 "is_compare" (sp_is_compare K) []) :
    Cal P w K mg base 3 "is_program" (sp_is_program K) [] := cal_of (F.ok (k := 2) sc_is_program (fun vs H Q E h => len_is_program h) (fun cdv A outer s H vs Q E hr h => by
      exact ⟨t_is_program K, (pss_cons (ps_if (pt_not (pt_val (pe_callB call_isi (by rfl) B.isinstance (by decide +kernel) (pa_cons (pv 0) (pa_cons (pe_bltn (v := .ty "tuple") (by rfl) B.tuple (by decide +kernel) rfl) pa_nil))))) (pss_one (ps_ret pe_bl)) pss_nil)
    (pss_one (ps_ret (pe_callB (cr_all rfl) (by rfl) B.all (by decide +kernel) (pa_cons (pe_lc (own := [("one", 2)]) (g := (gName 2)) (tt := tYes) rfl sc_is_program.nd (pi_tup (pv 0)) (blkOk_by (own := [("one", 2)]) (N := n_is_program) (sc := defScope s_is_program) (by decide +kernel)) (fun _ _ _ _ _ => (pg_name (i := 2) sc_is_program.nd rfl (by first | exact Or.inl rfl | exact Or.inr rfl))) (fun _ _ _ _ _ => pts_nil) (fun _ _ _ _ _ => (C8.pe_c c_is_compare hr (by decide) (by rfl) (pa_cons (pv 2) (pa_cons (pv 1) pa_nil))))) pa_nil))))), rd_is_program h⟩)) g F.kp (F.binds (ps := ["thing", "places"]) fun _ _ _ _ _ _ us hl => match us, hl with | [_, _], _ => rfl)
abbrev s_places_of : Stmt := topS 19
theorem sc_places_of : FnScope n_places_of ["program"] (defScope s_places_of) := ⟨rfl, rfl, rfl, by decide +kernel, rfl, by decide +kernel, by decide +kernel⟩
theorem ok_places_of {P : Program} {w : World} {K : PySem.W.Frag} {mg : Str → Option Value} {base : Heap} {f : Addr} {fd : FuncData} (F : Fun K "places_of" "places_of" s_places_of f fd) (g : mg "places_of" = some (.ref f)) (B : Blt mg) :
    Cal P w K mg base 1 "places_of" (sp_places_of K) [] := cal_of (F.ok (k := 0) sc_places_of (fun vs H Q E h => len_places_of h) (fun cdv A outer s H vs Q E hr h => by
      exact ⟨t_places_of K, (pss_one (ps_ret (pe_callBK (cr_maxD rfl) (by rfl) B.max (by decide +kernel) (pa_cons (pe_lc (own := [("one", 1)]) (g := (gName 1)) (tt := tYes) rfl sc_places_of.nd (pi_tup (pv 0)) (blkOk_by (own := [("one", 1)]) (N := n_places_of) (sc := defScope s_places_of) (by decide +kernel)) (fun _ _ _ _ _ => (pg_name (i := 1) sc_places_of.nd rfl (by first | exact Or.inl rfl | exact Or.inr rfl))) (fun _ _ _ _ _ => pts_nil) (fun _ _ _ _ _ => (pe_op op_add (pe_ix ix_tup (pv 1) pe_int (fun _ _ => rfl)) pe_int))) pa_nil) (pk_cons pe_int pk_nil)))), rd_places_of h⟩)) g F.kp (F.binds (ps := ["program"]) fun _ _ _ _ _ _ us hl => match us, hl with | [_], _ => rfl)
abbrev s_gone_through : Stmt := topS 21
theorem sc_gone_through : FnScope n_gone_through ["program", "row"] (defScope s_gone_through) := ⟨rfl, rfl, rfl, by decide +kernel, rfl, by decide +kernel, by decide +kernel⟩
theorem ok_gone_through {P : Program} {w : World} {K : PySem.W.Frag} {mg : Str → Option Value} {base : Heap} {f : Addr} {fd : FuncData} (F : Fun K "gone_through" "gone_through" s_gone_through f fd) (g : mg "gone_through" = some (.ref f)) {C_BadRow : Addr} (X_BadRow : ExcK K mg "BadRow" C_BadRow) (B : Blt mg) (c_places_of : Cal P w K mg base 1 "places_of" (sp_places_of K) []) :
    CalX P w K mg base 2 "gone_through" (sp_gone_through K C_BadRow) := calX_of (F.okX (k := 1) sc_gone_through (fun vs H Q E h => len_gone_through h) (fun cdv A outer s H vs Q E hr h => by
      exact ⟨t_gone_through K C_BadRow E, (pss_cons (ps_if (pt_cmpR op_gt (C8.pe_c c_places_of hr (by decide) (by rfl) (pa_cons (pv 0) pa_nil)) (pe_callB call_len_seq (by rfl) B.len (by decide +kernel) (pa_cons (pv 1) pa_nil)) (nomark _)) (pss_one (ps_raiseC (takes_of rfl rfl rfl rfl) X_BadRow (by rfl))) pss_nil)
    (pss_cons (ps_set (i := 2) sc_gone_through.nd rfl (by first | exact Or.inl rfl | exact Or.inr rfl) (pe_callTy call_list_of (by rfl) B.list (by decide +kernel) (pa_cons (pv 1) pa_nil)))
    (pss_cons (ps_set (i := 3) sc_gone_through.nd rfl (by first | exact Or.inl rfl | exact Or.inr rfl) (pe_lst pa_nil))
    (pss_cons (ps_for (passes_of rfl) rfl (pi_range1 (by rfl) B.range (pa_cons (pe_callB call_len_seq (by rfl) B.len (by decide +kernel) (pa_cons (pv 0) pa_nil)) pa_nil)) (pg_name (i := 4) sc_gone_through.nd rfl (by first | exact Or.inl rfl | exact Or.inr rfl)) (pss_cons (ps_asg (pe_ix ix_tup (pv 0) (pv 4) (fun _ _ => rfl)) (pg_tup rfl (pgs_cons (pg_name (i := 5) sc_gone_through.nd rfl (by first | exact Or.inl rfl | exact Or.inr rfl)) (pgs_cons (pg_name (i := 6) sc_gone_through.nd rfl (by first | exact Or.inl rfl | exact Or.inr rfl)) pgs_nil))))
    (pss_one (ps_if (pt_cmpR op_gt (pe_ix ix_tup (pe_ix ix_list (pv 2) (pv 5) (fun _ _ => rfl)) pe_int (fun _ _ => rfl)) (pe_ix ix_tup (pe_ix ix_list (pv 2) (pv 6) (fun _ _ => rfl)) pe_int (fun _ _ => rfl)) (nomark _)) (pss_cons (ps_asg (pe_tup (pa_cons (pe_ix ix_list (pv 2) (pv 6) (fun _ _ => rfl)) (pa_cons (pe_ix ix_list (pv 2) (pv 5) (fun _ _ => rfl)) pa_nil))) (pg_tup rfl (pgs_cons (pg_sub (pv 2) (pv 5) set_list) (pgs_cons (pg_sub (pv 2) (pv 6) set_list) pgs_nil))))
    (pss_one (ps_expr (pe_bm PySem.F.plainAttrs_list PySem.F.slot_list_append PySem.F.type_list_append mt_append (pv 3) (pa_cons (pv 4) pa_nil))))) pss_nil))))
    (pss_one (ps_ret (pe_tup (pa_cons (pe_callTy call_tuple_of (by rfl) B.tuple (by decide +kernel) (pa_cons (pv 2) pa_nil)) (pa_cons (pv 3) pa_nil))))))))), rd_gone_through h⟩)) g F.kp (F.binds (ps := ["program", "row"]) fun _ _ _ _ _ _ us hl => match us, hl with | [_, _], _ => rfl)
abbrev s_run : Stmt := topS 22
theorem sc_run : FnScope n_run ["program", "row"] (defScope s_run) := ⟨rfl, rfl, rfl, by decide +kernel, rfl, by decide +kernel, by decide +kernel⟩
theorem ok_run {P : Program} {w : World} {K : PySem.W.Frag} {mg : Str → Option Value} {base : Heap} {f : Addr} {fd : FuncData} (F : Fun K "run" "run" s_run f fd) (g : mg "run" = some (.ref f)) {C_BadRow : Addr} (B : Blt mg) (c_gone_through : CalX P w K mg base 2 "gone_through" (sp_gone_through K C_BadRow)) :
    CalX P w K mg base 3 "run" (sp_run K C_BadRow) := calX_of (F.okX (k := 2) sc_run (fun vs H Q E h => len_run h) (fun cdv A outer s H vs Q E hr h => by
      exact ⟨t_run K C_BadRow E, (pss_one (ps_ret (pe_ix ix_tup (pe_xE (E := E) c_gone_through hr (by decide) (by rfl) (takes_of rfl rfl rfl rfl) (pa_cons (pv 0) (pa_cons (pv 1) pa_nil))) pe_int (fun _ _ => rfl)))), rd_run h⟩)) g F.kp (F.binds (ps := ["program", "row"]) fun _ _ _ _ _ _ us hl => match us, hl with | [_, _], _ => rfl)
abbrev s_need : Stmt := topS 24
theorem sc_need : FnScope n_need ["program", "places"] (defScope s_need) := ⟨rfl, rfl, rfl, by decide +kernel, rfl, by decide +kernel, by decide +kernel⟩
theorem ok_need {P : Program} {w : World} {K : PySem.W.Frag} {mg : Str → Option Value} {base : Heap} {f : Addr} {fd : FuncData} (F : Fun K "need" "need" s_need f fd) (g : mg "need" = some (.ref f)) {C_BadProgram : Addr} (X_BadProgram : ExcK K mg "BadProgram" C_BadProgram) (B : Blt mg) (c_is_program : Cal P w K mg base 3 "is_program" (sp_is_program K) []) :
    CalX P w K mg base 4 "need" (sp_need K C_BadProgram) := calX_of (F.okX (k := 3) sc_need (fun vs H Q E h => len_need h) (fun cdv A outer s H vs Q E hr h => by
      exact ⟨t_need K C_BadProgram E, (pss_one (ps_if (pt_not (pt_val (C8.pe_c c_is_program hr (by decide) (by rfl) (pa_cons (pv 0) (pa_cons (pv 1) pa_nil))))) (pss_one (ps_raiseC (takes_of rfl rfl rfl rfl) X_BadProgram (by rfl))) pss_nil)), rd_need h⟩)) g F.kp (F.binds (ps := ["program", "places"]) fun _ _ _ _ _ _ us hl => match us, hl with | [_, _], _ => rfl)
abbrev s_columns_of : Stmt := topS 25
theorem sc_columns_of : FnScope n_columns_of ["places"] (defScope s_columns_of) := ⟨rfl, rfl, rfl, by decide +kernel, rfl, by decide +kernel, by decide +kernel⟩
theorem ok_columns_of {P : Program} {w : World} {K : PySem.W.Frag} {mg : Str → Option Value} {base : Heap} {f : Addr} {fd : FuncData} (F : Fun K "columns_of" "columns_of" s_columns_of f fd) (g : mg "columns_of" = some (.ref f)) (B : Blt mg) :
    Cal P w K mg base 1 "columns_of" (sp_columns_of K) [] := cal_of (F.ok (k := 0) sc_columns_of (fun vs H Q E h => len_columns_of h) (fun cdv A outer s H vs Q E hr h => by
      exact ⟨t_columns_of K, (pss_cons (ps_set (i := 1) sc_columns_of.nd rfl (by first | exact Or.inl rfl | exact Or.inr rfl) (pe_lst pa_nil))
    (pss_cons (ps_for PassesOwn.never rfl (pi_range1 (by rfl) B.range (pa_cons (pv 0) pa_nil)) (pg_name (i := 2) sc_columns_of.nd rfl (by first | exact Or.inl rfl | exact Or.inr rfl)) (pss_cons (ps_set (i := 3) sc_columns_of.nd rfl (by first | exact Or.inl rfl | exact Or.inr rfl) pe_int)
    (pss_cons (ps_for PassesOwn.never rfl (pi_range1 (by rfl) B.range (pa_cons (pe_op op_shl pe_int (pv 0)) pa_nil)) (pg_name (i := 4) sc_columns_of.nd rfl (by first | exact Or.inl rfl | exact Or.inr rfl)) (pss_one (ps_if (pt_truth (pe_op op_and (pe_op op_shr (pv 4) (pe_op op_sub (pe_op op_sub (pv 0) pe_int) (pv 2))) pe_int) (by intro _; rfl)) (pss_one (ps_set (i := 3) sc_columns_of.nd rfl (by first | exact Or.inl rfl | exact Or.inr rfl) (pe_op op_or (pv 3) (pe_op op_shl pe_int (pv 4))))) pss_nil)))
    (pss_one (ps_expr (pe_bm PySem.F.plainAttrs_list PySem.F.slot_list_append PySem.F.type_list_append mt_append (pv 1) (pa_cons (pv 3) pa_nil)))))))
    (pss_one (ps_ret (pv 1))))), rd_columns_of h⟩)) g F.kp (F.binds (ps := ["places"]) fun _ _ _ _ _ _ us hl => match us, hl with | [_], _ => rfl)
abbrev s_compared : Stmt := topS 26
theorem sc_compared : FnScope n_compared ["columns", "low", "high"] (defScope s_compared) := ⟨rfl, rfl, rfl, by decide +kernel, rfl, by decide +kernel, by decide +kernel⟩
theorem ok_compared {P : Program} {w : World} {K : PySem.W.Frag} {mg : Str → Option Value} {base : Heap} {f : Addr} {fd : FuncData} (F : Fun K "compared" "compared" s_compared f fd) (g : mg "compared" = some (.ref f)) (B : Blt mg) :
    Cal P w K mg base 1 "compared" (sp_compared K) [] := cal_of (F.ok (k := 0) sc_compared (fun vs H Q E h => len_compared h) (fun cdv A outer s H vs Q E hr h => by
      exact ⟨t_compared K, (pss_cons (ps_set (i := 3) sc_compared.nd rfl (by first | exact Or.inl rfl | exact Or.inr rfl) (pe_ix ix_list (pv 0) (pv 1) (fun _ _ => rfl)))
    (pss_cons (ps_set (i := 4) sc_compared.nd rfl (by first | exact Or.inl rfl | exact Or.inr rfl) (pe_ix ix_list (pv 0) (pv 2) (fun _ _ => rfl)))
    (pss_cons (ps_asg (pe_op op_and (pv 3) (pv 4)) (pg_sub (pv 0) (pv 1) set_list))
    (pss_cons (ps_asg (pe_op op_or (pv 3) (pv 4)) (pg_sub (pv 0) (pv 2) set_list))
    (pss_one (ps_ret (pe_cmpR op_ne (pe_ix ix_list (pv 0) (pv 1) (fun _ _ => rfl)) (pv 3) (nomark _)))))))), rd_compared h⟩)) g F.kp (F.binds (ps := ["columns", "low", "high"]) fun _ _ _ _ _ _ us hl => match us, hl with | [_, _, _], _ => rfl)
abbrev s_behind : Stmt := topS 27
theorem sc_behind : FnScope n_behind ["program", "places"] (defScope s_behind) := ⟨rfl, rfl, rfl, by decide +kernel, rfl, by decide +kernel, by decide +kernel⟩
theorem ok_behind {P : Program} {w : World} {K : PySem.W.Frag} {mg : Str → Option Value} {base : Heap} {f : Addr} {fd : FuncData} (F : Fun K "behind" "behind" s_behind f fd) (g : mg "behind" = some (.ref f)) (B : Blt mg) (c_columns_of : Cal P w K mg base 1 "columns_of" (sp_columns_of K) []) (c_compared : Cal P w K mg base 1 "compared" (sp_compared K) []) :
    Cal P w K mg base 2 "behind" (sp_behind K) [] := cal_of (F.ok (k := 1) sc_behind (fun vs H Q E h => len_behind h) (fun cdv A outer s H vs Q E hr h => by
      exact ⟨t_behind K, (pss_cons (ps_set (i := 2) sc_behind.nd rfl (by first | exact Or.inl rfl | exact Or.inr rfl) (C8.pe_c c_columns_of hr (by decide) (by rfl) (pa_cons (pv 1) pa_nil)))
    (pss_cons (ps_for PassesOwn.never rfl (pi_tup (pv 0)) (pg_tup rfl (pgs_cons (pg_name (i := 3) sc_behind.nd rfl (by first | exact Or.inl rfl | exact Or.inr rfl)) (pgs_cons (pg_name (i := 4) sc_behind.nd rfl (by first | exact Or.inl rfl | exact Or.inr rfl)) pgs_nil))) (pss_one (ps_expr (C8.pe_c c_compared hr (by decide) (by rfl) (pa_cons (pv 2) (pa_cons (pv 3) (pa_cons (pv 4) pa_nil)))))))
    (pss_one (ps_ret (pv 2))))), rd_behind h⟩)) g F.kp (F.binds (ps := ["program", "places"]) fun _ _ _ _ _ _ us hl => match us, hl with | [_, _], _ => rfl)
abbrev s_wrong_rows : Stmt := topS 28
theorem sc_wrong_rows : FnScope n_wrong_rows ["program", "places"] (defScope s_wrong_rows) := ⟨rfl, rfl, rfl, by decide +kernel, rfl, by decide +kernel, by decide +kernel⟩
theorem ok_wrong_rows {P : Program} {w : World} {K : PySem.W.Frag} {mg : Str → Option Value} {base : Heap} {f : Addr} {fd : FuncData} (F : Fun K "wrong_rows" "wrong_rows" s_wrong_rows f fd) (g : mg "wrong_rows" = some (.ref f)) (B : Blt mg) (c_behind : Cal P w K mg base 2 "behind" (sp_behind K) []) :
    Cal P w K mg base 3 "wrong_rows" (sp_wrong_rows K) [] := cal_of (F.ok (k := 2) sc_wrong_rows (fun vs H Q E h => len_wrong_rows h) (fun cdv A outer s H vs Q E hr h => by
      exact ⟨t_wrong_rows K, (pss_cons (ps_set (i := 2) sc_wrong_rows.nd rfl (by first | exact Or.inl rfl | exact Or.inr rfl) (C8.pe_c c_behind hr (by decide) (by rfl) (pa_cons (pv 0) (pa_cons (pv 1) pa_nil))))
    (pss_cons (ps_set (i := 3) sc_wrong_rows.nd rfl (by first | exact Or.inl rfl | exact Or.inr rfl) pe_int)
    (pss_cons (ps_for PassesOwn.never rfl (pi_range2 (by rfl) B.range (pa_cons pe_int (pa_cons (pv 1) pa_nil))) (pg_name (i := 4) sc_wrong_rows.nd rfl (by first | exact Or.inl rfl | exact Or.inr rfl)) (pss_one (ps_set (i := 3) sc_wrong_rows.nd rfl (by first | exact Or.inl rfl | exact Or.inr rfl) (pe_op op_or (pv 3) (pe_op op_and (pe_ix ix_list (pv 2) (pe_op op_sub (pv 4) pe_int) (fun _ _ => rfl)) (pe_un un_inv (pe_ix ix_list (pv 2) (pv 4) (fun _ _ => rfl))))))))
    (pss_one (ps_ret (pv 3)))))), rd_wrong_rows h⟩)) g F.kp (F.binds (ps := ["program", "places"]) fun _ _ _ _ _ _ us hl => match us, hl with | [_, _], _ => rfl)
abbrev s_orders : Stmt := topS 29
theorem sc_orders : FnScope n_orders ["program", "places"] (defScope s_orders) := ⟨rfl, rfl, rfl, by decide +kernel, rfl, by decide +kernel, by decide +kernel⟩
theorem ok_orders {P : Program} {w : World} {K : PySem.W.Frag} {mg : Str → Option Value} {base : Heap} {f : Addr} {fd : FuncData} (F : Fun K "orders" "orders" s_orders f fd) (g : mg "orders" = some (.ref f)) {C_BadProgram : Addr} (B : Blt mg) (c_need : CalX P w K mg base 4 "need" (sp_need K C_BadProgram)) (c_wrong_rows : Cal P w K mg base 3 "wrong_rows" (sp_wrong_rows K) []) :
    CalX P w K mg base 5 "orders" (sp_orders K C_BadProgram) := calX_of (F.okX (k := 4) sc_orders (fun vs H Q E h => len_orders h) (fun cdv A outer s H vs Q E hr h => by
      exact ⟨t_orders K C_BadProgram E, (pss_cons (ps_expr (pe_xE (E := E) c_need hr (by decide) (by rfl) (takes_of rfl rfl rfl rfl) (pa_cons (pv 0) (pa_cons (pv 1) pa_nil))))
    (pss_one (ps_ret (pe_cmpR op_eq (C8.pe_c c_wrong_rows hr (by decide) (by rfl) (pa_cons (pv 0) (pa_cons (pv 1) pa_nil))) pe_int (nomark _))))), rd_orders h⟩)) g F.kp (F.binds (ps := ["program", "places"]) fun _ _ _ _ _ _ us hl => match us, hl with | [_, _], _ => rfl)
abbrev s_law_cell_at : Stmt := topS 31
theorem sc_law_cell_at : FnScope n_law_cell_at ["_law_script", "_law_k"] (defScope s_law_cell_at) := ⟨rfl, rfl, rfl, by decide +kernel, rfl, by decide +kernel, by decide +kernel⟩
theorem ok_law_cell_at {P : Program} {w : World} {K : PySem.W.Frag} {mg : Str → Option Value} {base : Heap} {f : Addr} {fd : FuncData} (F : Fun K "_law_cell_at" "_law_cell_at" s_law_cell_at f fd) (g : mg "_law_cell_at" = some (.ref f)) (B : Blt mg) :
    Cal P w K mg base 1 "_law_cell_at" (sp_law_cell_at K) [] := cal_of (F.ok (k := 0) sc_law_cell_at (fun vs H Q E h => len_law_cell_at h) (fun cdv A outer s H vs Q E hr h => by
      exact ⟨t_law_cell_at K, (pss_cons (ps_if (pt_cmpR op_lt (pv 1) (pe_callB call_len_seq (by rfl) B.len (by decide +kernel) (pa_cons (pv 0) pa_nil)) (nomark _)) (pss_one (ps_ret (pe_ix ix_list (pv 0) (pv 1) (fun _ _ => rfl)))) pss_nil)
    (pss_one (ps_ret pe_int))), rd_law_cell_at h⟩)) g F.kp (F.binds (ps := ["_law_script", "_law_k"]) fun _ _ _ _ _ _ us hl => match us, hl with | [_, _], _ => rfl)
abbrev s_law_mixed : Stmt := topS 32
theorem sc_law_mixed : FnScope n_law_mixed ["_law_script", "_law_k"] (defScope s_law_mixed) := ⟨rfl, rfl, rfl, by decide +kernel, rfl, by decide +kernel, by decide +kernel⟩
theorem ok_law_mixed {P : Program} {w : World} {K : PySem.W.Frag} {mg : Str → Option Value} {base : Heap} {f : Addr} {fd : FuncData} (F : Fun K "_law_mixed" "_law_mixed" s_law_mixed f fd) (g : mg "_law_mixed" = some (.ref f)) (B : Blt mg) :
    Cal P w K mg base 1 "_law_mixed" (sp_law_mixed K) [] := cal_of (F.ok (k := 0) sc_law_mixed (fun vs H Q E h => len_law_mixed h) (fun cdv A outer s H vs Q E hr h => by
      exact ⟨t_law_mixed K, (pss_cons (ps_set (i := 2) sc_law_mixed.nd rfl (by first | exact Or.inl rfl | exact Or.inr rfl) pe_int)
    (pss_cons (ps_if (pt_cmpR op_gt (pe_callB call_len_seq (by rfl) B.len (by decide +kernel) (pa_cons (pv 0) pa_nil)) pe_int (nomark _)) (pss_one (ps_set (i := 2) sc_law_mixed.nd rfl (by first | exact Or.inl rfl | exact Or.inr rfl) (pe_ix ix_list (pv 0) (pe_op op_mod (pv 1) (pe_callB call_len_seq (by rfl) B.len (by decide +kernel) (pa_cons (pv 0) pa_nil))) (fun _ _ => rfl)))) pss_nil)
    (pss_cons (ps_set (i := 3) sc_law_mixed.nd rfl (by first | exact Or.inl rfl | exact Or.inr rfl) (pe_op op_mod (pe_op op_mul (pe_op op_add (pv 2) (pe_op op_mul pe_int (pv 1))) pe_int) pe_int))
    (pss_one (ps_ret (pe_op op_mod (pe_op op_mul (pv 3) (pv 3)) pe_int)))))), rd_law_mixed h⟩)) g F.kp (F.binds (ps := ["_law_script", "_law_k"]) fun _ _ _ _ _ _ us hl => match us, hl with | [_, _], _ => rfl)
abbrev s_law_row_by : Stmt := topS 33
theorem sc_law_row_by : FnScope n_law_row_by ["_law_script", "_law_at", "_law_many"] (defScope s_law_row_by) := ⟨rfl, rfl, rfl, by decide +kernel, rfl, by decide +kernel, by decide +kernel⟩
theorem ok_law_row_by {P : Program} {w : World} {K : PySem.W.Frag} {mg : Str → Option Value} {base : Heap} {f : Addr} {fd : FuncData} (F : Fun K "_law_row_by" "_law_row_by" s_law_row_by f fd) (g : mg "_law_row_by" = some (.ref f)) (B : Blt mg) (c_law_mixed : Cal P w K mg base 1 "_law_mixed" (sp_law_mixed K) []) :
    Cal P w K mg base 2 "_law_row_by" (sp_law_row_by K) [] := cal_of (F.ok (k := 1) sc_law_row_by (fun vs H Q E h => len_law_row_by h) (fun cdv A outer s H vs Q E hr h => by
      exact ⟨t_law_row_by K, (pss_cons (ps_set (i := 3) sc_law_row_by.nd rfl (by first | exact Or.inl rfl | exact Or.inr rfl) (pe_op op_mod (C8.pe_c c_law_mixed hr (by decide) (by rfl) (pa_cons (pv 0) (pa_cons (pv 1) pa_nil))) pe_int))
    (pss_cons (ps_set (i := 4) sc_law_row_by.nd rfl (by first | exact Or.inl rfl | exact Or.inr rfl) (pe_lst pa_nil))
    (pss_cons (ps_for PassesOwn.never rfl (pi_range1 (by rfl) B.range (pa_cons (pv 2) pa_nil)) (pg_name (i := 5) sc_law_row_by.nd rfl (by first | exact Or.inl rfl | exact Or.inr rfl)) (pss_cons (ps_set (i := 6) sc_law_row_by.nd rfl (by first | exact Or.inl rfl | exact Or.inr rfl) (C8.pe_c c_law_mixed hr (by decide) (by rfl) (pa_cons (pv 0) (pa_cons (pe_op op_add (pe_op op_add (pv 1) pe_int) (pv 5)) pa_nil))))
    (pss_cons (ps_set (i := 7) sc_law_row_by.nd rfl (by first | exact Or.inl rfl | exact Or.inr rfl) (pe_ix ix_list (pe_lst (pa_cons (pe_op op_mod (pv 6) pe_int) (pa_cons (pe_op op_sub (pe_op op_mod (pv 6) pe_int) pe_int) (pa_cons (pe_op op_mod (pv 6) (pe_op op_add (pv 2) pe_int)) (pa_cons (pe_un un_neg (pv 6)) (pa_cons (pe_op op_sub (pe_op op_mulW (pe_op op_mul (pv 6) (pv 6)) (pv 6)) (pe_op op_pow pe_int pe_int)) pa_nil)))))) (pv 3) (fun _ _ => rfl)))
    (pss_one (ps_expr (pe_bm PySem.F.plainAttrs_list PySem.F.slot_list_append PySem.F.type_list_append mt_append (pv 4) (pa_cons (pe_tup (pa_cons (pv 7) (pa_cons (pv 5) pa_nil))) pa_nil)))))))
    (pss_one (ps_ret (pe_callTy call_tuple_of (by rfl) B.tuple (by decide +kernel) (pa_cons (pv 4) pa_nil))))))), rd_law_row_by h⟩)) g F.kp (F.binds (ps := ["_law_script", "_law_at", "_law_many"]) fun _ _ _ _ _ _ us hl => match us, hl with | [_, _, _], _ => rfl)
abbrev s_law_in_order : Stmt := topS 34
theorem sc_law_in_order : FnScope n_law_in_order ["_law_row", "_law_found", "_law_keep"] (defScope s_law_in_order) := ⟨rfl, rfl, rfl, by decide +kernel, rfl, by decide +kernel, by decide +kernel⟩
theorem ok_law_in_order {P : Program} {w : World} {K : PySem.W.Frag} {mg : Str → Option Value} {base : Heap} {f : Addr} {fd : FuncData} (F : Fun K "_law_in_order" "_law_in_order" s_law_in_order f fd) (g : mg "_law_in_order" = some (.ref f)) (B : Blt mg) :
    Cal P w K mg base 1 "_law_in_order" (sp_law_in_order K) [] := cal_of (F.ok (k := 0) sc_law_in_order (fun vs H Q E h => len_law_in_order h) (fun cdv A outer s H vs Q E hr h => by
      exact ⟨t_law_in_order K, (pss_cons (ps_if (PW.pt (pw_or (pt_not (pt_val (pe_callB call_isi (by rfl) B.isinstance (by decide +kernel) (pa_cons (pv 1) (pa_cons (pe_bltn (v := .ty "tuple") (by rfl) B.tuple (by decide +kernel) rfl) pa_nil))))) (pw_or1 (pt_cmpR (op_neD hr.units) (pe_callB cr_sortedPD (by rfl) B.sorted (by decide +kernel) (pa_cons (pv 1) pa_nil)) (pe_callB cr_sortedPD (by rfl) B.sorted (by decide +kernel) (pa_cons (pv 0) pa_nil)) (nomark _))))) (pss_one (ps_ret pe_bl)) pss_nil)
    (pss_cons (ps_for PassesOwn.never rfl (pi_range2 (by rfl) B.range (pa_cons pe_int (pa_cons (pe_callB call_len_seq (by rfl) B.len (by decide +kernel) (pa_cons (pv 1) pa_nil)) pa_nil))) (pg_name (i := 3) sc_law_in_order.nd rfl (by first | exact Or.inl rfl | exact Or.inr rfl)) (pss_cons (ps_if (pt_cmpR op_gt (pe_ix ix_tup (pe_ix ix_tup (pv 1) (pe_op op_sub (pv 3) pe_int) (fun _ _ => rfl)) pe_int (fun _ _ => rfl)) (pe_ix ix_tup (pe_ix ix_tup (pv 1) (pv 3) (fun _ _ => rfl)) pe_int (fun _ _ => rfl)) (nomark _)) (pss_one (ps_ret pe_bl)) pss_nil)
    (pss_one (ps_if (PW.pt (pw_and (pt_val (pv 2)) (pw_and (pt_cmpR op_eq (pe_ix ix_tup (pe_ix ix_tup (pv 1) (pe_op op_sub (pv 3) pe_int) (fun _ _ => rfl)) pe_int (fun _ _ => rfl)) (pe_ix ix_tup (pe_ix ix_tup (pv 1) (pv 3) (fun _ _ => rfl)) pe_int (fun _ _ => rfl)) (nomark _)) (pw_and1 (pt_cmpR op_gt (pe_ix ix_tup (pe_ix ix_tup (pv 1) (pe_op op_sub (pv 3) pe_int) (fun _ _ => rfl)) pe_int (fun _ _ => rfl)) (pe_ix ix_tup (pe_ix ix_tup (pv 1) (pv 3) (fun _ _ => rfl)) pe_int (fun _ _ => rfl)) (nomark _)))))) (pss_one (ps_ret pe_bl)) pss_nil))))
    (pss_one (ps_ret pe_bl)))), rd_law_in_order h⟩)) g F.kp (F.binds (ps := ["_law_row", "_law_found", "_law_keep"]) fun _ _ _ _ _ _ us hl => match us, hl with | [_, _, _], _ => rfl)
abbrev s_law : Stmt := topS 35
theorem sc_law : FnScope n_law ["_law_script"] (defScope s_law) := ⟨rfl, rfl, rfl, by decide +kernel, rfl, by decide +kernel, by decide +kernel⟩
theorem fn_law {P : Program} {w : World} {K : PySem.W.Frag} {mg : Str → Option Value} {base : Heap} {f : Addr} {fd : FuncData} (F : Fun K "law" "law" s_law f fd) {C_BadProgram : Addr} {C_BadRow : Addr} {C_NoRule : Addr} (B : Blt mg) (c_law_cell_at : Cal P w K mg base 1 "_law_cell_at" (sp_law_cell_at K) []) (c_law_in_order : Cal P w K mg base 1 "_law_in_order" (sp_law_in_order K) []) (c_law_row_by : Cal P w K mg base 2 "_law_row_by" (sp_law_row_by K) []) (c_count_of : CalX P w K mg base 16 "count_of" (sp_count_of K C_NoRule)) (c_keeps_by : CalX P w K mg base 1 "keeps_by" (sp_keeps_by K C_NoRule)) (c_made : CalX P w K mg base 3 "made" (sp_made K C_NoRule)) (c_orders : CalX P w K mg base 5 "orders" (sp_orders K C_BadProgram)) (c_run : CalX P w K mg base 3 "run" (sp_run K C_BadRow)) :
    FnOk P w K mg base CX0 17 f fd ["_law_script"] (sp_law K) := F.ok (k := 16) sc_law (fun vs H Q E h => len_law h) (fun cdv A outer s H vs Q E hr h => by
      exact ⟨t_law K C_BadProgram C_BadRow C_NoRule, (pss_cons (ps_set (i := 1) sc_law.nd rfl (by first | exact Or.inl rfl | exact Or.inr rfl) (pe_op op_mod (C8.pe_c c_law_cell_at hr (by decide) (by rfl) (pa_cons (pv 0) (pa_cons pe_int pa_nil))) pe_int))
    (pss_cons (ps_set (i := 2) sc_law.nd rfl (by first | exact Or.inl rfl | exact Or.inr rfl) (pe_ix ix_list (pe_lst (pa_cons pe_str (pa_cons pe_str (pa_cons pe_str pa_nil)))) (pe_op op_mod (C8.pe_c c_law_cell_at hr (by decide) (by rfl) (pa_cons (pv 0) (pa_cons pe_int pa_nil))) pe_int) (fun _ _ => rfl)))
    (pss_cons (ps_set (i := 3) sc_law.nd rfl (by first | exact Or.inl rfl | exact Or.inr rfl) (pe_x0 c_made hr (by decide) (by rfl) (pa_cons (pv 2) (pa_cons (pv 1) pa_nil))))
    (pss_cons (ps_set (i := 4) sc_law.nd rfl (by first | exact Or.inl rfl | exact Or.inr rfl) (pe_x0 c_keeps_by hr (by decide) (by rfl) (pa_cons (pv 2) pa_nil)))
    (pss_cons (ps_if (PW.pt (pw_or (pt_cmpR op_ne (pe_callB call_len_seq (by rfl) B.len (by decide +kernel) (pa_cons (pv 3) pa_nil)) (pe_x0 c_count_of hr (by decide) (by rfl) (pa_cons (pv 2) (pa_cons (pv 1) pa_nil))) (nomark _)) (pw_or1 (pt_cmpR op_ne (pv 4) (pe_cmpR op_ne (pv 2) pe_str (nomark _)) (nomark _))))) (pss_one (ps_ret pe_bl)) pss_nil)
    (pss_cons (ps_setLc (i := 5) (own := [("_law_k", 7)]) (g := (gName 7)) (tt := tYes) rfl sc_law.nd rfl rfl (sw_true rfl rfl rfl (by decide +kernel)) (pi_range1 (by rfl) B.range (pa_cons pe_int pa_nil)) (blkOk_by (own := [("_law_k", 7)]) (N := n_law) (sc := defScope s_law) (by decide +kernel)) (fun _ _ _ _ _ => (pg_name (i := 7) sc_law.nd rfl (by first | exact Or.inl rfl | exact Or.inr rfl))) (fun _ _ _ _ _ => pts_nil) (fun _ _ _ _ _ => (C8.pe_c c_law_row_by hr (by decide) (by rfl) (pa_cons (pv 0) (pa_cons (pe_op op_add pe_int (pe_op op_mul pe_int (pv 7))) (pa_cons (pv 1) pa_nil))))))
    (pss_cons (ps_expr (pe_bm PySem.F.plainAttrs_list PySem.F.slot_list_append PySem.F.type_list_append mt_append (pv 5) (pa_cons (pe_callTy call_tuple_of (by rfl) B.tuple (by decide +kernel) (pa_cons (pe_lc (own := [("_law_k", 7)]) (g := (gName 7)) (tt := tYes) rfl sc_law.nd (pi_range1 (by rfl) B.range (pa_cons (pv 1) pa_nil)) (blkOk_by (own := [("_law_k", 7)]) (N := n_law) (sc := defScope s_law) (by decide +kernel)) (fun _ _ _ _ _ => (pg_name (i := 7) sc_law.nd rfl (by first | exact Or.inl rfl | exact Or.inr rfl))) (fun _ _ _ _ _ => pts_nil) (fun _ _ _ _ _ => (pe_tup (pa_cons (pe_op op_sub (pv 1) (pe_op op_fdiv (pv 7) pe_int)) (pa_cons (pv 7) pa_nil))))) pa_nil)) pa_nil)))
    (pss_cons (ps_for PassesOwn.never rfl (pi_list (pv 5)) (pg_name (i := 6) sc_law.nd rfl (by first | exact Or.inl rfl | exact Or.inr rfl)) (pss_one (ps_if (pt_not (pt_val (C8.pe_c c_law_in_order hr (by decide) (by rfl) (pa_cons (pv 6) (pa_cons (pe_x0 c_run hr (by decide) (by rfl) (pa_cons (pv 3) (pa_cons (pv 6) pa_nil))) (pa_cons (pv 4) pa_nil)))))) (pss_one (ps_ret pe_bl)) pss_nil)))
    (pss_one (ps_ret (pe_or (pe_cmpR op_gt (pv 1) pe_int (nomark _)) (pe_one (pe_cmpR op_isBl (pe_x0 c_orders hr (by decide) (by rfl) (pa_cons (pv 3) (pa_cons (pv 1) pa_nil))) pe_bl (nomark _)))))))))))))), rd_law h⟩)
theorem all_mk {l : PySem.W.OpenLaw} {w : World} {K : PySem.W.Frag} {h : Heap} {mg : Str → Option Value} {fa : Addr} (X : K.In h) (G : h.Ns mainGlobals mg) (hfa : mg "law" = some (.ref fa))
    {f0 : Addr} {od0 an0 : Option Addr} {sl0 : Array (Option Value)} {oc0 kV0 dc0 pm0 cd0 ct0 : Value}
    {f1 : Addr} {od1 an1 : Option Addr} {sl1 : Array (Option Value)} {oc1 kV1 dc1 pm1 cd1 ct1 : Value}
    {f2 : Addr} {od2 an2 : Option Addr} {sl2 : Array (Option Value)} {oc2 kV2 dc2 pm2 cd2 ct2 : Value}
    {f3 : Addr} {od3 an3 : Option Addr} {sl3 : Array (Option Value)} {oc3 kV3 dc3 pm3 cd3 ct3 : Value}
    {f4 : Addr} {od4 an4 : Option Addr} {sl4 : Array (Option Value)} {oc4 kV4 dc4 pm4 cd4 ct4 : Value}
    {f5 : Addr} {od5 an5 : Option Addr} {sl5 : Array (Option Value)} {oc5 kV5 dc5 pm5 cd5 ct5 : Value}
    {f6 : Addr} {od6 an6 : Option Addr} {sl6 : Array (Option Value)} {oc6 kV6 dc6 pm6 cd6 ct6 : Value}
    {f7 : Addr} {od7 an7 : Option Addr} {sl7 : Array (Option Value)} {oc7 kV7 dc7 pm7 cd7 ct7 : Value}
    {f8 : Addr} {od8 an8 : Option Addr} {sl8 : Array (Option Value)} {oc8 kV8 dc8 pm8 cd8 ct8 : Value}
    {f9 : Addr} {od9 an9 : Option Addr} {sl9 : Array (Option Value)} {oc9 kV9 dc9 pm9 cd9 ct9 : Value}
    {f10 : Addr} {od10 an10 : Option Addr} {sl10 : Array (Option Value)} {oc10 kV10 dc10 pm10 cd10 ct10 : Value}
    {f11 : Addr} {od11 an11 : Option Addr} {sl11 : Array (Option Value)} {oc11 kV11 dc11 pm11 cd11 ct11 : Value}
    {f12 : Addr} {od12 an12 : Option Addr} {sl12 : Array (Option Value)} {oc12 kV12 dc12 pm12 cd12 ct12 : Value}
    {f13 : Addr} {od13 an13 : Option Addr} {sl13 : Array (Option Value)} {oc13 kV13 dc13 pm13 cd13 ct13 : Value}
    {f14 : Addr} {od14 an14 : Option Addr} {sl14 : Array (Option Value)} {oc14 kV14 dc14 pm14 cd14 ct14 : Value}
    {f15 : Addr} {od15 an15 : Option Addr} {sl15 : Array (Option Value)} {oc15 kV15 dc15 pm15 cd15 ct15 : Value}
    {f16 : Addr} {od16 an16 : Option Addr} {sl16 : Array (Option Value)} {oc16 kV16 dc16 pm16 cd16 ct16 : Value}
    {f17 : Addr} {od17 an17 : Option Addr} {sl17 : Array (Option Value)} {oc17 kV17 dc17 pm17 cd17 ct17 : Value}
    {f18 : Addr} {od18 an18 : Option Addr} {sl18 : Array (Option Value)} {oc18 kV18 dc18 pm18 cd18 ct18 : Value}
    {f19 : Addr} {od19 an19 : Option Addr} {sl19 : Array (Option Value)} {oc19 kV19 dc19 pm19 cd19 ct19 : Value}
    {f20 : Addr} {od20 an20 : Option Addr} {sl20 : Array (Option Value)} {oc20 kV20 dc20 pm20 cd20 ct20 : Value}
    {f21 : Addr} {od21 an21 : Option Addr} {sl21 : Array (Option Value)} {oc21 kV21 dc21 pm21 cd21 ct21 : Value}
    {f22 : Addr} {od22 an22 : Option Addr} {sl22 : Array (Option Value)} {oc22 kV22 dc22 pm22 cd22 ct22 : Value}
    {f23 : Addr} {od23 an23 : Option Addr} {sl23 : Array (Option Value)} {oc23 kV23 dc23 pm23 cd23 ct23 : Value}
    {f24 : Addr} {od24 an24 : Option Addr} {sl24 : Array (Option Value)} {oc24 kV24 dc24 pm24 cd24 ct24 : Value}
    {f25 : Addr} {od25 an25 : Option Addr} {sl25 : Array (Option Value)} {oc25 kV25 dc25 pm25 cd25 ct25 : Value}
    {C0 : Addr}
    {C1 : Addr}
    {C2 : Addr}
    {C3 : Addr}
    (a0 : PySem.W.nsIn K mainGlobals "by_steps" = some (some (.ref f0))) (l0 : K.lookup f0 = some ⟨oc0, od0, .func (PySem.W.fnOf "by_steps" "by_steps" (defArgs s_by_steps) (defBody s_by_steps) (defScope s_by_steps) .none kV0 dc0 pm0 an0 cd0 ct0), sl0⟩) (c0 : PySem.W.codeIn K cd0 "by_steps" = true) (k0 : PySem.W.keepIn K (.ref f0) = true)
    (a1 : PySem.W.nsIn K mainGlobals "by_rounds" = some (some (.ref f1))) (l1 : K.lookup f1 = some ⟨oc1, od1, .func (PySem.W.fnOf "by_rounds" "by_rounds" (defArgs s_by_rounds) (defBody s_by_rounds) (defScope s_by_rounds) .none kV1 dc1 pm1 an1 cd1 ct1), sl1⟩) (c1 : PySem.W.codeIn K cd1 "by_rounds" = true) (k1 : PySem.W.keepIn K (.ref f1) = true)
    (a2 : PySem.W.nsIn K mainGlobals "halves" = some (some (.ref f2))) (l2 : K.lookup f2 = some ⟨oc2, od2, .func (PySem.W.fnOf "halves" "halves" (defArgs s_halves) (defBody s_halves) (defScope s_halves) .none kV2 dc2 pm2 an2 cd2 ct2), sl2⟩) (c2 : PySem.W.codeIn K cd2 "halves" = true) (k2 : PySem.W.keepIn K (.ref f2) = true)
    (a3 : PySem.W.nsIn K mainGlobals "passed" = some (some (.ref f3))) (l3 : K.lookup f3 = some ⟨oc3, od3, .func (PySem.W.fnOf "passed" "passed" (defArgs s_passed) (defBody s_passed) (defScope s_passed) .none kV3 dc3 pm3 an3 cd3 ct3), sl3⟩) (c3 : PySem.W.codeIn K cd3 "passed" = true) (k3 : PySem.W.keepIn K (.ref f3) = true)
    (a4 : PySem.W.nsIn K mainGlobals "keeps_by" = some (some (.ref f4))) (l4 : K.lookup f4 = some ⟨oc4, od4, .func (PySem.W.fnOf "keeps_by" "keeps_by" (defArgs s_keeps_by) (defBody s_keeps_by) (defScope s_keeps_by) .none kV4 dc4 pm4 an4 cd4 ct4), sl4⟩) (c4 : PySem.W.codeIn K cd4 "keeps_by" = true) (k4 : PySem.W.keepIn K (.ref f4) = true)
    (a5 : PySem.W.nsIn K mainGlobals "is_place" = some (some (.ref f5))) (l5 : K.lookup f5 = some ⟨oc5, od5, .func (PySem.W.fnOf "is_place" "is_place" (defArgs s_is_place) (defBody s_is_place) (defScope s_is_place) .none kV5 dc5 pm5 an5 cd5 ct5), sl5⟩) (c5 : PySem.W.codeIn K cd5 "is_place" = true) (k5 : PySem.W.keepIn K (.ref f5) = true)
    (a6 : PySem.W.nsIn K mainGlobals "places_of" = some (some (.ref f6))) (l6 : K.lookup f6 = some ⟨oc6, od6, .func (PySem.W.fnOf "places_of" "places_of" (defArgs s_places_of) (defBody s_places_of) (defScope s_places_of) .none kV6 dc6 pm6 an6 cd6 ct6), sl6⟩) (c6 : PySem.W.codeIn K cd6 "places_of" = true) (k6 : PySem.W.keepIn K (.ref f6) = true)
    (a7 : PySem.W.nsIn K mainGlobals "columns_of" = some (some (.ref f7))) (l7 : K.lookup f7 = some ⟨oc7, od7, .func (PySem.W.fnOf "columns_of" "columns_of" (defArgs s_columns_of) (defBody s_columns_of) (defScope s_columns_of) .none kV7 dc7 pm7 an7 cd7 ct7), sl7⟩) (c7 : PySem.W.codeIn K cd7 "columns_of" = true) (k7 : PySem.W.keepIn K (.ref f7) = true)
    (a8 : PySem.W.nsIn K mainGlobals "compared" = some (some (.ref f8))) (l8 : K.lookup f8 = some ⟨oc8, od8, .func (PySem.W.fnOf "compared" "compared" (defArgs s_compared) (defBody s_compared) (defScope s_compared) .none kV8 dc8 pm8 an8 cd8 ct8), sl8⟩) (c8 : PySem.W.codeIn K cd8 "compared" = true) (k8 : PySem.W.keepIn K (.ref f8) = true)
    (a9 : PySem.W.nsIn K mainGlobals "_law_cell_at" = some (some (.ref f9))) (l9 : K.lookup f9 = some ⟨oc9, od9, .func (PySem.W.fnOf "_law_cell_at" "_law_cell_at" (defArgs s_law_cell_at) (defBody s_law_cell_at) (defScope s_law_cell_at) .none kV9 dc9 pm9 an9 cd9 ct9), sl9⟩) (c9 : PySem.W.codeIn K cd9 "_law_cell_at" = true) (k9 : PySem.W.keepIn K (.ref f9) = true)
    (a10 : PySem.W.nsIn K mainGlobals "_law_mixed" = some (some (.ref f10))) (l10 : K.lookup f10 = some ⟨oc10, od10, .func (PySem.W.fnOf "_law_mixed" "_law_mixed" (defArgs s_law_mixed) (defBody s_law_mixed) (defScope s_law_mixed) .none kV10 dc10 pm10 an10 cd10 ct10), sl10⟩) (c10 : PySem.W.codeIn K cd10 "_law_mixed" = true) (k10 : PySem.W.keepIn K (.ref f10) = true)
    (a11 : PySem.W.nsIn K mainGlobals "_law_in_order" = some (some (.ref f11))) (l11 : K.lookup f11 = some ⟨oc11, od11, .func (PySem.W.fnOf "_law_in_order" "_law_in_order" (defArgs s_law_in_order) (defBody s_law_in_order) (defScope s_law_in_order) .none kV11 dc11 pm11 an11 cd11 ct11), sl11⟩) (c11 : PySem.W.codeIn K cd11 "_law_in_order" = true) (k11 : PySem.W.keepIn K (.ref f11) = true)
    (a12 : PySem.W.nsIn K mainGlobals "by_merging" = some (some (.ref f12))) (l12 : K.lookup f12 = some ⟨oc12, od12, .func (PySem.W.fnOf "by_merging" "by_merging" (defArgs s_by_merging) (defBody s_by_merging) (defScope s_by_merging) .none kV12 dc12 pm12 an12 cd12 ct12), sl12⟩) (c12 : PySem.W.codeIn K cd12 "by_merging" = true) (k12 : PySem.W.keepIn K (.ref f12) = true)
    (a13 : PySem.W.nsIn K mainGlobals "is_compare" = some (some (.ref f13))) (l13 : K.lookup f13 = some ⟨oc13, od13, .func (PySem.W.fnOf "is_compare" "is_compare" (defArgs s_is_compare) (defBody s_is_compare) (defScope s_is_compare) .none kV13 dc13 pm13 an13 cd13 ct13), sl13⟩) (c13 : PySem.W.codeIn K cd13 "is_compare" = true) (k13 : PySem.W.keepIn K (.ref f13) = true)
    (a14 : PySem.W.nsIn K mainGlobals "gone_through" = some (some (.ref f14))) (l14 : K.lookup f14 = some ⟨oc14, od14, .func (PySem.W.fnOf "gone_through" "gone_through" (defArgs s_gone_through) (defBody s_gone_through) (defScope s_gone_through) .none kV14 dc14 pm14 an14 cd14 ct14), sl14⟩) (c14 : PySem.W.codeIn K cd14 "gone_through" = true) (k14 : PySem.W.keepIn K (.ref f14) = true)
    (a15 : PySem.W.nsIn K mainGlobals "behind" = some (some (.ref f15))) (l15 : K.lookup f15 = some ⟨oc15, od15, .func (PySem.W.fnOf "behind" "behind" (defArgs s_behind) (defBody s_behind) (defScope s_behind) .none kV15 dc15 pm15 an15 cd15 ct15), sl15⟩) (c15 : PySem.W.codeIn K cd15 "behind" = true) (k15 : PySem.W.keepIn K (.ref f15) = true)
    (a16 : PySem.W.nsIn K mainGlobals "_law_row_by" = some (some (.ref f16))) (l16 : K.lookup f16 = some ⟨oc16, od16, .func (PySem.W.fnOf "_law_row_by" "_law_row_by" (defArgs s_law_row_by) (defBody s_law_row_by) (defScope s_law_row_by) .none kV16 dc16 pm16 an16 cd16 ct16), sl16⟩) (c16 : PySem.W.codeIn K cd16 "_law_row_by" = true) (k16 : PySem.W.keepIn K (.ref f16) = true)
    (a17 : PySem.W.nsIn K mainGlobals "made" = some (some (.ref f17))) (l17 : K.lookup f17 = some ⟨oc17, od17, .func (PySem.W.fnOf "made" "made" (defArgs s_made) (defBody s_made) (defScope s_made) .none kV17 dc17 pm17 an17 cd17 ct17), sl17⟩) (c17 : PySem.W.codeIn K cd17 "made" = true) (k17 : PySem.W.keepIn K (.ref f17) = true)
    (a18 : PySem.W.nsIn K mainGlobals "is_program" = some (some (.ref f18))) (l18 : K.lookup f18 = some ⟨oc18, od18, .func (PySem.W.fnOf "is_program" "is_program" (defArgs s_is_program) (defBody s_is_program) (defScope s_is_program) .none kV18 dc18 pm18 an18 cd18 ct18), sl18⟩) (c18 : PySem.W.codeIn K cd18 "is_program" = true) (k18 : PySem.W.keepIn K (.ref f18) = true)
    (a19 : PySem.W.nsIn K mainGlobals "run" = some (some (.ref f19))) (l19 : K.lookup f19 = some ⟨oc19, od19, .func (PySem.W.fnOf "run" "run" (defArgs s_run) (defBody s_run) (defScope s_run) .none kV19 dc19 pm19 an19 cd19 ct19), sl19⟩) (c19 : PySem.W.codeIn K cd19 "run" = true) (k19 : PySem.W.keepIn K (.ref f19) = true)
    (a20 : PySem.W.nsIn K mainGlobals "wrong_rows" = some (some (.ref f20))) (l20 : K.lookup f20 = some ⟨oc20, od20, .func (PySem.W.fnOf "wrong_rows" "wrong_rows" (defArgs s_wrong_rows) (defBody s_wrong_rows) (defScope s_wrong_rows) .none kV20 dc20 pm20 an20 cd20 ct20), sl20⟩) (c20 : PySem.W.codeIn K cd20 "wrong_rows" = true) (k20 : PySem.W.keepIn K (.ref f20) = true)
    (a21 : PySem.W.nsIn K mainGlobals "need" = some (some (.ref f21))) (l21 : K.lookup f21 = some ⟨oc21, od21, .func (PySem.W.fnOf "need" "need" (defArgs s_need) (defBody s_need) (defScope s_need) .none kV21 dc21 pm21 an21 cd21 ct21), sl21⟩) (c21 : PySem.W.codeIn K cd21 "need" = true) (k21 : PySem.W.keepIn K (.ref f21) = true)
    (a22 : PySem.W.nsIn K mainGlobals "orders" = some (some (.ref f22))) (l22 : K.lookup f22 = some ⟨oc22, od22, .func (PySem.W.fnOf "orders" "orders" (defArgs s_orders) (defBody s_orders) (defScope s_orders) .none kV22 dc22 pm22 an22 cd22 ct22), sl22⟩) (c22 : PySem.W.codeIn K cd22 "orders" = true) (k22 : PySem.W.keepIn K (.ref f22) = true)
    (a23 : PySem.W.nsIn K mainGlobals "merging" = some (some (.ref f23))) (l23 : K.lookup f23 = some ⟨oc23, od23, .func (PySem.W.fnOf "merging" "merging" (defArgs s_merging) (defBody s_merging) (defScope s_merging) .none kV23 dc23 pm23 an23 cd23 ct23), sl23⟩) (c23 : PySem.W.codeIn K cd23 "merging" = true) (k23 : PySem.W.keepIn K (.ref f23) = true)
    (a24 : PySem.W.nsIn K mainGlobals "count_of" = some (some (.ref f24))) (l24 : K.lookup f24 = some ⟨oc24, od24, .func (PySem.W.fnOf "count_of" "count_of" (defArgs s_count_of) (defBody s_count_of) (defScope s_count_of) .none kV24 dc24 pm24 an24 cd24 ct24), sl24⟩) (c24 : PySem.W.codeIn K cd24 "count_of" = true) (k24 : PySem.W.keepIn K (.ref f24) = true)
    (a25 : PySem.W.nsIn K mainGlobals "law" = some (some (.ref f25))) (l25 : K.lookup f25 = some ⟨oc25, od25, .func (PySem.W.fnOf "law" "law" (defArgs s_law) (defBody s_law) (defScope s_law) .none kV25 dc25 pm25 an25 cd25 ct25), sl25⟩) (c25 : PySem.W.codeIn K cd25 "law" = true) (k25 : PySem.W.keepIn K (.ref f25) = true)
    (e0g : PySem.W.nsIn K mainGlobals "ForgeError" = some (some (.ref C0))) (e0k : PySem.W.keepIn K (.ref C0) = true) (e0x : PySem.W.excIn K C0 [.type "ValueError", .type "Exception", .type "BaseException", .type "object"] "ValueError.__new__" = true) (e0s : PySem.W.subIn K (.ref C0) (.type "BaseException") = some true) (e0t : PySem.W.typeIn K (.ref C0) = some (.type "type")) (e0h : PySem.W.hasDictIn K C0 = true)
    (e1g : PySem.W.nsIn K mainGlobals "BadProgram" = some (some (.ref C1))) (e1k : PySem.W.keepIn K (.ref C1) = true) (e1x : PySem.W.excIn K C1 [.type "ValueError", .type "Exception", .type "BaseException", .type "object"] "ValueError.__new__" = true) (e1s : PySem.W.subIn K (.ref C1) (.type "BaseException") = some true) (e1t : PySem.W.typeIn K (.ref C1) = some (.type "type")) (e1h : PySem.W.hasDictIn K C1 = true)
    (e2g : PySem.W.nsIn K mainGlobals "BadRow" = some (some (.ref C2))) (e2k : PySem.W.keepIn K (.ref C2) = true) (e2x : PySem.W.excIn K C2 [.type "ValueError", .type "Exception", .type "BaseException", .type "object"] "ValueError.__new__" = true) (e2s : PySem.W.subIn K (.ref C2) (.type "BaseException") = some true) (e2t : PySem.W.typeIn K (.ref C2) = some (.type "type")) (e2h : PySem.W.hasDictIn K C2 = true)
    (e3g : PySem.W.nsIn K mainGlobals "NoRule" = some (some (.ref C3))) (e3k : PySem.W.keepIn K (.ref C3) = true) (e3x : PySem.W.excIn K C3 [.type "ValueError", .type "Exception", .type "BaseException", .type "object"] "ValueError.__new__" = true) (e3s : PySem.W.subIn K (.ref C3) (.type "BaseException") = some true) (e3t : PySem.W.typeIn K (.ref C3) = some (.type "type")) (e3h : PySem.W.hasDictIn K C3 = true)
    (z_len : PySem.W.nsIn K mainGlobals "len" = some none)
    (z_range : PySem.W.nsIn K mainGlobals "range" = some none)
    (z_tuple : PySem.W.nsIn K mainGlobals "tuple" = some none)
    (z_list : PySem.W.nsIn K mainGlobals "list" = some none)
    (z_isinstance : PySem.W.nsIn K mainGlobals "isinstance" = some none)
    (z_int : PySem.W.nsIn K mainGlobals "int" = some none)
    (z_bool : PySem.W.nsIn K mainGlobals "bool" = some none)
    (z_str : PySem.W.nsIn K mainGlobals "str" = some none)
    (z_all : PySem.W.nsIn K mainGlobals "all" = some none)
    (z_max : PySem.W.nsIn K mainGlobals "max" = some none)
    (z_sorted : PySem.W.nsIn K mainGlobals "sorted" = some none)
    (z_ValueError : PySem.W.nsIn K mainGlobals "ValueError" = some none) :
    ∃ fd : FuncData, (∀ (s : Shared) (v : Value), BindsTo s fd ⟨[v], []⟩ [("_law_script", v)]) ∧ ∀ base : Heap, K.In base → base.Ns mainGlobals mg → FnOk l.prog w K mg base CX0 17 fa fd ["_law_script"] (sp_law K) := by
  have e := hfa.symm.trans (PySem.W.mg_of X G a25)
  cases e
  have B : Blt mg := ⟨PySem.W.mg_none_of X G z_len, PySem.W.mg_none_of X G z_range, PySem.W.mg_none_of X G z_tuple, PySem.W.mg_none_of X G z_list, PySem.W.mg_none_of X G z_isinstance, PySem.W.mg_none_of X G z_int, PySem.W.mg_none_of X G z_bool, PySem.W.mg_none_of X G z_str, PySem.W.mg_none_of X G z_all, PySem.W.mg_none_of X G z_max, PySem.W.mg_none_of X G z_sorted, PySem.W.mg_none_of X G z_ValueError⟩
  have X_ForgeError : ExcK K mg "ForgeError" C0 := ⟨PySem.W.mg_of X G e0g, e0k, e0x, e0s, e0t, e0h⟩
  have X_BadProgram : ExcK K mg "BadProgram" C1 := ⟨PySem.W.mg_of X G e1g, e1k, e1x, e1s, e1t, e1h⟩
  have X_BadRow : ExcK K mg "BadRow" C2 := ⟨PySem.W.mg_of X G e2g, e2k, e2x, e2s, e2t, e2h⟩
  have X_NoRule : ExcK K mg "NoRule" C3 := ⟨PySem.W.mg_of X G e3g, e3k, e3x, e3s, e3t, e3h⟩
  have F0 := fun_mk (st := s_by_steps) l0 c0 k0
  have F1 := fun_mk (st := s_by_rounds) l1 c1 k1
  have F2 := fun_mk (st := s_halves) l2 c2 k2
  have F3 := fun_mk (st := s_passed) l3 c3 k3
  have F4 := fun_mk (st := s_keeps_by) l4 c4 k4
  have F5 := fun_mk (st := s_is_place) l5 c5 k5
  have F6 := fun_mk (st := s_places_of) l6 c6 k6
  have F7 := fun_mk (st := s_columns_of) l7 c7 k7
  have F8 := fun_mk (st := s_compared) l8 c8 k8
  have F9 := fun_mk (st := s_law_cell_at) l9 c9 k9
  have F10 := fun_mk (st := s_law_mixed) l10 c10 k10
  have F11 := fun_mk (st := s_law_in_order) l11 c11 k11
  have F12 := fun_mk (st := s_by_merging) l12 c12 k12
  have F13 := fun_mk (st := s_is_compare) l13 c13 k13
  have F14 := fun_mk (st := s_gone_through) l14 c14 k14
  have F15 := fun_mk (st := s_behind) l15 c15 k15
  have F16 := fun_mk (st := s_law_row_by) l16 c16 k16
  have F17 := fun_mk (st := s_made) l17 c17 k17
  have F18 := fun_mk (st := s_is_program) l18 c18 k18
  have F19 := fun_mk (st := s_run) l19 c19 k19
  have F20 := fun_mk (st := s_wrong_rows) l20 c20 k20
  have F21 := fun_mk (st := s_need) l21 c21 k21
  have F22 := fun_mk (st := s_orders) l22 c22 k22
  have F23 := fun_mk (st := s_merging) l23 c23 k23
  have F24 := fun_mk (st := s_count_of) l24 c24 k24
  have F25 := fun_mk (st := s_law) l25 c25 k25
  refine ⟨PySem.W.fnOf "law" "law" (defArgs s_law) (defBody s_law) (defScope s_law) .none kV25 dc25 pm25 an25 cd25 ct25, fun s v => .of_eq rfl, fun base _ _ => ?_⟩
  have c_by_steps := ok_by_steps (P := l.prog) (w := w) (base := base) F0 (PySem.W.mg_of X G a0) B
  have c_by_rounds := ok_by_rounds (P := l.prog) (w := w) (base := base) F1 (PySem.W.mg_of X G a1) B
  have c_halves := ok_halves (P := l.prog) (w := w) (base := base) F2 (PySem.W.mg_of X G a2) B
  have c_passed := ok_passed (P := l.prog) (w := w) (base := base) F3 (PySem.W.mg_of X G a3) B
  have c_keeps_by := ok_keeps_by (P := l.prog) (w := w) (base := base) F4 (PySem.W.mg_of X G a4) X_NoRule B
  have c_is_place := ok_is_place (P := l.prog) (w := w) (base := base) F5 (PySem.W.mg_of X G a5) B
  have c_places_of := ok_places_of (P := l.prog) (w := w) (base := base) F6 (PySem.W.mg_of X G a6) B
  have c_columns_of := ok_columns_of (P := l.prog) (w := w) (base := base) F7 (PySem.W.mg_of X G a7) B
  have c_compared := ok_compared (P := l.prog) (w := w) (base := base) F8 (PySem.W.mg_of X G a8) B
  have c_law_cell_at := ok_law_cell_at (P := l.prog) (w := w) (base := base) F9 (PySem.W.mg_of X G a9) B
  have c_law_mixed := ok_law_mixed (P := l.prog) (w := w) (base := base) F10 (PySem.W.mg_of X G a10) B
  have c_law_in_order := ok_law_in_order (P := l.prog) (w := w) (base := base) F11 (PySem.W.mg_of X G a11) B
  have c_by_merging := ok_by_merging (P := l.prog) (w := w) (base := base) F12 (PySem.W.mg_of X G a12) B c_halves c_passed
  have c_is_compare := ok_is_compare (P := l.prog) (w := w) (base := base) F13 (PySem.W.mg_of X G a13) B c_is_place
  have c_gone_through := ok_gone_through (P := l.prog) (w := w) (base := base) F14 (PySem.W.mg_of X G a14) X_BadRow B c_places_of
  have c_behind := ok_behind (P := l.prog) (w := w) (base := base) F15 (PySem.W.mg_of X G a15) B c_columns_of c_compared
  have c_law_row_by := ok_law_row_by (P := l.prog) (w := w) (base := base) F16 (PySem.W.mg_of X G a16) B c_law_mixed
  have c_made := ok_made (P := l.prog) (w := w) (base := base) F17 (PySem.W.mg_of X G a17) X_NoRule B c_by_merging c_by_rounds c_by_steps
  have c_is_program := ok_is_program (P := l.prog) (w := w) (base := base) F18 (PySem.W.mg_of X G a18) B c_is_compare
  have c_run := ok_run (P := l.prog) (w := w) (base := base) F19 (PySem.W.mg_of X G a19) B c_gone_through
  have c_wrong_rows := ok_wrong_rows (P := l.prog) (w := w) (base := base) F20 (PySem.W.mg_of X G a20) B c_behind
  have c_need := ok_need (P := l.prog) (w := w) (base := base) F21 (PySem.W.mg_of X G a21) X_BadProgram B c_is_program
  have c_orders := ok_orders (P := l.prog) (w := w) (base := base) F22 (PySem.W.mg_of X G a22) B c_need c_wrong_rows
  have c_merging := ok_merging (P := l.prog) (w := w) (base := base) F23 (PySem.W.mg_of X G a23) B
  have c_count_of := ok_count_of (P := l.prog) (w := w) (base := base) F24 (PySem.W.mg_of X G a24) X_NoRule B c_merging
  exact fn_law F25 B c_law_cell_at c_law_in_order c_law_row_by c_count_of c_keeps_by c_made c_orders c_run
end SF
open PySem PySem.W PyProof.Rows
set_option maxHeartbeats 0 in
theorem PySem.Challenge.cw_sortforge_k09_whole_made_ones_holds : PySem.Challenge.rw_sortforge_k09_whole_made_ones.Holds := by
  w_on; o_law; k_head; (case hw => w_witness2)
  k_fill
  refine L2.walk_of (l := PySem.Challenge.rw_sortforge_k09_whole_made_ones) (n := 63) (k := 17) (x := "_law_script") (CX := fun _ => L2.CX0) (sp := fun w => SF.sp_law _) rfl (by decide) rfl ⟨rfl, by decide, by decide⟩ (fun w h Y => PySem.W.kIn_of Y) ?F (fun w H a ns hl hO hS => SF.law_start hl hO hS) (fun _ _ _ _ _ h => h)
  case F =>
    intro w mg fa h KX G hmg
    refine' SF.all_mk KX G hmg ?a0 ?l0 ?c0 ?k0 ?a1 ?l1 ?c1 ?k1 ?a2 ?l2 ?c2 ?k2 ?a3 ?l3 ?c3 ?k3 ?a4 ?l4 ?c4 ?k4 ?a5 ?l5 ?c5 ?k5 ?a6 ?l6 ?c6 ?k6 ?a7 ?l7 ?c7 ?k7 ?a8 ?l8 ?c8 ?k8 ?a9 ?l9 ?c9 ?k9 ?a10 ?l10 ?c10 ?k10 ?a11 ?l11 ?c11 ?k11 ?a12 ?l12 ?c12 ?k12 ?a13 ?l13 ?c13 ?k13 ?a14 ?l14 ?c14 ?k14 ?a15 ?l15 ?c15 ?k15 ?a16 ?l16 ?c16 ?k16 ?a17 ?l17 ?c17 ?k17 ?a18 ?l18 ?c18 ?k18 ?a19 ?l19 ?c19 ?k19 ?a20 ?l20 ?c20 ?k20 ?a21 ?l21 ?c21 ?k21 ?a22 ?l22 ?c22 ?k22 ?a23 ?l23 ?c23 ?k23 ?a24 ?l24 ?c24 ?k24 ?a25 ?l25 ?c25 ?k25 ?e0g ?e0k ?e0x ?e0s ?e0t ?e0h ?e1g ?e1k ?e1x ?e1s ?e1t ?e1h ?e2g ?e2k ?e2x ?e2s ?e2t ?e2h ?e3g ?e3k ?e3x ?e3s ?e3t ?e3h ?z_len ?z_range ?z_tuple ?z_list ?z_isinstance ?z_int ?z_bool ?z_str ?z_all ?z_max ?z_sorted ?z_ValueError
    (case a0 => k_is)
    (case l0 => k_is)
    (case c0 => k_is)
    (case k0 => k_is)
    (case a1 => k_is)
    (case l1 => k_is)
    (case c1 => k_is)
    (case k1 => k_is)
    (case a2 => k_is)
    (case l2 => k_is)
    (case c2 => k_is)
    (case k2 => k_is)
    (case a3 => k_is)
    (case l3 => k_is)
    (case c3 => k_is)
    (case k3 => k_is)
    (case a4 => k_is)
    (case l4 => k_is)
    (case c4 => k_is)
    (case k4 => k_is)
    (case a5 => k_is)
    (case l5 => k_is)
    (case c5 => k_is)
    (case k5 => k_is)
    (case a6 => k_is)
    (case l6 => k_is)
    (case c6 => k_is)
    (case k6 => k_is)
    (case a7 => k_is)
    (case l7 => k_is)
    (case c7 => k_is)
    (case k7 => k_is)
    (case a8 => k_is)
    (case l8 => k_is)
    (case c8 => k_is)
    (case k8 => k_is)
    (case a9 => k_is)
    (case l9 => k_is)
    (case c9 => k_is)
    (case k9 => k_is)
    (case a10 => k_is)
    (case l10 => k_is)
    (case c10 => k_is)
    (case k10 => k_is)
    (case a11 => k_is)
    (case l11 => k_is)
    (case c11 => k_is)
    (case k11 => k_is)
    (case a12 => k_is)
    (case l12 => k_is)
    (case c12 => k_is)
    (case k12 => k_is)
    (case a13 => k_is)
    (case l13 => k_is)
    (case c13 => k_is)
    (case k13 => k_is)
    (case a14 => k_is)
    (case l14 => k_is)
    (case c14 => k_is)
    (case k14 => k_is)
    (case a15 => k_is)
    (case l15 => k_is)
    (case c15 => k_is)
    (case k15 => k_is)
    (case a16 => k_is)
    (case l16 => k_is)
    (case c16 => k_is)
    (case k16 => k_is)
    (case a17 => k_is)
    (case l17 => k_is)
    (case c17 => k_is)
    (case k17 => k_is)
    (case a18 => k_is)
    (case l18 => k_is)
    (case c18 => k_is)
    (case k18 => k_is)
    (case a19 => k_is)
    (case l19 => k_is)
    (case c19 => k_is)
    (case k19 => k_is)
    (case a20 => k_is)
    (case l20 => k_is)
    (case c20 => k_is)
    (case k20 => k_is)
    (case a21 => k_is)
    (case l21 => k_is)
    (case c21 => k_is)
    (case k21 => k_is)
    (case a22 => k_is)
    (case l22 => k_is)
    (case c22 => k_is)
    (case k22 => k_is)
    (case a23 => k_is)
    (case l23 => k_is)
    (case c23 => k_is)
    (case k23 => k_is)
    (case a24 => k_is)
    (case l24 => k_is)
    (case c24 => k_is)
    (case k24 => k_is)
    (case a25 => k_is)
    (case l25 => k_is)
    (case c25 => k_is)
    (case k25 => k_is)
    (case e0g => k_is)
    (case e0k => k_is)
    (case e0x => k_exc)
    (case e0s => k_is)
    (case e0t => k_is)
    (case e0h => k_is)
    (case e1g => k_is)
    (case e1k => k_is)
    (case e1x => k_exc)
    (case e1s => k_is)
    (case e1t => k_is)
    (case e1h => k_is)
    (case e2g => k_is)
    (case e2k => k_is)
    (case e2x => k_exc)
    (case e2s => k_is)
    (case e2t => k_is)
    (case e2h => k_is)
    (case e3g => k_is)
    (case e3k => k_is)
    (case e3x => k_exc)
    (case e3s => k_is)
    (case e3t => k_is)
    (case e3h => k_is)
    (case z_len => k_is)
    (case z_range => k_is)
    (case z_tuple => k_is)
    (case z_list => k_is)
    (case z_isinstance => k_is)
    (case z_int => k_is)
    (case z_bool => k_is)
    (case z_str => k_is)
    (case z_all => k_is)
    (case z_max => k_is)
    (case z_sorted => k_is)
    (case z_ValueError => k_is)
