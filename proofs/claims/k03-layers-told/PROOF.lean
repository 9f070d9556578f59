import PyProof.Rows.All
import Wide.All
import OpenK.AllK
import Wide.FinOn
import HandS.ForExc
import HandS.ForMost
import HandS.IsInst
import HandS.ExcIs
import HandS.TupAny
import HandS.SortKw
import HandS.Conv
import HandS.Style
import HandS.Wide
import HandS.Codes
import HandS.CallLocal
import HandS.SortInts
import HandS.More
import PySem.Challenge.RW_sortforge_k03_layers_told
set_option Elab.async false
set_option linter.all false
set_option maxRecDepth 100000
set_option maxHeartbeats 8000000
set_option maxHeartbeats 4000000
/-! max(list of ints, default=int): the library's walk carried over to the call that bears a default. -/
namespace SF
open PySem PySem.Spec PyProof.Rows L2
open Sem (wp)
abbrev dKw (d : Value) : List (Str × Value) := [(Str.ofString "default", d)]
theorem maxArgs (a d : Value) : argsOk "max" ⟨[a], dKw d⟩ := by unfold argsOk; kernel_rfl
theorem maxBind (d : Value) : Builtin.Builtins.bindParams "max" ["key", "default"] 0 ⟨[], dKw d⟩ = pure [none, some d] := by rfl
section
variable {prog : Program} {w : World} {A : Around} {R : Result → Shared → Prop} {It : Addr} {fp wr : List Addr} {n : Nat} {P : Nat → Value → Prop} {St : Nat → Heap → Prop}
theorem maxName : (toString "max" ++ toString ".loop" : String) = "max.loop" := by decide
/-- some items have gone by -/
theorem maxGo (W : Walks prog w A.in1 It fp wr n P St) (bt : Nat → Nat → Bool) (cmp : CmpOf prog w A.in1 .Gt P bt) (S : Addr) (d : Value) (nf : S ∉ fp) :
    ∀ (k j : Nat) (s : Shared) (top : Value) (c : Nat), n - (j + 1) = k → j + 1 ≤ n → St (j + 1) s.heap → P (argBest bt j) top →
      s.heap.get? S = some { cls := .type "list", dict := none, data := .seq #[top, top] c, slots := #[] } →
      (∀ v h' tk, P (argBest bt (n - 1)) v → (∀ b o, b ∉ wr → b ≠ S → s.heap.get? b = some o → h'.get? b = some o) → R (.ok (.ret v)) { s with heap := h', toks := tk }) →
      codeAny (model prog w) A (.builtin "max.loop" ⟨[.ref It, .none, .ref S], dKw d⟩) R s := by
  have nw : S ∉ wr := fun q => nf (W.sub _ q)
  intro k
  induction k with
  | zero =>
    intro j s top c hk hj st pt oS fin
    have last : j + 1 = n := by omega
    refine codeAny_builtin F.entry_max_loop ?_
    rw [Around.under_plainId F.plain_max_loop _]
    show wpAny _ A.in1 (seqItems? (.ref S) >>= _) _ _ s
    refine wpAny_bind (wpAny_seqItems oS rfl ?_)
    show wpAny _ A.in1 (tryCatch (pyNext (.ref It)) _ >>= _) _ _ s
    refine wpAny_bind (wpAny_tryCatch (W.done s _ _ (last ▸ st) fun h' tk keep => ?_))
    have oS' := keep S _ nw oS
    show wpAny _ A.in1 (updateSeq S (fun _ => #[]) >>= _) _ _ _
    refine wpAny_bind ?_
    refine wpAny_updateSeq oS' rfl (wpAny_bind (wpAny_letGo (wpAny_pure ?_)))
    exact fin top _ tk (by rw [← last]; exact pt) fun b o b1 b2 e => (Heap.get?_update_other _ _ (Ne.symm b2)).trans (keep b o b1 e)
  | succ k ih =>
    intro j s top c hk hj st pt oS fin
    have more : j + 1 < n := by omega
    refine codeAny_builtin F.entry_max_loop ?_
    rw [Around.under_plainId F.plain_max_loop _]
    show wpAny _ A.in1 (seqItems? (.ref S) >>= _) _ _ s
    refine wpAny_bind (wpAny_seqItems oS rfl ?_)
    show wpAny _ A.in1 (tryCatch (pyNext (.ref It)) _ >>= _) _ _ s
    refine wpAny_bind (wpAny_tryCatch (W.item (j + 1) s _ _ more st fun v h' tk pv st' keep => ?_))
    have oS' := keep S _ nw oS
    show wpAny _ A.in1 (tryCatch (holding [v, v] (richCompare .Gt v top >>= _)) _ >>= _) _ _ _
    refine wpAny_bind (wpAny_tryCatch (wpAny_holding (wpAny_bind (cmp (j + 1) (argBest bt j) v top _ _ _ pv pt ?_))))
    refine wpAny_bind (wpAny_holding (wpAny_truthy_bool ?_))
    refine wpAny_bind (wpAny_letGo (wpAny_pure ?_))
    cases hb : bt (j + 1) (argBest bt j) with
    | true =>
      simp only [if_true]
      refine wpAny_bind ?_
      refine wpAny_updateSeq oS' rfl (wpAny_bind (wpAny_letGo ?_))
      rw [maxName]
      refine wpAny_pure ⟨plainId_quiet F.plain_max_loop _, ih (j + 1) _ v _ (by omega) more (W.frame _ _ _ st' fun b hbf o e => ?_) (by simp only [argBest, hb, if_true]; exact pv) (Heap.get?_update_self _ oS' rfl)
        fun v' h2 tk2 pv' keep2 => ?_⟩
      · exact (Heap.get?_update_other _ _ (fun q : S = b => nf (by rw [q]; exact hbf))).trans e
      · exact fin v' h2 tk2 pv' fun b o b1 b2 e => keep2 b o b1 b2 ((Heap.get?_update_other _ _ (Ne.symm b2)).trans (keep b o b1 e))
    | false =>
      simp only [Bool.false_eq_true, if_false]
      refine wpAny_bind (wpAny_letGo ?_)
      rw [maxName]
      refine wpAny_pure ⟨plainId_quiet F.plain_max_loop _, ih (j + 1) _ top c (by omega) more st' (by simp only [argBest, hb, Bool.false_eq_true, if_false]; exact pt) oS' fun v' h2 tk2 pv' keep2 => ?_⟩
      exact fin v' h2 tk2 pv' fun b o b1 b2 e => keep2 b o b1 b2 (keep b o b1 e)
/-- the first look: an item, or the default -/
theorem maxStart (W : Walks prog w A.in1 It fp wr n P St) (bt : Nat → Nat → Bool) (cmp : CmpOf prog w A.in1 .Gt P bt) (S : Addr) (d : Value) (nf : S ∉ fp) {s : Shared} {c : Nat} (st : St 0 s.heap)
    (oS : s.heap.get? S = some { cls := .type "list", dict := none, data := .seq #[] c, slots := #[] })
    (fin : ∀ v h' tk, (n = 0 ∧ v = d ∨ 0 < n ∧ P (argBest bt (n - 1)) v) → (∀ b o, b ∉ wr → b ≠ S → s.heap.get? b = some o → h'.get? b = some o) → R (.ok (.ret v)) { s with heap := h', toks := tk }) :
    codeAny (model prog w) A (.builtin "max.loop" ⟨[.ref It, .none, .ref S], dKw d⟩) R s := by
  have nw : S ∉ wr := fun q => nf (W.sub _ q)
  refine codeAny_builtin F.entry_max_loop ?_
  rw [Around.under_plainId F.plain_max_loop _]
  show wpAny _ A.in1 (seqItems? (.ref S) >>= _) _ _ s
  refine wpAny_bind (wpAny_seqItems oS rfl ?_)
  show wpAny _ A.in1 (tryCatch (pyNext (.ref It)) _ >>= _) _ _ s
  by_cases hn : 0 < n
  · refine wpAny_bind (wpAny_tryCatch (W.item 0 s _ _ hn st fun v h' tk pv st' keep => ?_))
    have oS' := keep S _ nw oS
    show wpAny _ A.in1 (updateSeq S (fun _ => #[v, v]) >>= _) _ _ _
    refine wpAny_bind ?_
    refine wpAny_updateSeq oS' rfl ?_
    rw [maxName]
    refine wpAny_pure ⟨plainId_quiet F.plain_max_loop _, maxGo W bt cmp S d nf _ 0 _ v _ rfl hn (W.frame _ _ _ st' fun b hbf o e => ?_) pv (Heap.get?_update_self _ oS' rfl) fun v' h2 tk2 pv' keep2 => ?_⟩
    · exact (Heap.get?_update_other _ _ (fun q : S = b => nf (by rw [q]; exact hbf))).trans e
    · exact fin v' h2 tk2 (.inr ⟨hn, pv'⟩) fun b o b1 b2 e => keep2 b o b1 b2 ((Heap.get?_update_other _ _ (Ne.symm b2)).trans (keep b o b1 e))
  · have e0 : n = 0 := by omega
    subst e0
    refine wpAny_bind (wpAny_tryCatch (W.done s _ _ st fun h' tk keep => ?_))
    show wpAny _ A.in1 (rule _ >>= _) _ _ _
    refine wpAny_bind (wpAny_rule ?_)
    exact wpAny_pure (fin d h' tk (.inl ⟨rfl, rfl⟩) fun b o b1 _ e => keep b o b1 e)
end
section
variable {prog : Program} {w : World} {A : Around} {E : Value → Shared → Prop} {s : Shared} {l : Addr} {xs : Array (Int × Tok)}
theorem max_def {d : Value} {Q : Value → Shared → Prop} (hh : A.handled = none) (hl : s.heap.IsList l (intItems xs))
    (fin : ∀ v h' tk, (xs.size = 0 ∧ v = d ∨ 0 < xs.size ∧ (intItems xs)[argBest (fun i j => decide (numAt xs i > numAt xs j)) (xs.size - 1)]? = some v) → (∀ b o, s.heap.get? b = some o → h'.get? b = some o) → Q v { s with heap := h', toks := tk }) :
    wpAny (model prog w) A (call (.builtin "max") [.ref l] (dKw d)) Q E s := by
  refine wpAny_call (codeAny_call_builtin F.plain_max F.entry_max ?_)
  have body : wpAny (model prog w) A.in1 (Builtin.«max» ⟨[.ref l], dKw d⟩) (fun f s' => match f with
      | .done g => (match (Except.ok g : Result) with | .ok (.ret v) => Q v s' | .ok _ => False | .error e => E e s')
      | .again c' => c'.quiet = true ∧ codeAny (model prog w) A c' (fun r s' => match r with | .ok (.ret v) => Q v s' | .ok _ => False | .error e => E e s') s') E s := by
    show wpAny _ A.in1 (Builtin.Builtins.bindParams "max" ["key", "default"] 0 ⟨[], dKw d⟩ >>= _) _ _ s
    refine wpAny_bind (wpAny_of_eq (maxBind d) ?_)
    refine wpAny_bind (wpAny_pure ?_)
    refine wpAny_bind (iter_intList hl fun s₂ e st hfp hlI => ?_)
    subst e
    refine wpAny_bind (wpAny_newObj_type ?_)
    rw [maxName]
    have W := Walks.list (prog := prog) (w := w) (A := A.in1.in1) hh s.heap.objs.size l hlI (intItems xs)
    refine wpAny_pure ⟨plainId_quiet F.plain_max_loop _, maxStart (A := A) (Walks.list (A := A.in1) hh _ l hlI (intItems xs)) _ (CmpOf.ints_gt (numAt xs) (fun _ _ => intItems_at)) _ d (fun hm => Nat.lt_irrefl _ (hfp _ hm))
      ((Walks.list (prog := prog) (w := w) (A := A.in1) hh _ l hlI (intItems xs)).frame _ _ _ st fun b _ o e => Heap.get?_push_of_some _ e) (Heap.get?_push_size _ rfl) fun v h' tk hv keep => ?_⟩
    refine fin v h' tk ?_ fun b o e => ?_
    · simpa [intItems] using hv
    · have lb : b < s.heap.objs.size := Heap.lt_size e
      refine keep b o (fun q => ?_) ?_ (Heap.get?_push_of_some _ (Heap.get?_push_of_some _ e))
      · have q' : b = s.heap.objs.size := by simpa using q
        exact Nat.lt_irrefl _ (q' ▸ lb)
      · intro q
        have z : (s.heap.push { cls := .type "list_iterator", data := .fields #[.ref l, .int 0 0] }).objs.size = s.heap.objs.size + 1 := Heap.size_push ..
        rw [q, z] at lb
        exact Nat.lt_irrefl _ (Nat.lt_of_succ_lt lb)
  simp only [checkBuiltinCall, F.kind_max]
  cases hsig : Manifest.signature? "max" with
  | none => exact wpAny_pure body
  | some sig =>
    have ha' : Bind.checkArgs "max" sig ⟨[.ref l], dKw d⟩ = pure () := by simpa only [argsOk, hsig] using maxArgs (.ref l) d
    simp only [ha']
    exact wpAny_pure body
end
/-- the greatest of ns, d where there is none -/
def maxOf (d : Int) : List Int → Int
  | [] => d
  | x :: xs => xs.foldl max x
theorem foldl_max_ge : ∀ (xs : List Int) (x : Int), x ≤ xs.foldl max x
  | [], x => Int.le_refl _
  | y :: ys, x => Int.le_trans (Int.le_max_left x y) (foldl_max_ge ys (max x y))
theorem foldl_max_all : ∀ (xs : List Int) (x y : Int), y ∈ xs → y ≤ xs.foldl max x
  | z :: zs, x, y, h => by
    rcases List.mem_cons.mp h with e | h
    · subst e
      exact Int.le_trans (Int.le_max_right x y) (foldl_max_ge zs (max x y))
    · exact foldl_max_all zs (max x z) y h
theorem foldl_max_mem : ∀ (xs : List Int) (x : Int), xs.foldl max x ∈ x :: xs
  | [], x => List.mem_cons_self
  | y :: ys, x => by
    have h := foldl_max_mem ys (max x y)
    show ys.foldl max (max x y) ∈ _
    rcases List.mem_cons.mp h with e | h
    · rw [e]
      by_cases q : x ≤ y
      · rw [Int.max_eq_right q]
        exact List.mem_cons_of_mem _ List.mem_cons_self
      · rw [Int.max_eq_left (by omega)]
        exact List.mem_cons_self
    · exact List.mem_cons_of_mem _ (List.mem_cons_of_mem _ h)
theorem maxOf_is {d m : Int} {ns : List Int} (h1 : m ∈ ns) (h2 : ∀ y ∈ ns, y ≤ m) : m = maxOf d ns := by
  cases ns with
  | nil => cases h1
  | cons x xs =>
    show m = xs.foldl max x
    refine Int.le_antisymm ?_ (h2 _ (foldl_max_mem xs x))
    rcases List.mem_cons.mp h1 with e | h
    · rw [e]
      exact foldl_max_ge xs x
    · exact foldl_max_all xs x m h
def rMaxD (K : PySem.W.Frag) : List V → List V → Hp → VK → Prop := fun vs zs H Q => ∃ (a : Addr) (ns : List Int) (d : Int), vs = [V.ref a] ∧ zs = [V.int d] ∧ SqL K H a (ns.map V.int) ∧ Q (.int (maxOf d ns)) H
theorem cr_maxD {X : Cx} (hc : X.calm = true) : CallRK X (.builtin "max") [Str.ofString "default"] (rMaxD X.K) := by
  intro pins s σ H vs zs us ws Q I r rz h
  obtain ⟨a, ns, d, rfl, rfl, hs, q⟩ := h
  obtain ⟨its, rv, hl, _⟩ := I.list hs
  rw [Vals.ref1 r]
  obtain ⟨w1, rfl, e1⟩ := vals1 rz
  obtain ⟨t, rfl⟩ : ∃ t, w1 = Value.int d t := e1
  have hi := rv.ints
  obtain ⟨xs, e⟩ := hi.allInts.items
  have hn : numsOf (intItems xs).toList = ns := by
    rw [← e]
    exact hi.numsOf
  rw [nums_intItems] at hn
  subst hn
  have hl' := hl.isList
  rw [e] at hl'
  refine max_def (d := .int d t) (I.ok.hd hc) hl' fun v h' tk hv keep => ?_
  rcases hv with ⟨e0, rfl⟩ | ⟨hsz, hv⟩
  · refine ⟨.int d, H, I.kept keep, ⟨_, rfl⟩, ?_⟩
    have e2 : xs.toList = [] := List.eq_nil_of_length_eq_zero (by simpa using e0)
    rw [e2] at q
    exact q
  · obtain ⟨t', rfl⟩ := intItems_at hv
    obtain ⟨h1, h2⟩ := argBest_gt (numAt xs) (xs.size - 1)
    refine ⟨.int _, H, I.kept keep, ⟨_, rfl⟩, ?_⟩
    rw [maxOf_is (d := d) (m := numAt xs (argBest (fun i j => decide (numAt xs i > numAt xs j)) (xs.size - 1))) (ns := xs.toList.map (·.1)) ?_ fun y hy => ?_]
    · exact q
    · rw [numAt_eq]
      exact PySem.getD_mem (by rw [List.length_map, Array.length_toList]; omega)
    · obtain ⟨j, hj, rfl⟩ := mem_getD hy
      rw [List.length_map, Array.length_toList] at hj
      rw [← numAt_eq]
      exact h2 j (by omega)
end SF

set_option maxHeartbeats 4000000
/-! What the walks of this program share: heaps that grow, data that stands, calls by value. -/
namespace SF
open PySem PySem.Spec PyProof.Rows L2
open C8 (Cal pe_c)
/-! ### heaps -/
theorem same_new {H : Hp} {p : Addr} {o : HO} (h : H p = none) : Same H (upd H p o) := fun b u e => by
  rw [upd_ne (ne_of_none e h)]
  exact e
theorem same_mut {H0 H : Hp} {p : Addr} {o : HO} (e : Same H0 H) (n : H0 p = none) : Same H0 (upd H p o) := fun b u q => by
  rw [upd_ne (ne_of_none q n)]
  exact e b u q
/-- tuples (and what is locked) stand -/
def Tx (H H' : Hp) : Prop := (∀ a xs, H a = some (.tup xs) → H' a = some (.tup xs)) ∧ ∀ a o u, H a = some (.frz o u) → H' a = some (.frz o u)
theorem Tx.refl (H : Hp) : Tx H H := ⟨fun _ _ e => e, fun _ _ _ e => e⟩
theorem Tx.trans {H H1 H2 : Hp} (a : Tx H H1) (b : Tx H1 H2) : Tx H H2 := ⟨fun x xs e => b.1 x xs (a.1 x xs e), fun x o u e => b.2 x o u (a.2 x o u e)⟩
theorem Tx.of {H H' : Hp} (e : Same H H') : Tx H H' := ⟨fun a xs q => e a _ q, fun a o u q => e a _ q⟩
theorem Tx.new {H : Hp} {p : Addr} {o : HO} (h : H p = none) : Tx H (upd H p o) := .of (same_new h)
theorem Tx.mut {H : Hp} {p : Addr} {xs : List V} {o : HO} (h : H p = some (.lst xs)) : Tx H (upd H p o) := ⟨fun a ys e => by
    rw [upd_ne (ne_of e h (fun z => by cases z))]
    exact e, fun a q u e => by
    rw [upd_ne (ne_of e h (fun z => by cases z))]
    exact e⟩
theorem Tx.mutD {H : Hp} {p : Addr} {xs : List (Key × V)} {o : HO} (h : H p = some (.dK xs)) : Tx H (upd H p o) := ⟨fun a ys e => by
    rw [upd_ne (ne_of e h (fun z => by cases z))]
    exact e, fun a q u e => by
    rw [upd_ne (ne_of e h (fun z => by cases z))]
    exact e⟩
theorem sqT_tx {K : PySem.W.Frag} {H H' : Hp} {a : Addr} {xs : List V} (e : Tx H H') (h : SqT K H a xs) : SqT K H' a xs := by
  rcases h with (h | ⟨o, h⟩) | h
  · exact .inl (.inl (e.1 _ _ h))
  · exact .inl (.inr ⟨o, e.2 _ _ _ h⟩)
  · exact .inr h
theorem sqL_same {K : PySem.W.Frag} {H H' : Hp} {a : Addr} {xs : List V} (e : Same H H') (h : SqL K H a xs) : SqL K H' a xs := e.seq h
theorem sqT_of {K : PySem.W.Frag} {H : Hp} {a : Addr} {xs : List V} (h : H a = some (.tup xs)) : SqT K H a xs := .inl (.inl h)
theorem sqL_of {K : PySem.W.Frag} {H : Hp} {a : Addr} {xs : List V} (h : H a = some (.lst xs)) : SqL K H a xs := .inl (.inl h)
/-- locked lists: the script -/
theorem sqL_tx {K : PySem.W.Frag} {H H' : Hp} {a : Addr} {xs : List V} (e : Tx H H') (h : (∃ o, H a = some (.frz o (.lst xs))) ∨ SqL K (fun _ => none) a xs) : (∃ o, H' a = some (.frz o (.lst xs))) ∨ SqL K (fun _ => none) a xs := by
  rcases h with ⟨o, h⟩ | h
  · exact .inl ⟨o, e.2 _ _ _ h⟩
  · exact .inr h
/-! ### data that stands -/
mutual
inductive Im (K : PySem.W.Frag) (H : Hp) : V → PyData → Prop
  | non : Im K H .non .none
  | bl (b : Bool) : Im K H (.bl b) (.bool b)
  | int (i : Int) : Im K H (.int i) (.int i)
  | str (x : Str) : Im K H (.str x) (.str x)
  | tup {a : Addr} {xs : List V} {ds : List PyData} : SqT K H a xs → ImAll K H xs ds → Im K H (.ref a) (.tuple ds)
inductive ImAll (K : PySem.W.Frag) (H : Hp) : List V → List PyData → Prop
  | nil : ImAll K H [] []
  | cons {v : V} {vs : List V} {d : PyData} {ds : List PyData} : Im K H v d → ImAll K H vs ds → ImAll K H (v :: vs) (d :: ds)
end
section
variable {K : PySem.W.Frag} {H H' : Hp}
mutual
theorem Im.tx (e : Tx H H') : ∀ {v : V} {d : PyData}, Im K H v d → Im K H' v d
  | _, _, .non => .non
  | _, _, .bl b => .bl b
  | _, _, .int i => .int i
  | _, _, .str x => .str x
  | _, _, .tup h t => .tup (sqT_tx e h) (ImAll.tx e t)
theorem ImAll.tx (e : Tx H H') : ∀ {vs : List V} {ds : List PyData}, ImAll K H vs ds → ImAll K H' vs ds
  | _, _, .nil => .nil
  | _, _, .cons h t => .cons (Im.tx e h) (ImAll.tx e t)
end
mutual
theorem Im.dp : ∀ {v : V} {d : PyData}, Im K H v d → Dp K H v d
  | _, _, .non => .non
  | _, _, .bl b => .bl b
  | _, _, .int i => .int i
  | _, _, .str x => .str x
  | _, _, .tup h t => .tup h (ImAll.dp t)
theorem ImAll.dp : ∀ {vs : List V} {ds : List PyData}, ImAll K H vs ds → DpAll K H vs ds
  | _, _, .nil => .nil
  | _, _, .cons h t => .cons (Im.dp h) (ImAll.dp t)
end
mutual
theorem dp_same (e : Same H H') : ∀ {v : V} {d : PyData}, Dp K H v d → Dp K H' v d
  | _, _, .non => .non
  | _, _, .bl b => .bl b
  | _, _, .int i => .int i
  | _, _, .str x => .str x
  | _, _, .lst h t => .lst (e.seq h) (dpAll_same e t)
  | _, _, .tup h t => .tup (sqT_tx (.of e) h) (dpAll_same e t)
theorem dpAll_same (e : Same H H') : ∀ {vs : List V} {ds : List PyData}, DpAll K H vs ds → DpAll K H' vs ds
  | _, _, .nil => .nil
  | _, _, .cons h t => .cons (dp_same e h) (dpAll_same e t)
end
theorem Im.same (e : Same H H') {v : V} {d : PyData} (h : Im K H v d) : Im K H' v d := h.tx (.of e)
theorem ImAll.same (e : Same H H') {vs : List V} {ds : List PyData} (h : ImAll K H vs ds) : ImAll K H' vs ds := h.tx (.of e)
theorem ImAll.length : ∀ {vs : List V} {ds : List PyData}, ImAll K H vs ds → vs.length = ds.length
  | _, _, .nil => rfl
  | _, _, .cons _ t => by simp [ImAll.length t]
theorem ImAll.get : ∀ {vs : List V} {ds : List PyData} {i : Nat} {v : V}, ImAll K H vs ds → vs[i]? = some v → ∃ d, ds[i]? = some d ∧ Im K H v d
  | _, _, _, _, .nil, e => by simp at e
  | _, _, 0, _, .cons h _, e => by
    simp at e
    subst e
    exact ⟨_, rfl, h⟩
  | _, _, i + 1, v, .cons _ t, e => by
    obtain ⟨d, h1, h2⟩ := ImAll.get (i := i) (v := v) t (by simpa using e)
    exact ⟨d, by simpa using h1, h2⟩
theorem ImAll.at : ∀ {vs : List V} {ds : List PyData} {i : Nat} {d : PyData}, ImAll K H vs ds → ds[i]? = some d → ∃ v, vs[i]? = some v ∧ Im K H v d
  | _, _, _, _, .nil, e => by simp at e
  | _, _, 0, _, .cons h _, e => by
    simp at e
    subst e
    exact ⟨_, rfl, h⟩
  | _, _, i + 1, d, .cons _ t, e => by
    obtain ⟨v, h1, h2⟩ := ImAll.at (i := i) (d := d) t (by simpa using e)
    exact ⟨v, by simpa using h1, h2⟩
theorem ImAll.append : ∀ {vs us : List V} {ds es : List PyData}, ImAll K H vs ds → ImAll K H us es → ImAll K H (vs ++ us) (ds ++ es)
  | _, _, _, _, .nil, h => h
  | _, _, _, _, .cons h t, h2 => .cons h (ImAll.append t h2)
theorem ImAll.snoc {vs : List V} {ds : List PyData} {v : V} {d : PyData} (h : ImAll K H vs ds) (h2 : Im K H v d) : ImAll K H (vs ++ [v]) (ds ++ [d]) := h.append (.cons h2 .nil)
theorem ImAll.take : ∀ {vs : List V} {ds : List PyData} (n : Nat), ImAll K H vs ds → ImAll K H (vs.take n) (ds.take n)
  | _, _, 0, _ => by simpa using ImAll.nil
  | _, _, n + 1, .nil => by simpa using ImAll.nil
  | _, _, n + 1, .cons h t => by simpa using ImAll.cons h (ImAll.take n t)
theorem ImAll.drop : ∀ {vs : List V} {ds : List PyData} (n : Nat), ImAll K H vs ds → ImAll K H (vs.drop n) (ds.drop n)
  | _, _, 0, h => by simpa using h
  | _, _, n + 1, .nil => by simpa using ImAll.nil
  | _, _, n + 1, .cons _ t => by simpa using ImAll.drop n t
theorem ImAll.set : ∀ {vs : List V} {ds : List PyData} (n : Nat) {v : V} {d : PyData}, ImAll K H vs ds → Im K H v d → ImAll K H (vs.set n v) (ds.set n d)
  | _, _, _, _, _, .nil, _ => by simpa using ImAll.nil
  | _, _, 0, _, _, .cons _ t, h => by simpa using ImAll.cons h t
  | _, _, n + 1, _, _, .cons h0 t, h => by simpa using ImAll.cons h0 (ImAll.set n t h)
theorem ImAll.reverse : ∀ {vs : List V} {ds : List PyData}, ImAll K H vs ds → ImAll K H vs.reverse ds.reverse
  | _, _, .nil => by simpa using ImAll.nil
  | _, _, .cons h t => by simpa using (ImAll.reverse t).append (.cons h .nil)
theorem ImAll.eraseIdx : ∀ {vs : List V} {ds : List PyData} (n : Nat), ImAll K H vs ds → ImAll K H (vs.eraseIdx n) (ds.eraseIdx n)
  | _, _, _, .nil => by simpa using ImAll.nil
  | _, _, 0, .cons _ t => by simpa using t
  | _, _, n + 1, .cons h t => by simpa using ImAll.cons h (ImAll.eraseIdx n t)
theorem ImAll.ints : ∀ (ns : List Int), ImAll K H (ns.map V.int) (ns.map PyData.int)
  | [] => .nil
  | n :: ns => .cons (.int n) (ImAll.ints ns)
theorem im_int {v : V} {i : Int} (h : Im K H v (.int i)) : v = .int i := by cases h; rfl
theorem im_bl {v : V} {b : Bool} (h : Im K H v (.bool b)) : v = .bl b := by cases h; rfl
theorem im_str {v : V} {x : Str} (h : Im K H v (.str x)) : v = .str x := by cases h; rfl
theorem im_non {v : V} (h : Im K H v .none) : v = .non := by cases h; rfl
theorem im_tup {v : V} {ds : List PyData} (h : Im K H v (.tuple ds)) : ∃ a xs, v = .ref a ∧ SqT K H a xs ∧ ImAll K H xs ds := by
  cases h with
  | tup h t => exact ⟨_, _, rfl, h, t⟩
theorem imAll_ints : ∀ {ns : List Int} {vs : List V}, ImAll K H vs (ns.map PyData.int) → vs = ns.map V.int
  | [], _, .nil => rfl
  | n :: ns, _, .cons h t => by
    rw [im_int h, imAll_ints t]
    rfl
/-- a fresh tuple -/
theorem im_new {p : Addr} {xs : List V} {ds : List PyData} (n : H p = none) (h : ImAll K H xs ds) : Im K (upd H p (.tup xs)) (.ref p) (.tuple ds) := .tup (sqT_of upd_same) (h.tx (.new n))
theorem im_newT {p : Addr} {xs : List V} {ds : List PyData} (e : H p = some (.tup xs)) (h : ImAll K H xs ds) : Im K H (.ref p) (.tuple ds) := .tup (sqT_of e) h
/-- the script, whatever the heap -/
def Scr (K : PySem.W.Frag) (H : Hp) (v : V) (ns : List Int) : Prop := ∃ a, v = .ref a ∧ ((∃ o, H a = some (.frz o (.lst (ns.map V.int)))) ∨ SqL K (fun _ => none) a (ns.map V.int))
theorem Scr.tx {v : V} {ns : List Int} (e : Tx H H') (h : Scr K H v ns) : Scr K H' v ns := by
  obtain ⟨a, rfl, h⟩ := h
  exact ⟨a, rfl, sqL_tx e h⟩
theorem Scr.seq {a : Addr} {ns : List Int} (h : Scr K H (.ref a) ns) : SqL K H a (ns.map V.int) := by
  obtain ⟨b, e, h⟩ := h
  cases e
  rcases h with ⟨o, h⟩ | h
  · exact .inl (.inr ⟨o, h⟩)
  · rcases h with (h | ⟨o, h⟩) | h
    · cases h
    · cases h
    · exact .inr h
/-! ### types -/
theorem tyT {a : Addr} {xs : List V} (h : SqT K H a xs) : TyX K H (.ref a) (.type "tuple") := by
  rcases h with (h | ⟨o, h⟩) | ⟨o, its, n, h1, h2, _⟩
  · exact .base (.tup h)
  · exact .fTuple h
  · exact .kTuple h1 h2
theorem tyL {a : Addr} {xs : List V} (h : SqL K H a xs) : TyX K H (.ref a) (.type "list") := by
  rcases h with (h | ⟨o, h⟩) | ⟨o, its, n, h1, h2, _⟩
  · exact .base (.lst h)
  · exact .base (.frz h)
  · exact .kList h1 h2
/-- a datum's type, by name -/
def tyD : PyData → String
  | .none => "NoneType"
  | .bool _ => "bool"
  | .int _ => "int"
  | .str _ => "str"
  | .list _ => "list"
  | .tuple _ => "tuple"
  | .dict _ => "dict"
theorem ty_dp {v : V} {d : PyData} (h : Dp K H v d) : TyX K H v (.type (tyD d)) := by
  cases h with
  | non => exact .base .non
  | bl b => exact .base (.bl b)
  | int i => exact .base (.int i)
  | str x => exact .base (.str x)
  | lst h _ => exact tyL h
  | tup h _ => exact tyT h
/-- is a datum an instance of a built-in class -/
def isD (d : PyData) (T : String) : Bool := (kitB (tyD d) T).getD false
theorem isi_dp {v : V} {d : PyData} {T : String} {Q : VK} (h : Dp K H v d) (k : (kitB (tyD d) T).isSome = true) (q : Q (.bl (isD d T)) H) : rIsi K [v, .ty T] H Q := by
  obtain ⟨b, e⟩ := Option.isSome_iff_exists.mp k
  have e2 : isD d T = b := by
    unfold isD
    rw [e]
    rfl
  rw [e2] at q
  exact ⟨v, .ty T, _, _, b, rfl, .ty T, ty_dp h, kit_ty e, q⟩
theorem kit_all (d : PyData) : (kitB (tyD d) "int").isSome = true ∧ (kitB (tyD d) "bool").isSome = true ∧ (kitB (tyD d) "tuple").isSome = true ∧ (kitB (tyD d) "list").isSome = true := by
  cases d <;> (dsimp only [tyD]; decide +kernel)
theorem isD_tup (d : PyData) : isD d "tuple" = (match d with | .tuple _ => true | _ => false) := by cases d <;> (dsimp only [isD, tyD]; decide +kernel)
theorem isD_list (d : PyData) : isD d "list" = (match d with | .list _ => true | _ => false) := by cases d <;> (dsimp only [isD, tyD]; decide +kernel)
theorem isD_int (d : PyData) : isD d "int" = (match d with | .int _ => true | .bool _ => true | _ => false) := by cases d <;> (dsimp only [isD, tyD]; decide +kernel)
theorem isD_bool (d : PyData) : isD d "bool" = (match d with | .bool _ => true | _ => false) := by cases d <;> (dsimp only [isD, tyD]; decide +kernel)
end
/-! ### small readings -/
theorem atI_n {α : Type} {xs : List α} {j : Nat} {v : α} {i : Int} (h : xs[j]? = some v) (e : i = (j : Int) := by rfl) : atI xs i = some v := by
  rw [e]
  exact atI_nat h
theorem small {n : Nat} (h : n ≤ 1000000) : n ≤ sizeLine := Nat.le_trans h (by decide)
theorem small' {n : Nat} (h : n ≤ 1000000) : n < sizeLine := Nat.lt_of_le_of_lt h (by decide)
abbrev oAdd : R2 := rI0 fun i j => .int (i + j)
abbrev oSub : R2 := rI0 fun i j => .int (i - j)
abbrev oMul : R2 := rI CMul fun i j => .int (i * j)
abbrev oMulW : R2 := rI CMulW fun i j => .int (i * j)
abbrev oDiv : R2 := rI CDiv fun i j => .int (i / j)
abbrev oMod : R2 := rI (fun _ j => 0 < j) fun i j => .int (i % j)
abbrev oPow : R2 := rI CPow fun i j => .int (i ^ j.toNat)
abbrev oShl : R2 := rI CPow fun i j => .int (i * 2 ^ j.toNat)
abbrev oShr : R2 := rI (fun _ j => 0 ≤ j) fun i j => .int (i / 2 ^ j.toNat)
abbrev oAnd : R2 := rI0 fun i j => .int (Builtin.bitAnd i j)
abbrev oOr : R2 := rI0 fun i j => .int (Builtin.bitOr i j)
abbrev oLt : R2 := rI0 fun i j => .bl (decide (i < j))
abbrev oLe : R2 := rI0 fun i j => .bl (decide (i ≤ j))
abbrev oGt : R2 := rI0 fun i j => .bl (decide (j < i))
abbrev oGe : R2 := rI0 fun i j => .bl (decide (j ≤ i))
abbrev oIsN : R2 := fun x y H Q => y = .non ∧ Q (.bl (decide (x = .non))) H
abbrev oNotN : R2 := fun x y H Q => y = .non ∧ Q (.bl (!decide (x = .non))) H
abbrev oIsB : R2 := fun x y H Q => ∃ a b, x = .bl a ∧ y = .bl b ∧ Q (.bl (decide (a = b))) H
abbrev oNotB : R2 := fun x y H Q => ∃ a b, x = .bl a ∧ y = .bl b ∧ Q (.bl (!decide (a = b))) H
abbrev oAddS : R2 := fun x y H Q => ∃ i j, x = .str i ∧ y = .str j ∧ i.length + j.length ≤ sizeLine ∧ Q (.str (i ++ j)) H
abbrev oInSg : R2 := fun x y H Q => ∃ (c : Nat) (z : Str), x = .str ⟨#[c]⟩ ∧ y = .str z ∧ Q (.bl (decide (c ∈ z.cps.toList))) H
abbrev oNiSg : R2 := fun x y H Q => ∃ (c : Nat) (z : Str), x = .str ⟨#[c]⟩ ∧ y = .str z ∧ Q (.bl (!decide (c ∈ z.cps.toList))) H
abbrev uNeg : V → Hp → VK → Prop := rU fun i => .int (-i)
abbrev uInv : V → Hp → VK → Prop := rU fun i => .int (Builtin.bitNot i)
abbrev cLen (K : PySem.W.Frag) : List V → Hp → VK → Prop := fun xs H Q => ∃ p ys, xs = [.ref p] ∧ (SqL K H p ys ∨ SqT K H p ys) ∧ Q (.int ys.length) H
abbrev cLenS : List V → Hp → VK → Prop := fun xs H Q => ∃ z, xs = [.str z] ∧ z.length ≤ sizeLine ∧ Q (.int z.length) H
abbrev cList (K : PySem.W.Frag) : List V → Hp → VK → Prop := fun xs H Q => ∃ p ys, xs = [.ref p] ∧ (SqL K H p ys ∨ SqT K H p ys) ∧ ∀ l, H l = none → Q (.ref l) (upd H l (.lst ys))
abbrev cTup (K : PySem.W.Frag) : List V → Hp → VK → Prop := fun xs H Q => ∃ p ys, xs = [.ref p] ∧ ((SqL K H p ys ∧ ∀ l, H l = none → Q (.ref l) (upd H l (.tup ys))) ∨ (SqT K H p ys ∧ Q (.ref p) H))
abbrev cMax2 : List V → Hp → VK → Prop := fun xs H Q => ∃ i j, xs = [.int i, .int j] ∧ Q (.int (if j > i then j else i)) H
abbrev cInt : List V → Hp → VK → Prop := fun xs H Q => (∃ i, xs = [.int i] ∧ Q (.int i) H) ∨ ∃ k, xs = [.bl k] ∧ Q (.int (if k then 1 else 0)) H
abbrev cIntS : List V → Hp → VK → Prop := fun xs H Q => ∃ a n, xs = [.str a] ∧ PySem.intText? a = some n ∧ a.length ≤ 640 ∧ Q (.int n) H
abbrev cStr : List V → Hp → VK → Prop := fun xs H Q => ∃ i, xs = [.int i] ∧ i.natAbs.log2 < 1920 ∧ Q (.str (toString i)) H
abbrev mIns : V → List V → Hp → VK → Prop := fun x vs H Q => ∃ (l : Addr) (xs : List V) (i : Int) (y : V), x = .ref l ∧ vs = [.int i, y] ∧ H l = some (.lst xs) ∧ xs.length < sizeLine ∧ 0 ≤ i ∧ i < 2 ^ 63 ∧ Q .non (upd H l (.lst (xs.take i.toNat ++ [y] ++ xs.drop i.toNat)))
abbrev mSplit : V → List V → Hp → VK → Prop := fun x xs H Q => ∃ a b, x = .str a ∧ xs = [.str b] ∧ (b.length == 0) = false ∧ a.length + 2 ≤ sizeLine ∧ rNewStrs (Txt.split a b) H Q
abbrev mJoin (K : PySem.W.Frag) : V → List V → Hp → VK → Prop := fun x xs H Q => ∃ a p, ∃ ys : List Str, x = .str a ∧ xs = [.ref p] ∧ (SqL K H p (ys.map V.str) ∨ SqT K H p (ys.map V.str)) ∧ (ys.map (·.length)).sum + ys.length * a.length ≤ 16777216 ∧ Q (.str (Txt.join a ys)) H
/-- a test of a number -/
abbrev tTru (K : PySem.W.Frag) (ta : TE) : TT := fun σ H Q => ta σ H fun x H' => ∃ k, TruV K x H' k ∧ Q k H'
/-! ### promises -/
theorem cal_of {P : Program} {w : World} {K : PySem.W.Frag} {mg : Str → Option Value} {base : Heap} {k : Nat} {f : Addr} {fd : FuncData} {ps : List Str} {sp : Sp} {x : Str} (F : FnOk P w K mg base CX0 k f fd ps sp) (g : mg x = some (.ref f)) (kp : PySem.W.keepIn K (.ref f) = true) (b : Binds K fd ps []) :
    Cal P w K mg base k x sp [] := ⟨f, fd, ps, [], F, g, kp, b, .nil⟩
/-- .. of a def that may raise -/
structure CalX (P : Program) (w : World) (K : PySem.W.Frag) (mg : Str → Option Value) (base : Heap) (k : Nat) (x : Str) (sp : Sp) : Prop where
  ex : ∃ (f : Addr) (fd : FuncData) (ps : List Str), FnOk P w K mg base (L2.CX P w) k f fd ps sp ∧ mg x = some (.ref f) ∧ PySem.W.keepIn K (.ref f) = true ∧ Binds K fd ps []
theorem calX_of {P : Program} {w : World} {K : PySem.W.Frag} {mg : Str → Option Value} {base : Heap} {k : Nat} {f : Addr} {fd : FuncData} {ps : List Str} {sp : Sp} {x : Str} (F : FnOk P w K mg base (L2.CX P w) k f fd ps sp) (g : mg x = some (.ref f)) (kp : PySem.W.keepIn K (.ref f) = true) (b : Binds K fd ps []) :
    CalX P w K mg base k x sp := ⟨f, fd, ps, F, g, kp, b⟩
section
variable {X : Cx} {x : Str} {p pos : Pos} {e f : Expr} {es : List Expr} {t : TA} {tf : TE} {k j : Nat} {sp : Sp} {E : XK} {W : WX}
/-- a call of such a def where nothing is raised -/
theorem pe_x0 (c : CalX X.prog X.w X.K X.mg X.base k x sp) (hr : Room j X.A) (hk : k ≤ j) (hg : Gl X x) (ha : PA X (e :: es) t)
    (hdb : (x == ("__debug__" : Str)) = false := by decide) (he : starEach (e :: es) X.env = (false, eval e X.env) :: starEach es X.env := by rfl) (hpl : (backTo pos (starEach es X.env)).any (·.1) = false := by rfl) :
    PE X (.Call (.Name x p) (e :: es) [] pos) (tCall sp [] E0 t) := by
  obtain ⟨f, fd, ps, F, hm, kp, b⟩ := c.ex
  exact pe_call F (hr.mono hk) hg hm kp b .nil passL ha hdb he hpl
/-- .. where what is raised is handed on -/
theorem pe_xE (c : CalX X.prog X.w X.K X.mg X.base k x sp) (hr : Room j X.A) (hk : k ≤ j) (hg : Gl X x) (tk : Takes X fun cls d _ H => E cls d H) (ha : PA X (e :: es) t)
    (hdb : (x == ("__debug__" : Str)) = false := by decide) (he : starEach (e :: es) X.env = (false, eval e X.env) :: starEach es X.env := by rfl) (hpl : (backTo pos (starEach es X.env)).any (·.1) = false := by rfl) :
    PE X (.Call (.Name x p) (e :: es) [] pos) (tCall sp [] E t) := by
  obtain ⟨f, fd, ps, F, hm, kp, b⟩ := c.ex
  exact pe_call F (hr.mono hk) hg hm kp b .nil (passes_call tk fun _ _ _ _ h => h) ha hdb he hpl
/-- .. within a try -/
theorem pe_xW (c : CalX X.prog X.w X.K X.mg X.base k x sp) (hr : Room j X.A) (hk : k ≤ j) (hg : Gl X x) (tk : Takes X W) (ha : PA X (e :: es) t)
    (hdb : (x == ("__debug__" : Str)) = false := by decide) (he : starEach (e :: es) X.env = (false, eval e X.env) :: starEach es X.env := by rfl) (hpl : (backTo pos (starEach es X.env)).any (·.1) = false := by rfl) :
    PE X (.Call (.Name x p) (e :: es) [] pos) (tCallS sp (WE W) t) := by
  obtain ⟨f, fd, ps, F, hm, kp, b⟩ := c.ex
  exact pe_callS F (hr.mono hk) hg hm kp b (fun σ => passAt tk σ) ha hdb he hpl
/-- a call of a value that is one of several defs: S tells the promise by the address -/
def tCallF (S : Addr → Sp → Prop) (E : L2.St → XK) (tf : TE) (t : TA) : TE := fun σ H Q => tf σ H fun v H1 => ∃ f sp, v = .ref f ∧ S f sp ∧ t σ H1 fun vs H2 => sp vs H2 Q (E σ)
theorem pe_callF {S : Addr → Sp → Prop} {CX : CXT} {E : L2.St → XK} (A : ∀ g sp, S g sp → ∃ fd ps, FnOk X.prog X.w X.K X.mg X.base CX k g fd ps sp ∧ PySem.W.keepIn X.K (.ref g) = true ∧ Binds X.K fd ps []) (hr : Room j X.A) (hk : k ≤ j) (hx : ∀ σ, PassesAt CX X σ (E σ)) (hf : PE X f tf) (ha : PA X (e :: es) t)
    (ht : eval (.Call f (e :: es) [] pos) X.env = (do callWith pos (← eval f X.env) [] (backTo pos (starEach (e :: es) X.env)) (backToKw pos (keywordEach [] X.env))) := by rfl)
    (he : starEach (e :: es) X.env = (false, eval e X.env) :: starEach es X.env := by rfl) (hpl : (backTo pos (starEach es X.env)).any (·.1) = false := by rfl) :
    PE X (.Call f (e :: es) [] pos) (tCallF S E tf t) := by
  refine ⟨fun pins s σ H Q I h => ?_⟩
  refine Call_ (thn (hf.run pins s σ H _ I h) fun u s1 ⟨v, H1, I1, rx, g, sp, ev, hS, q⟩ => ?_) ht
  subst ev
  obtain rfl : u = Value.ref g := rx
  obtain ⟨fd, ps, F, kp, b⟩ := A g sp hS
  refine PySem.W.callWith_K (h₀ := X.base) I1.ok.mod.kin kp (thn (ha.run pos pins s1 σ _ _ I1 q) fun us s2 ⟨vs, H2, I2, r, q⟩ => ⟨I2.kIn, ?_⟩) he hpl
  exact run_fnS F (hr.mono hk) b (hx σ) I2 r q
end
/-! ### the module's names -/
structure Blt (mg : Str → Option Value) : Prop where
  len : mg "len" = none
  range : mg "range" = none
  tuple : mg "tuple" = none
  list : mg "list" = none
  isinstance : mg "isinstance" = none
  int : mg "int" = none
  bool : mg "bool" = none
  str : mg "str" = none
  all : mg "all" = none
  max : mg "max" = none
  sorted : mg "sorted" = none
  ValueError : mg "ValueError" = none
/-- a class of errors of the program's own -/
structure ExcK (K : PySem.W.Frag) (mg : Str → Option Value) (x : Str) (C : Addr) : Prop where
  g : mg x = some (.ref C)
  k : PySem.W.keepIn K (.ref C) = true
  e : PySem.W.excIn K C [.type "ValueError", .type "Exception", .type "BaseException", .type "object"] "ValueError.__new__" = true
  sb : PySem.W.subIn K (.ref C) (.type "BaseException") = some true
  ty : PySem.W.typeIn K (.ref C) = some (.type "type")
  hd : PySem.W.hasDictIn K C = true
def tRaiseC (C : Addr) (E : XK) : TS := fun _ _ H => E (.ref C) none H
theorem ps_raiseC {X : Cx} {E : XK} {x m : Str} {C : Addr} {j : Nat} {p p2 pos pos' : Pos} (tk : Takes X fun cls d _ H => E cls d H) (h : ExcK X.K X.mg x C) (hg : Gl X x) (hc : X.calm = true := by rfl) (hdb : (x == ("__debug__" : Str)) = false := by decide) :
    PS X (.Raise (some (.Call (.Name x p) [.Constant (.str m) j p2] [] pos)) none pos') (tRaiseC C E) :=
  ps_raise hc tk (pmk_own PySem.F.excBase_ValueError h.e h.g h.k (raises_own h.sb h.ty) hg hdb)
/-- the class of an error that is caught as one of the class at F -/
structure CaughtK (K : PySem.W.Frag) (D F : Addr) : Prop where
  ec : ExcC K D
  ex : PySem.W.exmOne K (.ref D) (.ref F) = some true
  sv : PySem.W.subIn K (.ref D) (.type "ValueError") = some true
  sd : PySem.W.subIn K (.ref D) (.ref D) = some true
abbrev subRef (K : PySem.W.Frag) (D C : Addr) (b : Bool) : Prop := PySem.W.subIn K (.ref D) (.ref C) = some b
theorem kit_ref {K : PySem.W.Frag} {mg : Str → Option Value} {x : Str} {D C : Addr} {b : Bool} (h : ExcK K mg x C) (sd : PySem.W.subIn K (.ref D) (.ref D) = some true) (s : subRef K D C b) : PySem.W.kitOne K (.ref D) (.ref C) = some b := by
  unfold PySem.W.kitOne
  by_cases e : D = C
  · subst e
    have s' : PySem.W.subIn K (.ref D) (.ref D) = some b := s
    rw [sd] at s'
    cases s'
    rw [if_pos (by simp)]
  · rw [if_neg (by simpa using e)]
    obtain ⟨cd, hc, _⟩ := PySem.W.any_some h.hd
    show (if ((PySem.W.clsIn K C).isSome && PySem.W.typeIn K (.ref C) == some (.type "type")) = true then PySem.W.subIn K (.ref D) (.ref C) else none) = some b
    rw [if_pos (by rw [hc, h.ty]; rfl)]
    exact s
theorem kit_val {K : PySem.W.Frag} {D : Addr} (s : PySem.W.subIn K (.ref D) (.type "ValueError") = some true) : PySem.W.kitOne K (.ref D) (.type "ValueError") = some true := by
  unfold PySem.W.kitOne
  split
  · rfl
  · show (if PySem.W.kitMeta "ValueError" = true then PySem.W.subIn K (.ref D) (.type "ValueError") else none) = some true
    rw [if_pos (by decide +kernel)]
    exact s
/-- a suite that is come to only where P holds -/
def tWhen (P : Prop) (t : TS) : TS := fun E σ H => P ∧ t E σ H
theorem pss_when {X : Cx} {P : Prop} {ss : List Stmt} {t : TS} (h : P → PSs X ss t) : PSs X ss (tWhen P t) := ⟨fun pins s σ H E I q => (h q.1).run pins s σ H E I q.2⟩
theorem calX_at {P : Program} {w : World} {K : PySem.W.Frag} {mg : Str → Option Value} {base : Heap} {j k : Nat} {x : Str} {sp : Sp} {f : Addr} (c : CalX P w K mg base j x sp) (hk : j ≤ k) (g : mg x = some (.ref f)) :
    ∃ fd ps, FnOk P w K mg base (L2.CX P w) k f fd ps sp ∧ PySem.W.keepIn K (.ref f) = true ∧ Binds K fd ps [] := by
  obtain ⟨f', fd, ps, F, hm, kp, b⟩ := c.ex
  have e := hm.symm.trans g
  cases e
  exact ⟨fd, ps, F.mono hk, kp, b⟩
theorem cal_at {P : Program} {w : World} {K : PySem.W.Frag} {mg : Str → Option Value} {base : Heap} {j k : Nat} {x : Str} {sp : Sp} {f : Addr} (c : Cal P w K mg base j x sp []) (hk : j ≤ k) (g : mg x = some (.ref f)) :
    ∃ fd ps, FnOk P w K mg base CX0 k f fd ps sp ∧ PySem.W.keepIn K (.ref f) = true ∧ Binds K fd ps [] := by
  obtain ⟨f', fd, ps, ds, F, hm, kp, b, hd⟩ := c.ex
  have e := hm.symm.trans g
  cases e
  cases hd
  exact ⟨fd, ps, F.mono hk, kp, b⟩
theorem passAt0 {X : Cx} {σ : L2.St} {E : XK} : PassesAt CX0 X σ E := fun _ _ _ _ _ _ h => h.elim
end SF

set_option maxHeartbeats 4000000
/-! A reading, step by step: one lemma a head. -/
namespace SF
open PySem PySem.Spec PyProof.Rows L2
open C8 (Cal pe_c)
section
variable {K : PySem.W.Frag} {σ : L2.St} {H H' : Hp} {Q : VK} {ta tb te tx to : TE} {t u : TT} {A : TA} {ts us : TS} {g : TG} {n b c : L2.St → Hp → Prop} {r : VK} {x y v : V}
/-! ### heaps that change at one place -/
/-- all but what stands at l is as it was -/
def Bx (l : Addr) (H H' : Hp) : Prop := ((∃ xs, H l = some (.lst xs)) ∨ ∃ kvs, H l = some (.dK kvs)) ∧ ∀ a o, a ≠ l → H a = some o → H' a = some o
def At (H : Hp) (a : Addr) (o : HO) : Prop := H a = some o
def Fr (H : Hp) (a : Addr) : Prop := H a = none
@[grind →] theorem same_at (e : Same H H') {a : Addr} {o : HO} (h : At H a o) : At H' a o := e a o h
@[grind →] theorem same_none (e : Same H H') {a : Addr} (h : Fr H' a) : Fr H a := e.free h
@[grind →] theorem same_tr {H1 : Hp} (e : Same H H1) (f : Same H1 H') : Same H H' := e.trans f
@[grind →] theorem at_ne {a l : Addr} {o : HO} (h : At H a o) (h' : Fr H l) : a ≠ l := ne_of_none h h'
@[grind →] theorem at_bx {l a : Addr} {o : HO} (e : Bx l H H') (h : At H a o) : a = l ∨ At H' a o := by
  by_cases q : a = l
  · exact .inl q
  · exact .inr (e.2 a o q h)
@[grind ←] theorem at_seq {a : Addr} {xs : List V} (h : At H a (.lst xs)) : SqL K H a xs := sqL_of h
@[grind →] theorem bx_tx {l : Addr} (e : Bx l H H') : Tx H H' := by
  obtain ⟨⟨xs, h⟩ | ⟨kvs, h⟩, e⟩ := e
  · exact ⟨fun a ys q => e a _ (ne_of q h fun z => by cases z) q, fun a o w q => e a _ (ne_of q h fun z => by cases z) q⟩
  · exact ⟨fun a ys q => e a _ (ne_of q h fun z => by cases z) q, fun a o w q => e a _ (ne_of q h fun z => by cases z) q⟩
@[grind →] theorem same_bx {H1 : Hp} {l : Addr} (e : Same H H1) (f : Bx l H1 H') (h : Fr H l) : Same H H' := fun a o q => f.2 a o (ne_of_none q h) (e a o q)
@[grind →] theorem same_txG (e : Same H H') : Tx H H' := .of e
@[grind →] theorem tx_tr {H1 : Hp} (e : Tx H H1) (f : Tx H1 H') : Tx H H' := e.trans f
theorem im_tx {d : PyData} (e : Tx H H') (h : Im K H v d) : Im K H' v d := h.tx e
theorem imAll_tx {vs : List V} {ds : List PyData} (e : Tx H H') (h : ImAll K H vs ds) : ImAll K H' vs ds := h.tx e
theorem scr_tx {ns : List Int} (e : Tx H H') (h : Scr K H v ns) : Scr K H' v ns := h.tx e
theorem sqT_txG {a : Addr} {xs : List V} (e : Tx H H') (h : SqT K H a xs) : SqT K H' a xs := sqT_tx e h
theorem dp_sameG {d : PyData} (e : Same H H') (h : Dp K H v d) : Dp K H' v d := dp_same e h
theorem sqL_sameG {a : Addr} {xs : List V} (e : Same H H') (h : SqL K H a xs) : SqL K H' a xs := e.seq h
theorem ne_none {a l : Addr} {o : HO} (h : H a = some o) (h' : H l = none) : a ≠ l := ne_of_none h h'
theorem bx_upd {l : Addr} {xs : List V} {o : HO} (h : H l = some (.lst xs)) : Bx l H (upd H l o) := ⟨.inl ⟨xs, h⟩, fun a w q e => by
  rw [upd_ne q]
  exact e⟩
theorem bx_updD {l : Addr} {kvs : List (Key × V)} {o : HO} (h : H l = some (.dK kvs)) : Bx l H (upd H l o) := ⟨.inr ⟨kvs, h⟩, fun a w q e => by
  rw [upd_ne q]
  exact e⟩
/-! ### names -/
theorem st_v0 (h : Q v H) : tVar 0 (some v :: σ) H Q := ⟨v, rfl, h⟩
theorem st_g0 {s : Option V} (h : n (some v :: σ) H) : gName 0 v (s :: σ) H n := h
theorem st_v1 {s0 : Option V} (h : Q v H) : tVar 1 (s0 :: some v :: σ) H Q := ⟨v, rfl, h⟩
theorem st_g1 {s0 : Option V} {s : Option V} (h : n (s0 :: some v :: σ) H) : gName 1 v (s0 :: s :: σ) H n := h
theorem st_v2 {s0 s1 : Option V} (h : Q v H) : tVar 2 (s0 :: s1 :: some v :: σ) H Q := ⟨v, rfl, h⟩
theorem st_g2 {s0 s1 : Option V} {s : Option V} (h : n (s0 :: s1 :: some v :: σ) H) : gName 2 v (s0 :: s1 :: s :: σ) H n := h
theorem st_v3 {s0 s1 s2 : Option V} (h : Q v H) : tVar 3 (s0 :: s1 :: s2 :: some v :: σ) H Q := ⟨v, rfl, h⟩
theorem st_g3 {s0 s1 s2 : Option V} {s : Option V} (h : n (s0 :: s1 :: s2 :: some v :: σ) H) : gName 3 v (s0 :: s1 :: s2 :: s :: σ) H n := h
theorem st_v4 {s0 s1 s2 s3 : Option V} (h : Q v H) : tVar 4 (s0 :: s1 :: s2 :: s3 :: some v :: σ) H Q := ⟨v, rfl, h⟩
theorem st_g4 {s0 s1 s2 s3 : Option V} {s : Option V} (h : n (s0 :: s1 :: s2 :: s3 :: some v :: σ) H) : gName 4 v (s0 :: s1 :: s2 :: s3 :: s :: σ) H n := h
theorem st_v5 {s0 s1 s2 s3 s4 : Option V} (h : Q v H) : tVar 5 (s0 :: s1 :: s2 :: s3 :: s4 :: some v :: σ) H Q := ⟨v, rfl, h⟩
theorem st_g5 {s0 s1 s2 s3 s4 : Option V} {s : Option V} (h : n (s0 :: s1 :: s2 :: s3 :: s4 :: some v :: σ) H) : gName 5 v (s0 :: s1 :: s2 :: s3 :: s4 :: s :: σ) H n := h
theorem st_v6 {s0 s1 s2 s3 s4 s5 : Option V} (h : Q v H) : tVar 6 (s0 :: s1 :: s2 :: s3 :: s4 :: s5 :: some v :: σ) H Q := ⟨v, rfl, h⟩
theorem st_g6 {s0 s1 s2 s3 s4 s5 : Option V} {s : Option V} (h : n (s0 :: s1 :: s2 :: s3 :: s4 :: s5 :: some v :: σ) H) : gName 6 v (s0 :: s1 :: s2 :: s3 :: s4 :: s5 :: s :: σ) H n := h
theorem st_v7 {s0 s1 s2 s3 s4 s5 s6 : Option V} (h : Q v H) : tVar 7 (s0 :: s1 :: s2 :: s3 :: s4 :: s5 :: s6 :: some v :: σ) H Q := ⟨v, rfl, h⟩
theorem st_g7 {s0 s1 s2 s3 s4 s5 s6 : Option V} {s : Option V} (h : n (s0 :: s1 :: s2 :: s3 :: s4 :: s5 :: s6 :: some v :: σ) H) : gName 7 v (s0 :: s1 :: s2 :: s3 :: s4 :: s5 :: s6 :: s :: σ) H n := h
theorem st_v8 {s0 s1 s2 s3 s4 s5 s6 s7 : Option V} (h : Q v H) : tVar 8 (s0 :: s1 :: s2 :: s3 :: s4 :: s5 :: s6 :: s7 :: some v :: σ) H Q := ⟨v, rfl, h⟩
theorem st_g8 {s0 s1 s2 s3 s4 s5 s6 s7 : Option V} {s : Option V} (h : n (s0 :: s1 :: s2 :: s3 :: s4 :: s5 :: s6 :: s7 :: some v :: σ) H) : gName 8 v (s0 :: s1 :: s2 :: s3 :: s4 :: s5 :: s6 :: s7 :: s :: σ) H n := h
theorem st_v9 {s0 s1 s2 s3 s4 s5 s6 s7 s8 : Option V} (h : Q v H) : tVar 9 (s0 :: s1 :: s2 :: s3 :: s4 :: s5 :: s6 :: s7 :: s8 :: some v :: σ) H Q := ⟨v, rfl, h⟩
theorem st_g9 {s0 s1 s2 s3 s4 s5 s6 s7 s8 : Option V} {s : Option V} (h : n (s0 :: s1 :: s2 :: s3 :: s4 :: s5 :: s6 :: s7 :: s8 :: some v :: σ) H) : gName 9 v (s0 :: s1 :: s2 :: s3 :: s4 :: s5 :: s6 :: s7 :: s8 :: s :: σ) H n := h
theorem st_v10 {s0 s1 s2 s3 s4 s5 s6 s7 s8 s9 : Option V} (h : Q v H) : tVar 10 (s0 :: s1 :: s2 :: s3 :: s4 :: s5 :: s6 :: s7 :: s8 :: s9 :: some v :: σ) H Q := ⟨v, rfl, h⟩
theorem st_g10 {s0 s1 s2 s3 s4 s5 s6 s7 s8 s9 : Option V} {s : Option V} (h : n (s0 :: s1 :: s2 :: s3 :: s4 :: s5 :: s6 :: s7 :: s8 :: s9 :: some v :: σ) H) : gName 10 v (s0 :: s1 :: s2 :: s3 :: s4 :: s5 :: s6 :: s7 :: s8 :: s9 :: s :: σ) H n := h
theorem st_v11 {s0 s1 s2 s3 s4 s5 s6 s7 s8 s9 s10 : Option V} (h : Q v H) : tVar 11 (s0 :: s1 :: s2 :: s3 :: s4 :: s5 :: s6 :: s7 :: s8 :: s9 :: s10 :: some v :: σ) H Q := ⟨v, rfl, h⟩
theorem st_g11 {s0 s1 s2 s3 s4 s5 s6 s7 s8 s9 s10 : Option V} {s : Option V} (h : n (s0 :: s1 :: s2 :: s3 :: s4 :: s5 :: s6 :: s7 :: s8 :: s9 :: s10 :: some v :: σ) H) : gName 11 v (s0 :: s1 :: s2 :: s3 :: s4 :: s5 :: s6 :: s7 :: s8 :: s9 :: s10 :: s :: σ) H n := h
theorem st_v12 {s0 s1 s2 s3 s4 s5 s6 s7 s8 s9 s10 s11 : Option V} (h : Q v H) : tVar 12 (s0 :: s1 :: s2 :: s3 :: s4 :: s5 :: s6 :: s7 :: s8 :: s9 :: s10 :: s11 :: some v :: σ) H Q := ⟨v, rfl, h⟩
theorem st_g12 {s0 s1 s2 s3 s4 s5 s6 s7 s8 s9 s10 s11 : Option V} {s : Option V} (h : n (s0 :: s1 :: s2 :: s3 :: s4 :: s5 :: s6 :: s7 :: s8 :: s9 :: s10 :: s11 :: some v :: σ) H) : gName 12 v (s0 :: s1 :: s2 :: s3 :: s4 :: s5 :: s6 :: s7 :: s8 :: s9 :: s10 :: s11 :: s :: σ) H n := h
theorem st_v13 {s0 s1 s2 s3 s4 s5 s6 s7 s8 s9 s10 s11 s12 : Option V} (h : Q v H) : tVar 13 (s0 :: s1 :: s2 :: s3 :: s4 :: s5 :: s6 :: s7 :: s8 :: s9 :: s10 :: s11 :: s12 :: some v :: σ) H Q := ⟨v, rfl, h⟩
theorem st_g13 {s0 s1 s2 s3 s4 s5 s6 s7 s8 s9 s10 s11 s12 : Option V} {s : Option V} (h : n (s0 :: s1 :: s2 :: s3 :: s4 :: s5 :: s6 :: s7 :: s8 :: s9 :: s10 :: s11 :: s12 :: some v :: σ) H) : gName 13 v (s0 :: s1 :: s2 :: s3 :: s4 :: s5 :: s6 :: s7 :: s8 :: s9 :: s10 :: s11 :: s12 :: s :: σ) H n := h
theorem st_v14 {s0 s1 s2 s3 s4 s5 s6 s7 s8 s9 s10 s11 s12 s13 : Option V} (h : Q v H) : tVar 14 (s0 :: s1 :: s2 :: s3 :: s4 :: s5 :: s6 :: s7 :: s8 :: s9 :: s10 :: s11 :: s12 :: s13 :: some v :: σ) H Q := ⟨v, rfl, h⟩
theorem st_g14 {s0 s1 s2 s3 s4 s5 s6 s7 s8 s9 s10 s11 s12 s13 : Option V} {s : Option V} (h : n (s0 :: s1 :: s2 :: s3 :: s4 :: s5 :: s6 :: s7 :: s8 :: s9 :: s10 :: s11 :: s12 :: s13 :: some v :: σ) H) : gName 14 v (s0 :: s1 :: s2 :: s3 :: s4 :: s5 :: s6 :: s7 :: s8 :: s9 :: s10 :: s11 :: s12 :: s13 :: s :: σ) H n := h
/-! ### expressions -/
theorem st_c (h : Q v H) : tC v σ H Q := h
theorem st_op {o : R2} (h : ta σ H fun x H1 => tb σ H1 fun y H2 => o x y H2 Q) : tOp o ta tb σ H Q := h
theorem st_un {o : V → Hp → VK → Prop} (h : ta σ H fun x H1 => o x H1 Q) : tUn o ta σ H Q := h
theorem st_andV (h : ta σ H fun x H1 => ∃ c, x = .bl c ∧ if c = true then tb σ H1 Q else Q (.bl false) H1) : tAndV ta tb σ H Q := h
theorem st_orV (h : ta σ H fun x H1 => ∃ c, x = .bl c ∧ if c = true then Q (.bl true) H1 else tb σ H1 Q) : tOrV ta tb σ H Q := h
theorem st_notV (h : ta σ H fun x H1 => ∃ c, x = .bl c ∧ Q (.bl (!c)) H1) : tNotV ta σ H Q := h
theorem st_cb {o : List V → Hp → VK → Prop} (h : A σ H fun vs H1 => o vs H1 Q) : tCB o A σ H Q := h
theorem st_ckw {o : List V → List V → Hp → VK → Prop} {A2 : TA} (h : A σ H fun vs H1 => A2 σ H1 fun zs H2 => o vs zs H2 Q) : tCKw o A A2 σ H Q := h
theorem st_nil {Q : List V → Hp → Prop} (h : Q [] H) : tNil σ H Q := h
theorem st_cons {Q : List V → Hp → Prop} (h : ta σ H fun x H1 => A σ H1 fun xs H2 => Q (x :: xs) H2) : tCons ta A σ H Q := h
theorem st_call {sp : Sp} {E : XK} (h : A σ H fun vs H1 => sp vs H1 Q E) : tCall sp [] E A σ H Q := by
  have e0 : (fun (vs : List V) (H1 : Hp) => sp (vs ++ []) H1 Q E) = fun vs H1 => sp vs H1 Q E := by
    funext vs H1
    rw [List.append_nil]
  show A σ H (fun vs H1 => sp (vs ++ []) H1 Q E)
  rw [e0]
  exact h
theorem st_callS {sp : Sp} {W : WX} (h : A σ H fun vs H1 => sp vs H1 Q (WE W σ)) : tCallS sp (WE W) A σ H Q := h
theorem st_callF {S : Addr → Sp → Prop} {E : L2.St → XK} (h : te σ H fun v H1 => ∃ f sp, v = .ref f ∧ S f sp ∧ A σ H1 fun vs H2 => sp vs H2 Q (E σ)) : tCallF S E te A σ H Q := h
theorem st_bm {T : String} {o : V → List V → Hp → VK → Prop} (h : te σ H fun x H1 => tyV K T x H1 ∧ A σ H1 fun xs H2 => o x xs H2 Q) : tBM K T o te A σ H Q := h
theorem st_m1 {o : V → List V → Hp → VK → Prop} (h : to σ H fun x H1 => (∃ a, x = .str a) ∧ te σ H1 fun y H2 => o x [y] H2 Q) : tM1 o to te σ H Q := h
theorem st_sl {o : V → Option Int → Option Int → Hp → VK → Prop} {tl th : TO} (h : te σ H fun x H1 => tl σ H1 fun l H2 => th σ H2 fun w H3 => o x l w H3 Q) : tSl o te tl th σ H Q := h
theorem st_nopart {Q : Option Int → Hp → Prop} (h : Q none H) : tNoPart σ H Q := h
theorem st_part {Q : Option Int → Hp → Prop} (h : te σ H fun x H1 => ∃ i, x = .int i ∧ Q (some i) H1) : tPart te σ H Q := h
/-- a display: the items, then a new object -/
def NewT (xs : List V) (H : Hp) (Q : VK) : Prop := xs.length ≤ sizeLine ∧ ∀ p, H p = none → Q (.ref p) (upd H p (.tup xs))
def NewL (xs : List V) (H : Hp) (Q : VK) : Prop := xs.length ≤ sizeLine ∧ ∀ p, H p = none → Q (.ref p) (upd H p (.lst xs))
theorem st_tup (h : A σ H fun xs H1 => NewT xs H1 Q) : tTup A σ H Q := h
theorem st_lst (h : A σ H fun xs H1 => NewL xs H1 Q) : tLst A σ H Q := h
theorem newT {xs : List V} (hz : xs.length ≤ 1000000) (h : ∀ p H2, Fr H p → Same H H2 → At H2 p (.tup xs) → Q (.ref p) H2) : NewT xs H Q := ⟨small hz, fun p np => h p _ np (same_new np) upd_same⟩
theorem newL {xs : List V} (hz : xs.length ≤ 1000000) (h : ∀ p H2, Fr H p → Same H H2 → At H2 p (.lst xs) → Q (.ref p) H2) : NewL xs H Q := ⟨small hz, fun p np => h p _ np (same_new np) upd_same⟩
/-- a tuple of data that stand -/
theorem newI {xs : List V} {ds : List PyData} (hd : ImAll K H xs ds) (hz : ds.length ≤ 1000000) (h : ∀ w H2, Same H H2 → Im K H2 w (.tuple ds) → Q w H2) : NewT xs H Q := by
  have e := hd.length
  exact ⟨small (by omega), fun p np => h _ _ (same_new np) (im_new np hd)⟩
/-- an address that is new, if it is one -/
def FreshV (H : Hp) (v : V) : Prop := ∀ a, v = .ref a → H a = none
theorem FreshV.back {v : V} (h : FreshV H' v) (e : Same H H') : FreshV H v := fun a q => e.free (h a q)
theorem FreshV.ne {v : V} (h : FreshV H v) {l : Addr} {o : HO} (hl : At H l o) : ∀ a, v = .ref a → a ≠ l := fun a q z => by
  have e := h a q
  rw [z] at e
  exact nomatch (e.symm.trans hl)
theorem newF {xs : List V} {ds : List PyData} (hd : ImAll K H xs ds) (hz : ds.length ≤ 1000000) (h : ∀ w H2, Same H H2 → Im K H2 w (.tuple ds) → FreshV H w → Q w H2) : NewT xs H Q := by
  have e := hd.length
  exact ⟨small (by omega), fun p np => h _ _ (same_new np) (im_new np hd) fun a q => by cases q; exact np⟩
/-! ### operators -/
theorem st_I0 {f : Int → Int → V} {i j : Int} (h : Q (f i j) H) : rI0 f (.int i) (.int j) H Q := ⟨i, j, rfl, rfl, h⟩
theorem st_mod {i j : Int} (hj : 0 < j) (h : Q (.int (i % j)) H) : oMod (.int i) (.int j) H Q := ⟨i, j, rfl, rfl, hj, h⟩
theorem st_div {i j : Int} (hj : 0 < j ∧ j < 1073741824) (h : Q (.int (i / j)) H) : oDiv (.int i) (.int j) H Q := ⟨i, j, rfl, rfl, hj, h⟩
theorem st_mul {i j : Int} (hj : (-(2 ^ 64) < i ∧ i < 2 ^ 64) ∨ (-(2 ^ 64) < j ∧ j < 2 ^ 64)) (h : Q (.int (i * j)) H) : oMul (.int i) (.int j) H Q := ⟨i, j, rfl, rfl, hj, h⟩
theorem st_shl {i j : Int} (hj : 0 ≤ j ∧ j ≤ 1000000 ∧ i.natAbs < 2 ^ 64) (h : Q (.int (i * 2 ^ j.toNat)) H) : oShl (.int i) (.int j) H Q := ⟨i, j, rfl, rfl, hj, h⟩
theorem st_shr {i j : Int} (hj : 0 ≤ j) (h : Q (.int (i / 2 ^ j.toNat)) H) : oShr (.int i) (.int j) H Q := ⟨i, j, rfl, rfl, hj, h⟩
theorem st_pow {i j : Int} (hj : 0 ≤ j ∧ j ≤ 1000000 ∧ i.natAbs < 2 ^ 64) (h : Q (.int (i ^ j.toNat)) H) : oPow (.int i) (.int j) H Q := ⟨i, j, rfl, rfl, hj, h⟩
theorem st_mulW {i j : Int} (hi : i.natAbs < 2 ^ 100) (hj : j.natAbs < 2 ^ 100) (h : Q (.int (i * j)) H) : oMulW (.int i) (.int j) H Q := by
  refine ⟨i, j, rfl, rfl, ?_, h⟩
  have l : ∀ z : Nat, z < 2 ^ 100 → z.log2 ≤ 100 := fun z hz => by
    by_cases e : z = 0
    · subst e
      simp
    · exact Nat.le_of_lt ((Nat.log2_lt e).mpr hz)
  have h1 := l _ hi
  have h2 := l _ hj
  unfold CMulW
  omega
theorem st_neg {i : Int} (h : Q (.int (-i)) H) : uNeg (.int i) H Q := ⟨i, rfl, h⟩
theorem st_inv {i : Int} (h : Q (.int (Builtin.bitNot i)) H) : uInv (.int i) H Q := ⟨i, rfl, h⟩
theorem st_eqI {i j : Int} (h : Q (.bl (decide (i = j))) H) : rEq (.int i) (.int j) H Q := ⟨rfl, by
  have e : decide (V.int i = V.int j) = decide (i = j) := decide_eq_decide.mpr ⟨V.int.inj, congrArg V.int⟩
  rw [e]
  exact h⟩
theorem st_neI {i j : Int} (h : Q (.bl (!decide (i = j))) H) : rNe (.int i) (.int j) H Q := ⟨rfl, by
  have e : decide (V.int i = V.int j) = decide (i = j) := decide_eq_decide.mpr ⟨V.int.inj, congrArg V.int⟩
  rw [e]
  exact h⟩
theorem st_eqS {i j : Str} (h : Q (.bl (decide (i = j))) H) : rEq (.str i) (.str j) H Q := ⟨rfl, by
  have e : decide (V.str i = V.str j) = decide (i = j) := decide_eq_decide.mpr ⟨V.str.inj, congrArg V.str⟩
  rw [e]
  exact h⟩
theorem st_neS {i j : Str} (h : Q (.bl (!decide (i = j))) H) : rNe (.str i) (.str j) H Q := ⟨rfl, by
  have e : decide (V.str i = V.str j) = decide (i = j) := decide_eq_decide.mpr ⟨V.str.inj, congrArg V.str⟩
  rw [e]
  exact h⟩
theorem st_neB {i j : Bool} (h : Q (.bl (!decide (i = j))) H) : rNe (.bl i) (.bl j) H Q := ⟨rfl, by
  have e : decide (V.bl i = V.bl j) = decide (i = j) := decide_eq_decide.mpr ⟨V.bl.inj, congrArg V.bl⟩
  rw [e]
  exact h⟩
theorem st_isB {i j : Bool} (h : Q (.bl (decide (i = j))) H) : rIsB (.bl i) (.bl j) H Q := ⟨i, j, rfl, rfl, h⟩
theorem st_notB {i j : Bool} (h : Q (.bl (!decide (i = j))) H) : rNotB (.bl i) (.bl j) H Q := ⟨i, j, rfl, rfl, h⟩
theorem st_isN (h : Q (.bl (decide (x = .non))) H) : oIsN x .non H Q := ⟨rfl, h⟩
theorem st_notN (h : Q (.bl (!decide (x = .non))) H) : oNotN x .non H Q := ⟨rfl, h⟩
theorem st_addS {i j : Str} (hz : i.length + j.length ≤ 1000000) (h : Q (.str (i ++ j)) H) : oAddS (.str i) (.str j) H Q := ⟨i, j, rfl, rfl, small hz, h⟩
theorem st_max2 {i j : Int} (h : Q (.int (if j > i then j else i)) H) : cMax2 [.int i, .int j] H Q := ⟨i, j, rfl, h⟩
theorem st_lenL {p : Addr} {xs : List V} (hp : SqL K H p xs) (h : Q (.int xs.length) H) : cLen K [.ref p] H Q := ⟨p, xs, rfl, .inl hp, h⟩
theorem st_lenT {p : Addr} {xs : List V} (hp : SqT K H p xs) (h : Q (.int xs.length) H) : cLen K [.ref p] H Q := ⟨p, xs, rfl, .inr hp, h⟩
theorem st_lenI {ds : List PyData} (hp : Im K H v (.tuple ds)) (h : Q (.int ds.length) H) : cLen K [v] H Q := by
  obtain ⟨a, xs, rfl, hs, ht⟩ := im_tup hp
  rw [← ht.length] at h
  exact ⟨a, xs, rfl, .inr hs, h⟩
theorem st_ixL {p : Addr} {xs : List V} {i : Int} (j : Nat) (hp : SqL K H p xs) (ei : i = (j : Int)) (hj : xs[j]? = some v) (h : Q v H) : rIxL K (.ref p) (.int i) H Q := ⟨p, xs, i, v, rfl, rfl, hp, atI_n hj ei, h⟩
theorem st_ixT {p : Addr} {xs : List V} {i : Int} (j : Nat) (hp : SqT K H p xs) (ei : i = (j : Int)) (hj : xs[j]? = some v) (h : Q v H) : rIxT K (.ref p) (.int i) H Q := ⟨p, xs, i, v, rfl, rfl, hp, atI_n hj ei, h⟩
/-- an item of a datum -/
theorem st_ixI {ds : List PyData} {d : PyData} {i : Int} (j : Nat) (hp : Im K H x (.tuple ds)) (ei : i = (j : Int)) (hj : ds[j]? = some d) (h : ∀ v, Im K H v d → Q v H) : rIxT K x (.int i) H Q := by
  obtain ⟨a, xs, rfl, hs, ht⟩ := im_tup hp
  obtain ⟨v, hv, hi⟩ := ht.at hj
  exact ⟨a, xs, i, v, rfl, rfl, hs, atI_n hv ei, h v hi⟩
theorem st_tupL {p : Addr} {xs : List V} (hp : SqL K H p xs) (h : ∀ l H2, Fr H l → Same H H2 → At H2 l (.tup xs) → Q (.ref l) H2) : cTup K [.ref p] H Q := ⟨p, xs, rfl, .inl ⟨hp, fun l nl => h l _ nl (same_new nl) upd_same⟩⟩
/-- tuple(a list of data) -/
theorem st_tupI {p : Addr} {xs : List V} {ds : List PyData} (hp : SqL K H p xs) (hd : ImAll K H xs ds) (h : ∀ w H2, Same H H2 → Im K H2 w (.tuple ds) → Q w H2) : cTup K [.ref p] H Q := ⟨p, xs, rfl, .inl ⟨hp, fun l nl => h _ _ (same_new nl) (im_new nl hd)⟩⟩
theorem st_tupD {p : Addr} {xs : List V} {ds : List PyData} (hp : SqL K H p xs) (hd : DpAll K H xs ds) (h : ∀ w H2, Same H H2 → Dp K H2 w (.tuple ds) → Q w H2) : cTup K [.ref p] H Q := ⟨p, xs, rfl, .inl ⟨hp, fun l nl => h _ _ (same_new nl) (.tup (sqT_of upd_same) (dpAll_same (same_new nl) hd))⟩⟩
theorem st_listT {p : Addr} {xs : List V} (hp : SqT K H p xs) (h : ∀ l H2, Fr H l → Same H H2 → At H2 l (.lst xs) → Q (.ref l) H2) : cList K [.ref p] H Q := ⟨p, xs, rfl, .inr hp, fun l nl => h l _ nl (same_new nl) upd_same⟩
theorem st_listL {p : Addr} {xs : List V} (hp : SqL K H p xs) (h : ∀ l H2, Fr H l → Same H H2 → At H2 l (.lst xs) → Q (.ref l) H2) : cList K [.ref p] H Q := ⟨p, xs, rfl, .inl hp, fun l nl => h l _ nl (same_new nl) upd_same⟩
theorem st_listI {ds : List PyData} (hp : Im K H v (.tuple ds)) (h : ∀ l H2 xs, Fr H l → Same H H2 → At H2 l (.lst xs) → ImAll K H2 xs ds → Q (.ref l) H2) : cList K [v] H Q := by
  obtain ⟨a, xs, rfl, hs, ht⟩ := im_tup hp
  exact ⟨a, xs, rfl, .inr hs, fun l nl => h l _ xs nl (same_new nl) upd_same (ht.tx (.new nl))⟩
theorem st_app {l : Addr} {xs : List V} (hl : At H l (.lst xs)) (hz : xs.length < 1000000) (h : ∀ H2, Bx l H H2 → At H2 l (.lst (xs ++ [v])) → Q .non H2) : rAppend (.ref l) [v] H Q := ⟨l, xs, v, rfl, rfl, hl, small' (by omega), h _ (bx_upd hl) upd_same⟩
theorem st_ins {l : Addr} {xs : List V} {i : Int} (hl : At H l (.lst xs)) (hz : xs.length < 1000000) (hi : 0 ≤ i ∧ i < 2 ^ 63) (h : ∀ H2, Bx l H H2 → At H2 l (.lst (xs.take i.toNat ++ [v] ++ xs.drop i.toNat)) → Q .non H2) : mIns (.ref l) [.int i, v] H Q := ⟨l, xs, i, v, rfl, rfl, hl, small' (by omega), hi.1, hi.2, h _ (bx_upd hl) upd_same⟩
theorem st_popAt {l : Addr} {xs : List V} {i : Int} {k : Nat} (hl : At H l (.lst xs)) (ei : i = (k : Int)) (hk : k < 2 ^ 62) (hx : xs[k]? = some v) (h : ∀ H2, Bx l H H2 → At H2 l (.lst (xs.eraseIdx k)) → Q v H2) : rPopAt (.ref l) [.int i] H Q := by
  have hlt : k < xs.length := (List.getElem?_eq_some_iff.mp hx).1
  have e2 : ixN xs.length (k : Int) = some k := by
    unfold ixN
    rw [if_pos (by omega), if_pos (by omega)]
    simp
  exact ⟨l, xs, i, k, v, rfl, rfl, hl, by omega, by omega, by rw [ei]; exact (ixN_seq e2).1, hx, h _ (bx_upd hl) upd_same⟩
theorem st_extL {l m : Addr} {xs zs : List V} (hl : At H l (.lst xs)) (hm : At H m (.lst zs)) (hz : xs.length + zs.length ≤ 1000000) (h : ∀ H2, Bx l H H2 → At H2 l (.lst (xs ++ zs)) → Q .non H2) : rExtend (.ref l) [.ref m] H Q := ⟨l, m, xs, zs, rfl, rfl, hl, hm, small hz, h _ (bx_upd hl) upd_same⟩
theorem st_setL {l : Addr} {xs : List V} {i : Int} (k : Nat) {Q : Hp → Prop} (hl : At H l (.lst xs)) (ei : i = (k : Int)) (hk : k < xs.length) (h : ∀ H2, Bx l H H2 → At H2 l (.lst (xs.set k v)) → Q H2) : rSetL (.ref l) (.int i) v H Q := by
  have e2 : ixN xs.length (k : Int) = some k := by
    unfold ixN
    rw [if_pos (by omega), if_pos (by omega)]
    simp
  exact ⟨l, xs, i, k, rfl, rfl, hl, by rw [ei]; exact e2, h _ (bx_upd hl) upd_same⟩
theorem st_tyL {p : Addr} {xs : List V} {R : Prop} (hp : At H p (.lst xs)) (h : R) : tyV K "list" (.ref p) H ∧ R := ⟨.inl ⟨rfl, xs, sqL_of hp⟩, h⟩
def RevL (K : PySem.W.Frag) (Q : VK) (x : V) (H : Hp) : Prop := ∃ a xs, x = .ref a ∧ SqL K H a xs ∧ ∀ p, H p = none → Q (.ref p) (upd H p (.lst xs.reverse))
theorem st_revL {p : Addr} {xs : List V} (hp : SqL K H p xs) (h : ∀ l H2, Fr H l → Same H H2 → At H2 l (.lst xs.reverse) → Q (.ref l) H2) : RevL K Q (.ref p) H := ⟨p, xs, rfl, hp, fun l nl => h l _ nl (same_new nl) upd_same⟩
theorem st_rev (h : te σ H fun x H1 => RevL K Q x H1) : tRevL K te σ H Q := h
theorem st_catL {l m : Addr} {xs zs : List V} (hl : At H l (.lst xs)) (hm : At H m (.lst zs)) (hz : xs.length + zs.length ≤ 1000000) (h : ∀ p H2, Fr H p → Same H H2 → At H2 p (.lst (xs ++ zs)) → Q (.ref p) H2) : rCat (.ref l) (.ref m) H Q := ⟨l, m, xs, zs, rfl, rfl, hl, hm, small hz, fun p np => h p _ np (same_new np) upd_same⟩
/-- + of two tuples of data -/
theorem st_catI {ds es : List PyData} (h1 : Im K H x (.tuple ds)) (h2 : Im K H y (.tuple es)) (hz : ds.length + es.length ≤ 1000000) (h : ∀ w H2, Same H H2 → Im K H2 w (.tuple (ds ++ es)) → Q w H2) : rCatA K x y H Q := by
  obtain ⟨a, xs, rfl, ha, hx⟩ := im_tup h1
  obtain ⟨b, ys, rfl, hb, hy⟩ := im_tup h2
  have l1 := hx.length
  have l2 := hy.length
  refine ⟨a, b, xs, ys, rfl, rfl, ha, hb, small (by omega), fun e => ?_, fun e1 e2 => ?_, fun _ _ p np => h _ _ (same_new np) (im_new np (hx.append hy))⟩
  · subst e
    cases hx
    exact h _ _ (Same.refl H) h2
  · subst e2
    cases hy
    rw [List.append_nil] at h
    exact h _ _ (Same.refl H) h1
/-- a slice of a tuple of data, by its ends -/
theorem st_sliceI {ds : List PyData} {lo hi : Option Int} (h1 : Im K H x (.tuple ds)) (h : ∀ w H2, Same H H2 → Im K H2 w (.tuple ((ds.drop (HT.sIx ds.length 0 lo)).take (HT.sIx ds.length ds.length hi - HT.sIx ds.length 0 lo))) → Q w H2) : rSlA K x lo hi H Q := by
  obtain ⟨a, xs, rfl, ha, hx⟩ := im_tup h1
  have l1 := hx.length
  rw [← l1] at h
  refine ⟨a, xs, rfl, ha, fun e => ?_, fun _ p np => h _ _ (same_new np) (im_new np ((hx.drop _).take _))⟩
  rw [e.1, e.2] at h
  simp only [List.drop_zero, Nat.sub_zero, l1, List.take_length] at h
  exact h _ _ (Same.refl H) h1
theorem st_isi {d : PyData} {T : String} (hd : Dp K H v d) (k : (kitB (tyD d) T).isSome = true) (q : Q (.bl (isD d T)) H) : rIsi K [v, .ty T] H Q := isi_dp hd k q
theorem st_all {a : Addr} {bs : List Bool} (h : SqL K H a (bs.map V.bl)) (q : Q (.bl (bs.all id)) H) : rAll K [.ref a] H Q := ⟨a, bs, rfl, h, q⟩
theorem st_maxD {a : Addr} {ns : List Int} {d : Int} (h : SqL K H a (ns.map V.int)) (q : Q (.int (maxOf d ns)) H) : rMaxD K [.ref a] [.int d] H Q := ⟨a, ns, d, rfl, rfl, h, q⟩
theorem st_intI {i : Int} (q : Q (.int i) H) : cInt [.int i] H Q := .inl ⟨i, rfl, q⟩
theorem st_intB {k : Bool} (q : Q (.int (if k then 1 else 0)) H) : cInt [.bl k] H Q := .inr ⟨k, rfl, q⟩
theorem st_str {i : Int} (hi : i.natAbs.log2 < 1920) (q : Q (.str (toString i)) H) : cStr [.int i] H Q := ⟨i, rfl, hi, q⟩
/-- == of data -/
theorem st_eqD {d e : PyData} (h1 : Dp K H x d) (h2 : Dp K H y e) (s1 : SeqAt.shaped d = true) (s2 : SeqAt.shaped e = true) (q : Q (.bl (PyData.eqv d e)) H) : rEqD K x y H Q := ⟨d, e, h1, h2, s1, s2, q⟩
theorem st_neD {d e : PyData} (h1 : Dp K H x d) (h2 : Dp K H y e) (s1 : SeqAt.shaped d = true) (s2 : SeqAt.shaped e = true) (q : Q (.bl (!PyData.eqv d e)) H) : rNeD K x y H Q := ⟨d, e, h1, h2, s1, s2, q⟩
/-! ### tests -/
theorem st_test {Q : Bool → Hp → Prop} (h : te σ H fun x H1 => ∃ k, x = .bl k ∧ Q k H1) : tTest te σ H Q := h
theorem st_B {Q : Bool → Hp → Prop} (h : te σ H fun x H1 => ∃ k, x = .bl k ∧ Q k H1) : tB te σ H Q := h
theorem st_not {Q : Bool → Hp → Prop} (h : t σ H fun k H1 => Q (!k) H1) : tNot t σ H Q := h
theorem st_and {Q : Bool → Hp → Prop} (h : t σ H fun k H1 => if k = true then u σ H1 Q else Q false H1) : tAnd t u σ H Q := h
theorem st_or {Q : Bool → Hp → Prop} (h : t σ H fun k H1 => if k = true then Q true H1 else u σ H1 Q) : tOr t u σ H Q := h
theorem st_tru {Q : Bool → Hp → Prop} (h : ta σ H fun x H1 => ∃ k, TruV K x H1 k ∧ Q k H1) : tTru K ta σ H Q := h
theorem st_truI {Q : Bool → Hp → Prop} {i : Int} (h : Q (i != 0) H) : ∃ k, TruV K (.int i) H k ∧ Q k H := ⟨_, rfl, h⟩
theorem st_yes {Q : Bool → Hp → Prop} (h : Q true H) : tYes σ H Q := h
theorem st_bl {k : Bool} {R : Bool → Prop} (h : R k) : ∃ c, V.bl k = .bl c ∧ R c := ⟨k, rfl, h⟩
theorem st_in {i : Int} {R : Int → Prop} (h : R i) : ∃ c, V.int i = .int c ∧ R c := ⟨i, rfl, h⟩
theorem st_yT {P : Prop} [Decidable P] {a b : Prop} (h : P) (k : a) : if decide P = true then a else b := by
  rw [decide_eq_true h]
  exact k
theorem st_yF {P : Prop} [Decidable P] {a b : Prop} (h : ¬ P) (k : b) : if decide P = true then a else b := by
  rw [decide_eq_false h]
  exact k
theorem st_y2 {P : Prop} [Decidable P] {a b : Prop} (h1 : P → a) (h2 : ¬ P → b) : if decide P = true then a else b := by
  by_cases h : P
  · exact st_yT h (h1 h)
  · exact st_yF h (h2 h)
theorem st_nT {P : Prop} [Decidable P] {a b : Prop} (h : ¬ P) (k : a) : if (!decide P) = true then a else b := by
  rw [decide_eq_false h]
  exact k
theorem st_nF {P : Prop} [Decidable P] {a b : Prop} (h : P) (k : b) : if (!decide P) = true then a else b := by
  rw [decide_eq_true h]
  exact k
theorem st_n2 {P : Prop} [Decidable P] {a b : Prop} (h1 : ¬ P → a) (h2 : P → b) : if (!decide P) = true then a else b := by
  by_cases h : P
  · exact st_nF h (h2 h)
  · exact st_nT h (h1 h)
theorem st_nbT {a b : Prop} (k : b) : if (!true) = true then a else b := k
theorem st_nbF {a b : Prop} (k : a) : if (!false) = true then a else b := k
theorem st_b2 {k : Bool} {a b : Prop} (h1 : k = true → a) (h2 : k = false → b) : if k = true then a else b := by
  cases k with
  | true => exact h1 rfl
  | false => exact h2 rfl
/-! ### statements -/
theorem st_seq (h : ts ⟨us ⟨n, r, b, c⟩, r, b, c⟩ σ H) : tSeq ts us ⟨n, r, b, c⟩ σ H := h
theorem st_next (h : n σ H) : tNext ⟨n, r, b, c⟩ σ H := h
theorem st_brk (h : b σ H) : tBreak ⟨n, r, b, c⟩ σ H := h
theorem st_cont (h : c σ H) : tCont ⟨n, r, b, c⟩ σ H := h
theorem st_drop (h : te σ H fun _ H1 => n σ H1) : tDrop te ⟨n, r, b, c⟩ σ H := h
theorem st_ret (h : te σ H r) : tRet te ⟨n, r, b, c⟩ σ H := h
theorem st_asg (h : te σ H fun x H1 => g x σ H1 n) : tAsg te g ⟨n, r, b, c⟩ σ H := h
theorem st_if (h : t σ H fun k H1 => if k = true then ts ⟨n, r, b, c⟩ σ H1 else us ⟨n, r, b, c⟩ σ H1) : tIfS t ts us ⟨n, r, b, c⟩ σ H := h
theorem st_sub {o : TSet} (h : ta σ H fun x H1 => tb σ H1 fun y H2 => o x y v H2 fun H3 => n σ H3) : gSub ta tb o v σ H n := h
theorem st_gtup {k : Nat} {G : TGs} {ds : List PyData} (hd : Im K H v (.tuple ds)) (hl : ds.length = k) (h : ∀ xs, ImAll K H xs ds → G xs σ H n) : gTup K k G v σ H n := by
  obtain ⟨a, xs, rfl, hs, ht⟩ := im_tup hd
  exact ⟨a, xs, rfl, hs, by rw [ht.length, hl], h xs ht⟩
theorem st_gcons {G : TGs} {xs : List V} (h : g x σ H fun σ' H' => G xs σ' H' n) : gCons g G (x :: xs) σ H n := ⟨x, xs, rfl, h⟩
theorem st_gnil (h : n σ H) : gNil [] σ H n := ⟨rfl, h⟩

/-! ### loops: the word of a turn -/
def Loop (J : It) (g : TG) (tb : TS) (D : Ends) (σ : L2.St) (H : Hp) : Prop := ∃ W : Nat → Nat → L2.St → Hp → Prop, (∃ m, W 0 m σ H) ∧ ∀ i m σ H, W i m σ H →
  (J.stop i H ∧ D.nx σ H) ∨ (J.go i H ∧ ∃ N : L2.St → Hp → Prop, (∀ σ' H', N σ' H' → ∃ m', m' < m ∧ W (i + 1) m' σ' H') ∧ ∀ x H', J.yld i H x H' → g x σ H' fun σ2 H2 => tb { D with nx := N, ct := N, bk := D.nx } σ2 H2)
def LoopC (J : It) (g : TG) (tt : TT) (te : TE) (vs : List Nat) (σ : L2.St) (Q : VK) (H1 : Hp) : Prop := ∀ D, H1 D = none → ∃ W : Nat → Nat → Hp → Prop, (∃ m, W 0 m (upd H1 D (.lst []))) ∧ ∀ i m H, W i m H →
  (J.stop i H ∧ Q (.ref D) H) ∨ (J.go i H ∧ ∃ Nx : Hp → Prop, (∀ H', Nx H' → ∃ m', m' < m ∧ W (i + 1) m' H') ∧ ∀ x H', J.yld i H x H' → g x (wipe σ vs) H' fun σ2 H2 => wipe σ2 vs = wipe σ vs ∧ tt σ2 H2 fun b H3 =>
    if b = true then te σ2 H3 fun y H4 => ∃ acc, H4 D = some (.lst acc) ∧ acc.length < sizeLine ∧ Nx (upd H4 D (.lst (acc ++ [y]))) else Nx H3)
variable {wi : TI} {vs : List Nat}
theorem st_for (h : wi σ H fun J H1 => Loop J g ts ⟨n, r, b, c⟩ σ H1) : tFor wi g ts ⟨n, r, b, c⟩ σ H := h
theorem st_lc (h : wi σ H fun J H1 => LoopC J g t te vs σ Q H1) : tLc wi g t te vs σ H Q := h
def Rng1 (R : It → Hp → Prop) (vs : List V) (H1 : Hp) : Prop := ∃ j : Int, vs = [.int j] ∧ -(2 ^ 62) ≤ j ∧ j < 2 ^ 62 ∧ R (Itr 0 j.toNat) H1
def Rng2 (R : It → Hp → Prop) (vs : List V) (H1 : Hp) : Prop := ∃ i j : Int, vs = [.int i, .int j] ∧ (-(2 ^ 62) ≤ i ∧ i < 2 ^ 62 ∧ -(2 ^ 62) ≤ j ∧ j < 2 ^ 62) ∧ R (Itr i (j - i).toNat) H1
def Rng3 (R : It → Hp → Prop) (vs : List V) (H1 : Hp) : Prop := ∃ (i j c : Int) (n : Nat), vs = [.int i, .int j, .int c] ∧ RgC i j c n ∧ R (Itc i c n) H1
theorem st_i1 {R : It → Hp → Prop} (h : A σ H fun vs H1 => Rng1 R vs H1) : iRng1 A σ H R := h
theorem st_i2 {R : It → Hp → Prop} (h : A σ H fun vs H1 => Rng2 R vs H1) : iRng2 A σ H R := h
theorem st_i3 {R : It → Hp → Prop} (h : A σ H fun vs H1 => Rng3 R vs H1) : iRng3 A σ H R := h
theorem st_iT {R : It → Hp → Prop} (h : te σ H fun x H1 => ∃ a, x = .ref a ∧ (∃ xs, SqT K H1 a xs) ∧ R (Itt K a) H1) : iTup K te σ H R := h
theorem st_iL {R : It → Hp → Prop} (h : te σ H fun x H1 => ∃ a, x = .ref a ∧ (∃ xs, SqL K H1 a xs) ∧ R (Itl K a) H1) : iList K te σ H R := h
theorem st_iS {R : It → Hp → Prop} (h : te σ H fun v H1 => ∃ x, v = .str x ∧ R (Its x) H1) : iStr te σ H R := h
theorem st_r1 {R : It → Hp → Prop} {j : Int} (m : Nat) (ej : j = (m : Int)) (hm : m ≤ 1000000000) (h : R (Itr 0 m) H) : Rng1 R [V.int j] H :=
  ⟨j, rfl, by omega, by omega, by
    subst ej
    exact h⟩
theorem st_r2 {R : It → Hp → Prop} {i j : Int} (m : Nat) (ej : m = (j - i).toNat) (hi : -1000000000 ≤ i ∧ i ≤ 1000000000) (hj : -1000000000 ≤ j ∧ j ≤ 1000000000) (h : R (Itr i m) H) : Rng2 R [V.int i, V.int j] H := ⟨i, j, rfl, by omega, by
    subst ej
    exact h⟩
theorem st_r3 {R : It → Hp → Prop} {i j c : Int} (m : Nat) (hr : RgC i j c m) (h : R (Itc i c m) H) : Rng3 R [V.int i, V.int j, V.int c] H := ⟨i, j, c, m, rfl, hr, h⟩
/-- for over a range: lo, lo + 1, .. -/
theorem loop_r {lo : Int} {m : Nat} (Pv : Nat → L2.St → Hp → Prop) (h0 : Pv 0 σ H) (hs : ∀ i σ' H', i < m → Pv i σ' H' → g (.int (lo + (i : Int))) σ' H' fun σ2 H2 => ts ⟨Pv (i + 1), r, n, Pv (i + 1)⟩ σ2 H2)
    (hd : ∀ σ' H', Pv m σ' H' → n σ' H') : Loop (Itr lo m) g ts ⟨n, r, b, c⟩ σ H := for_range (lo := lo) (n := m) Pv h0 hs hd
theorem loop_r0 {m : Nat} (Pv : Nat → L2.St → Hp → Prop) (h0 : Pv 0 σ H) (hs : ∀ i σ' H', i < m → Pv i σ' H' → g (.int (i : Int)) σ' H' fun σ2 H2 => ts ⟨Pv (i + 1), r, n, Pv (i + 1)⟩ σ2 H2)
    (hd : ∀ σ' H', Pv m σ' H' → n σ' H') : Loop (Itr 0 m) g ts ⟨n, r, b, c⟩ σ H := loop_r Pv h0 (fun i σ' H' hi p => by
  rw [Int.zero_add]
  exact hs i σ' H' hi p) hd
theorem loop_c {lo st : Int} {m : Nat} (Pv : Nat → L2.St → Hp → Prop) (h0 : Pv 0 σ H) (hs : ∀ i σ' H', i < m → Pv i σ' H' → g (.int (lo + (i : Nat) * st)) σ' H' fun σ2 H2 => ts ⟨Pv (i + 1), r, n, Pv (i + 1)⟩ σ2 H2)
    (hd : ∀ σ' H', Pv m σ' H' → n σ' H') : Loop (Itc lo st m) g ts ⟨n, r, b, c⟩ σ H := for_rangeC (lo := lo) (c := st) (n := m) Pv h0 hs hd
/-- for over a list that stands -/
theorem loop_l {p : Addr} {xs : List V} (hp : SqL K H p xs) (Pv : Nat → L2.St → Hp → Prop) (h0 : Pv 0 σ H) (hl : ∀ i σ' H', Pv i σ' H' → SqL K H' p xs)
    (hs : ∀ i x σ' H', xs[i]? = some x → Pv i σ' H' → g x σ' H' fun σ2 H2 => ts ⟨Pv (i + 1), r, n, Pv (i + 1)⟩ σ2 H2) (hd : ∀ σ' H', Pv xs.length σ' H' → n σ' H') :
    ∃ a, V.ref p = .ref a ∧ (∃ xs, SqL K H a xs) ∧ Loop (Itl K a) g ts ⟨n, r, b, c⟩ σ H := ⟨p, rfl, ⟨xs, hp⟩, for_list Pv h0 (fun i σ' H' _ q => hl i σ' H' q) hs hd⟩
/-- for over a tuple of data -/
theorem loop_t {ds : List PyData} (hp : Im K H x (.tuple ds)) (Pv : Nat → L2.St → Hp → Prop) (h0 : Pv 0 σ H) (hl : ∀ i σ' H', Pv i σ' H' → Tx H H')
    (hs : ∀ i d y σ' H', ds[i]? = some d → Pv i σ' H' → Im K H' y d → g y σ' H' fun σ2 H2 => ts ⟨Pv (i + 1), r, n, Pv (i + 1)⟩ σ2 H2) (hd : ∀ σ' H', Pv ds.length σ' H' → n σ' H') :
    ∃ a, x = .ref a ∧ (∃ xs, SqT K H a xs) ∧ Loop (Itt K a) g ts ⟨n, r, b, c⟩ σ H := by
  obtain ⟨a, xs, rfl, hs0, ht⟩ := im_tup hp
  have e := ht.length
  refine ⟨a, rfl, ⟨xs, hs0⟩, for_tup Pv h0 (fun i σ' H' _ q => sqT_tx (hl i σ' H' q) hs0) (fun i y σ' H' hy q => ?_) (by rw [e]; exact hd)⟩
  obtain ⟨d, h1, h2⟩ := ht.get hy
  exact hs i d y σ' H' h1 q (h2.tx (hl i σ' H' q))
theorem loop_s {z : Str} (Pv : Nat → L2.St → Hp → Prop) (h0 : Pv 0 σ H) (hs : ∀ i k σ' H', z.cps[i]? = some k → Pv i σ' H' → g (.str ⟨#[k]⟩) σ' H' fun σ2 H2 => ts ⟨Pv (i + 1), r, n, Pv (i + 1)⟩ σ2 H2)
    (hd : ∀ σ' H', Pv z.cps.size σ' H' → n σ' H') : ∃ x, V.str z = .str x ∧ Loop (Its x) g ts ⟨n, r, b, c⟩ σ H := by
  refine ⟨z, rfl, fun i m σ' H' => m = z.cps.size - i ∧ i ≤ z.cps.size ∧ Pv i σ' H', ⟨_, rfl, Nat.zero_le _, h0⟩, ?_⟩
  rintro i m σ' H' ⟨rfl, hi, p⟩
  by_cases hlt : i < z.cps.size
  · refine .inr ⟨hlt, Pv (i + 1), fun σ2 H2 p' => ⟨z.cps.size - (i + 1), by omega, rfl, hlt, p'⟩, fun x H2 y => ?_⟩
    obtain ⟨rfl, k, hk, rfl⟩ := y
    exact hs i k σ' _ hk p
  · have e : i = z.cps.size := by omega
    exact .inl ⟨Nat.le_of_not_lt hlt, hd σ' H' (e ▸ p)⟩
/-- while: W falls -/
theorem st_while (W : Nat → L2.St → Hp → Prop) (m0 : Nat) (h0 : W m0 σ H) (hs : ∀ m σ' H', W m σ' H' → t σ' H' fun k H1 => if k = true then ∃ N : L2.St → Hp → Prop, (∀ σ2 H2, N σ2 H2 → ∃ m', m' < m ∧ W m' σ2 H2) ∧ ts ⟨N, r, n, N⟩ σ' H1 else n σ' H1) :
    tWhile t ts ⟨n, r, b, c⟩ σ H := ⟨W, ⟨m0, h0⟩, hs⟩
theorem st_turn {W : Nat → L2.St → Hp → Prop} {m : Nat} (h : ts ⟨fun σ2 H2 => ∃ m', m' < m ∧ W m' σ2 H2, r, n, fun σ2 H2 => ∃ m', m' < m ∧ W m' σ2 H2⟩ σ H) :
    ∃ N : L2.St → Hp → Prop, (∀ σ2 H2, N σ2 H2 → ∃ m', m' < m ∧ W m' σ2 H2) ∧ ts ⟨N, r, n, N⟩ σ H := ⟨_, fun _ _ q => q, h⟩
/-! ### comprehensions: which turns give, and what (data) -/
def given (m : Nat) (f : Nat → Bool) (e : Nat → PyData) : List PyData := ((List.range m).filter f).map e
theorem given_yes {m : Nat} {f : Nat → Bool} {e : Nat → PyData} (h : f m = true) : given (m + 1) f e = given m f e ++ [e m] := by
  unfold given
  rw [List.range_succ, List.filter_append, List.map_append, List.filter_cons, if_pos h] <;> rfl
theorem given_no {m : Nat} {f : Nat → Bool} {e : Nat → PyData} (h : f m = false) : given (m + 1) f e = given m f e := by
  unfold given
  rw [List.range_succ, List.filter_append, List.map_append, List.filter_cons, if_neg (by rw [h]; decide)]
  simp
theorem given_len (m : Nat) (f : Nat → Bool) (e : Nat → PyData) : (given m f e).length ≤ m := by
  unfold given
  rw [List.length_map]
  have h := List.length_filter_le f (List.range m)
  rw [List.length_range] at h
  exact h
theorem given_all (m : Nat) (e : Nat → PyData) : given m (fun _ => true) e = (List.range m).map e := by
  unfold given
  rw [List.filter_eq_self.mpr (fun _ _ => rfl)]
/-- what stands between two turns -/
def Cw (K : PySem.W.Frag) (H : Hp) (f : Nat → Bool) (e : Nat → PyData) (D : Addr) (i : Nat) (H' : Hp) : Prop := H D = none ∧ Same H H' ∧ ∃ ys, H' D = some (.lst ys) ∧ ImAll K H' ys (given i f e)
/-- what a turn must show: for any ways on -/
def Turned (K : PySem.W.Frag) (g : TG) (t : TT) (te : TE) (vs : List Nat) (σw : L2.St) (x : V) (H' : Hp) (keep : Bool) (d : PyData) : Prop := ∀ (CT : VK) (CF : Hp → Prop), (keep = true → ∀ y H4, Same H' H4 → Im K H4 y d → CT y H4) → (keep = false → ∀ H4, Same H' H4 → CF H4) →
  g x σw H' fun σ2 H2 => wipe σ2 vs = σw ∧ t σ2 H2 fun k H3 => if k = true then te σ2 H3 CT else CF H3
theorem cw_turn {f : Nat → Bool} {e : Nat → PyData} {D : Addr} {i : Nat} {σw : L2.St} {x : V} (p : Cw K H f e D i H') (hi : i ≤ 1000000) (ht : Turned K g t te vs σw x H' (f i) (e i)) :
    g x σw H' fun σ2 H2 => wipe σ2 vs = σw ∧ t σ2 H2 fun k H3 => if k = true then te σ2 H3 fun y H4 => ∃ acc, H4 D = some (.lst acc) ∧ acc.length < sizeLine ∧ Cw K H f e D (i + 1) (upd H4 D (.lst (acc ++ [y]))) else Cw K H f e D (i + 1) H3 := by
  obtain ⟨p1, p2, ys, p3, p4⟩ := p
  refine ht _ _ (fun hf y H4 s q => ?_) fun hf H4 s => ?_
  · have hD := s _ _ p3
    refine ⟨ys, hD, small' (by have := given_len i f e; have := p4.length; omega), p1, same_mut (p2.trans s) p1, _, upd_same, ?_⟩
    rw [given_yes hf]
    exact ((p4.same s).tx (.mut hD)).snoc (q.tx (.mut hD))
  · refine ⟨p1, p2.trans s, ys, s _ _ p3, ?_⟩
    rw [given_no hf]
    exact p4.same s
theorem lc_r {lo : Int} {m : Nat} {σw : L2.St} (f : Nat → Bool) (e : Nat → PyData) (hw : wipe σ vs = σw) (hm : m ≤ 1000000) (hs : ∀ i H', i < m → Same H H' → Turned K g t te vs σw (.int (lo + (i : Int))) H' (f i) (e i))
    (h : ∀ p H2 ys, Fr H p → Same H H2 → At H2 p (.lst ys) → ImAll K H2 ys (given m f e) → Q (.ref p) H2) : LoopC (Itr lo m) g t te vs σ Q H := by
  subst hw
  exact fun D hD => lc_range (lo := lo) (n := m) (Cw K H f e D) ⟨hD, same_new hD, [], upd_same, .nil⟩ (fun i H' hi p => cw_turn p (by omega) (hs i H' hi p.2.1)) fun H2 ⟨_, q2, ys, q3, q4⟩ => h D H2 ys hD q2 q3 q4
theorem lc_r0 {m : Nat} {σw : L2.St} (f : Nat → Bool) (e : Nat → PyData) (hw : wipe σ vs = σw) (hm : m ≤ 1000000) (hs : ∀ i H', i < m → Same H H' → Turned K g t te vs σw (.int (i : Int)) H' (f i) (e i))
    (h : ∀ p H2 ys, Fr H p → Same H H2 → At H2 p (.lst ys) → ImAll K H2 ys (given m f e) → Q (.ref p) H2) : LoopC (Itr 0 m) g t te vs σ Q H := lc_r f e hw hm (fun i H' hi q => by
  rw [Int.zero_add]
  exact hs i H' hi q) h
theorem lc_t {ds : List PyData} {σw : L2.St} (hp : Im K H x (.tuple ds)) (f : Nat → Bool) (e : Nat → PyData) (hw : wipe σ vs = σw) (hm : ds.length ≤ 1000000) (hs : ∀ i d y H', ds[i]? = some d → Same H H' → Im K H' y d → Turned K g t te vs σw y H' (f i) (e i))
    (h : ∀ p H2 ys, Fr H p → Same H H2 → At H2 p (.lst ys) → ImAll K H2 ys (given ds.length f e) → Q (.ref p) H2) : ∃ a, x = .ref a ∧ (∃ xs, SqT K H a xs) ∧ LoopC (Itt K a) g t te vs σ Q H := by
  obtain ⟨a, xs, rfl, hs0, ht⟩ := im_tup hp
  have el := ht.length
  subst hw
  refine ⟨a, rfl, ⟨xs, hs0⟩, fun D hD => lc_tup (xs := xs) (Cw K H f e D) ⟨hD, same_new hD, [], upd_same, .nil⟩ (fun i H' _ p => sqT_tx (.of p.2.1) hs0) (fun i y H' hy p => ?_) fun H2 ⟨_, q2, ys, q3, q4⟩ => ?_⟩
  · obtain ⟨d, h1, h2⟩ := ht.get hy
    have hi := (List.getElem?_eq_some_iff.mp hy).1
    exact cw_turn p (by omega) (hs i d y H' h1 p.2.1 (h2.same p.2.1))
  · rw [el] at q4
    exact h D H2 ys hD q2 q3 q4
theorem lc_l {p : Addr} {xs : List V} {σw : L2.St} (hp : SqL K H p xs) (f : Nat → Bool) (e : Nat → PyData) (hw : wipe σ vs = σw) (hm : xs.length ≤ 1000000) (hs : ∀ i y H', xs[i]? = some y → Same H H' → Turned K g t te vs σw y H' (f i) (e i))
    (h : ∀ p H2 ys, Fr H p → Same H H2 → At H2 p (.lst ys) → ImAll K H2 ys (given xs.length f e) → Q (.ref p) H2) : ∃ a, V.ref p = .ref a ∧ (∃ xs, SqL K H a xs) ∧ LoopC (Itl K a) g t te vs σ Q H := by
  subst hw
  refine ⟨p, rfl, ⟨xs, hp⟩, fun D hD => lc_list (xs := xs) (Cw K H f e D) ⟨hD, same_new hD, [], upd_same, .nil⟩ (fun i H' _ q => q.2.1.seq hp) (fun i y H' hy q => ?_) fun H2 ⟨_, q2, ys, q3, q4⟩ => h D H2 ys hD q2 q3 q4⟩
  have hi := (List.getElem?_eq_some_iff.mp hy).1
  exact cw_turn q (by omega) (hs i y H' hy q.2.1)
end
end SF

set_option maxHeartbeats 8000000
namespace SF
open PySem PySem.Spec PyProof.Rows L2
open C8 (Cal pe_c)
local macro_rules | `(tactic| walk_at "g1") => `(tactic| first
  | with_reducible refine st_asg ?_ | with_reducible refine st_if ?_ | with_reducible refine st_ret ?_ | with_reducible refine st_op ?_ | with_reducible refine st_c ?_
  | with_reducible refine st_v0 ?_ | with_reducible refine st_v1 ?_ | with_reducible refine st_v2 ?_ | with_reducible refine st_v3 ?_ | with_reducible refine st_v4 ?_ | with_reducible refine st_v5 ?_ | with_reducible refine st_v6 ?_ | with_reducible refine st_v7 ?_
  | with_reducible refine st_v8 ?_ | with_reducible refine st_v9 ?_ | with_reducible refine st_v10 ?_ | with_reducible refine st_v11 ?_ | with_reducible refine st_v12 ?_ | with_reducible refine st_v13 ?_ | with_reducible refine st_v14 ?_
  | with_reducible refine st_g0 ?_ | with_reducible refine st_g1 ?_ | with_reducible refine st_g2 ?_ | with_reducible refine st_g3 ?_ | with_reducible refine st_g4 ?_ | with_reducible refine st_g5 ?_ | with_reducible refine st_g6 ?_ | with_reducible refine st_g7 ?_
  | with_reducible refine st_g8 ?_ | with_reducible refine st_g9 ?_ | with_reducible refine st_g10 ?_ | with_reducible refine st_g11 ?_ | with_reducible refine st_g12 ?_ | with_reducible refine st_g13 ?_ | with_reducible refine st_g14 ?_
  | with_reducible refine st_cb ?_ | with_reducible refine st_cons ?_ | with_reducible refine st_nil ?_ | with_reducible refine st_call ?_ | with_reducible refine st_test ?_ | with_reducible refine st_B ?_ | with_reducible refine st_bl ?_ | with_reducible refine st_in ?_
  | with_reducible refine st_not ?_ | with_reducible refine st_and ?_ | with_reducible refine st_or ?_ | with_reducible refine st_tru ?_ | with_reducible refine st_truI ?_ | with_reducible refine st_yes ?_
  | with_reducible refine st_andV ?_ | with_reducible refine st_orV ?_ | with_reducible refine st_notV ?_ | with_reducible refine st_un ?_ | with_reducible refine st_ckw ?_
  | with_reducible refine st_I0 ?_ | (with_reducible refine st_mod ?hj ?_; case hj => omega) | (with_reducible refine st_div ?hj ?_; case hj => omega) | (with_reducible refine st_mul ?hj ?_; case hj => omega) | (with_reducible refine st_shr ?hj ?_; case hj => omega) | (with_reducible refine st_shl ?hj ?_; case hj => omega)
  | (with_reducible refine st_pow ?hj ?_; case hj => first | omega | decide) | with_reducible refine st_neg ?_ | with_reducible refine st_inv ?_ | with_reducible refine st_eqI ?_ | with_reducible refine st_neI ?_ | with_reducible refine st_eqS ?_ | with_reducible refine st_neS ?_ | with_reducible refine st_neB ?_ | with_reducible refine st_isB ?_ | with_reducible refine st_notB ?_ | with_reducible refine st_isN ?_ | with_reducible refine st_notN ?_
  | with_reducible refine st_max2 ?_ | with_reducible refine st_intI ?_ | with_reducible refine st_intB ?_
  | with_reducible refine iteT ?_ | with_reducible refine st_nbT ?_ | with_reducible refine st_nbF ?_ | with_reducible refine iteF ?_ | (with_reducible refine st_yT ?hj ?_; case hj => first | omega | with_reducible rfl | exact Bool.false_ne_true | exact Bool.noConfusion) | (with_reducible refine st_yF ?hj ?_; case hj => first | omega | with_reducible rfl | exact Bool.false_ne_true | exact Bool.noConfusion) | (with_reducible refine st_nT ?hj ?_; case hj => first | omega | with_reducible rfl | exact Bool.false_ne_true | exact Bool.noConfusion) | (with_reducible refine st_nF ?hj ?_; case hj => first | omega | with_reducible rfl | exact Bool.false_ne_true | exact Bool.noConfusion)
  | with_reducible refine st_next ?_ | with_reducible refine st_drop ?_ | with_reducible refine st_bm ?_ | with_reducible refine st_tup ?_ | with_reducible refine st_lst ?_ | with_reducible refine st_sub ?_ | with_reducible refine st_gcons ?_ | with_reducible refine st_gnil ?_
  | with_reducible refine st_for ?_ | with_reducible refine st_lc ?_ | with_reducible refine st_i1 ?_ | with_reducible refine st_i2 ?_ | with_reducible refine st_i3 ?_ | with_reducible refine st_iT ?_ | with_reducible refine st_iL ?_ | with_reducible refine st_iS ?_
  | with_reducible refine st_sl ?_ | with_reducible refine st_nopart ?_ | with_reducible refine st_part ?_ | with_reducible refine st_m1 ?_ | with_reducible refine st_callS ?_ | with_reducible refine st_callF ?_ | with_reducible refine st_rev ?_ | with_reducible refine st_brk ?_ | with_reducible refine st_cont ?_)
local macro_rules | `(tactic| walk_at "go1") => `(tactic| first | with_reducible refine st_seq ?_ | walk_at "g1")
local macro_rules | `(tactic| walk_at "gt") => `(tactic| repeat walk_at "g1")
local macro_rules | `(tactic| walk_at "go") => `(tactic| repeat walk_at "go1")
local macro_rules | `(tactic| walk_at "sm") => `(tactic| first | assumption | exact Same.refl _ | (refine Same.trans (by assumption) ?_; walk_at "sm"))
local macro_rules | `(tactic| walk_at "tx") => `(tactic| first | assumption | exact Tx.refl _ | (refine Tx.trans (Tx.of (by assumption)) ?_; walk_at "tx") | (refine Tx.trans (bx_tx (by assumption)) ?_; walk_at "tx") | (refine Tx.trans (by assumption) ?_; walk_at "tx"))
/-! ### programs as data -/
abbrev Cmp := Nat × Nat
abbrev Prog := List Cmp
def dC (c : Cmp) : PyData := .tuple [.int c.1, .int c.2]
def dP (p : Prog) : PyData := .tuple (p.map dC)
def dL (ns : List Int) : PyData := .list (ns.map .int)
def isPlace : PyData → Bool
  | .int i => decide (0 ≤ i)
  | _ => false
def sp_is_place (K : PySem.W.Frag) : Sp := fun vs H Q _ => ∃ v d, vs = [v] ∧ Dp K H v d ∧ Q (.bl (isPlace d)) H
def t_is_place (K : PySem.W.Frag) : TS := (tRet (tAndV (tCB (rIsi K) (tCons (tVar 0) (tCons (tC (.ty "int")) tNil))) (tAndV (tNotV (tCB (rIsi K) (tCons (tVar 0) (tCons (tC (.ty "bool")) tNil)))) (tOp oGe (tVar 0) (tC (.int 0))))))
abbrev n_is_place : List Str := ["thing"]
section
variable {K : PySem.W.Frag} {vs : List V} {H : Hp} {Q : VK} {E : XK}
theorem len_is_place (h : sp_is_place K vs H Q E) : vs.length = 1 := by
  obtain ⟨v, d, rfl, _⟩ := h
  rfl
theorem rd_is_place (h : sp_is_place K vs H Q E) : t_is_place K { nx := fun _ H' => Q .non H', rt := Q } (start n_is_place vs) H := by
  obtain ⟨v, d, rfl, hd, q⟩ := h
  obtain ⟨k1, k2, k3, k4⟩ := kit_all d
  show t_is_place K ⟨_, _, _, _⟩ [some v] H
  unfold t_is_place
  walk_at "go"
  refine st_isi hd k1 ?_
  rw [isD_int]
  cases hd with
  | bl b =>
    walk_at "go"
    refine st_isi (.bl b) k2 ?_
    rw [isD_bool]
    dsimp only
    walk_at "go"
    exact q
  | int i =>
    walk_at "go"
    refine st_isi (.int i) k2 ?_
    rw [isD_bool]
    dsimp only
    walk_at "go"
    exact q
  | non => walk_at "go"; exact q
  | str x => walk_at "go"; exact q
  | lst h t => walk_at "go"; exact q
  | tup h t => walk_at "go"; exact q
end
def isCompare (m : Int) : PyData → Bool
  | .tuple [.int a, .int b] => decide (0 ≤ a) && decide (0 ≤ b) && decide (a < b) && decide (b < m)
  | _ => false
theorem isCompare_l {m : Int} {d e : PyData} (h : isPlace d = false) : isCompare m (.tuple [d, e]) = false := by
  cases d <;> first | rfl | (cases e <;> first | rfl | (simp only [isPlace] at h; simp [isCompare, h]))
theorem isCompare_r {m : Int} {d e : PyData} (h : isPlace e = false) : isCompare m (.tuple [d, e]) = false := by
  cases d <;> first | rfl | (cases e <;> first | rfl | (simp only [isPlace] at h; simp [isCompare, h]))
theorem isPlace_int {d : PyData} (h : isPlace d = true) : ∃ i : Int, 0 ≤ i ∧ d = .int i := by
  cases d with
  | int i => exact ⟨i, of_decide_eq_true h, rfl⟩
  | _ => cases h
def sp_is_compare (K : PySem.W.Frag) : Sp := fun vs H Q _ => ∃ v d m, vs = [v, .int m] ∧ Dp K H v d ∧ Q (.bl (isCompare m d)) H
def t_is_compare (K : PySem.W.Frag) : TS := (tSeq (tIfS (tOr (tNot (tB (tCB (rIsi K) (tCons (tVar 0) (tCons (tC (.ty "tuple")) tNil))))) (tOr (tTest (tOp rNe (tCB (cLen K) (tCons (tVar 0) tNil)) (tC (.int 2)))) (tOr (tNot (tB (tCall (sp_is_place K) [] E0 (tCons (tOp (rIxT K) (tVar 0) (tC (.int 0))) tNil)))) (tNot (tB (tCall (sp_is_place K) [] E0 (tCons (tOp (rIxT K) (tVar 0) (tC (.int 1))) tNil))))))) (tRet (tC (.bl false))) tNext)
    (tRet (tAndV (tOp oLt (tOp (rIxT K) (tVar 0) (tC (.int 0))) (tOp (rIxT K) (tVar 0) (tC (.int 1)))) (tOp oLt (tOp (rIxT K) (tVar 0) (tC (.int 1))) (tVar 1)))))
abbrev n_is_compare : List Str := ["thing", "places"]
section
variable {K : PySem.W.Frag} {vs : List V} {H : Hp} {Q : VK} {E : XK}
theorem len_is_compare (h : sp_is_compare K vs H Q E) : vs.length = 2 := by
  obtain ⟨v, d, n, rfl, _⟩ := h
  rfl
theorem rd_is_compare (h : sp_is_compare K vs H Q E) : t_is_compare K { nx := fun _ H' => Q .non H', rt := Q } (start n_is_compare vs) H := by
  obtain ⟨v, d, m, rfl, hd, q⟩ := h
  obtain ⟨k1, k2, k3, k4⟩ := kit_all d
  show t_is_compare K ⟨_, _, _, _⟩ [some v, some (.int m)] H
  unfold t_is_compare
  walk_at "go"
  refine st_isi hd k3 ?_
  rw [isD_tup]
  cases hd with
  | @tup a xs ds hs ht =>
    dsimp only
    walk_at "go"
    refine st_lenT hs ?_
    walk_at "go"
    refine st_n2 (fun hl => ?_) (fun hl => ?_)
    · walk_at "go"
      have e : isCompare m (.tuple ds) = false := by
        cases ht with
        | nil => rfl
        | cons h1 t1 =>
          cases t1 with
          | nil => cases h1 <;> rfl
          | cons h2 t2 =>
            cases t2 with
            | nil => exact absurd rfl hl
            | cons h3 t3 => cases h1 <;> first | rfl | (cases h2 <;> rfl)
      rw [e] at q
      exact q
    · cases ht with
      | nil => exact absurd hl (by simp)
      | @cons v1 xs d1 ds h1 t1 =>
        cases t1 with
        | nil => exact absurd hl (by simp)
        | @cons v2 xs d2 ds h2 t2 =>
          cases t2 with
          | cons h3 t3 =>
            simp only [List.length_cons] at hl
            omega
          | nil =>
            walk_at "go"
            refine st_ixT 0 hs rfl rfl ?_
            walk_at "go"
            refine ⟨_, _, rfl, h1, ?_⟩
            walk_at "go"
            cases p1 : isPlace d1 with
            | false =>
              rw [isCompare_l p1] at q
              walk_at "go"
              exact q
            | true =>
              obtain ⟨i, hi, rfl⟩ := isPlace_int p1
              cases h1
              walk_at "go"
              refine st_ixT 1 hs rfl rfl ?_
              walk_at "go"
              refine ⟨_, _, rfl, h2, ?_⟩
              walk_at "go"
              cases p2 : isPlace d2 with
              | false =>
                rw [isCompare_r p2] at q
                walk_at "go"
                exact q
              | true =>
                obtain ⟨j, hj, rfl⟩ := isPlace_int p2
                cases h2
                walk_at "go"
                refine st_ixT 0 hs rfl rfl ?_
                walk_at "go"
                refine st_ixT 1 hs rfl rfl ?_
                walk_at "go"
                have e : isCompare m (.tuple [.int i, .int j]) = (decide (i < j) && decide (j < m)) := by
                  show (decide (0 ≤ i) && decide (0 ≤ j) && decide (i < j) && decide (j < m)) = _
                  rw [decide_eq_true hi, decide_eq_true hj]
                  rfl
                rw [e] at q
                refine st_y2 (fun h => ?_) (fun h => ?_)
                · rw [decide_eq_true h] at q
                  walk_at "go"
                  refine st_ixT 1 hs rfl rfl ?_
                  walk_at "go"
                  exact q
                · rw [decide_eq_false h] at q
                  exact q
  | bl b => walk_at "go"; exact q
  | int i => walk_at "go"; exact q
  | non => walk_at "go"; exact q
  | str x => walk_at "go"; exact q
  | lst h t => walk_at "go"; exact q
end
def isProg (m : Int) : PyData → Bool
  | .tuple ds => ds.all (isCompare m)
  | _ => false
def sp_is_program (K : PySem.W.Frag) : Sp := fun vs H Q _ => ∃ v d m, vs = [v, .int m] ∧ Dp K H v d ∧ (∀ ds, d = .tuple ds → ds.length ≤ 100000) ∧ ∀ H', Same H H' → Q (.bl (isProg m d)) H'
theorem dpAll_get {K : PySem.W.Frag} {H : Hp} : ∀ {vs : List V} {ds : List PyData} {i : Nat} {v : V}, DpAll K H vs ds → vs[i]? = some v → ∃ d, ds[i]? = some d ∧ Dp K H v d
  | _, _, _, _, .nil, e => by simp at e
  | _, _, 0, _, .cons h _, e => by
    simp at e
    subst e
    exact ⟨_, rfl, h⟩
  | _, _, i + 1, v, .cons _ t, e => by
    obtain ⟨d, h1, h2⟩ := dpAll_get (i := i) (v := v) t (by simpa using e)
    exact ⟨d, by simpa using h1, h2⟩
theorem dpAll_len {K : PySem.W.Frag} {H : Hp} : ∀ {vs : List V} {ds : List PyData}, DpAll K H vs ds → vs.length = ds.length
  | _, _, .nil => rfl
  | _, _, .cons _ t => by simp [dpAll_len t]
def t_is_program (K : PySem.W.Frag) : TS := (tSeq (tIfS (tNot (tB (tCB (rIsi K) (tCons (tVar 0) (tCons (tC (.ty "tuple")) tNil))))) (tRet (tC (.bl false))) tNext)
    (tRet (tCB (rAll K) (tCons (tLc (iTup K (tVar 0)) (gName 2) tYes (tCall (sp_is_compare K) [] E0 (tCons (tVar 2) (tCons (tVar 1) tNil))) [2]) tNil))))
abbrev n_is_program : List Str := ["thing", "places", "one"]
section
variable {K : PySem.W.Frag} {vs : List V} {H : Hp} {Q : VK} {E : XK}
theorem len_is_program (h : sp_is_program K vs H Q E) : vs.length = 2 := by
  obtain ⟨v, d, n, rfl, _⟩ := h
  rfl
theorem rd_is_program (h : sp_is_program K vs H Q E) : t_is_program K { nx := fun _ H' => Q .non H', rt := Q } (start n_is_program vs) H := by
  obtain ⟨v, d, m, rfl, hd, hz, q⟩ := h
  obtain ⟨k1, k2, k3, k4⟩ := kit_all d
  show t_is_program K ⟨_, _, _, _⟩ [some v, some (.int m), none] H
  unfold t_is_program
  walk_at "go"
  refine st_isi hd k3 ?_
  rw [isD_tup]
  cases hd with
  | @tup a xs ds hs ht =>
    dsimp only
    walk_at "go"
    have hl := dpAll_len ht
    have hz' := hz ds rfl
    refine ⟨a, rfl, ⟨xs, hs⟩, fun D hD => ?_⟩
    refine lc_tup (xs := xs) (fun i H' => Same H H' ∧ H' D = some (.lst ((ds.take i).map fun d => V.bl (isCompare m d)))) ⟨same_new hD, upd_same⟩ (fun i H' _ p => sqT_tx (.of p.1) hs) (fun i y H' hy p => ?_) (fun H' p => ?_)
    · obtain ⟨d, h1, h2⟩ := dpAll_get ht hy
      have hi := (List.getElem?_eq_some_iff.mp hy).1
      refine ⟨rfl, ?_⟩
      show tCall (sp_is_compare K) [] E0 (tCons (tVar 2) (tCons (tVar 1) tNil)) [some (V.ref a), some (V.int m), some y] H' _
      walk_at "go"
      refine ⟨_, _, _, rfl, dp_same p.1 h2, ?_⟩
      refine ⟨_, p.2, small' ?_, same_mut p.1 hD, ?_⟩
      · rw [List.length_map, List.length_take]
        omega
      · rw [upd_same, List.take_add_one, h1, List.map_append]
        rfl
    · walk_at "go"
      rw [hl, List.take_length] at p
      refine st_all (bs := ds.map (isCompare m)) (sqL_of ?_) ?_
      · rw [List.map_map]
        exact p.2
      · have e : (ds.map (isCompare m)).all id = isProg m (.tuple ds) := by
          rw [List.all_map]
          rfl
        rw [e]
        exact q H' p.1
  | bl b => walk_at "go"; exact q H (Same.refl H)
  | int i => walk_at "go"; exact q H (Same.refl H)
  | non => walk_at "go"; exact q H (Same.refl H)
  | str x => walk_at "go"; exact q H (Same.refl H)
  | lst h t => walk_at "go"; exact q H (Same.refl H)
end
/-- the places that a program wants -/
def wide : Prog → Nat
  | [] => 0
  | c :: p => max (c.2 + 1) (wide p)
theorem foldl_max_cast : ∀ (p : Prog) (m : Nat), (p.map fun c => ((c.2 : Int) + 1)).foldl max (m : Int) = ((max m (wide p) : Nat) : Int)
  | [], m => by
    show (m : Int) = ((max m 0 : Nat) : Int)
    rw [Nat.max_zero]
  | c :: p, m => by
    show (p.map fun c => ((c.2 : Int) + 1)).foldl max (max (m : Int) ((c.2 : Int) + 1)) = ((max m (max (c.2 + 1) (wide p)) : Nat) : Int)
    have e : max (m : Int) ((c.2 : Int) + 1) = ((max m (c.2 + 1) : Nat) : Int) := by omega
    rw [e, foldl_max_cast p, Nat.max_assoc]
theorem maxOf_wide (p : Prog) : maxOf 0 (p.map fun c => ((c.2 : Int) + 1)) = (wide p : Int) := by
  cases p with
  | nil => rfl
  | cons c p =>
    show (p.map fun c => ((c.2 : Int) + 1)).foldl max ((c.2 : Int) + 1) = _
    have e : ((c.2 : Int) + 1) = ((c.2 + 1 : Nat) : Int) := by omega
    rw [e, foldl_max_cast]
    rfl
theorem dP_at {p : Prog} {i : Nat} {d : PyData} (h : (p.map dC)[i]? = some d) : ∃ c, p[i]? = some c ∧ d = dC c := by
  rw [List.getElem?_map] at h
  cases e : p[i]? with
  | none =>
    rw [e] at h
    cases h
  | some c =>
    rw [e] at h
    exact ⟨c, rfl, (Option.some.inj h).symm⟩
theorem range_map {α β : Type} (l : List α) (a : α) (f : α → β) : (List.range l.length).map (fun i => f (l.getD i a)) = l.map f := by
  apply List.ext_getElem?
  intro i
  rw [List.getElem?_map, List.getElem?_map]
  by_cases h : i < l.length
  · rw [List.getElem?_range h, List.getElem?_eq_getElem h]
    simp [List.getD, List.getElem?_eq_getElem h]
  · rw [List.getElem?_eq_none (by simpa using h), List.getElem?_eq_none (by omega)]
    rfl
def sp_places_of (K : PySem.W.Frag) : Sp := fun vs H Q _ => ∃ v p, vs = [v] ∧ Im K H v (dP p) ∧ p.length ≤ 100000 ∧ ∀ H', Same H H' → Q (.int (wide p)) H'
def t_places_of (K : PySem.W.Frag) : TS := (tRet (tCKw (rMaxD K) (tCons (tLc (iTup K (tVar 0)) (gName 1) tYes (tOp oAdd (tOp (rIxT K) (tVar 1) (tC (.int 1))) (tC (.int 1))) [1]) tNil) (tCons (tC (.int 0)) tNil)))
abbrev n_places_of : List Str := ["program", "one"]
section
variable {K : PySem.W.Frag} {vs : List V} {H : Hp} {Q : VK} {E : XK}
theorem len_places_of (h : sp_places_of K vs H Q E) : vs.length = 1 := by
  obtain ⟨v, p, rfl, _⟩ := h
  rfl
theorem rd_places_of (h : sp_places_of K vs H Q E) : t_places_of K { nx := fun _ H' => Q .non H', rt := Q } (start n_places_of vs) H := by
  obtain ⟨v, p, rfl, hp, hz, q⟩ := h
  show t_places_of K ⟨_, _, _, _⟩ [some v, none] H
  unfold t_places_of
  walk_at "go"
  refine lc_t (K := K) (σw := [some v, none]) hp (fun _ => true) (fun i => .int (((p.getD i (0, 0)).2 : Int) + 1)) rfl (by simp; omega) (fun i d y H' hi s hd CT CF kT kF => ?_) (fun a H2 ys fr s hA hy => ?_)
  · obtain ⟨c, hc, rfl⟩ := dP_at hi
    have e : p.getD i (0, 0) = c := by simp [List.getD, hc]
    walk_at "go"
    refine ⟨rfl, ?_⟩
    walk_at "go"
    refine st_ixI 1 hd rfl rfl (fun w hw => ?_)
    have ew := im_int hw
    subst ew
    walk_at "go"
    refine kT rfl _ _ (Same.refl _) ?_
    rw [e]
    exact .int _
  · walk_at "go"
    rw [given_all, List.length_map, range_map p (0, 0) (fun c => PyData.int ((c.2 : Int) + 1))] at hy
    have ey := imAll_ints (ns := p.map fun c => ((c.2 : Int) + 1)) (by rw [List.map_map]; exact hy)
    subst ey
    refine st_maxD (at_seq hA) ?_
    rw [maxOf_wide]
    exact q H2 s
end
def cellAt (ns : List Int) (k : Nat) : Int := ns.getD k 0
def sp_law_cell_at (K : PySem.W.Frag) : Sp := fun vs H Q _ => ∃ v ns, ∃ k : Nat, vs = [v, .int k] ∧ Scr K H v ns ∧ Q (.int (cellAt ns k)) H
def t_law_cell_at (K : PySem.W.Frag) : TS := (tSeq (tIfS (tTest (tOp oLt (tVar 1) (tCB (cLen K) (tCons (tVar 0) tNil)))) (tRet (tOp (rIxL K) (tVar 0) (tVar 1))) tNext)
    (tRet (tC (.int 0))))
abbrev n_law_cell_at : List Str := ["_law_script", "_law_k"]
section
variable {K : PySem.W.Frag} {vs : List V} {H : Hp} {Q : VK} {E : XK}
theorem len_law_cell_at (h : sp_law_cell_at K vs H Q E) : vs.length = 2 := by
  obtain ⟨v, ns, k, rfl, _⟩ := h
  rfl
theorem rd_law_cell_at (h : sp_law_cell_at K vs H Q E) : t_law_cell_at K { nx := fun _ H' => Q .non H', rt := Q } (start n_law_cell_at vs) H := by
  obtain ⟨v, ns, k, rfl, hs, q⟩ := h
  obtain ⟨a, rfl, _⟩ := id hs
  show t_law_cell_at K ⟨_, _, _, _⟩ [some (.ref a), some (.int k)] H
  unfold t_law_cell_at
  walk_at "go"
  refine st_lenL hs.seq ?_
  walk_at "go"
  rw [List.length_map]
  refine st_y2 (fun h => ?_) (fun h => ?_)
  · walk_at "go"
    have hk : k < ns.length := by omega
    refine st_ixL k hs.seq rfl (by rw [List.getElem?_map, List.getElem?_eq_getElem hk]; rfl) ?_
    have e : cellAt ns k = ns[k] := by simp [cellAt, List.getD, List.getElem?_eq_getElem hk]
    rw [e] at q
    exact q
  · walk_at "go"
    have e : cellAt ns k = 0 := by
      have hk : ns.length ≤ k := by omega
      simp [cellAt, List.getD, List.getElem?_eq_none hk]
    rw [e] at q
    exact q
end
/-- what a script's cell is mixed to -/
def mixed (ns : List Int) (k : Nat) : Nat :=
  let m := ((ns.getD (k % ns.length) 0 + 7919 * (k : Int)) * 48271 % 2147483647).toNat
  m * m % 2147483647
theorem mixed_lt (ns : List Int) (k : Nat) : mixed ns k < 2147483647 := Nat.mod_lt _ (by decide)
def sp_law_mixed (K : PySem.W.Frag) : Sp := fun vs H Q _ => ∃ v ns, ∃ k : Nat, vs = [v, .int k] ∧ Scr K H v ns ∧ Q (.int (mixed ns k)) H
def t_law_mixed (K : PySem.W.Frag) : TS := (tSeq (tAsg (tC (.int 0)) (gName 2))
    (tSeq (tIfS (tTest (tOp oGt (tCB (cLen K) (tCons (tVar 0) tNil)) (tC (.int 0)))) (tAsg (tOp (rIxL K) (tVar 0) (tOp oMod (tVar 1) (tCB (cLen K) (tCons (tVar 0) tNil)))) (gName 2)) tNext)
    (tSeq (tAsg (tOp oMod (tOp oMul (tOp oAdd (tVar 2) (tOp oMul (tC (.int 7919)) (tVar 1))) (tC (.int 48271))) (tC (.int 2147483647))) (gName 3))
    (tRet (tOp oMod (tOp oMul (tVar 3) (tVar 3)) (tC (.int 2147483647)))))))
abbrev n_law_mixed : List Str := ["_law_script", "_law_k", "_law_cell", "_law_number"]
section
variable {K : PySem.W.Frag} {vs : List V} {H : Hp} {Q : VK} {E : XK}
theorem len_law_mixed (h : sp_law_mixed K vs H Q E) : vs.length = 2 := by
  obtain ⟨v, ns, k, rfl, _⟩ := h
  rfl
theorem rd_law_mixed (h : sp_law_mixed K vs H Q E) : t_law_mixed K { nx := fun _ H' => Q .non H', rt := Q } (start n_law_mixed vs) H := by
  obtain ⟨v, ns, k, rfl, hs, q⟩ := h
  obtain ⟨a, rfl, _⟩ := id hs
  show t_law_mixed K ⟨_, _, _, _⟩ [some (.ref a), some (.int k), none, none] H
  unfold t_law_mixed
  walk_at "go"
  refine st_lenL hs.seq ?_
  walk_at "go"
  rw [List.length_map]
  have fin : ∀ cell : Int, cell = ns.getD (k % ns.length) 0 → (tSeq (tAsg (tOp oMod (tOp oMul (tOp oAdd (tVar 2) (tOp oMul (tC (.int 7919)) (tVar 1))) (tC (.int 48271))) (tC (.int 2147483647))) (gName 3)) (tRet (tOp oMod (tOp oMul (tVar 3) (tVar 3)) (tC (.int 2147483647)))))
      ⟨fun _ H' => Q .non H', Q, fun _ _ => False, fun _ _ => False⟩ [some (.ref a), some (.int k), some (.int cell), none] H := fun cell ec => by
    walk_at "go"
    have h0 : 0 ≤ (cell + 7919 * (k : Int)) * 48271 % 2147483647 := Int.emod_nonneg _ (by decide)
    have h1 : (cell + 7919 * (k : Int)) * 48271 % 2147483647 < 2147483647 := Int.emod_lt_of_pos _ (by decide)
    walk_at "go"
    have e : ((mixed ns k : Nat) : Int) = (cell + 7919 * (k : Int)) * 48271 % 2147483647 * ((cell + 7919 * (k : Int)) * 48271 % 2147483647) % 2147483647 := by
      unfold mixed
      rw [← ec]
      generalize (cell + 7919 * (k : Int)) * 48271 % 2147483647 = z at h0 h1
      obtain ⟨w, rfl⟩ := Int.eq_ofNat_of_zero_le h0
      simp
    rw [e] at q
    exact q
  refine st_y2 (fun h => ?_) (fun h => ?_)
  · walk_at "go"
    refine st_lenL hs.seq ?_
    rw [List.length_map]
    walk_at "go"
    have hk : k % ns.length < ns.length := Nat.mod_lt _ (by omega)
    refine st_ixL (k % ns.length) hs.seq (by simp) (by rw [List.getElem?_map, List.getElem?_eq_getElem hk]; rfl) ?_
    refine st_g2 ?_
    exact fin _ (by simp [List.getD, List.getElem?_eq_getElem hk])
  · refine st_next ?_
    refine fin _ ?_
    have e0 : ns = [] := List.eq_nil_of_length_eq_zero (by omega)
    subst e0
    rfl
end
def isWhole : PyData → Bool
  | .int _ => true
  | _ => false
def sp_law_whole (K : PySem.W.Frag) : Sp := fun vs H Q _ => ∃ v d, vs = [v] ∧ Dp K H v d ∧ Q (.bl (isWhole d)) H
def t_law_whole (K : PySem.W.Frag) : TS := (tRet (tAndV (tCB (rIsi K) (tCons (tVar 0) (tCons (tC (.ty "int")) tNil))) (tNotV (tCB (rIsi K) (tCons (tVar 0) (tCons (tC (.ty "bool")) tNil))))))
abbrev n_law_whole : List Str := ["_law_found"]
section
variable {K : PySem.W.Frag} {vs : List V} {H : Hp} {Q : VK} {E : XK}
theorem len_law_whole (h : sp_law_whole K vs H Q E) : vs.length = 1 := by
  obtain ⟨v, d, rfl, _⟩ := h
  rfl
theorem rd_law_whole (h : sp_law_whole K vs H Q E) : t_law_whole K { nx := fun _ H' => Q .non H', rt := Q } (start n_law_whole vs) H := by
  obtain ⟨v, d, rfl, hd, q⟩ := h
  obtain ⟨k1, k2, k3, k4⟩ := kit_all d
  show t_law_whole K ⟨_, _, _, _⟩ [some v] H
  unfold t_law_whole
  walk_at "go"
  refine st_isi hd k1 ?_
  rw [isD_int]
  cases hd with
  | bl b =>
    walk_at "go"
    refine st_isi (.bl b) k2 ?_
    rw [isD_bool]
    dsimp only
    walk_at "go"
    exact q
  | int i =>
    walk_at "go"
    refine st_isi (.int i) k2 ?_
    rw [isD_bool]
    dsimp only
    walk_at "go"
    exact q
  | non => walk_at "go"; exact q
  | str x => walk_at "go"; exact q
  | lst h t => walk_at "go"; exact q
  | tup h t => walk_at "go"; exact q
end
/-- the compare that a number draws -/
def cmpBy (k m : Nat) : Cmp := (k % (m - 1), k % (m - 1) + 1 + (if k / 100000 % 3 = 0 then 0 else k / 1000 % (m - 1 - k % (m - 1))))
def sp_law_compare_by (K : PySem.W.Frag) : Sp := fun vs H Q _ => ∃ k m : Nat, vs = [.int k, .int m] ∧ 2 ≤ m ∧ ∀ v H', Same H H' → Im K H' v (dC (cmpBy k m)) → Q v H'
def t_law_compare_by (K : PySem.W.Frag) : TS := (tSeq (tAsg (tOp oMod (tVar 0) (tOp oSub (tVar 1) (tC (.int 1)))) (gName 2))
    (tSeq (tAsg (tOp oMod (tOp oDiv (tVar 0) (tC (.int 1000))) (tOp oSub (tOp oSub (tVar 1) (tC (.int 1))) (tVar 2))) (gName 3))
    (tSeq (tIfS (tTest (tOp rEq (tOp oMod (tOp oDiv (tVar 0) (tC (.int 100000))) (tC (.int 3))) (tC (.int 0)))) (tAsg (tC (.int 0)) (gName 3)) tNext)
    (tRet (tTup (tCons (tVar 2) (tCons (tOp oAdd (tOp oAdd (tVar 2) (tC (.int 1))) (tVar 3)) tNil)))))))
abbrev n_law_compare_by : List Str := ["_law_number", "_law_places", "_law_low", "_law_far"]
section
variable {K : PySem.W.Frag} {vs : List V} {H : Hp} {Q : VK} {E : XK}
theorem len_law_compare_by (h : sp_law_compare_by K vs H Q E) : vs.length = 2 := by
  obtain ⟨k, m, rfl, _⟩ := h
  rfl
theorem rd_law_compare_by (h : sp_law_compare_by K vs H Q E) : t_law_compare_by K { nx := fun _ H' => Q .non H', rt := Q } (start n_law_compare_by vs) H := by
  obtain ⟨k, m, rfl, hm, q⟩ := h
  obtain ⟨m, rfl⟩ : ∃ j, m = j + 1 := ⟨m - 1, by omega⟩
  show t_law_compare_by K ⟨_, _, _, _⟩ [some (.int k), some (.int (m + 1 : Nat)), none, none] H
  unfold t_law_compare_by
  have e1 : ((m + 1 : Nat) : Int) - 1 = (m : Int) := by omega
  have hl : k % m < m := Nat.mod_lt _ (by omega)
  have e2 : (k : Int) % (m : Int) = ((k % m : Nat) : Int) := (Int.natCast_emod k m).symm
  have e3 : (m : Int) - ((k % m : Nat) : Int) = ((m - k % m : Nat) : Int) := by omega
  have e4 : (k : Int) / 1000 % ((m - k % m : Nat) : Int) = ((k / 1000 % (m - k % m) : Nat) : Int) := by
    rw [Int.natCast_emod]
    rfl
  walk_at "go"
  rw [e1]
  walk_at "go"
  rw [e2]
  walk_at "go"
  rw [e3]
  walk_at "go"
  rw [e4]
  refine st_y2 (fun h => ?_) (fun h => ?_)
  · walk_at "go"
    refine newI (K := K) (ds := [.int _, .int _]) (.cons (.int _) (.cons (.int _) .nil)) (by simp) (fun w H2 s hw => ?_)
    have ec : dC (cmpBy k (m + 1)) = .tuple [.int ((k % m : Nat) : Int), .int (((k % m : Nat) : Int) + 1 + 0)] := by
      unfold cmpBy dC
      rw [if_pos (by omega)]
      rfl
    rw [ec] at q
    exact q w H2 s hw
  · walk_at "go"
    refine newI (K := K) (ds := [.int _, .int _]) (.cons (.int _) (.cons (.int _) .nil)) (by simp) (fun w H2 s hw => ?_)
    have ec : dC (cmpBy k (m + 1)) = .tuple [.int ((k % m : Nat) : Int), .int (((k % m : Nat) : Int) + 1 + ((k / 1000 % (m - k % m) : Nat) : Int))] := by
      unfold cmpBy dC
      rw [if_neg (by omega)]
      rfl
    rw [ec] at q
    exact q w H2 s hw
end
/-! ### programs of so many places -/
def okC (m : Nat) (c : Cmp) : Prop := c.1 < c.2 ∧ c.2 < m
def okP (m : Nat) (p : Prog) : Prop := ∀ c ∈ p, okC m c
theorem cmpBy_ok {k m : Nat} (hm : 2 ≤ m) : okC m (cmpBy k m) := by
  have h1 : k % (m - 1) < m - 1 := Nat.mod_lt _ (by omega)
  have h2 : k / 1000 % (m - 1 - k % (m - 1)) < m - 1 - k % (m - 1) := Nat.mod_lt _ (by omega)
  unfold okC cmpBy
  constructor
  · show k % (m - 1) < k % (m - 1) + 1 + _
    omega
  · show k % (m - 1) + 1 + _ < m
    split <;> omega
theorem isCompare_ok {m : Nat} {c : Cmp} (h : okC m c) : isCompare m (dC c) = true := by
  obtain ⟨h1, h2⟩ := h
  show (decide ((0 : Int) ≤ c.1) && decide ((0 : Int) ≤ c.2) && decide ((c.1 : Int) < c.2) && decide ((c.2 : Int) < m)) = true
  rw [decide_eq_true (by omega), decide_eq_true (by omega), decide_eq_true (by omega), decide_eq_true (by omega)]
  rfl
theorem isProg_ok {m : Nat} {p : Prog} (h : okP m p) : isProg m (dP p) = true := by
  show (p.map dC).all (isCompare m) = true
  rw [List.all_eq_true]
  intro d hd
  obtain ⟨c, hc, rfl⟩ := List.mem_map.mp hd
  exact isCompare_ok (h c hc)
theorem imAll_map {K : PySem.W.Frag} {H : Hp} {α : Type} {f : α → PyData} {l : List α} {vs : List V} {i : Nat} {a : α} (h : ImAll K H vs (l.map f)) (e : l[i]? = some a) : ∃ v, vs[i]? = some v ∧ Im K H v (f a) := h.at (by rw [List.getElem?_map, e]; rfl)
theorem scr_of {K : PySem.W.Frag} {H : Hp} {a : Addr} {ns : List Int} (hO : Only H) (h : SqL K H a (ns.map V.int)) : Scr K H (.ref a) ns := by
  refine ⟨a, rfl, ?_⟩
  rcases h with (h | ⟨o, h⟩) | h
  · rcases hO a with z | ⟨o, xs, z⟩
    · exact nomatch (z.symm.trans h)
    · exact nomatch (z.symm.trans h)
  · exact .inl ⟨o, h⟩
  · exact .inr (.inr h)
/-! ### == of data -/
def Sh (n : Nat) (d : PyData) : Prop := d.canLay0 = true ∧ d.depth ≤ n
theorem Sh.mono {m n : Nat} {d : PyData} (h : Sh m d) (e : m ≤ n) : Sh n d := ⟨h.1, Nat.le_trans h.2 e⟩
theorem Sh.shaped {n : Nat} {d : PyData} (h : Sh n d) (e : n ≤ 64) : SeqAt.shaped d = true := by
  unfold SeqAt.shaped
  rw [h.1, decide_eq_true (Nat.le_trans h.2 e)]
  rfl
theorem sh_int {n : Nat} (i : Int) : Sh n (.int i) := ⟨by simp [PyData.canLay0], by simp [PyData.depth]⟩
theorem sh_non {n : Nat} : Sh n .none := ⟨by simp [PyData.canLay0], by simp [PyData.depth]⟩
theorem sh_bl {n : Nat} (b : Bool) : Sh n (.bool b) := ⟨by simp [PyData.canLay0], by simp [PyData.depth]⟩
theorem sh_all {n : Nat} : ∀ {ds : List PyData}, (∀ d ∈ ds, Sh n d) → PyData.canLayAll0 ds = true ∧ PyData.depthAll ds ≤ n
  | [], _ => ⟨by simp [PyData.canLayAll0], by simp [PyData.depthAll]⟩
  | d :: ds, h => by
    obtain ⟨a, b⟩ := sh_all fun x hx => h x (List.mem_cons_of_mem _ hx)
    obtain ⟨c, e⟩ := h d List.mem_cons_self
    constructor
    · rw [PyData.canLayAll0, a, c]
      rfl
    · rw [PyData.depthAll]
      omega
theorem sh_tup {n : Nat} {ds : List PyData} (h : ∀ d ∈ ds, Sh n d) : Sh (n + 1) (.tuple ds) := by
  obtain ⟨a, b⟩ := sh_all h
  exact ⟨by rw [PyData.canLay0]; exact a, by rw [PyData.depth]; omega⟩
theorem sh_list {n : Nat} {ds : List PyData} (h : ∀ d ∈ ds, Sh n d) : Sh (n + 1) (.list ds) := by
  obtain ⟨a, b⟩ := sh_all h
  exact ⟨by rw [PyData.canLay0]; exact a, by rw [PyData.depth]; omega⟩
theorem sh_map {n : Nat} {α : Type} {f : α → PyData} {l : List α} (h : ∀ a ∈ l, Sh n (f a)) : ∀ d ∈ l.map f, Sh n d := fun d hd => by
  obtain ⟨a, ha, rfl⟩ := List.mem_map.mp hd
  exact h a ha
theorem sh_dC {n : Nat} (c : Cmp) : Sh (n + 1) (dC c) := sh_tup fun d hd => by
  simp only [List.mem_cons, List.not_mem_nil, or_false] at hd
  rcases hd with rfl | rfl <;> exact sh_int _
theorem sh_dP (p : Prog) : Sh 2 (dP p) := sh_tup (sh_map fun c _ => sh_dC c)
theorem sh_ints (ns : List Int) : ∀ d ∈ ns.map PyData.int, Sh 0 d := sh_map fun i _ => sh_int i
theorem eqv_self {n : Nat} {d : PyData} (h : Sh n d) : PyData.eqv d d = true := SeqAt.eqv_refl d h.1
theorem eqvAll_map {α : Type} [DecidableEq α] {f : α → PyData} (h : ∀ a b, PyData.eqv (f a) (f b) = decide (a = b)) : ∀ l m : List α, PyData.eqvAll (l.map f) (m.map f) = decide (l = m)
  | [], [] => by simp [PyData.eqvAll]
  | [], b :: m => by simp [PyData.eqvAll]
  | a :: l, [] => by simp [PyData.eqvAll]
  | a :: l, b :: m => by
    show PyData.eqvAll (f a :: l.map f) (f b :: m.map f) = _
    rw [PyData.eqvAll, h, eqvAll_map h l m]
    by_cases e : a = b
    · subst e
      by_cases q : l = m
      · subst q
        simp
      · simp [q]
    · simp [e]
theorem eqv_int (a b : Int) : PyData.eqv (.int a) (.int b) = decide (a = b) := by
  rw [PyData.eqv]
  by_cases e : a = b <;> simp [e]
theorem eqv_dC (a b : Cmp) : PyData.eqv (dC a) (dC b) = decide (a = b) := by
  obtain ⟨a1, a2⟩ := a
  obtain ⟨b1, b2⟩ := b
  show PyData.eqv (.tuple [.int a1, .int a2]) (.tuple [.int b1, .int b2]) = _
  rw [PyData.eqv, PyData.eqvAll, PyData.eqvAll, PyData.eqvAll, eqv_int, eqv_int]
  by_cases e : a1 = b1 <;> by_cases q : a2 = b2 <;> simp [e, q] <;> omega
theorem eqv_dP (p q : Prog) : PyData.eqv (dP p) (dP q) = decide (p = q) := by
  show PyData.eqv (.tuple (p.map dC)) (.tuple (q.map dC)) = _
  rw [PyData.eqv]
  exact eqvAll_map eqv_dC p q
/-! ### rows of things, and what a program does to them -/
inductive Mrk where
  | n
  | i (k : Int)
  | s (k : _root_.Fin 9)
  deriving DecidableEq
def dM : Mrk → PyData
  | .n => .none
  | .i k => .int k
  | .s k => .str (toString (k.val : Int))
abbrev Thing := Int × Mrk
abbrev Row := List Thing
def dT (t : Thing) : PyData := .tuple [.int t.1, dM t.2]
def dR (r : Row) : PyData := .tuple (r.map dT)
/-- numbers as values -/
def nV (ks : List Nat) : List V := ks.map fun (k : Nat) => V.int (k : Int)
theorem nV_app (a b : List Nat) : nV (a ++ b) = nV a ++ nV b := List.map_append
theorem nV_len (a : List Nat) : (nV a).length = a.length := List.length_map _
def noT : Thing := (0, .n)
def key (r : Row) (i : Nat) : Int := (r.getD i noT).1
def swaps (r : Row) (c : Cmp) : Bool := decide (key r c.2 < key r c.1)
def stepR (r : Row) (c : Cmp) : Row := if swaps r c = true then (r.set c.1 (r.getD c.2 noT)).set c.2 (r.getD c.1 noT) else r
def goR (p : Prog) (r : Row) : Row := p.foldl stepR r
def chg : Nat → Prog → Row → List Nat
  | _, [], _ => []
  | k, c :: p, r => (if swaps r c = true then [k] else []) ++ chg (k + 1) p (stepR r c)
theorem stepR_len (r : Row) (c : Cmp) : (stepR r c).length = r.length := by
  unfold stepR
  split <;> simp
theorem goR_len : ∀ (p : Prog) (r : Row), (goR p r).length = r.length
  | [], _ => rfl
  | c :: p, r => by
    show (goR p (stepR r c)).length = r.length
    rw [goR_len p, stepR_len]
theorem goR_take {p : Prog} {r : Row} {i : Nat} {c : Cmp} (h : p[i]? = some c) : goR (p.take (i + 1)) r = stepR (goR (p.take i) r) c := by
  unfold goR
  rw [List.take_add_one, h, List.foldl_append]
  rfl
theorem chg_app : ∀ (k : Nat) (p q : Prog) (r : Row), chg k (p ++ q) r = chg k p r ++ chg (k + p.length) q (goR p r)
  | k, [], q, r => by simp [chg, goR]
  | k, c :: p, q, r => by
    show (if swaps r c = true then [k] else []) ++ chg (k + 1) (p ++ q) (stepR r c) = _
    rw [chg_app (k + 1) p q]
    show _ = ((if swaps r c = true then [k] else []) ++ chg (k + 1) p (stepR r c)) ++ chg (k + (p.length + 1)) q (goR p (stepR r c))
    rw [List.append_assoc, show k + 1 + p.length = k + (p.length + 1) by omega]
theorem chg_take {p : Prog} {r : Row} {i : Nat} {c : Cmp} (h : p[i]? = some c) : chg 0 (p.take (i + 1)) r = chg 0 (p.take i) r ++ (if swaps (goR (p.take i) r) c = true then [i] else []) := by
  have hi : i < p.length := (List.getElem?_eq_some_iff.mp h).1
  rw [List.take_add_one, h, chg_app]
  show _ ++ (_ ++ []) = _
  rw [List.append_nil, List.length_take, Nat.zero_add, Nat.min_eq_left (Nat.le_of_lt hi)]
theorem chg_len : ∀ (k : Nat) (p : Prog) (r : Row), (chg k p r).length ≤ p.length
  | _, [], _ => Nat.le_refl _
  | k, c :: p, r => by
    have h := chg_len (k + 1) p (stepR r c)
    show ((if swaps r c = true then [k] else []) ++ chg (k + 1) p (stepR r c)).length ≤ p.length + 1
    rw [List.length_append]
    split <;> simp <;> omega
theorem wide_le : ∀ {p : Prog} {c : Cmp}, c ∈ p → c.2 < wide p
  | d :: p, c, h => by
    show c.2 < max (d.2 + 1) (wide p)
    rcases List.mem_cons.mp h with rfl | h
    · omega
    · have := wide_le h
      omega
theorem wide_ok {m : Nat} : ∀ {p : Prog}, okP m p → wide p ≤ m
  | [], _ => Nat.zero_le _
  | c :: p, h => by
    have h1 := (h c List.mem_cons_self).2
    have h2 := wide_ok (p := p) fun d hd => h d (List.mem_cons_of_mem _ hd)
    show max (c.2 + 1) (wide p) ≤ m
    omega
/-- its compares' places rise -/
def upP (p : Prog) : Prop := ∀ c ∈ p, c.1 < c.2
theorem okP.up {m : Nat} {p : Prog} (h : okP m p) : upP p := fun c hc => (h c hc).1
theorem row_at {r : Row} {i : Nat} (h : i < r.length) : (r.map dT)[i]? = some (.tuple [.int (key r i), dM (r.getD i noT).2]) := by
  rw [List.getElem?_map, List.getElem?_eq_getElem h]
  simp [key, dT, List.getD, List.getElem?_eq_getElem h]
theorem row_set (r : Row) (i : Nat) (t : Thing) : (r.map dT).set i (dT t) = (r.set i t).map dT := List.map_set.symm
theorem dT_getD {r : Row} {i : Nat} (h : i < r.length) : dT (r.getD i noT) = .tuple [.int (key r i), dM (r.getD i noT).2] := rfl
/-- the neighbours' compares that order -/
def stepRow (l : Nat) : Prog := (List.range (l + 1)).map fun k => (l - k, l + 1 - k)
def stepsOf (m : Nat) : Prog := (List.range (m - 1)).flatMap stepRow
theorem stepsOf_ok (m : Nat) : okP m (stepsOf m) := fun c hc => by
  obtain ⟨l, hl, hc⟩ := List.mem_flatMap.mp hc
  obtain ⟨k, hk, rfl⟩ := List.mem_map.mp hc
  have h1 := List.mem_range.mp hl
  have h2 := List.mem_range.mp hk
  constructor
  · show l - k < l + 1 - k
    omega
  · show l + 1 - k < m
    omega
theorem flat_succ (m : Nat) : (List.range (m + 1)).flatMap stepRow = (List.range m).flatMap stepRow ++ stepRow m := by
  rw [List.range_succ, List.flatMap_append]
  simp
theorem stepRow_take {l j : Nat} (h : j < l + 1) : (stepRow l).take (j + 1) = (stepRow l).take j ++ [(l - j, l + 1 - j)] := by
  rw [List.take_add_one]
  congr 1
  unfold stepRow
  rw [List.getElem?_map, List.getElem?_range h]
  rfl
theorem stepRow_len (l : Nat) : (stepRow l).length = l + 1 := by simp [stepRow]
theorem steps_len : ∀ m : Nat, ((List.range m).flatMap stepRow).length ≤ m * 1000 + 0 ∨ 1000 ≤ m
  | 0 => .inl (by simp)
  | m + 1 => by
    rcases steps_len m with h | h
    · by_cases q : 1000 ≤ m + 1
      · exact .inr q
      · refine .inl ?_
        rw [flat_succ, List.length_append, stepRow_len]
        omega
    · exact .inr (by omega)
theorem stepsOf_len {m : Nat} (h : m ≤ 100) : (stepsOf m).length ≤ 100000 := by
  unfold stepsOf
  rcases steps_len (m - 1) with q | q <;> omega
/-- a new list of programs' compares -/
def NewP (K : PySem.W.Frag) (H : Hp) (p : Prog) (Q : VK) : Prop := ∀ a H' xs, Same H H' → Fr H a → At H' a (.lst xs) → ImAll K H' xs (p.map dC) → Q (.ref a) H'
def sp_law_steps (K : PySem.W.Frag) : Sp := fun vs H Q _ => ∃ m : Nat, vs = [.int m] ∧ m ≤ 100 ∧ NewP K H (stepsOf m) Q
def t_law_steps (K : PySem.W.Frag) : TS := (tSeq (tAsg (tLst tNil) (gName 1))
    (tSeq (tFor (iRng2 (tCons (tC (.int 1)) (tCons (tVar 0) tNil))) (gName 2) (tFor (iRng1 (tCons (tVar 2) tNil)) (gName 3) (tDrop (tBM K "list" rAppend (tVar 1) (tCons (tTup (tCons (tOp oSub (tOp oSub (tVar 2) (tC (.int 1))) (tVar 3)) (tCons (tOp oSub (tVar 2) (tVar 3)) tNil))) tNil)))))
    (tRet (tVar 1))))
abbrev n_law_steps : List Str := ["_law_places", "_law_found", "_law_last", "_law_k"]
section
variable {K : PySem.W.Frag} {vs : List V} {H : Hp} {Q : VK} {E : XK}
theorem len_law_steps (h : sp_law_steps K vs H Q E) : vs.length = 1 := by
  obtain ⟨m, rfl, _⟩ := h
  rfl
theorem rd_law_steps (h : sp_law_steps K vs H Q E) : t_law_steps K { nx := fun _ H' => Q .non H', rt := Q } (start n_law_steps vs) H := by
  obtain ⟨m, rfl, hm, q⟩ := h
  show t_law_steps K ⟨_, _, _, _⟩ [some (.int m), none, none, none] H
  unfold t_law_steps
  walk_at "go"
  refine newL (by simp) (fun f H1 nf s1 af => ?_)
  walk_at "go"
  refine st_r2 (m - 1) (by omega) (by omega) (by omega) ?_
  refine loop_r (fun i σ' H' => Same H H' ∧ (∃ xs, At H' f (.lst xs) ∧ ImAll K H' xs (((List.range i).flatMap stepRow).map dC)) ∧ ∃ a b, σ' = [some (.int m), some (.ref f), a, b]) ⟨s1, ⟨[], af, .nil⟩, none, none, rfl⟩ (fun l σ' H' hl w => ?_) (fun σ' H' w => ?_)
  · obtain ⟨s, ⟨xs, af, xf⟩, a, b, rfl⟩ := w
    walk_at "go"
    refine st_r1 (l + 1) (by omega) (by omega) ?_
    refine loop_r0 (fun j σ' H' => Same H H' ∧ (∃ xs, At H' f (.lst xs) ∧ ImAll K H' xs (((List.range l).flatMap stepRow ++ (stepRow l).take j).map dC)) ∧ ∃ b, σ' = [some (.int m), some (.ref f), some (.int (1 + (l : Int))), b]) ⟨s, ⟨xs, af, by simpa using xf⟩, b, rfl⟩ (fun j σ' H' hj w => ?_) (fun σ' H' w => ?_)
    · obtain ⟨s, ⟨xs, af, xf⟩, b, rfl⟩ := w
      walk_at "go"
      refine st_tyL af ?_
      walk_at "go"
      refine newI (K := K) (.cons (.int _) (.cons (.int _) .nil)) (by simp) (fun w2 H2 s2 i2 => ?_)
      walk_at "go"
      have zl := xf.length
      have hlen : xs.length ≤ 100000 := by
        rw [zl, List.length_map, List.length_append, List.length_take, stepRow_len]
        rcases steps_len l with h | h <;> omega
      refine st_app (same_at s2 af) (by omega) (fun H3 b3 a3 => ?_)
      refine ⟨same_bx (s.trans s2) b3 nf, ⟨_, a3, ?_⟩, _, rfl⟩
      rw [stepRow_take hj, ← List.append_assoc, List.map_append]
      have ec : (PyData.tuple [.int (1 + (l : Int) - 1 - (j : Int)), .int (1 + (l : Int) - (j : Int))]) = dC (l - j, l + 1 - j) := by
        unfold dC
        congr 2
        · congr 1
          show _ = ((l - j : Nat) : Int)
          omega
        · congr 2
          show _ = ((l + 1 - j : Nat) : Int)
          omega
      rw [ec] at i2
      exact ((xf.same s2).tx (bx_tx b3)).snoc (i2.tx (bx_tx b3))
    · obtain ⟨s, ⟨xs, af, xf⟩, b, rfl⟩ := w
      refine ⟨s, ⟨xs, af, ?_⟩, _, _, rfl⟩
      rw [List.take_of_length_le (by rw [stepRow_len]; exact Nat.le_refl _)] at xf
      rw [flat_succ]
      exact xf
  · obtain ⟨s, ⟨xs, af, xf⟩, a, b, rfl⟩ := w
    walk_at "go"
    exact q f H' xs s nf af xf
end
theorem map_erase {α β : Type} (g : α → β) : ∀ (l : List α) (i : Nat), (l.eraseIdx i).map g = (l.map g).eraseIdx i
  | [], _ => rfl
  | _ :: _, 0 => rfl
  | a :: l, i + 1 => congrArg (List.cons (g a)) (map_erase g l i)
def insAt {α : Type} (f : List α) (i : Nat) (c : α) : List α := f.take i ++ [c] ++ f.drop i
theorem insAt_map {α β : Type} (g : α → β) (f : List α) (i : Nat) (c : α) : (insAt f i c).map g = insAt (f.map g) i (g c) := by simp [insAt, List.map_take, List.map_drop]
theorem insAt_len {α : Type} {f : List α} {i : Nat} {c : α} : (insAt f i c).length = f.length + 1 := by
  unfold insAt
  simp
  omega
/-- one drawn compare put in, in one way another left out -/
def drawIn (ns : List Int) (at_ m way : Nat) (f : Prog) (k : Nat) : Prog :=
  let z := mixed ns (at_ + 1 + k)
  let g := insAt f (z / 7 % (f.length + 1)) (cmpBy z m)
  if way = 4 ∧ k % 2 = 0 then g.eraseIdx (z / 11 % g.length) else g
def baseOf (m way : Nat) : Prog := if way > 2 then (if way = 5 then (stepsOf m).reverse else stepsOf m) else []
def progBy (ns : List Int) (at_ m many : Nat) : Prog := if m < 2 then [] else (List.range many).foldl (drawIn ns at_ m (mixed ns at_ % 6)) (baseOf m (mixed ns at_ % 6))
theorem okP_ins {m : Nat} {f : Prog} {i : Nat} {c : Cmp} (h : okP m f) (hc : okC m c) : okP m (insAt f i c) := fun d hd => by
  unfold insAt at hd
  rw [List.append_assoc] at hd
  rcases List.mem_append.mp hd with q | q
  · exact h d (List.mem_of_mem_take q)
  · rcases List.mem_append.mp q with q | q
    · rw [List.mem_singleton.mp q]
      exact hc
    · exact h d (List.mem_of_mem_drop q)
theorem okP_draw {ns : List Int} {at_ m way : Nat} {f : Prog} {k : Nat} (hm : 2 ≤ m) (h : okP m f) : okP m (drawIn ns at_ m way f k) := by
  have g := okP_ins (i := mixed ns (at_ + 1 + k) / 7 % (f.length + 1)) h (cmpBy_ok (k := mixed ns (at_ + 1 + k)) hm)
  unfold drawIn
  dsimp only
  split
  · exact fun d hd => g d (List.mem_of_mem_eraseIdx hd)
  · exact g
theorem draw_len {ns : List Int} {at_ m way : Nat} {f : Prog} {k : Nat} : (drawIn ns at_ m way f k).length ≤ f.length + 1 := by
  unfold drawIn
  dsimp only
  split
  · exact Nat.le_trans (List.length_eraseIdx_le _ _) (Nat.le_of_eq insAt_len)
  · exact Nat.le_of_eq insAt_len
theorem draws_ok {ns : List Int} {at_ m way : Nat} (hm : 2 ≤ m) : ∀ (l : List Nat) {f : Prog}, okP m f → okP m (l.foldl (drawIn ns at_ m way) f)
  | [], _, h => h
  | k :: l, _, h => draws_ok hm l (okP_draw hm h)
theorem draws_len {ns : List Int} {at_ m way : Nat} : ∀ (l : List Nat) (f : Prog), (l.foldl (drawIn ns at_ m way) f).length ≤ f.length + l.length
  | [], _ => Nat.le_refl _
  | k :: l, f => by
    have h1 := draws_len (ns := ns) (at_ := at_) (m := m) (way := way) l (drawIn ns at_ m way f k)
    have h2 := draw_len (ns := ns) (at_ := at_) (m := m) (way := way) (f := f) (k := k)
    show ((l.foldl (drawIn ns at_ m way) (drawIn ns at_ m way f k)).length) ≤ f.length + (l.length + 1)
    omega
theorem base_ok (m way : Nat) : okP m (baseOf m way) := fun c hc => by
  unfold baseOf at hc
  split at hc
  · split at hc
    · exact stepsOf_ok m c (List.mem_reverse.mp hc)
    · exact stepsOf_ok m c hc
  · cases hc
theorem base_len {m way : Nat} (h : m ≤ 100) : (baseOf m way).length ≤ 100000 := by
  have := stepsOf_len h
  unfold baseOf
  split
  · split
    · rw [List.length_reverse]
      exact this
    · exact this
  · exact Nat.zero_le _
theorem progBy_ok (ns : List Int) (at_ m many : Nat) : okP m (progBy ns at_ m many) := by
  unfold progBy
  split
  · exact fun c hc => nomatch hc
  · exact draws_ok (by omega) _ (base_ok m _)
theorem progBy_len {ns : List Int} {at_ m many : Nat} (h : m ≤ 100) : (progBy ns at_ m many).length ≤ 100000 + many := by
  unfold progBy
  split
  · exact Nat.zero_le _
  · have h1 := draws_len (ns := ns) (at_ := at_) (m := m) (way := mixed ns at_ % 6) (List.range many) (baseOf m (mixed ns at_ % 6))
    have h2 := base_len (way := mixed ns at_ % 6) h
    rw [List.length_range] at h1
    omega
theorem imAll_ins {K : PySem.W.Frag} {H : Hp} {vs : List V} {ds : List PyData} {v : V} {d : PyData} (i : Nat) (h : ImAll K H vs ds) (h2 : Im K H v d) : ImAll K H (vs.take i ++ [v] ++ vs.drop i) (insAt ds i d) := ((h.take i).append (.cons h2 .nil)).append (h.drop i)
def sp_law_program_by (K : PySem.W.Frag) : Sp := fun vs H Q _ => ∃ v ns, ∃ at_ m many : Nat, vs = [v, .int at_, .int m, .int many] ∧ Scr K H v ns ∧ m ≤ 100 ∧ many ≤ 1000 ∧ ∀ w H', Same H H' → Im K H' w (dP (progBy ns at_ m many)) → Q w H'
def t_law_program_by (K : PySem.W.Frag) : TS := (tSeq (tIfS (tTest (tOp oLt (tVar 2) (tC (.int 2)))) (tRet (tTup tNil)) tNext)
    (tSeq (tAsg (tOp oMod (tCall (sp_law_mixed K) [] E0 (tCons (tVar 0) (tCons (tVar 1) tNil))) (tC (.int 6))) (gName 4))
    (tSeq (tAsg (tLst tNil) (gName 5))
    (tSeq (tIfS (tTest (tOp oGt (tVar 4) (tC (.int 2)))) (tAsg (tCall (sp_law_steps K) [] E0 (tCons (tVar 2) tNil)) (gName 5)) tNext)
    (tSeq (tIfS (tTest (tOp rEq (tVar 4) (tC (.int 5)))) (tAsg (tRevL K (tVar 5)) (gName 5)) tNext)
    (tSeq (tFor (iRng1 (tCons (tVar 3) tNil)) (gName 6) (tSeq (tAsg (tCall (sp_law_mixed K) [] E0 (tCons (tVar 0) (tCons (tOp oAdd (tOp oAdd (tVar 1) (tC (.int 1))) (tVar 6)) tNil))) (gName 7))
    (tSeq (tAsg (tCall (sp_law_compare_by K) [] E0 (tCons (tVar 7) (tCons (tVar 2) tNil))) (gName 8))
    (tSeq (tDrop (tBM K "list" mIns (tVar 5) (tCons (tOp oMod (tOp oDiv (tVar 7) (tC (.int 7))) (tOp oAdd (tCB (cLen K) (tCons (tVar 5) tNil)) (tC (.int 1)))) (tCons (tVar 8) tNil))))
    (tIfS (tAnd (tTest (tOp rEq (tVar 4) (tC (.int 4)))) (tTest (tOp rEq (tOp oMod (tVar 6) (tC (.int 2))) (tC (.int 0))))) (tDrop (tBM K "list" rPopAt (tVar 5) (tCons (tOp oMod (tOp oDiv (tVar 7) (tC (.int 11))) (tCB (cLen K) (tCons (tVar 5) tNil))) tNil))) tNext)))))
    (tRet (tCB (cTup K) (tCons (tVar 5) tNil)))))))))
abbrev n_law_program_by : List Str := ["_law_script", "_law_at", "_law_places", "_law_many", "_law_way", "_law_found", "_law_k", "_law_number", "_law_one"]
section
variable {K : PySem.W.Frag} {vs : List V} {H : Hp} {Q : VK} {E : XK}
theorem len_law_program_by (h : sp_law_program_by K vs H Q E) : vs.length = 4 := by
  obtain ⟨v, ns, a, m, k, rfl, _⟩ := h
  rfl
theorem rd_law_program_by (h : sp_law_program_by K vs H Q E) : t_law_program_by K { nx := fun _ H' => Q .non H', rt := Q } (start n_law_program_by vs) H := by
  obtain ⟨v, ns, at_, m, many, rfl, hs, hm, hk, q⟩ := h
  show t_law_program_by K ⟨_, _, _, _⟩ [some v, some (.int at_), some (.int m), some (.int many), none, none, none, none, none] H
  unfold t_law_program_by
  walk_at "go"
  refine st_y2 (fun h2 => ?_) (fun h2 => ?_)
  · walk_at "go"
    refine newI (K := K) .nil (by simp) (fun w H1 s1 i1 => ?_)
    have e : progBy ns at_ m many = [] := by
      unfold progBy
      rw [if_pos (by omega)]
    rw [e] at q
    exact q w H1 s1 i1
  · have h2' : 2 ≤ m := by omega
    have ep : progBy ns at_ m many = (List.range many).foldl (drawIn ns at_ m (mixed ns at_ % 6)) (baseOf m (mixed ns at_ % 6)) := by
      unfold progBy
      rw [if_neg (by omega)]
    rw [ep] at q
    walk_at "go"
    refine ⟨v, ns, at_, rfl, hs, ?_⟩
    walk_at "go"
    obtain ⟨way, ew⟩ : ∃ way, way = mixed ns at_ % 6 := ⟨_, rfl⟩
    have ew' : ((mixed ns at_ : Nat) : Int) % 6 = (way : Int) := by omega
    rw [ew']
    rw [← ew] at q
    refine newL (by simp) (fun f0 H1 nf0 s1 af0 => ?_)
    -- behind the choice of what is begun with
    have key : ∀ f H2 xs, Same H H2 → Fr H f → At H2 f (.lst xs) → ImAll K H2 xs ((baseOf m way).map dC) → tSeq (tFor (iRng1 (tCons (tVar 3) tNil)) (gName 6)
        (tSeq (tAsg (tCall (sp_law_mixed K) [] E0 (tCons (tVar 0) (tCons (tOp oAdd (tOp oAdd (tVar 1) (tC (.int 1))) (tVar 6)) tNil))) (gName 7))
        (tSeq (tAsg (tCall (sp_law_compare_by K) [] E0 (tCons (tVar 7) (tCons (tVar 2) tNil))) (gName 8))
        (tSeq (tDrop (tBM K "list" mIns (tVar 5) (tCons (tOp oMod (tOp oDiv (tVar 7) (tC (.int 7))) (tOp oAdd (tCB (cLen K) (tCons (tVar 5) tNil)) (tC (.int 1)))) (tCons (tVar 8) tNil))))
        (tIfS (tAnd (tTest (tOp rEq (tVar 4) (tC (.int 4)))) (tTest (tOp rEq (tOp oMod (tVar 6) (tC (.int 2))) (tC (.int 0))))) (tDrop (tBM K "list" rPopAt (tVar 5) (tCons (tOp oMod (tOp oDiv (tVar 7) (tC (.int 11))) (tCB (cLen K) (tCons (tVar 5) tNil))) tNil))) tNext)))))
        (tRet (tCB (cTup K) (tCons (tVar 5) tNil))) ⟨fun _ H' => Q .non H', Q, fun _ _ => False, fun _ _ => False⟩ [some v, some (.int at_), some (.int m), some (.int many), some (.int way), some (.ref f), none, none, none] H2 := fun f H2 xs s2 nf af xf => by
      walk_at "go"
      refine st_r1 many rfl (by omega) ?_
      have lb : (baseOf m way).length ≤ 100000 := base_len hm
      refine loop_r0 (fun i σ' H' => Same H H' ∧ (∃ xs, At H' f (.lst xs) ∧ ImAll K H' xs (((List.range i).foldl (drawIn ns at_ m way) (baseOf m way)).map dC)) ∧ ∃ a b c, σ' = [some v, some (.int at_), some (.int m), some (.int many), some (.int way), some (.ref f), a, b, c]) ⟨s2, ⟨xs, af, xf⟩, none, none, none, rfl⟩ (fun i σ' H' hi w => ?_) (fun σ' H' w => ?_)
      · obtain ⟨s, ⟨xs, af, xf⟩, a, b, c, rfl⟩ := w
        obtain ⟨g, eg⟩ : ∃ g, g = (List.range i).foldl (drawIn ns at_ m way) (baseOf m way) := ⟨_, rfl⟩
        rw [← eg] at xf
        have enext : (List.range (i + 1)).foldl (drawIn ns at_ m way) (baseOf m way) = drawIn ns at_ m way g i := by
          rw [List.range_succ, List.foldl_append, ← eg]
          rfl
        have lg : g.length ≤ 101000 := by
          have := draws_len (ns := ns) (at_ := at_) (m := m) (way := way) (List.range i) (baseOf m way)
          rw [← eg, List.length_range] at this
          omega
        rw [enext]
        walk_at "go"
        have e1 : (at_ : Int) + 1 + (i : Int) = ((at_ + 1 + i : Nat) : Int) := by omega
        rw [e1]
        refine ⟨v, ns, _, rfl, hs.tx (.of s), ?_⟩
        walk_at "go"
        obtain ⟨z, ez⟩ : ∃ z, z = mixed ns (at_ + 1 + i) := ⟨_, rfl⟩
        rw [← ez]
        refine ⟨z, m, rfl, h2', fun w3 H3 s3 i3 => ?_⟩
        walk_at "go"
        have af3 := same_at s3 af
        refine st_tyL af3 ?_
        walk_at "go"
        refine st_lenL (at_seq af3) ?_
        have lx := xf.length
        rw [List.length_map] at lx
        rw [lx]
        have ei : (z : Int) / 7 % ((g.length : Int) + 1) = ((z / 7 % (g.length + 1) : Nat) : Int) := by
          rw [Int.natCast_emod]
          rfl
        walk_at "go"
        rw [ei]
        refine st_ins af3 (by omega) (by
          have : z / 7 % (g.length + 1) < g.length + 1 := Nat.mod_lt _ (by omega)
          omega) (fun H4 b4 a4 => ?_)
        rw [Int.toNat_natCast] at a4
        have s4 : Same H H4 := same_bx (s.trans s3) b4 nf
        have x4 := imAll_ins (z / 7 % (g.length + 1)) ((xf.same s3).tx (bx_tx b4)) (i3.tx (bx_tx b4))
        rw [← insAt_map] at x4
        have l4 : (insAt g (z / 7 % (g.length + 1)) (cmpBy z m)).length = g.length + 1 := insAt_len
        have edraw : drawIn ns at_ m way g i = if way = 4 ∧ i % 2 = 0 then (insAt g (z / 7 % (g.length + 1)) (cmpBy z m)).eraseIdx (z / 11 % (insAt g (z / 7 % (g.length + 1)) (cmpBy z m)).length) else insAt g (z / 7 % (g.length + 1)) (cmpBy z m) := by
          unfold drawIn
          rw [← ez]
        have fin : ¬ (way = 4 ∧ i % 2 = 0) → Same H H4 ∧ (∃ xs, At H4 f (.lst xs) ∧ ImAll K H4 xs ((drawIn ns at_ m way g i).map dC)) ∧ ∃ a b c, [some v, some (V.int at_), some (.int m), some (.int many), some (.int way), some (.ref f), some (.int i), some (.int z), some w3] = [some v, some (.int at_), some (.int m), some (.int many), some (.int way), some (.ref f), a, b, c] := fun hno => by
          refine ⟨s4, ⟨_, a4, ?_⟩, _, _, _, rfl⟩
          rw [edraw, if_neg hno]
          exact x4
        walk_at "go"
        refine st_y2 (fun hw4 => ?_) (fun hw4 => ?_)
        · walk_at "go"
          refine st_y2 (fun hi2 => ?_) (fun hi2 => ?_)
          · walk_at "go"
            refine st_tyL a4 ?_
            walk_at "go"
            refine st_lenL (at_seq a4) ?_
            have lx4 := x4.length
            rw [List.length_map, l4] at lx4
            rw [lx4]
            have ej : (z : Int) / 11 % ((g.length + 1 : Nat) : Int) = ((z / 11 % (g.length + 1) : Nat) : Int) := by
              rw [Int.natCast_emod]
              rfl
            walk_at "go"
            have hlt : z / 11 % (g.length + 1) < g.length + 1 := Nat.mod_lt _ (by omega)
            rw [ej]
            refine st_popAt a4 rfl (by omega) (List.getElem?_eq_getElem (by rw [lx4]; exact hlt)) (fun H5 b5 a5 => ?_)
            refine ⟨same_bx s4 b5 nf, ⟨_, a5, ?_⟩, _, _, _, rfl⟩
            rw [edraw, if_pos ⟨by omega, by omega⟩, l4]
            have := (x4.tx (bx_tx b5)).eraseIdx (z / 11 % (g.length + 1))
            rw [← map_erase] at this
            exact this
          · walk_at "go"
            exact fin (fun h => hi2 (by omega))
        · walk_at "go"
          exact fin (fun h => hw4 (by omega))
      · obtain ⟨s, ⟨xs, af, xf⟩, a, b, c, rfl⟩ := w
        walk_at "go"
        refine st_tupI (at_seq af) xf (fun w3 H3 s3 i3 => ?_)
        exact q w3 H3 (s.trans s3) i3
    walk_at "gt"
    walk_at "go1"
    walk_at "gt"
    refine st_y2 (fun hw2 => ?_) (fun hw2 => ?_)
    · walk_at "gt"
      refine ⟨m, rfl, hm, fun f H2 xs s2 nf af xf => ?_⟩
      walk_at "gt"
      walk_at "go1"
      walk_at "gt"
      refine st_y2 (fun hw5 => ?_) (fun hw5 => ?_)
      · walk_at "gt"
        refine st_revL (at_seq af) (fun f3 H3 n3 s3 a3 => ?_)
        walk_at "gt"
        refine key f3 H3 _ ((s1.trans s2).trans s3) (same_none (s1.trans s2) n3) a3 ?_
        have e : baseOf m way = (stepsOf m).reverse := by
          unfold baseOf
          rw [if_pos (by omega), if_pos (by omega)]
        rw [e, List.map_reverse]
        exact (xf.same s3).reverse
      · walk_at "gt"
        refine key f H2 xs (s1.trans s2) (same_none s1 nf) af ?_
        have e : baseOf m way = stepsOf m := by
          unfold baseOf
          rw [if_pos (by omega), if_neg (by omega)]
        rw [e]
        exact xf
    · walk_at "gt"
      walk_at "go1"
      walk_at "gt"
      refine key f0 H1 [] s1 nf0 af0 ?_
      have e : baseOf m way = [] := by
        unfold baseOf
        rw [if_neg (by omega)]
      rw [e]
      exact .nil
end
/-! ### the suite's looks at what was caught -/
theorem st_isE {K : PySem.W.Frag} {mg : Str → Option Value} {x : Str} {D C a : Addr} {b : Bool} {H : Hp} {Q : VK} (X : ExcK K mg x C) (sd : PySem.W.subIn K (.ref D) (.ref D) = some true) (s : subRef K D C b) (q : Q (.bl b) H) : rIsE K D a [.ref a, .ref C] H Q := ⟨.ref C, .ref C, b, rfl, fun _ r => r, kit_ref X sd s, q⟩
theorem st_isE0 {K : PySem.W.Frag} {D a : Addr} {H : Hp} {Q : VK} (X : PySem.W.keepIn K (.ref D) = true) (sd : PySem.W.subIn K (.ref D) (.ref D) = some true) (q : Q (.bl true) H) : rIsE K D a [.ref a, .ref D] H Q := ⟨.ref D, .ref D, true, rfl, fun _ r => r, by
  unfold PySem.W.kitOne
  rw [if_pos (by simp)], q⟩
theorem st_isEv {K : PySem.W.Frag} {D a : Addr} {H : Hp} {Q : VK} (s : PySem.W.subIn K (.ref D) (.type "ValueError") = some true) (q : Q (.bl true) H) : rIsE K D a [.ref a, .ty "ValueError"] H Q := ⟨.ty "ValueError", .type "ValueError", true, rfl, fun _ r => r, kit_val s, q⟩
/-- what a raise of the class is answered by within try .. except F -/
theorem st_as {K : PySem.W.Frag} {C F : Addr} {i : Nat} {ts : Addr → TS} {Wo : WX} {D : Ends} {σ : L2.St} {H : Hp} (ck : CaughtK K C F) (h : ∀ a, H a = none → ts a { nx := fun σ' H' => D.nx (σ'.set i none) H', rt := D.rt, bk := fun σ' H' => D.bk (σ'.set i none) H', ct := fun σ' H' => D.ct (σ'.set i none) H' } (σ.set i (some (.ref a))) H) :
    wAs K (.ref F) i (fun a cls d => tWhen (cls = .ref C ∧ d = none) (ts a)) Wo D (.ref C) none σ H := ⟨true, ck.ex, fun _ a ha => ⟨⟨rfl, rfl⟩, h a ha⟩, fun e => nomatch e⟩
theorem nums_im {K : PySem.W.Frag} {H : Hp} : ∀ l : List Nat, ImAll K H (nV l) (l.map fun (k : Nat) => PyData.int (k : Int))
  | [] => .nil
  | k :: l => .cons (.int _) (nums_im l)
theorem nums_dp {K : PySem.W.Frag} {H : Hp} (l : List Nat) : DpAll K H (nV l) (l.map fun (k : Nat) => PyData.int (k : Int)) := (nums_im l).dp
theorem sh_nums (l : List Nat) : Sh 1 (.list (l.map fun (k : Nat) => PyData.int (k : Int))) := sh_list (sh_map fun i _ => sh_int _)
theorem base_small {m way : Nat} (h : m ≤ 100) : (baseOf m way).length ≤ 99000 := by
  have h1 : (stepsOf m).length ≤ 99000 := by
    unfold stepsOf
    rcases steps_len (m - 1) with q | q <;> omega
  unfold baseOf
  split
  · split
    · rw [List.length_reverse]
      exact h1
    · exact h1
  · exact Nat.zero_le _
theorem progBy_small {ns : List Int} {at_ m many : Nat} (h : m ≤ 100) (hm : many ≤ 1000) : (progBy ns at_ m many).length ≤ 100000 := by
  unfold progBy
  split
  · exact Nat.zero_le _
  · have h1 := draws_len (ns := ns) (at_ := at_) (m := m) (way := mixed ns at_ % 6) (List.range many) (baseOf m (mixed ns at_ % 6))
    have h2 := base_small (way := mixed ns at_ % 6) h
    rw [List.length_range] at h1
    omega
/-! ### a list of new lists of data -/
def LoL (K : PySem.W.Frag) (H0 H : Hp) (f : Addr) (L : List (List PyData)) : Prop := ∃ as : List Addr, At H f (.lst (as.map V.ref)) ∧ as.length = L.length ∧ (∀ (i : Nat) (a : Addr) (l : List PyData), as[i]? = some a → L[i]? = some l → ∃ xs, At H a (.lst xs) ∧ ImAll K H xs l) ∧ (∀ a ∈ as, Fr H0 a ∧ a ≠ f ∧ ∃ xs, At H a (.lst xs)) ∧ as.Nodup
section
variable {K : PySem.W.Frag} {H0 H H' : Hp} {f : Addr} {L : List (List PyData)}
theorem LoL.nil (h : At H f (.lst [])) : LoL K H0 H f [] := ⟨[], h, rfl, fun i a l e => by simp at e, (fun a h => by cases h), List.nodup_nil⟩
theorem LoL.same (h : LoL K H0 H f L) (s : Same H H') : LoL K H0 H' f L := by
  obtain ⟨as, h1, h2, h3, h4, h5⟩ := h
  refine ⟨as, same_at s h1, h2, fun i a l e1 e2 => ?_, fun a ha => ?_, h5⟩
  · obtain ⟨xs, q1, q2⟩ := h3 i a l e1 e2
    exact ⟨xs, same_at s q1, q2.same s⟩
  · obtain ⟨q1, q2, xs, q3⟩ := h4 a ha
    exact ⟨q1, q2, xs, same_at s q3⟩
/-- another object changes -/
theorem LoL.other {l : Addr} (h : LoL K H0 H f L) (b : Bx l H H') (hf : f ≠ l) (hn : ∀ a xs, At H a (.lst xs) → a = l → False) : LoL K H0 H' f L := by
  obtain ⟨as, h1, h2, h3, h4, h5⟩ := h
  have keep : ∀ {a : Addr} {xs : List V}, At H a (.lst xs) → At H' a (.lst xs) := fun {a xs} q => (at_bx b q).resolve_left (hn a xs q)
  refine ⟨as, (at_bx b h1).resolve_left hf, h2, fun i a l e1 e2 => ?_, fun a ha => ?_, h5⟩
  · obtain ⟨xs, q1, q2⟩ := h3 i a l e1 e2
    exact ⟨xs, keep q1, q2.tx (bx_tx b)⟩
  · obtain ⟨q1, q2, xs, q3⟩ := h4 a ha
    exact ⟨q1, q2, xs, keep q3⟩
theorem LoL.len (h : LoL K H0 H f L) : ∃ xs, At H f (.lst xs) ∧ xs.length = L.length := by
  obtain ⟨as, h1, h2, _⟩ := h
  exact ⟨_, h1, by rw [List.length_map, h2]⟩
theorem LoL.dp (h : LoL K H0 H f L) : Dp K H (.ref f) (.list (L.map .list)) := by
  obtain ⟨as, h1, h2, h3, h4, h5⟩ := h
  refine .lst (at_seq h1) ?_
  clear h1 h4 h5
  induction as generalizing L with
  | nil =>
    have : L = [] := List.eq_nil_of_length_eq_zero (by simpa using h2.symm)
    subst this
    exact .nil
  | cons a as ih =>
    cases L with
    | nil => simp at h2
    | cons l L =>
      refine .cons ?_ (ih (by simpa using h2) fun i a l e1 e2 => h3 (i + 1) a l (by simpa using e1) (by simpa using e2))
      obtain ⟨xs, q1, q2⟩ := h3 0 a l rfl rfl
      exact .lst (at_seq q1) q2.dp
/-- one more, empty -/
theorem LoL.more {p : Addr} (h : LoL K H0 H f L) (s : Same H0 H) (np : Fr H p) {H1 H2 : Hp} {xs : List V} (hf : At H f (.lst xs)) (s1 : Same H H1) (ap : At H1 p (.lst [])) (b : Bx f H1 H2) (a2 : At H2 f (.lst (xs ++ [.ref p]))) : LoL K H0 H2 f (L ++ [[]]) := by
  obtain ⟨as, h1, h2, h3, h4, h5⟩ := h
  have e : xs = as.map V.ref := by
    have := h1.symm.trans hf
    cases this
    rfl
  subst e
  have keep : ∀ {a : Addr} {xs : List V}, At H1 a (.lst xs) → a ≠ f → At H2 a (.lst xs) := fun q ne => (at_bx b q).resolve_left ne
  have npf : p ≠ f := fun e => by
    subst e
    exact nomatch (np.symm.trans hf)
  refine ⟨as ++ [p], ?_, by simp [h2], fun i a l e1 e2 => ?_, fun a ha => ?_, ?_⟩
  · rw [List.map_append]
    exact a2
  · by_cases hi : i < as.length
    · rw [List.getElem?_append_left hi] at e1
      rw [List.getElem?_append_left (by omega)] at e2
      obtain ⟨ys, q1, q2⟩ := h3 i a l e1 e2
      obtain ⟨_, ne, _⟩ := h4 a (List.mem_of_getElem? e1)
      exact ⟨ys, keep (same_at s1 q1) ne, (q2.same s1).tx (bx_tx b)⟩
    · have hi2 : i = as.length := by
        have := (List.getElem?_eq_some_iff.mp e1).1
        simp at this
        omega
      subst hi2
      rw [List.getElem?_append_right (Nat.le_refl _), Nat.sub_self] at e1
      rw [h2, List.getElem?_append_right (Nat.le_refl _), Nat.sub_self] at e2
      cases e1
      cases e2
      exact ⟨[], keep ap npf, .nil⟩
  · rcases List.mem_append.mp ha with ha | ha
    · obtain ⟨q1, q2, ys, q3⟩ := h4 a ha
      exact ⟨q1, q2, ys, keep (same_at s1 q3) q2⟩
    · rw [List.mem_singleton.mp ha]
      exact ⟨same_none s np, npf, [], keep ap npf⟩
  · rw [List.nodup_append]
    refine ⟨h5, by simp, fun a ha b hb => ?_⟩
    rw [List.mem_singleton.mp hb]
    intro e
    subst e
    obtain ⟨_, _, ys, q3⟩ := h4 a ha
    exact nomatch (np.symm.trans q3)
/-- the list at a place -/
theorem LoL.at {i : Nat} (h : LoL K H0 H f L) (hi : i < L.length) : ∃ a ys xs, At H f (.lst ys) ∧ ys[i]? = some (.ref a) ∧ At H a (.lst xs) ∧ ImAll K H xs L[i] ∧ Fr H0 a ∧ a ≠ f := by
  obtain ⟨as, h1, h2, h3, h4, h5⟩ := h
  have hi' : i < as.length := by omega
  obtain ⟨xs, q1, q2⟩ := h3 i as[i] L[i] (List.getElem?_eq_getElem hi') (List.getElem?_eq_getElem hi)
  obtain ⟨z1, z2, _⟩ := h4 as[i] (List.getElem_mem hi')
  exact ⟨as[i], _, xs, h1, by rw [List.getElem?_map, List.getElem?_eq_getElem hi']; rfl, q1, q2, z1, z2⟩
/-- one more datum in the list at a place -/
theorem LoL.put {i : Nat} {v : V} {d : PyData} (h : LoL K H0 H f L) (hi : i < L.length) {a : Addr} {ys xs : List V} (hf : At H f (.lst ys)) (hy : ys[i]? = some (.ref a)) (ha : At H a (.lst xs)) (b : Bx a H H') (a2 : At H' a (.lst (xs ++ [v]))) (hv : Im K H' v d) : LoL K H0 H' f (L.set i (L[i] ++ [d])) := by
  obtain ⟨as, h1, h2, h3, h4, h5⟩ := h
  have e : ys = as.map V.ref := by
    have := h1.symm.trans hf
    cases this
    rfl
  subst e
  have hi' : i < as.length := by omega
  have ea : as[i] = a := by
    rw [List.getElem?_map, List.getElem?_eq_getElem hi'] at hy
    cases hy
    rfl
  have nef : a ≠ f := by
    rw [← ea]
    exact (h4 as[i] (List.getElem_mem hi')).2.1
  refine ⟨as, (at_bx b h1).resolve_left nef.symm, by simp [h2], fun j a' l e1 e2 => ?_, fun a' ha' => ?_, h5⟩
  · by_cases ej : j = i
    · subst ej
      rw [List.getElem?_eq_getElem hi'] at e1
      have e1 := Option.some.inj e1
      rw [List.getElem?_set_self hi] at e2
      have e2 := Option.some.inj e2
      subst e2
      have e3 : a' = a := e1.symm.trans ea
      subst e3
      obtain ⟨zs, q1, q2⟩ := h3 j a' L[j] (by rw [List.getElem?_eq_getElem hi', ea]) (List.getElem?_eq_getElem hi)
      have e4 := q1.symm.trans ha
      cases e4
      exact ⟨_, a2, (q2.tx (bx_tx b)).snoc hv⟩
    · rw [List.getElem?_set_ne (fun z => ej z.symm)] at e2
      obtain ⟨zs, q1, q2⟩ := h3 j a' l e1 e2
      have ne : a' ≠ a := fun z => by
        subst z
        have hj := (List.getElem?_eq_some_iff.mp e1).1
        have ej2 : as[j] = as[i] := by
          rw [ea]
          exact (List.getElem?_eq_some_iff.mp e1).2
        have pw := List.pairwise_iff_getElem.mp h5
        rcases Nat.lt_or_gt_of_ne ej with z | z
        · exact pw j i hj hi' z ej2
        · exact pw i j hi' hj z ej2.symm
      exact ⟨zs, (at_bx b q1).resolve_left ne, q2.tx (bx_tx b)⟩
  · obtain ⟨q1, q2, zs, q3⟩ := h4 a' ha'
    by_cases e : a' = a
    · subst e
      exact ⟨q1, q2, _, a2⟩
    · exact ⟨q1, q2, zs, (at_bx b q3).resolve_left e⟩
/-- [list(one) for one in a tuple of tuples of data] -/
theorem lc_lists {x : V} {L : List (List PyData)} {g : TG} {t : TT} {te : TE} {vs : List Nat} {σ σw : L2.St} {Q : VK} (hp : Im K H x (.tuple (L.map .tuple))) (hw : wipe σ vs = σw) (hm : L.length ≤ 1000000)
    (hs : ∀ (i : Nat) (l : List PyData) (y : V) (H' : Hp), L[i]? = some l → Same H H' → Im K H' y (.tuple l) → ∀ (CT : VK) (CF : Hp → Prop), (∀ a H4 xs, Same H' H4 → Fr H' a → At H4 a (.lst xs) → ImAll K H4 xs l → CT (.ref a) H4) → g y σw H' fun σ2 H2 => wipe σ2 vs = σw ∧ t σ2 H2 fun k H3 => if k = true then te σ2 H3 CT else CF H3)
    (h : ∀ p H2, Fr H p → Same H H2 → LoL K H H2 p L → Q (.ref p) H2) : ∃ a, x = .ref a ∧ (∃ xs, SqT K H a xs) ∧ LoopC (Itt K a) g t te vs σ Q H := by
  obtain ⟨a, xs, rfl, hs0, ht⟩ := im_tup hp
  have el := ht.length
  rw [List.length_map] at el
  subst hw
  refine ⟨a, rfl, ⟨xs, hs0⟩, fun D hD => lc_tup (xs := xs) (fun i H' => H D = none ∧ Same H H' ∧ LoL K H H' D (L.take i)) ⟨hD, same_new hD, .nil upd_same⟩ (fun i H' _ p => sqT_tx (.of p.2.1) hs0) (fun i y H' hy p => ?_) fun H2 ⟨_, q2, q3⟩ => ?_⟩
  · obtain ⟨d, h1, h2⟩ := ht.get hy
    rw [List.getElem?_map] at h1
    obtain ⟨l, hl, rfl⟩ := Option.map_eq_some_iff.mp h1
    obtain ⟨p1, p2, p3⟩ := p
    refine hs i l y H' hl p2 (h2.same p2) _ _ (fun b H4 ys s4 nb a4 x4 => ?_)
    obtain ⟨as, z1, z2, z3, z4, z5⟩ := p3
    have hi := (List.getElem?_eq_some_iff.mp hl).1
    rw [List.length_take] at z2
    have z1' := same_at s4 z1
    have bD : b ≠ D := fun e => by
      subst e
      exact nomatch (nb.symm.trans z1)
    refine ⟨_, z1', small' (by simp; omega), p1, same_mut (p2.trans s4) p1, as ++ [b], ?_, by simp; omega, fun j a' l' e1 e2 => ?_, fun a' ha' => ?_, ?_⟩
    · rw [List.map_append]
      exact upd_same
    · have hb := bx_upd (o := .lst (as.map V.ref ++ [V.ref b])) z1'
      by_cases hj : j < as.length
      · rw [List.getElem?_append_left hj] at e1
        have e3 : (L.take i)[j]? = some l' := by
          rw [List.getElem?_take] at e2 ⊢
          rw [if_pos (by omega)] at e2
          rw [if_pos (by omega)]
          exact e2
        obtain ⟨zs, q1, q2⟩ := z3 j a' l' e1 e3
        obtain ⟨_, ne, _⟩ := z4 a' (List.mem_of_getElem? e1)
        exact ⟨zs, (at_bx hb (same_at s4 q1)).resolve_left ne, (q2.same s4).tx (bx_tx hb)⟩
      · have hj2 : j = as.length := by
          have := (List.getElem?_eq_some_iff.mp e1).1
          simp at this
          omega
        subst hj2
        rw [List.getElem?_append_right (Nat.le_refl _), Nat.sub_self] at e1
        cases e1
        have e4 : as.length = i := by omega
        rw [e4, List.getElem?_take, if_pos (by omega), hl] at e2
        cases e2
        exact ⟨ys, (at_bx hb a4).resolve_left bD, x4.tx (bx_tx hb)⟩
    · have hb := bx_upd (o := .lst (as.map V.ref ++ [V.ref b])) z1'
      rcases List.mem_append.mp ha' with ha' | ha'
      · obtain ⟨q1, q2, zs, q3⟩ := z4 a' ha'
        exact ⟨q1, q2, zs, (at_bx hb (same_at s4 q3)).resolve_left q2⟩
      · rw [List.mem_singleton.mp ha']
        exact ⟨same_none p2 nb, bD, ys, (at_bx hb a4).resolve_left bD⟩
    · rw [List.nodup_append]
      refine ⟨z5, by simp, fun a' ha' b' hb' => ?_⟩
      rw [List.mem_singleton.mp hb']
      intro e
      subst e
      obtain ⟨_, _, zs, q3⟩ := z4 a' ha'
      exact nomatch (nb.symm.trans q3)
  · rw [show L.take xs.length = L from List.take_of_length_le (by omega)] at q3
    exact h D H2 hD q2 q3
end
/-! ### layers -/
def touch (P : Nat → Bool) : Nat → Nat
  | 0 => 0
  | n + 1 => if P n = true then n + 1 else touch P n
theorem touch_le (P : Nat → Bool) : ∀ n, touch P n ≤ n
  | 0 => Nat.le_refl 0
  | n + 1 => by
    unfold touch
    split
    · exact Nat.le_refl _
    · exact Nat.le_succ_of_le (touch_le P n)
theorem touch_or (P Q : Nat → Bool) : ∀ n, touch (fun k => P k || Q k) n = max (touch P n) (touch Q n)
  | 0 => rfl
  | n + 1 => by
    have hp := touch_le P n
    have hq := touch_le Q n
    have ih := touch_or P Q n
    unfold touch
    cases h1 : P n <;> cases h2 : Q n <;> simp <;> omega
theorem touch_congr {P Q : Nat → Bool} : ∀ {n : Nat}, (∀ k, k < n → P k = Q k) → touch P n = touch Q n
  | 0, _ => rfl
  | n + 1, h => by
    unfold touch
    rw [h n (Nat.lt_succ_self n), touch_congr fun k hk => h k (by omega)]
/-- nothing from a on -/
theorem touch_top {P : Nat → Bool} {a : Nat} : ∀ {n : Nat}, touch P n ≤ a → ∀ k, a ≤ k → k < n → P k = false
  | 0, _, k, _, hk => absurd hk (by omega)
  | n + 1, h, k, h1, h2 => by
    unfold touch at h
    split at h
    · omega
    · rename_i hp
      by_cases e : k = n
      · subst e
        rw [← Bool.not_eq_true]
        exact hp
      · exact touch_top h k h1 (by omega)
theorem touch_at {P : Nat → Bool} {a : Nat} : ∀ {n : Nat}, a < n → P a = true → (∀ k, a < k → k < n → P k = false) → touch P n = a + 1
  | 0, h, _, _ => absurd h (by omega)
  | n + 1, h, hp, hk => by
    unfold touch
    by_cases e : a = n
    · subst e
      rw [if_pos hp]
    · rw [if_neg (by rw [hk n (by omega) (by omega)]; decide)]
      exact touch_at (by omega) hp fun k h1 h2 => hk k h1 (by omega)
theorem touch_skip {P : Nat → Bool} : ∀ {n : Nat}, P n = false → touch P (n + 1) = touch P n := fun {n} h => by
  show (if P n = true then n + 1 else touch P n) = _
  rw [if_neg (by rw [h]; decide)]
abbrev Lays := List Prog
def on (x : Nat) (o : Cmp) : Bool := decide (o.1 = x) || decide (o.2 = x)
def has (L : Lays) (x k : Nat) : Bool := (L.getD k []).any (on x)
/-- the first layer behind those that have the place -/
def freeOf (L : Lays) (x : Nat) : Nat := touch (has L x) L.length
def layerOf (L : Lays) (c : Cmp) : Nat := touch (fun k => (L.getD k []).any fun o => on c.1 o || on c.2 o) L.length
theorem any_or {α : Type} (f g : α → Bool) : ∀ l : List α, (l.any fun a => f a || g a) = (l.any f || l.any g)
  | [] => rfl
  | a :: l => by
    simp only [List.any_cons, any_or f g l]
    cases f a <;> cases g a <;> simp
theorem layerOf_max (L : Lays) (c : Cmp) : layerOf L c = max (freeOf L c.1) (freeOf L c.2) := by
  unfold layerOf freeOf
  rw [← touch_or]
  congr 1
  funext k
  exact any_or _ _ _
def addAt (L : Lays) (a : Nat) (c : Cmp) : Lays :=
  let M := if a = L.length then L ++ [[]] else L
  M.set a (M.getD a [] ++ [c])
def layStep (L : Lays) (c : Cmp) : Lays := addAt L (layerOf L c) c
def layersOf (p : Prog) : Lays := p.foldl layStep []
theorem layerOf_le (L : Lays) (c : Cmp) : layerOf L c ≤ L.length := touch_le _ _
theorem addAt_len {L : Lays} {a : Nat} {c : Cmp} : (addAt L a c).length = if a = L.length then L.length + 1 else L.length := by
  unfold addAt
  dsimp only
  rw [List.length_set]
  split <;> simp
theorem addAt_get {L : Lays} {a : Nat} {c : Cmp} (h : a ≤ L.length) (k : Nat) : (addAt L a c).getD k [] = if k = a then L.getD a [] ++ [c] else L.getD k [] := by
  unfold addAt
  dsimp only
  unfold List.getD
  rw [List.getElem?_set]
  by_cases e : a = L.length
  · subst e
    rw [if_pos rfl]
    by_cases q : L.length = k
    · subst q
      simp
    · rw [if_neg q, if_neg (fun z => q z.symm)]
      rcases Nat.lt_or_gt_of_ne q with z | z
      · rw [List.getElem?_eq_none (by simp; omega), List.getElem?_eq_none (by omega)]
      · rw [List.getElem?_append_left z]
  · rw [if_neg e]
    by_cases q : a = k
    · subst q
      simp
      rw [if_pos (by omega)]
      rfl
    · rw [if_neg q, if_neg (fun z => q z.symm)]
theorem free_add {L : Lays} {a : Nat} {c : Cmp} {x : Nat} (h : a ≤ L.length) (hx : freeOf L x ≤ a ∨ on x c = false) : freeOf (addAt L a c) x = if on x c = true then a + 1 else freeOf L x := by
  have hg : ∀ k, has (addAt L a c) x k = if k = a then (has L x a || on x c) else has L x k := fun k => by
    unfold has
    rw [addAt_get h]
    split
    · rw [List.any_append]
      simp
    · rfl
  cases ho : on x c with
  | true =>
    rw [if_pos rfl]
    have hx := hx.resolve_right (by rw [ho]; decide)
    unfold freeOf at hx ⊢
    apply touch_at
    · rw [addAt_len]
      split <;> omega
    · rw [hg, if_pos rfl, ho]
      simp
    · intro k h1 h2
      rw [hg, if_neg (by omega)]
      rw [addAt_len] at h2
      apply touch_top hx k (by omega)
      split at h2 <;> omega
  | false =>
    rw [if_neg (by decide)]
    have hsame : ∀ k, has (addAt L a c) x k = has L x k := fun k => by
      rw [hg]
      split
      · rename_i e
        rw [ho, e]
        simp
      · rfl
    unfold freeOf
    rw [addAt_len]
    split
    · rw [touch_skip]
      · exact touch_congr fun k _ => hsame k
      · rw [hsame]
        unfold has List.getD
        rw [List.getElem?_eq_none (Nat.le_refl _)]
        rfl
    · exact touch_congr fun k _ => hsame k
theorem layersOf_take {p : Prog} {i : Nat} {c : Cmp} (h : p[i]? = some c) : layersOf (p.take (i + 1)) = layStep (layersOf (p.take i)) c := by
  unfold layersOf
  rw [List.take_add_one, h, List.foldl_append]
  rfl
theorem layersOf_len : ∀ (p : Prog) (L : Lays), (p.foldl layStep L).length ≤ L.length + p.length
  | [], _ => Nat.le_refl _
  | c :: p, L => by
    have h1 := layersOf_len p (layStep L c)
    have h2 : (layStep L c).length ≤ L.length + 1 := by
      unfold layStep
      rw [addAt_len]
      split <;> omega
    show (p.foldl layStep (layStep L c)).length ≤ L.length + (p.length + 1)
    omega
def dLs (L : Lays) : PyData := .tuple ((L.map fun l => l.map dC).map .tuple)
def dLL (L : Lays) : List (List PyData) := L.map fun l => l.map dC
/-- the compares laid: never more than so many -/
theorem layStep_sum (L : Lays) (c : Cmp) : ∀ k, ((layStep L c).getD k []).length ≤ (L.getD k []).length + 1 := fun k => by
  unfold layStep
  rw [addAt_get (layerOf_le L c)]
  split
  · rename_i e
    subst e
    rw [List.length_append]
    exact Nat.le_refl _
  · omega
theorem layers_each : ∀ (p : Prog) (L : Lays) (n : Nat), (∀ k, (L.getD k []).length ≤ n) → ∀ k, ((p.foldl layStep L).getD k []).length ≤ n + p.length
  | [], _, n, h, k => h k
  | c :: p, L, n, h, k => by
    have := layers_each p (layStep L c) (n + 1) (fun k => Nat.le_trans (layStep_sum L c k) (by have := h k; omega)) k
    show ((p.foldl layStep (layStep L c)).getD k []).length ≤ n + (p.length + 1)
    omega
/-! ### dicts of whole-number keys -/
theorem st_dnew {σ : L2.St} {H : Hp} {Q : VK} (h : ∀ p H2, Fr H p → Same H H2 → At H2 p (.dK []) → Q (.ref p) H2) : tDNewK σ H Q := fun p np => h p _ np (same_new np) upd_same
def PutD (x y v : V) (H : Hp) (Q : Hp → Prop) : Prop := ∃ a H4, x = .ref a ∧ DPut H a y v H4 ∧ Q H4
theorem st_dput {td ty tv : TE} {σ : L2.St} {H : Hp} {n : L2.St → Hp → Prop} {r : VK} {b c : L2.St → Hp → Prop} (h : tv σ H fun v H1 => td σ H1 fun x H2 => ty σ H2 fun y H3 => PutD x y v H3 fun H4 => n σ H4) : sDPut td ty tv ⟨n, r, b, c⟩ σ H := h
theorem st_put {a : Addr} {kvs : List (Key × V)} {i : Int} {v : V} {H : Hp} {Q : Hp → Prop} (ha : At H a (.dK kvs)) (hz : kvs.length < 1000000) (h : ∀ H2, Bx a H H2 → At H2 a (.dK (putK kvs (.inl i) v)) → Q H2) : PutD (.ref a) (.int i) v H Q :=
  ⟨a, _, rfl, DPut.k (k := .inl i) ha (small' (by omega)), h _ (bx_updD ha) upd_same⟩
def InD (neg : Bool) (y x : V) (H : Hp) (Q : VK) : Prop := ∃ a o, x = .ref a ∧ DGet H a y o ∧ Q (.bl (if neg then !o.isSome else o.isSome)) H
theorem st_din {td ty : TE} {σ : L2.St} {H : Hp} {Q : VK} (h : ty σ H fun y H1 => td σ H1 fun x H2 => InD false y x H2 Q) : tDIn ty td σ H Q := h
theorem st_dnotin {td ty : TE} {σ : L2.St} {H : Hp} {Q : VK} (h : ty σ H fun y H1 => td σ H1 fun x H2 => InD true y x H2 Q) : tDNotIn ty td σ H Q := h
theorem st_inD {a : Addr} {kvs : List (Key × V)} {i : Int} {neg : Bool} {H : Hp} {Q : VK} (ha : At H a (.dK kvs)) (h : Q (.bl (if neg then !(valV kvs (.inl i)).isSome else (valV kvs (.inl i)).isSome)) H) : InD neg (.int i) (.ref a) H Q := ⟨a, _, rfl, DGet.k (k := .inl i) ha, h⟩
def Get2D (ty tx : TE) (σ : L2.St) (x : V) (H : Hp) (Q : VK) : Prop := ∃ a, x = .ref a ∧ IsD H a ∧ ty σ H fun y H2 => tx σ H2 fun z H3 => ∃ o, DGet H3 a y o ∧ Q (o.getD z) H3
theorem st_dget2 {td ty tx : TE} {σ : L2.St} {H : Hp} {Q : VK} (h : td σ H fun x H1 => Get2D ty tx σ x H1 Q) : tDGet2 td ty tx σ H Q := h
theorem st_get2 {a : Addr} {kvs : List (Key × V)} {ty tx : TE} {σ : L2.St} {H : Hp} {Q : VK} (ha : At H a (.dK kvs)) (h : ty σ H fun y H2 => tx σ H2 fun z H3 => ∃ o, DGet H3 a y o ∧ Q (o.getD z) H3) : Get2D ty tx σ (.ref a) H Q := ⟨a, rfl, .inl ⟨kvs, .inl ha⟩, h⟩
theorem st_got {a : Addr} {kvs : List (Key × V)} {i : Int} {z : V} {H : Hp} {Q : VK} (ha : At H a (.dK kvs)) (h : Q ((valV kvs (.inl i)).getD z) H) : ∃ o, DGet H a (.int i) o ∧ Q (o.getD z) H := ⟨_, DGet.k (k := .inl i) ha, h⟩
theorem putK_len {kvs : List (Key × V)} {k : Key} {v : V} : (putK kvs k v).length ≤ kvs.length + 1 := by
  unfold putK
  split
  · simp
  · simp
local macro_rules | `(tactic| walk_at "g1") => `(tactic| first | with_reducible refine st_dnew ?_ | with_reducible refine st_dput ?_ | with_reducible refine st_din ?_ | with_reducible refine st_dnotin ?_ | with_reducible refine st_dget2 ?_)
def sp_law_layer_of (K : PySem.W.Frag) : Sp := fun vs H Q _ => ∃ H0 f ov L c, vs = [.ref f, ov] ∧ LoL K H0 H f (dLL L) ∧ Im K H ov (dC c) ∧ L.length ≤ 100000 ∧ (∀ k, (L.getD k []).length ≤ 100000) ∧ Q (.int (layerOf L c : Nat)) H
theorem inV_pair (x a b : Nat) : inV (.int (x : Int)) [V.int (a : Int), .int (b : Int)] = (decide (a = x) || decide (b = x)) := by
  show (decide ((a : Int) = (x : Int)) || (decide ((b : Int) = (x : Int)) || false)) = _
  rw [Bool.or_false, decide_eq_decide.mpr (show (a : Int) = (x : Int) ↔ a = x by omega), decide_eq_decide.mpr (show (b : Int) = (x : Int) ↔ b = x by omega)]
theorem dLL_get {L : Lays} {k : Nat} (h : k < L.length) (h' : k < (dLL L).length) : (dLL L)[k] = (L.getD k []).map dC := by
  simp [dLL, List.getD, List.getElem?_eq_getElem h]
def t_law_layer_of (K : PySem.W.Frag) : TS := (tSeq (tAsg (tC (.int 0)) (gName 2))
    (tSeq (tFor (iRng1 (tCons (tCB (cLen K) (tCons (tVar 0) tNil)) tNil)) (gName 3) (tFor (iList K (tOp (rIxL K) (tVar 0) (tVar 3))) (gName 4) (tIfS (tOr (tTest (tOp (rIn K false) (tOp (rIxT K) (tVar 1) (tC (.int 0))) (tVar 4))) (tTest (tOp (rIn K false) (tOp (rIxT K) (tVar 1) (tC (.int 1))) (tVar 4)))) (tAsg (tOp oAdd (tVar 3) (tC (.int 1))) (gName 2)) tNext)))
    (tRet (tVar 2))))
abbrev n_law_layer_of : List Str := ["_law_rows", "_law_one", "_law_at", "_law_k", "_law_other"]
section
variable {K : PySem.W.Frag} {vs : List V} {H : Hp} {Q : VK} {E : XK}
theorem len_law_layer_of (h : sp_law_layer_of K vs H Q E) : vs.length = 2 := by
  obtain ⟨H0, f, ov, L, c, rfl, _⟩ := h
  rfl
theorem rd_law_layer_of (h : sp_law_layer_of K vs H Q E) : t_law_layer_of K { nx := fun _ H' => Q .non H', rt := Q } (start n_law_layer_of vs) H := by
  obtain ⟨H0, f, ov, L, c, rfl, hL, io, zL, zl, q⟩ := h
  show t_law_layer_of K ⟨_, _, _, _⟩ [some (.ref f), some ov, none, none, none] H
  unfold t_law_layer_of
  have ell : (dLL L).length = L.length := by simp [dLL]
  obtain ⟨fs, af, lf⟩ := hL.len
  walk_at "go"
  refine st_lenL (at_seq af) ?_
  walk_at "go"
  refine st_r1 L.length (by omega) (by omega) ?_
  refine loop_r0 (fun k σ' H' => H' = H ∧ ∃ a b, σ' = [some (.ref f), some ov, some (.int (touch (fun k => (L.getD k []).any fun o => on c.1 o || on c.2 o) k : Nat)), a, b]) ⟨rfl, none, none, rfl⟩ (fun k σ' H' hk w => ?_) (fun σ' H' w => ?_)
  · obtain ⟨rfl, a, b, rfl⟩ := w
    obtain ⟨la, ys, xs, afl, hy, al, xl, _, _⟩ := hL.at (i := k) (by omega)
    have efs := afl.symm.trans af
    cases efs
    rw [dLL_get hk] at xl
    have lx := xl.length
    rw [List.length_map] at lx
    have zk := zl k
    walk_at "go"
    refine st_ixL k (at_seq af) rfl hy ?_
    obtain ⟨t, et⟩ : ∃ t, t = touch (fun k => (L.getD k []).any fun o => on c.1 o || on c.2 o) k := ⟨_, rfl⟩
    rw [← et]
    refine loop_l (K := K) (at_seq al) (fun j σ' H2 => H2 = H' ∧ ∃ b, σ' = [some (.ref f), some ov, some (.int ((if (((L.getD k []).take j).any fun o => on c.1 o || on c.2 o) = true then k + 1 else t : Nat) : Int)), some (.int (k : Nat)), b]) ⟨rfl, b, rfl⟩ (fun j σ' H2 w => by rw [w.1]; exact at_seq al) (fun j y σ' H2 hy2 w => ?_) (fun σ' H2 w => ?_)
    · obtain ⟨rfl, b, rfl⟩ := w
      obtain ⟨d, hd, iy⟩ := xl.get hy2
      obtain ⟨o, ho, rfl⟩ := dP_at hd
      walk_at "go"
      refine st_ixI 0 io rfl rfl (fun k1 e1 => ?_)
      cases e1
      walk_at "go"
      obtain ⟨ya, yz, rfl, hys, iyz⟩ := im_tup iy
      have eyz := imAll_ints (ns := [(o.1 : Int), (o.2 : Int)]) iyz
      subst eyz
      refine ⟨ya, _, rfl, .inr hys, rfl, rfl, ?_⟩
      show ∃ k_1, V.bl (inV (.int (c.1 : Int)) [V.int (o.1 : Int), .int (o.2 : Int)]) = V.bl k_1 ∧ _
      rw [inV_pair]
      walk_at "go"
      have etk : (L.getD k []).take (j + 1) = (L.getD k []).take j ++ [o] := by
        rw [List.take_add_one, ho]
        rfl
      have eon : ∀ x, (decide (o.1 = x) || decide (o.2 = x)) = on x o := fun x => rfl
      rw [eon]
      refine st_b2 (fun h1 => ?_) (fun h1 => ?_)
      · walk_at "go"
        refine ⟨rfl, some (.ref ya), ?_⟩
        rw [etk, List.any_append]
        simp [h1]
      · walk_at "go"
        refine st_ixI 1 io rfl rfl (fun k1 e1 => ?_)
        cases e1
        walk_at "go"
        refine ⟨ya, _, rfl, .inr hys, rfl, rfl, ?_⟩
        show ∃ k_1, V.bl (inV (.int (c.2 : Int)) [V.int (o.1 : Int), .int (o.2 : Int)]) = V.bl k_1 ∧ _
        rw [inV_pair, eon]
        walk_at "go"
        refine st_b2 (fun h2 => ?_) (fun h2 => ?_)
        · walk_at "go"
          refine ⟨rfl, some (.ref ya), ?_⟩
          rw [etk, List.any_append]
          simp [h2]
        · walk_at "go"
          refine ⟨rfl, some (.ref ya), ?_⟩
          rw [etk, List.any_append, show List.any [o] (fun o => on c.1 o || on c.2 o) = false by rw [List.any_cons, List.any_nil, h1, h2]; rfl, Bool.or_false]
    · obtain ⟨rfl, b, rfl⟩ := w
      refine ⟨rfl, some (.int (k : Nat)), b, ?_⟩
      rw [show (L.getD k []).take xs.length = L.getD k [] from List.take_of_length_le (by omega), et]
      rfl
  · obtain ⟨rfl, a, b, rfl⟩ := w
    walk_at "go"
    exact q
end
def sp_layers (K : PySem.W.Frag) : Sp := fun vs H Q _ => ∃ pv p, vs = [pv] ∧ Im K H pv (dP p) ∧ p.length ≤ 1000 ∧ upP p ∧ ∀ w H', Same H H' → Im K H' w (dLs (layersOf p)) → Q w H'
/-- the dict of the first free layers -/
def FreeD (kvs : List (Key × V)) (L : Lays) : Prop := ∀ x : Nat, (valV kvs (.inl (x : Int))).getD (.int 0) = .int (freeOf L x : Nat)
theorem free_put {kvs : List (Key × V)} {L : Lays} {c : Cmp} (h : FreeD kvs L) : FreeD (putK (putK kvs (.inl (c.1 : Int)) (.int ((layerOf L c : Nat) + 1))) (.inl (c.2 : Int)) (.int ((layerOf L c : Nat) + 1))) (layStep L c) := fun x => by
  have hle := layerOf_le L c
  have hm := layerOf_max L c
  have hf := free_add (x := x) (c := c) hle (by
    by_cases e1 : c.1 = x
    · subst e1
      exact .inl (by omega)
    · by_cases e2 : c.2 = x
      · subst e2
        exact .inl (by omega)
      · exact .inr (by simp [on, e1, e2]))
  unfold layStep
  rw [hf, valV_put]
  by_cases e2 : c.2 = x
  · subst e2
    rw [if_pos rfl, if_pos (by simp [on])]
    rfl
  · rw [if_neg (fun z => e2 (by have := Sum.inl.inj z; omega)), valV_put]
    by_cases e1 : c.1 = x
    · subst e1
      rw [if_pos rfl, if_pos (by simp [on])]
      rfl
    · rw [if_neg (fun z => e1 (by have := Sum.inl.inj z; omega)), if_neg (by simp [on, e1, e2])]
      exact h x
theorem dLL_add {L : Lays} {a : Nat} {c : Cmp} (h : a ≤ L.length) : dLL (addAt L a c) = (if a = L.length then dLL L ++ [[]] else dLL L).set a (((if a = L.length then dLL L ++ [[]] else dLL L).getD a []) ++ [dC c]) := by
  have el : (dLL L).length = L.length := by simp [dLL]
  unfold addAt
  dsimp only
  have e : ∀ M : Lays, dLL (M.set a (M.getD a [] ++ [c])) = (dLL M).set a ((dLL M).getD a [] ++ [dC c]) := fun M => by
    unfold dLL
    rw [List.map_set, List.map_append]
    congr 2
    unfold List.getD
    rw [List.getElem?_map]
    cases M[a]? <;> rfl
  rw [e]
  split
  · rw [show dLL (L ++ [[]]) = dLL L ++ [[]] by simp [dLL]]
  · rfl
def t_layers (K : PySem.W.Frag) : TS := (tSeq (tAsg (tLst tNil) (gName 1))
    (tSeq (tAsg tDNewK (gName 2))
    (tSeq (tFor (iTup K (tVar 0)) (gTup K 2 (gCons (gName 3) (gCons (gName 4) gNil))) (tSeq (tAsg (tCB cMax2 (tCons (tDGet2 (tVar 2) (tVar 3) (tC (.int 0))) (tCons (tDGet2 (tVar 2) (tVar 4) (tC (.int 0))) tNil))) (gName 5))
    (tSeq (tIfS (tTest (tOp rEq (tVar 5) (tCB (cLen K) (tCons (tVar 1) tNil)))) (tDrop (tBM K "list" rAppend (tVar 1) (tCons (tLst tNil) tNil))) tNext)
    (tSeq (tDrop (tBM K "list" rAppend (tOp (rIxL K) (tVar 1) (tVar 5)) (tCons (tTup (tCons (tVar 3) (tCons (tVar 4) tNil))) tNil)))
    (tSeq (sDPut (tVar 2) (tVar 3) (tOp oAdd (tVar 5) (tC (.int 1))))
    (sDPut (tVar 2) (tVar 4) (tOp oAdd (tVar 5) (tC (.int 1)))))))))
    (tRet (tCB (cTup K) (tCons (tLc (iList K (tVar 1)) (gName 6) tYes (tCB (cTup K) (tCons (tVar 6) tNil)) [6]) tNil))))))
abbrev n_layers : List Str := ["program", "found", "free", "low", "high", "at", "layer"]
section
variable {K : PySem.W.Frag} {vs : List V} {H : Hp} {Q : VK} {E : XK}
theorem len_layers (h : sp_layers K vs H Q E) : vs.length = 1 := by
  obtain ⟨pv, p, rfl, _⟩ := h
  rfl
theorem rd_layers (h : sp_layers K vs H Q E) : t_layers K { nx := fun _ H' => Q .non H', rt := Q } (start n_layers vs) H := by
  obtain ⟨pv, p, rfl, ip, zp, up, q⟩ := h
  show t_layers K ⟨_, _, _, _⟩ [some pv, none, none, none, none, none, none] H
  unfold t_layers
  walk_at "go"
  refine newL (by simp) (fun f H1 nf s1 af => ?_)
  walk_at "go"
  refine fun d H2 nd s2 ad => ?_
  walk_at "go"
  have nd0 : Fr H d := same_none s1 nd
  have s02 : Same H H2 := s1.trans s2
  have nfd : f ≠ d := at_ne af nd
  refine loop_t (ip.same s02) (fun i σ' H' => Same H H' ∧ Tx H2 H' ∧ LoL K H H' f (dLL (layersOf (p.take i))) ∧ (∃ kvs, At H' d (.dK kvs) ∧ kvs.length ≤ 2 * i ∧ FreeD kvs (layersOf (p.take i))) ∧ ∃ a b c e, σ' = [some pv, some (.ref f), some (.ref d), a, b, c, e]) ⟨s02, Tx.refl _, .nil (same_at s2 af), ⟨[], ad, Nat.le_refl _, fun x => rfl⟩, none, none, none, none, rfl⟩ (fun i σ' H' w => w.2.1) (fun i dd y σ' H' hd w iy => ?_) (fun σ' H' w => ?_)
  · obtain ⟨s, t, hL, ⟨kvs, ad, zk, hfree⟩, a, b, e5, e6, rfl⟩ := w
    obtain ⟨c, hc, rfl⟩ := dP_at hd
    have hi := (List.getElem?_eq_some_iff.mp hc).1
    have upc := up c (List.mem_of_getElem? hc)
    obtain ⟨L, eL⟩ : ∃ L, L = layersOf (p.take i) := ⟨_, rfl⟩
    have enext := layersOf_take hc
    rw [← eL] at hL hfree enext
    have lL : L.length ≤ i := by
      have := layersOf_len (p.take i) []
      rw [List.length_take] at this
      rw [eL]
      unfold layersOf
      simp at this
      omega
    have lLk : ∀ k, (L.getD k []).length ≤ i := fun k => by
      have := layers_each (p.take i) [] 0 (fun k => by simp) k
      rw [List.length_take] at this
      rw [eL]
      unfold layersOf
      omega
    walk_at "go"
    refine st_gtup iy rfl (fun zs hz => ?_)
    cases hz with
    | cons h1 t1 =>
    cases t1 with
    | cons h2 t2 =>
    cases t2
    cases h1
    cases h2
    walk_at "go"
    refine st_get2 ad ?_
    walk_at "go"
    refine ⟨_, DGet.k (k := .inl (c.1 : Int)) ad, ?_⟩
    rw [hfree c.1]
    walk_at "go"
    refine st_get2 ad ?_
    walk_at "go"
    refine ⟨_, DGet.k (k := .inl (c.2 : Int)) ad, ?_⟩
    rw [hfree c.2]
    walk_at "go"
    have emax : (if ((freeOf L c.2 : Nat) : Int) > ((freeOf L c.1 : Nat) : Int) then ((freeOf L c.2 : Nat) : Int) else ((freeOf L c.1 : Nat) : Int)) = ((layerOf L c : Nat) : Int) := by
      rw [layerOf_max]
      split <;> omega
    rw [emax]
    obtain ⟨A, eA⟩ : ∃ A, A = layerOf L c := ⟨_, rfl⟩
    have hle : A ≤ L.length := by rw [eA]; exact layerOf_le L c
    have hput := free_put (c := c) hfree
    rw [← eA] at hput ⊢
    have ell : (dLL L).length = L.length := by simp [dLL]
    -- behind the new layer
    have key : ∀ M H3, M = (if A = L.length then dLL L ++ [[]] else dLL L) → Same H H3 → Tx H2 H3 → LoL K H H3 f M → At H3 d (.dK kvs) → tSeq (tDrop (tBM K "list" rAppend (tOp (rIxL K) (tVar 1) (tVar 5)) (tCons (tTup (tCons (tVar 3) (tCons (tVar 4) tNil))) tNil)))
        (tSeq (sDPut (tVar 2) (tVar 3) (tOp oAdd (tVar 5) (tC (.int 1))))
        (sDPut (tVar 2) (tVar 4) (tOp oAdd (tVar 5) (tC (.int 1)))))
        ⟨fun σ' H' => Same H H' ∧ Tx H2 H' ∧ LoL K H H' f (dLL (layersOf (p.take (i + 1)))) ∧ (∃ kvs, At H' d (.dK kvs) ∧ kvs.length ≤ 2 * (i + 1) ∧ FreeD kvs (layersOf (p.take (i + 1)))) ∧ ∃ a b c e, σ' = [some pv, some (.ref f), some (.ref d), a, b, c, e], Q, tRet (tCB (cTup K) (tCons (tLc (iList K (tVar 1)) (gName 6) tYes (tCB (cTup K) (tCons (tVar 6) tNil)) [6]) tNil)) ⟨fun _ H' => Q .non H', Q, fun _ _ => False, fun _ _ => False⟩, fun σ' H' => Same H H' ∧ Tx H2 H' ∧ LoL K H H' f (dLL (layersOf (p.take (i + 1)))) ∧ (∃ kvs, At H' d (.dK kvs) ∧ kvs.length ≤ 2 * (i + 1) ∧ FreeD kvs (layersOf (p.take (i + 1)))) ∧ ∃ a b c e, σ' = [some pv, some (.ref f), some (.ref d), a, b, c, e]⟩
        [some pv, some (.ref f), some (.ref d), some (.int (c.1 : Nat)), some (.int (c.2 : Nat)), some (.int (A : Nat)), e6] H3 := fun M H3 eM s3 t3 hM ad3 => by
      have lM : A < M.length := by
        rw [eM]
        split
        · simp
          omega
        · omega
      have lM2 : M.getD A [] = (if A = L.length then dLL L ++ [[]] else dLL L).getD A [] := by rw [eM]
      obtain ⟨la, ys, xs, afl, hy, al, xl, nla, laf⟩ := hM.at lM
      walk_at "go"
      refine st_ixL A (at_seq afl) rfl hy ?_
      refine st_tyL al ?_
      walk_at "go"
      refine newI (K := K) (.cons (.int _) (.cons (.int _) .nil)) (by simp) (fun w4 H4 s4 i4 => ?_)
      walk_at "go"
      have lxs : xs.length ≤ 1000 := by
        have l1 := xl.length
        have l2 : M[A] = M.getD A [] := by simp [List.getD, List.getElem?_eq_getElem lM]
        rw [l2, lM2] at l1
        split at l1
        · rename_i e
          have eg : (dLL L ++ [([] : List PyData)]).getD (dLL L).length [] = [] := by simp [List.getD]
          rw [e, ← ell, eg] at l1
          rw [l1]
          decide
        · rename_i e
          have l3 : (dLL L).getD A [] = (L.getD A []).map dC := by
            simp [dLL, List.getD, List.getElem?_eq_getElem (show A < L.length by omega)]
          rw [l3, List.length_map] at l1
          have := lLk A
          omega
      refine st_app (same_at s4 al) (by omega) (fun H5 b5 a5 => ?_)
      have hL5 := (hM.same s4).put lM (same_at s4 afl) hy (same_at s4 al) b5 a5 (show Im K H5 w4 (dC c) from i4.tx (bx_tx b5))
      have s5 : Same H H5 := same_bx (s3.trans s4) b5 nla
      have t5 : Tx H2 H5 := (t3.trans (.of s4)).trans (bx_tx b5)
      have nda : d ≠ la := fun e => by
        subst e
        exact nomatch (ad3.symm.trans al)
      have ad5 := (at_bx b5 (same_at s4 ad3)).resolve_left nda
      have eML : M.set A (M[A] ++ [dC c]) = dLL (layersOf (p.take (i + 1))) := by
        rw [enext]
        unfold layStep
        rw [← eA, dLL_add hle, ← eM]
        congr 2
        simp [List.getD, List.getElem?_eq_getElem lM]
      rw [eML] at hL5
      walk_at "go"
      refine st_put ad5 (by omega) (fun H6 b6 a6 => ?_)
      have noD : ∀ {H' : Hp} {kv : List (Key × V)}, At H' d (.dK kv) → ∀ a xs, At H' a (.lst xs) → a = d → False := fun ad a xs q e => by
        subst e
        exact nomatch (ad.symm.trans q)
      have hL6 := hL5.other b6 nfd (noD ad5)
      walk_at "go"
      have zk6 := putK_len (kvs := kvs) (k := .inl (c.1 : Int)) (v := .int ((A : Nat) + 1))
      refine st_put a6 (by omega) (fun H7 b7 a7 => ?_)
      have hL7 := hL6.other b7 nfd (noD a6)
      have zk7 := putK_len (kvs := putK kvs (.inl (c.1 : Int)) (.int ((A : Nat) + 1))) (k := .inl (c.2 : Int)) (v := .int ((A : Nat) + 1))
      refine ⟨same_bx (same_bx s5 b6 nd0) b7 nd0, t5.trans ((bx_tx b6).trans (bx_tx b7)), hL7, ⟨_, a7, by omega, ?_⟩, _, _, _, _, rfl⟩
      rw [enext]
      exact hput
    obtain ⟨fs, aff, lfs⟩ := hL.len
    refine st_lenL (at_seq aff) ?_
    walk_at "gt"
    refine st_y2 (fun h => ?_) (fun h => ?_)
    · have hA : A = L.length := by omega
      walk_at "gt"
      refine st_tyL aff ?_
      walk_at "gt"
      refine newL (by simp) (fun np H3 nnp s3 anp => ?_)
      walk_at "gt"
      refine st_app (same_at s3 aff) (by omega) (fun H4 b4 a4 => ?_)
      have hL4 := hL.more s nnp aff s3 anp b4 a4
      have nf0 : Fr H f := nf
      exact key _ H4 (by rw [if_pos hA]) (same_bx (s.trans s3) b4 nf0) ((t.trans (.of s3)).trans (bx_tx b4)) hL4 ((at_bx b4 (same_at s3 ad)).resolve_left nfd.symm)
    · walk_at "gt"
      exact key _ H' (by rw [if_neg (by omega)]) s t hL ad
  · obtain ⟨s, t, hL, ⟨kvs, ad, zk, hfree⟩, a, b, e5, e6, rfl⟩ := w
    rw [List.length_map, List.take_length] at hL
    have ell : (dLL (layersOf p)).length = (layersOf p).length := by simp [dLL]
    have lL := layersOf_len p []
    obtain ⟨as, h1, h2, h3, h4, h5⟩ := hL
    walk_at "go"
    refine lc_l (K := K) (σw := [some pv, some (.ref f), some (.ref d), a, b, e5, none]) (at_seq h1) (fun _ => true) (fun k => .tuple (((layersOf p).getD k []).map dC)) rfl (by rw [List.length_map]; unfold layersOf at h2 ell; simp at lL; omega) (fun k y H3 hy s3 CT CF kT kF => ?_) (fun l3 H3 ys n3 s3 a3 x3 => ?_)
    · rw [List.getElem?_map] at hy
      obtain ⟨la, hla, rfl⟩ := Option.map_eq_some_iff.mp hy
      have hk := (List.getElem?_eq_some_iff.mp hla).1
      have hkl : k < (layersOf p).length := by omega
      obtain ⟨xs, q1, q2⟩ := h3 k la _ hla (List.getElem?_eq_getElem (by omega))
      rw [dLL_get hkl] at q2
      walk_at "go"
      refine ⟨rfl, ?_⟩
      walk_at "go"
      refine st_tupI (at_seq (same_at s3 q1)) (q2.same s3) (fun w4 H4 s4 i4 => ?_)
      exact kT rfl _ _ s4 i4
    · rw [given_all, List.length_map, h2, ell] at x3
      have e := range_map (layersOf p) [] (fun l => PyData.tuple (l.map dC))
      rw [e] at x3
      walk_at "go"
      refine st_tupI (at_seq a3) x3 (fun w4 H4 s4 i4 => ?_)
      refine q w4 H4 ((s.trans s3).trans s4) ?_
      unfold dLs
      rw [List.map_map]
      exact i4
end
theorem cut80 (P : Prog) : ((P.map dC).drop (HT.sIx (P.map dC).length 0 none)).take (HT.sIx (P.map dC).length (P.map dC).length (some 80) - HT.sIx (P.map dC).length 0 none) = (P.take 80).map dC := by
  rw [show (some (80 : Int)) = some ((80 : Nat) : Int) from rfl, HT.sIx_none, HT.sIx_nat, List.drop_zero, Nat.sub_zero, List.length_map, List.map_take]
  by_cases h : 80 ≤ P.length
  · rw [Nat.min_eq_left h]
  · rw [Nat.min_eq_right (by omega), List.take_of_length_le (by simp), List.take_of_length_le (by simp; omega)]
theorem okP_pre {m : Nat} {p : Prog} (h : okP m p) (k : Nat) : okP m (p.take k) := fun c hc => h c (List.mem_of_mem_take hc)
theorem sh_LL (L : Lays) : Sh 3 (.list ((dLL L).map .list)) := sh_list fun d hd => by
  obtain ⟨l, hl, rfl⟩ := List.mem_map.mp hd
  obtain ⟨l', _, rfl⟩ := List.mem_map.mp hl
  exact sh_list (sh_map fun c _ => sh_dC c)
def sp_law (K : PySem.W.Frag) : Sp := fun vs H Q _ => ∃ v ns, vs = [v] ∧ Scr K H v ns ∧ ∀ H', Q (.bl true) H'
def t_law (K : PySem.W.Frag) : TS := (tSeq (tAsg (tOp (rIxL K) (tLst (tCons (tC (.int 2)) (tCons (tC (.int 3)) (tCons (tC (.int 4)) (tCons (tC (.int 5)) (tCons (tC (.int 6)) (tCons (tC (.int 7)) (tCons (tC (.int 9)) (tCons (tC (.int 12)) (tCons (tOp oAdd (tC (.int 2)) (tOp oMod (tOp oDiv (tCall (sp_law_cell_at K) [] E0 (tCons (tVar 0) (tCons (tC (.int 0)) tNil))) (tC (.int 9))) (tC (.int 39)))) tNil)))))))))) (tOp oMod (tCall (sp_law_cell_at K) [] E0 (tCons (tVar 0) (tCons (tC (.int 0)) tNil))) (tC (.int 9)))) (gName 1))
    (tSeq (tAsg (tCall (sp_law_program_by K) [] E0 (tCons (tVar 0) (tCons (tC (.int 20)) (tCons (tVar 1) (tCons (tOp oMod (tCall (sp_law_cell_at K) [] E0 (tCons (tVar 0) (tCons (tC (.int 1)) tNil))) (tC (.int 15))) tNil))))) (gName 2))
    (tSeq (tIfS (tTest (tOp rEq (tOp oMod (tCall (sp_law_cell_at K) [] E0 (tCons (tVar 0) (tCons (tC (.int 2)) tNil))) (tC (.int 4))) (tC (.int 1)))) (tSeq (tAsg (tOp oMod (tOp oDiv (tCall (sp_law_cell_at K) [] E0 (tCons (tVar 0) (tCons (tC (.int 2)) tNil))) (tC (.int 4))) (tC (.int 61))) (gName 3))
    (tAsg (tCB (cTup K) (tCons (tLc (iRng1 (tCons (tVar 3) tNil)) (gName 8) tYes (tCall (sp_law_compare_by K) [] E0 (tCons (tCall (sp_law_mixed K) [] E0 (tCons (tVar 0) (tCons (tOp oAdd (tC (.int 80)) (tVar 8)) tNil))) (tCons (tVar 1) tNil))) [8]) tNil)) (gName 2))) tNext)
    (tSeq (tAsg (tLst tNil) (gName 4))
    (tSeq (tFor (iTup K (tSl (rSlA K) (tVar 2) tNoPart (tPart (tC (.int 80))))) (gName 5) (tSeq (tAsg (tCall (sp_law_layer_of K) [] E0 (tCons (tVar 4) (tCons (tVar 5) tNil))) (gName 6))
    (tSeq (tIfS (tTest (tOp rEq (tVar 6) (tCB (cLen K) (tCons (tVar 4) tNil)))) (tDrop (tBM K "list" rAppend (tVar 4) (tCons (tLst tNil) tNil))) tNext)
    (tDrop (tBM K "list" rAppend (tOp (rIxL K) (tVar 4) (tVar 6)) (tCons (tVar 5) tNil))))))
    (tSeq (tAsg (tCall (sp_layers K) [] E0 (tCons (tSl (rSlA K) (tVar 2) tNoPart (tPart (tC (.int 80)))) tNil)) (gName 7))
    (tSeq (tIfS (tOr (tNot (tB (tCB (rIsi K) (tCons (tVar 7) (tCons (tC (.ty "tuple")) tNil))))) (tTest (tOp (rNeD K) (tLc (iTup K (tVar 7)) (gName 5) (tNot (tB (tCB (rIsi K) (tCons (tVar 5) (tCons (tC (.ty "tuple")) tNil))))) (tVar 5) [5]) (tLst tNil)))) (tRet (tC (.bl false))) tNext)
    (tRet (tOp (rEqD K) (tLc (iTup K (tVar 7)) (gName 5) tYes (tCB (cList K) (tCons (tVar 5) tNil)) [5]) (tVar 4))))))))))
abbrev n_law : List Str := ["_law_script", "_law_places", "_law_program", "_law_many", "_law_rows", "_law_one", "_law_at", "_law_found", "_law_k"]
section
variable {K : PySem.W.Frag} {vs : List V} {H : Hp} {Q : VK} {E : XK}
def tail3 (K : PySem.W.Frag) : TS := (tSeq (tAsg (tLst tNil) (gName 4))
    (tSeq (tFor (iTup K (tSl (rSlA K) (tVar 2) tNoPart (tPart (tC (.int 80))))) (gName 5) (tSeq (tAsg (tCall (sp_law_layer_of K) [] E0 (tCons (tVar 4) (tCons (tVar 5) tNil))) (gName 6))
    (tSeq (tIfS (tTest (tOp rEq (tVar 6) (tCB (cLen K) (tCons (tVar 4) tNil)))) (tDrop (tBM K "list" rAppend (tVar 4) (tCons (tLst tNil) tNil))) tNext)
    (tDrop (tBM K "list" rAppend (tOp (rIxL K) (tVar 4) (tVar 6)) (tCons (tVar 5) tNil))))))
    (tSeq (tAsg (tCall (sp_layers K) [] E0 (tCons (tSl (rSlA K) (tVar 2) tNoPart (tPart (tC (.int 80)))) tNil)) (gName 7))
    (tSeq (tIfS (tOr (tNot (tB (tCB (rIsi K) (tCons (tVar 7) (tCons (tC (.ty "tuple")) tNil))))) (tTest (tOp (rNeD K) (tLc (iTup K (tVar 7)) (gName 5) (tNot (tB (tCB (rIsi K) (tCons (tVar 5) (tCons (tC (.ty "tuple")) tNil))))) (tVar 5) [5]) (tLst tNil)))) (tRet (tC (.bl false))) tNext)
    (tRet (tOp (rEqD K) (tLc (iTup K (tVar 7)) (gName 5) tYes (tCB (cList K) (tCons (tVar 5) tNil)) [5]) (tVar 4)))))))
theorem len_law (h : sp_law K vs H Q E) : vs.length = 1 := by
  obtain ⟨v, ns, rfl, _⟩ := h
  rfl
theorem k03_three {v : V} {m : Nat} {P : Prog} {pv : V} {o3 : Option V} (q : ∀ H', Q (.bl true) H') (ok : okP m P) (ip : Im K H pv (dP P)) (zp : P.length ≤ 500000) :
    tail3 K ⟨fun _ H' => Q .non H', Q, fun _ _ => False, fun _ _ => False⟩ [some v, some (.int m), some pv, o3, none, none, none, none, none] H := by
  unfold tail3
  walk_at "go"
  refine newL (by simp) (fun f H1 nf s1 af => ?_)
  walk_at "go"
  refine st_sliceI (ip.same s1) (fun w2 H2 s2 i2 => ?_)
  rw [cut80] at i2
  obtain ⟨R, eR⟩ : ∃ R, R = P.take 80 := ⟨_, rfl⟩
  rw [← eR] at i2
  have okR : okP m R := by rw [eR]; exact okP_pre ok 80
  have lR : R.length ≤ 80 := by rw [eR, List.length_take]; omega
  have s02 := s1.trans s2
  refine loop_t i2 (fun i σ' H' => Same H H' ∧ Tx H2 H' ∧ LoL K H H' f (dLL (layersOf (R.take i))) ∧ ∃ a b, σ' = [some v, some (.int m), some pv, o3, some (.ref f), a, b, none, none]) ⟨s02, Tx.refl _, .nil (same_at s2 af), none, none, rfl⟩ (fun i σ' H' w => w.2.1) (fun i dd y σ' H' hd w iy => ?_) (fun σ' H' w => ?_)
  · obtain ⟨s, t, hL, a, b, rfl⟩ := w
    obtain ⟨c, hc, rfl⟩ := dP_at hd
    have hi := (List.getElem?_eq_some_iff.mp hc).1
    obtain ⟨L, eL⟩ : ∃ L, L = layersOf (R.take i) := ⟨_, rfl⟩
    have enext := layersOf_take hc
    rw [← eL] at hL enext
    have lL : L.length ≤ i := by
      have := layersOf_len (R.take i) []
      rw [List.length_take] at this
      rw [eL]
      unfold layersOf
      simp at this
      omega
    have lLk : ∀ k, (L.getD k []).length ≤ i := fun k => by
      have := layers_each (R.take i) [] 0 (fun k => by simp) k
      rw [List.length_take] at this
      rw [eL]
      unfold layersOf
      omega
    walk_at "gt"
    walk_at "go1"
    walk_at "gt"
    refine ⟨H, f, y, L, c, rfl, hL, iy, by omega, fun k => by have := lLk k; omega, ?_⟩
    obtain ⟨A, eA⟩ : ∃ A, A = layerOf L c := ⟨_, rfl⟩
    have hle : A ≤ L.length := by rw [eA]; exact layerOf_le L c
    rw [← eA]
    have ell : (dLL L).length = L.length := by simp [dLL]
    have key : ∀ M H3, M = (if A = L.length then dLL L ++ [[]] else dLL L) → Same H H3 → Tx H2 H3 → Tx H' H3 → LoL K H H3 f M → (tDrop (tBM K "list" rAppend (tOp (rIxL K) (tVar 4) (tVar 6)) (tCons (tVar 5) tNil)))
        ⟨fun σ' H' => Same H H' ∧ Tx H2 H' ∧ LoL K H H' f (dLL (layersOf (R.take (i + 1)))) ∧ ∃ a b, σ' = [some v, some (.int m), some pv, o3, some (.ref f), a, b, none, none], Q, tSeq (tAsg (tCall (sp_layers K) [] E0 (tCons (tSl (rSlA K) (tVar 2) tNoPart (tPart (tC (.int 80)))) tNil)) (gName 7))
    (tSeq (tIfS (tOr (tNot (tB (tCB (rIsi K) (tCons (tVar 7) (tCons (tC (.ty "tuple")) tNil))))) (tTest (tOp (rNeD K) (tLc (iTup K (tVar 7)) (gName 5) (tNot (tB (tCB (rIsi K) (tCons (tVar 5) (tCons (tC (.ty "tuple")) tNil))))) (tVar 5) [5]) (tLst tNil)))) (tRet (tC (.bl false))) tNext)
    (tRet (tOp (rEqD K) (tLc (iTup K (tVar 7)) (gName 5) tYes (tCB (cList K) (tCons (tVar 5) tNil)) [5]) (tVar 4)))) ⟨fun _ H' => Q .non H', Q, fun _ _ => False, fun _ _ => False⟩, fun σ' H' => Same H H' ∧ Tx H2 H' ∧ LoL K H H' f (dLL (layersOf (R.take (i + 1)))) ∧ ∃ a b, σ' = [some v, some (.int m), some pv, o3, some (.ref f), a, b, none, none]⟩
        [some v, some (.int m), some pv, o3, some (.ref f), some y, some (.int (A : Nat)), none, none] H3 := fun M H3 eM s3 t3 t13 hM => by
      have lM : A < M.length := by
        rw [eM]
        split
        · simp
          omega
        · omega
      have lM2 : M.getD A [] = (if A = L.length then dLL L ++ [[]] else dLL L).getD A [] := by rw [eM]
      obtain ⟨la, ys, xs, afl, hy, al, xl, nla, laf⟩ := hM.at lM
      walk_at "go"
      refine st_ixL A (at_seq afl) rfl hy ?_
      refine st_tyL al ?_
      walk_at "go"
      have lxs : xs.length ≤ 1000 := by
        have l1 := xl.length
        have l2 : M[A] = M.getD A [] := by simp [List.getD, List.getElem?_eq_getElem lM]
        rw [l2, lM2] at l1
        split at l1
        · rename_i e
          have eg : (dLL L ++ [([] : List PyData)]).getD (dLL L).length [] = [] := by simp [List.getD]
          rw [e, ← ell, eg] at l1
          rw [l1]
          decide
        · rename_i e
          have l3 : (dLL L).getD A [] = (L.getD A []).map dC := by
            simp [dLL, List.getD, List.getElem?_eq_getElem (show A < L.length by omega)]
          rw [l3, List.length_map] at l1
          have := lLk A
          omega
      refine st_app al (by omega) (fun H5 b5 a5 => ?_)
      have hL5 := hM.put lM afl hy al b5 a5 (show Im K H5 y (dC c) from (iy.tx t13).tx (bx_tx b5))
      have eML : M.set A (M[A] ++ [dC c]) = dLL (layersOf (R.take (i + 1))) := by
        rw [enext]
        unfold layStep
        rw [← eA, dLL_add hle, ← eM]
        congr 2
        simp [List.getD, List.getElem?_eq_getElem lM]
      rw [eML] at hL5
      exact ⟨same_bx s3 b5 nla, t3.trans (bx_tx b5), hL5, _, _, rfl⟩
    obtain ⟨fs, aff, lfs⟩ := hL.len
    walk_at "gt"
    walk_at "go1"
    walk_at "gt"
    refine st_lenL (at_seq aff) ?_
    walk_at "gt"
    refine st_y2 (fun h => ?_) (fun h => ?_)
    · have hA : A = L.length := by omega
      walk_at "gt"
      refine st_tyL aff ?_
      walk_at "gt"
      refine newL (by simp) (fun np H3 nnp s3 anp => ?_)
      walk_at "gt"
      refine st_app (same_at s3 aff) (by omega) (fun H4 b4 a4 => ?_)
      have hL4 := hL.more s nnp aff s3 anp b4 a4
      exact key _ H4 (by rw [if_pos hA]) (same_bx (s.trans s3) b4 nf) ((t.trans (.of s3)).trans (bx_tx b4)) ((Tx.of s3).trans (bx_tx b4)) hL4
    · refine st_next ?_
      exact key _ H' (by rw [if_neg (by omega)]) s t (Tx.refl _) hL
  · obtain ⟨s, t, hL, a, b, rfl⟩ := w
    rw [List.length_map, List.take_length] at hL
    walk_at "go"
    refine st_sliceI (ip.same s) (fun w3 H3 s3 i3 => ?_)
    rw [cut80, ← eR] at i3
    walk_at "go"
    refine ⟨w3, R, rfl, i3, by omega, okR.up, fun w4 H4 s4 i4 => ?_⟩
    have lLs := layersOf_len R []
    have lLs' : (layersOf R).length ≤ 80 := by
      unfold layersOf
      simp at lLs
      omega
    walk_at "go"
    refine st_isi i4.dp (kit_all _).2.2.1 ?_
    rw [show isD (dLs (layersOf R)) "tuple" = true from isD_tup _]
    walk_at "go"
    refine lc_t (K := K) (σw := [some v, some (.int m), some pv, o3, some (.ref f), none, b, some w4, none]) i4 (fun _ => false) (fun _ => .none) rfl (by simp; omega) (fun i d y H5 hd s5 iy CT CF kT kF => ?_) (fun pe H5 zs n5 s5 a5 x5 => ?_)
    · walk_at "go"
      refine ⟨rfl, ?_⟩
      walk_at "go"
      refine st_isi iy.dp (kit_all _).2.2.1 ?_
      obtain ⟨l, _, rfl⟩ := List.mem_map.mp (List.mem_of_getElem? hd)
      rw [show isD (.tuple l) "tuple" = true from isD_tup _]
      walk_at "go"
      exact kF rfl _ (Same.refl _)
    · rw [show ∀ n, given n (fun _ => false) (fun _ => PyData.none) = [] from fun n => by simp [given]] at x5
      cases x5
      walk_at "go"
      refine newL (by simp) (fun l6 H6 n6 s6 a6 => ?_)
      walk_at "go"
      refine st_neD (.lst (at_seq (same_at s6 a5)) .nil) (.lst (at_seq a6) .nil) (by decide +kernel) (by decide +kernel) ?_
      rw [eqv_self (n := 1) (sh_list (ds := []) fun d hd => by cases hd)]
      walk_at "go"
      have i46 := i4.same (s5.trans s6)
      refine lc_lists (K := K) (L := dLL (layersOf R)) (σw := [some v, some (.int m), some pv, o3, some (.ref f), none, b, some w4, none]) i46 rfl (by simp [dLL]; omega) (fun i l y H7 hl s7 iy CT CF kT => ?_) (fun p8 H8 n8 s8 hL8 => ?_)
      · walk_at "go"
        refine ⟨rfl, ?_⟩
        walk_at "go"
        refine st_listI iy (fun lz H8 ys n8 s8 a8 x8 => ?_)
        exact kT lz H8 ys s8 n8 a8 x8
      · walk_at "go"
        have s8' : Same H' H8 := s3.trans (s4.trans (s5.trans (s6.trans s8)))
        refine st_eqD hL8.dp (hL.same s8').dp ((sh_LL _).shaped (by decide)) ((sh_LL _).shaped (by decide)) ?_
        rw [eqv_self (sh_LL _)]
        exact q _
theorem rd_law (h : sp_law K vs H Q E) : t_law K { nx := fun _ H' => Q .non H', rt := Q } (start n_law vs) H := by
  obtain ⟨v, ns, rfl, hs, q⟩ := h
  show t_law K ⟨_, _, _, _⟩ [some v, none, none, none, none, none, none, none, none] H
  unfold t_law
  walk_at "gt"
  walk_at "go1"
  walk_at "gt"
  refine ⟨v, ns, 0, rfl, hs, ?_⟩
  walk_at "gt"
  obtain ⟨x0, ex0⟩ : ∃ z, z = cellAt ns 0 := ⟨_, rfl⟩
  rw [← ex0]
  refine newL (by simp) (fun l0 H0 n0 s0 a0 => ?_)
  walk_at "gt"
  refine ⟨v, ns, 0, rfl, hs.tx (.of s0), ?_⟩
  walk_at "gt"
  rw [← ex0]
  obtain ⟨m, j, ej, hjm, hm1, hm2⟩ : ∃ m j : Nat, x0 % 9 = (j : Int) ∧ ([V.int 2, V.int 3, V.int 4, V.int 5, V.int 6, V.int 7, V.int 9, V.int 12, V.int (2 + x0 / 9 % 39)] : List V)[j]? = some (.int (m : Int)) ∧ 2 ≤ m ∧ m ≤ 40 := by
    have h9 : x0 % 9 = 0 ∨ x0 % 9 = 1 ∨ x0 % 9 = 2 ∨ x0 % 9 = 3 ∨ x0 % 9 = 4 ∨ x0 % 9 = 5 ∨ x0 % 9 = 6 ∨ x0 % 9 = 7 ∨ x0 % 9 = 8 := by omega
    rcases h9 with h | h | h | h | h | h | h | h | h
    · exact ⟨2, 0, h, rfl, by decide, by decide⟩
    · exact ⟨3, 1, h, rfl, by decide, by decide⟩
    · exact ⟨4, 2, h, rfl, by decide, by decide⟩
    · exact ⟨5, 3, h, rfl, by decide, by decide⟩
    · exact ⟨6, 4, h, rfl, by decide, by decide⟩
    · exact ⟨7, 5, h, rfl, by decide, by decide⟩
    · exact ⟨9, 6, h, rfl, by decide, by decide⟩
    · exact ⟨12, 7, h, rfl, by decide, by decide⟩
    · refine ⟨(2 + x0 / 9 % 39).toNat, 8, h, ?_, by omega, by omega⟩
      rw [show (((2 + x0 / 9 % 39).toNat : Nat) : Int) = 2 + x0 / 9 % 39 by omega]
      rfl
  refine st_ixL j (at_seq a0) ej hjm ?_
  walk_at "gt"
  walk_at "go1"
  walk_at "gt"
  have hs0 := hs.tx (.of s0)
  refine ⟨v, ns, 1, rfl, hs0, ?_⟩
  walk_at "gt"
  obtain ⟨k1, ek1, hk1⟩ : ∃ k : Nat, cellAt ns 1 % 15 = (k : Int) ∧ k < 15 := ⟨(cellAt ns 1 % 15).toNat, by omega, by omega⟩
  rw [ek1]
  refine ⟨v, ns, 20, m, k1, rfl, hs0, by omega, by omega, fun pv H1 s1 ip => ?_⟩
  obtain ⟨P, eP⟩ : ∃ P, P = progBy ns 20 m k1 := ⟨_, rfl⟩
  have okp : okP m P := by rw [eP]; exact progBy_ok ns 20 m k1
  have lP : P.length ≤ 100000 := by
    rw [eP]
    exact progBy_small (by omega) (by omega)
  rw [← eP] at ip
  have hs1 := hs0.tx (.of s1)
  walk_at "gt"
  walk_at "go1"
  walk_at "gt"
  refine ⟨v, ns, 2, rfl, hs1, ?_⟩
  walk_at "gt"
  refine st_y2 (fun h1 => ?_) (fun h1 => ?_)
  · walk_at "go"
    refine ⟨v, ns, 2, rfl, hs1, ?_⟩
    walk_at "go"
    obtain ⟨k2, ek2, hk2⟩ : ∃ k : Nat, cellAt ns 2 / 4 % 61 = (k : Int) ∧ k < 61 := ⟨(cellAt ns 2 / 4 % 61).toNat, by omega, by omega⟩
    rw [ek2]
    refine st_r1 k2 rfl (by omega) ?_
    refine lc_r0 (K := K) (σw := [some v, some (.int m), some pv, some (.int k2), none, none, none, none, none]) (fun _ => true) (fun i => dC (cmpBy (mixed ns (80 + i)) m)) rfl (by omega) (fun i H4 hi s4 CT CF kT kF => ?_) (fun l5 H5 xs n5 s5 a5 x5 => ?_)
    · walk_at "go"
      refine ⟨rfl, ?_⟩
      walk_at "go"
      refine ⟨v, ns, 80 + i, rfl, hs1.tx (.of s4), ?_⟩
      walk_at "go"
      refine ⟨_, m, rfl, by omega, fun w H5 s5 i5 => ?_⟩
      exact kT rfl _ _ s5 i5
    · rw [given_all] at x5
      walk_at "gt"
      refine st_tupI (at_seq a5) x5 (fun w6 H6 s6 i6 => ?_)
      walk_at "gt"
      have e : .tuple ((List.range k2).map fun i => dC (cmpBy (mixed ns (80 + i)) m)) = dP ((List.range k2).map fun i => cmpBy (mixed ns (80 + i)) m) := by
        unfold dP
        rw [List.map_map]
        rfl
      rw [e] at i6
      refine k03_three (m := m) q (fun c hc => ?_) i6 (by simp; omega)
      obtain ⟨i, _, rfl⟩ := List.mem_map.mp hc
      exact cmpBy_ok hm1
  · walk_at "gt"
    exact k03_three q okp ip (by omega)
theorem law_start {a : Addr} {ns : List Int} {n : Nat} (_ : ns.length ≤ n) (hO : Only H) (hS : SqL K H a (ns.map V.int)) : sp_law K [.ref a] H (fun v _ => v = .bl true) fun _ _ _ => False := ⟨_, ns, rfl, scr_of hO hS, fun _ => rfl⟩
end
def topS (i : Nat) : Stmt := PySem.Challenge.pw_sortforge_k03_layers_told.main.body.getD i (.Pass ⟨0, 0, 0, 0⟩)
abbrev s_layers : Stmt := topS 1
theorem sc_layers : FnScope n_layers ["program"] (defScope s_layers) := ⟨rfl, rfl, rfl, by decide +kernel, rfl, by decide +kernel, by decide +kernel⟩
theorem ok_layers {P : Program} {w : World} {K : PySem.W.Frag} {mg : Str → Option Value} {base : Heap} {f : Addr} {fd : FuncData} (F : Fun K "layers" "layers" s_layers f fd) (g : mg "layers" = some (.ref f)) (B : Blt mg) :
    Cal P w K mg base 1 "layers" (sp_layers K) [] := cal_of (F.ok (k := 0) sc_layers (fun vs H Q E h => len_layers h) (fun cdv A outer s H vs Q E hr h => by
      have hu := hu_of hr
      exact ⟨t_layers K, (pss_cons (ps_set (i := 1) sc_layers.nd rfl (by first | exact Or.inl rfl | exact Or.inr rfl) (pe_lst pa_nil))
    (pss_cons (ps_set (i := 2) sc_layers.nd rfl (by first | exact Or.inl rfl | exact Or.inr rfl) pe_dnewK)
    (pss_cons (ps_for PassesOwn.never rfl (pi_tup (pv 0)) (pg_tup rfl (pgs_cons (pg_name (i := 3) sc_layers.nd rfl (by first | exact Or.inl rfl | exact Or.inr rfl)) (pgs_cons (pg_name (i := 4) sc_layers.nd rfl (by first | exact Or.inl rfl | exact Or.inr rfl)) pgs_nil))) (pss_cons (ps_set (i := 5) sc_layers.nd rfl (by first | exact Or.inl rfl | exact Or.inr rfl) (pe_callB (call_max2 rfl) (by rfl) B.max (by decide +kernel) (pa_cons (pe_dget2 hu (pv 2) (pv 3) pe_int ⟨rfl, by rfl, by rfl, by rfl⟩) (pa_cons (pe_dget2 hu (pv 2) (pv 4) pe_int ⟨rfl, by rfl, by rfl, by rfl⟩) pa_nil))))
    (pss_cons (ps_if (pt_cmpR op_eq (pv 5) (pe_callB call_len_seq (by rfl) B.len (by decide +kernel) (pa_cons (pv 1) pa_nil)) (nomark _)) (pss_one (ps_expr (pe_bm PySem.F.plainAttrs_list PySem.F.slot_list_append PySem.F.type_list_append mt_append (pv 1) (pa_cons (pe_lst pa_nil) pa_nil)))) pss_nil)
    (pss_cons (ps_expr (pe_bm PySem.F.plainAttrs_list PySem.F.slot_list_append PySem.F.type_list_append mt_append (pe_ix ix_list (pv 1) (pv 5) (fun _ _ => rfl)) (pa_cons (pe_tup (pa_cons (pv 3) (pa_cons (pv 4) pa_nil))) pa_nil)))
    (pss_cons (ps_dput hu (pv 2) (pv 3) (pe_op op_add (pv 5) pe_int) rfl)
    (pss_one (ps_dput hu (pv 2) (pv 4) (pe_op op_add (pv 5) pe_int) rfl)))))))
    (pss_one (ps_ret (pe_callTy call_tuple_of (by rfl) B.tuple (by decide +kernel) (pa_cons (pe_lc (own := [("layer", 6)]) (g := (gName 6)) (tt := tYes) rfl sc_layers.nd (pi_list (pv 1)) (blkOk_by (own := [("layer", 6)]) (N := n_layers) (sc := defScope s_layers) (by decide +kernel)) (fun _ _ _ _ _ => (pg_name (i := 6) sc_layers.nd rfl (by first | exact Or.inl rfl | exact Or.inr rfl))) (fun _ _ _ _ _ => pts_nil) (fun _ _ _ _ _ => (pe_callTy call_tuple_of (by rfl) B.tuple (by decide +kernel) (pa_cons (pv 6) pa_nil)))) pa_nil))))))), rd_layers h⟩)) g F.kp (F.binds (ps := ["program"]) fun _ _ _ _ _ _ us hl => match us, hl with | [_], _ => rfl)
abbrev s_law_cell_at : Stmt := topS 3
theorem sc_law_cell_at : FnScope n_law_cell_at ["_law_script", "_law_k"] (defScope s_law_cell_at) := ⟨rfl, rfl, rfl, by decide +kernel, rfl, by decide +kernel, by decide +kernel⟩
theorem ok_law_cell_at {P : Program} {w : World} {K : PySem.W.Frag} {mg : Str → Option Value} {base : Heap} {f : Addr} {fd : FuncData} (F : Fun K "_law_cell_at" "_law_cell_at" s_law_cell_at f fd) (g : mg "_law_cell_at" = some (.ref f)) (B : Blt mg) :
    Cal P w K mg base 1 "_law_cell_at" (sp_law_cell_at K) [] := cal_of (F.ok (k := 0) sc_law_cell_at (fun vs H Q E h => len_law_cell_at h) (fun cdv A outer s H vs Q E hr h => by
      exact ⟨t_law_cell_at K, (pss_cons (ps_if (pt_cmpR op_lt (pv 1) (pe_callB call_len_seq (by rfl) B.len (by decide +kernel) (pa_cons (pv 0) pa_nil)) (nomark _)) (pss_one (ps_ret (pe_ix ix_list (pv 0) (pv 1) (fun _ _ => rfl)))) pss_nil)
    (pss_one (ps_ret pe_int))), rd_law_cell_at h⟩)) g F.kp (F.binds (ps := ["_law_script", "_law_k"]) fun _ _ _ _ _ _ us hl => match us, hl with | [_, _], _ => rfl)
abbrev s_law_mixed : Stmt := topS 4
theorem sc_law_mixed : FnScope n_law_mixed ["_law_script", "_law_k"] (defScope s_law_mixed) := ⟨rfl, rfl, rfl, by decide +kernel, rfl, by decide +kernel, by decide +kernel⟩
theorem ok_law_mixed {P : Program} {w : World} {K : PySem.W.Frag} {mg : Str → Option Value} {base : Heap} {f : Addr} {fd : FuncData} (F : Fun K "_law_mixed" "_law_mixed" s_law_mixed f fd) (g : mg "_law_mixed" = some (.ref f)) (B : Blt mg) :
    Cal P w K mg base 1 "_law_mixed" (sp_law_mixed K) [] := cal_of (F.ok (k := 0) sc_law_mixed (fun vs H Q E h => len_law_mixed h) (fun cdv A outer s H vs Q E hr h => by
      exact ⟨t_law_mixed K, (pss_cons (ps_set (i := 2) sc_law_mixed.nd rfl (by first | exact Or.inl rfl | exact Or.inr rfl) pe_int)
    (pss_cons (ps_if (pt_cmpR op_gt (pe_callB call_len_seq (by rfl) B.len (by decide +kernel) (pa_cons (pv 0) pa_nil)) pe_int (nomark _)) (pss_one (ps_set (i := 2) sc_law_mixed.nd rfl (by first | exact Or.inl rfl | exact Or.inr rfl) (pe_ix ix_list (pv 0) (pe_op op_mod (pv 1) (pe_callB call_len_seq (by rfl) B.len (by decide +kernel) (pa_cons (pv 0) pa_nil))) (fun _ _ => rfl)))) pss_nil)
    (pss_cons (ps_set (i := 3) sc_law_mixed.nd rfl (by first | exact Or.inl rfl | exact Or.inr rfl) (pe_op op_mod (pe_op op_mul (pe_op op_add (pv 2) (pe_op op_mul pe_int (pv 1))) pe_int) pe_int))
    (pss_one (ps_ret (pe_op op_mod (pe_op op_mul (pv 3) (pv 3)) pe_int)))))), rd_law_mixed h⟩)) g F.kp (F.binds (ps := ["_law_script", "_law_k"]) fun _ _ _ _ _ _ us hl => match us, hl with | [_, _], _ => rfl)
abbrev s_law_compare_by : Stmt := topS 5
theorem sc_law_compare_by : FnScope n_law_compare_by ["_law_number", "_law_places"] (defScope s_law_compare_by) := ⟨rfl, rfl, rfl, by decide +kernel, rfl, by decide +kernel, by decide +kernel⟩
theorem ok_law_compare_by {P : Program} {w : World} {K : PySem.W.Frag} {mg : Str → Option Value} {base : Heap} {f : Addr} {fd : FuncData} (F : Fun K "_law_compare_by" "_law_compare_by" s_law_compare_by f fd) (g : mg "_law_compare_by" = some (.ref f)) (B : Blt mg) :
    Cal P w K mg base 1 "_law_compare_by" (sp_law_compare_by K) [] := cal_of (F.ok (k := 0) sc_law_compare_by (fun vs H Q E h => len_law_compare_by h) (fun cdv A outer s H vs Q E hr h => by
      exact ⟨t_law_compare_by K, (pss_cons (ps_set (i := 2) sc_law_compare_by.nd rfl (by first | exact Or.inl rfl | exact Or.inr rfl) (pe_op op_mod (pv 0) (pe_op op_sub (pv 1) pe_int)))
    (pss_cons (ps_set (i := 3) sc_law_compare_by.nd rfl (by first | exact Or.inl rfl | exact Or.inr rfl) (pe_op op_mod (pe_op op_fdiv (pv 0) pe_int) (pe_op op_sub (pe_op op_sub (pv 1) pe_int) (pv 2))))
    (pss_cons (ps_if (pt_cmpR op_eq (pe_op op_mod (pe_op op_fdiv (pv 0) pe_int) pe_int) pe_int (nomark _)) (pss_one (ps_set (i := 3) sc_law_compare_by.nd rfl (by first | exact Or.inl rfl | exact Or.inr rfl) pe_int)) pss_nil)
    (pss_one (ps_ret (pe_tup (pa_cons (pv 2) (pa_cons (pe_op op_add (pe_op op_add (pv 2) pe_int) (pv 3)) pa_nil)))))))), rd_law_compare_by h⟩)) g F.kp (F.binds (ps := ["_law_number", "_law_places"]) fun _ _ _ _ _ _ us hl => match us, hl with | [_, _], _ => rfl)
abbrev s_law_steps : Stmt := topS 6
theorem sc_law_steps : FnScope n_law_steps ["_law_places"] (defScope s_law_steps) := ⟨rfl, rfl, rfl, by decide +kernel, rfl, by decide +kernel, by decide +kernel⟩
theorem ok_law_steps {P : Program} {w : World} {K : PySem.W.Frag} {mg : Str → Option Value} {base : Heap} {f : Addr} {fd : FuncData} (F : Fun K "_law_steps" "_law_steps" s_law_steps f fd) (g : mg "_law_steps" = some (.ref f)) (B : Blt mg) :
    Cal P w K mg base 1 "_law_steps" (sp_law_steps K) [] := cal_of (F.ok (k := 0) sc_law_steps (fun vs H Q E h => len_law_steps h) (fun cdv A outer s H vs Q E hr h => by
      exact ⟨t_law_steps K, (pss_cons (ps_set (i := 1) sc_law_steps.nd rfl (by first | exact Or.inl rfl | exact Or.inr rfl) (pe_lst pa_nil))
    (pss_cons (ps_for PassesOwn.never rfl (pi_range2 (by rfl) B.range (pa_cons pe_int (pa_cons (pv 0) pa_nil))) (pg_name (i := 2) sc_law_steps.nd rfl (by first | exact Or.inl rfl | exact Or.inr rfl)) (pss_one (ps_for PassesOwn.never rfl (pi_range1 (by rfl) B.range (pa_cons (pv 2) pa_nil)) (pg_name (i := 3) sc_law_steps.nd rfl (by first | exact Or.inl rfl | exact Or.inr rfl)) (pss_one (ps_expr (pe_bm PySem.F.plainAttrs_list PySem.F.slot_list_append PySem.F.type_list_append mt_append (pv 1) (pa_cons (pe_tup (pa_cons (pe_op op_sub (pe_op op_sub (pv 2) pe_int) (pv 3)) (pa_cons (pe_op op_sub (pv 2) (pv 3)) pa_nil))) pa_nil)))))))
    (pss_one (ps_ret (pv 1))))), rd_law_steps h⟩)) g F.kp (F.binds (ps := ["_law_places"]) fun _ _ _ _ _ _ us hl => match us, hl with | [_], _ => rfl)
abbrev s_law_program_by : Stmt := topS 7
theorem sc_law_program_by : FnScope n_law_program_by ["_law_script", "_law_at", "_law_places", "_law_many"] (defScope s_law_program_by) := ⟨rfl, rfl, rfl, by decide +kernel, rfl, by decide +kernel, by decide +kernel⟩
theorem ok_law_program_by {P : Program} {w : World} {K : PySem.W.Frag} {mg : Str → Option Value} {base : Heap} {f : Addr} {fd : FuncData} (F : Fun K "_law_program_by" "_law_program_by" s_law_program_by f fd) (g : mg "_law_program_by" = some (.ref f)) (B : Blt mg) (c_law_compare_by : Cal P w K mg base 1 "_law_compare_by" (sp_law_compare_by K) []) (c_law_mixed : Cal P w K mg base 1 "_law_mixed" (sp_law_mixed K) []) (c_law_steps : Cal P w K mg base 1 "_law_steps" (sp_law_steps K) []) :
    Cal P w K mg base 2 "_law_program_by" (sp_law_program_by K) [] := cal_of (F.ok (k := 1) sc_law_program_by (fun vs H Q E h => len_law_program_by h) (fun cdv A outer s H vs Q E hr h => by
      exact ⟨t_law_program_by K, (pss_cons (ps_if (pt_cmpR op_lt (pv 2) pe_int (nomark _)) (pss_one (ps_ret (pe_tup pa_nil))) pss_nil)
    (pss_cons (ps_set (i := 4) sc_law_program_by.nd rfl (by first | exact Or.inl rfl | exact Or.inr rfl) (pe_op op_mod (C8.pe_c c_law_mixed hr (by decide) (by rfl) (pa_cons (pv 0) (pa_cons (pv 1) pa_nil))) pe_int))
    (pss_cons (ps_set (i := 5) sc_law_program_by.nd rfl (by first | exact Or.inl rfl | exact Or.inr rfl) (pe_lst pa_nil))
    (pss_cons (ps_if (pt_cmpR op_gt (pv 4) pe_int (nomark _)) (pss_one (ps_set (i := 5) sc_law_program_by.nd rfl (by first | exact Or.inl rfl | exact Or.inr rfl) (C8.pe_c c_law_steps hr (by decide) (by rfl) (pa_cons (pv 2) pa_nil)))) pss_nil)
    (pss_cons (ps_if (pt_cmpR op_eq (pv 4) pe_int (nomark _)) (pss_one (ps_set (i := 5) sc_law_program_by.nd rfl (by first | exact Or.inl rfl | exact Or.inr rfl) (pe_revL (pv 5)))) pss_nil)
    (pss_cons (ps_for PassesOwn.never rfl (pi_range1 (by rfl) B.range (pa_cons (pv 3) pa_nil)) (pg_name (i := 6) sc_law_program_by.nd rfl (by first | exact Or.inl rfl | exact Or.inr rfl)) (pss_cons (ps_set (i := 7) sc_law_program_by.nd rfl (by first | exact Or.inl rfl | exact Or.inr rfl) (C8.pe_c c_law_mixed hr (by decide) (by rfl) (pa_cons (pv 0) (pa_cons (pe_op op_add (pe_op op_add (pv 1) pe_int) (pv 6)) pa_nil))))
    (pss_cons (ps_set (i := 8) sc_law_program_by.nd rfl (by first | exact Or.inl rfl | exact Or.inr rfl) (C8.pe_c c_law_compare_by hr (by decide) (by rfl) (pa_cons (pv 7) (pa_cons (pv 2) pa_nil))))
    (pss_cons (ps_expr (pe_bm PySem.F.plainAttrs_list PySem.F.slot_list_insert PySem.F.type_list_insert mt_insert (pv 5) (pa_cons (pe_op op_mod (pe_op op_fdiv (pv 7) pe_int) (pe_op op_add (pe_callB call_len_seq (by rfl) B.len (by decide +kernel) (pa_cons (pv 5) pa_nil)) pe_int)) (pa_cons (pv 8) pa_nil))))
    (pss_one (ps_if (PW.pt (pw_and (pt_cmpR op_eq (pv 4) pe_int (nomark _)) (pw_and1 (pt_cmpR op_eq (pe_op op_mod (pv 6) pe_int) pe_int (nomark _))))) (pss_one (ps_expr (pe_bm PySem.F.plainAttrs_list PySem.F.slot_list_pop PySem.F.type_list_pop mt_popAt (pv 5) (pa_cons (pe_op op_mod (pe_op op_fdiv (pv 7) pe_int) (pe_callB call_len_seq (by rfl) B.len (by decide +kernel) (pa_cons (pv 5) pa_nil))) pa_nil)))) pss_nil))))))
    (pss_one (ps_ret (pe_callTy call_tuple_of (by rfl) B.tuple (by decide +kernel) (pa_cons (pv 5) pa_nil)))))))))), rd_law_program_by h⟩)) g F.kp (F.binds (ps := ["_law_script", "_law_at", "_law_places", "_law_many"]) fun _ _ _ _ _ _ us hl => match us, hl with | [_, _, _, _], _ => rfl)
abbrev s_law_layer_of : Stmt := topS 8
theorem sc_law_layer_of : FnScope n_law_layer_of ["_law_rows", "_law_one"] (defScope s_law_layer_of) := ⟨rfl, rfl, rfl, by decide +kernel, rfl, by decide +kernel, by decide +kernel⟩
theorem ok_law_layer_of {P : Program} {w : World} {K : PySem.W.Frag} {mg : Str → Option Value} {base : Heap} {f : Addr} {fd : FuncData} (F : Fun K "_law_layer_of" "_law_layer_of" s_law_layer_of f fd) (g : mg "_law_layer_of" = some (.ref f)) (B : Blt mg) :
    Cal P w K mg base 1 "_law_layer_of" (sp_law_layer_of K) [] := cal_of (F.ok (k := 0) sc_law_layer_of (fun vs H Q E h => len_law_layer_of h) (fun cdv A outer s H vs Q E hr h => by
      exact ⟨t_law_layer_of K, (pss_cons (ps_set (i := 2) sc_law_layer_of.nd rfl (by first | exact Or.inl rfl | exact Or.inr rfl) pe_int)
    (pss_cons (ps_for PassesOwn.never rfl (pi_range1 (by rfl) B.range (pa_cons (pe_callB call_len_seq (by rfl) B.len (by decide +kernel) (pa_cons (pv 0) pa_nil)) pa_nil)) (pg_name (i := 3) sc_law_layer_of.nd rfl (by first | exact Or.inl rfl | exact Or.inr rfl)) (pss_one (ps_for PassesOwn.never rfl (pi_list (pe_ix ix_list (pv 0) (pv 3) (fun _ _ => rfl))) (pg_name (i := 4) sc_law_layer_of.nd rfl (by first | exact Or.inl rfl | exact Or.inr rfl)) (pss_one (ps_if (PW.pt (pw_or (pt_cmpR op_in_seq (pe_ix ix_tup (pv 1) pe_int (fun _ _ => rfl)) (pv 4) rfl) (pw_or1 (pt_cmpR op_in_seq (pe_ix ix_tup (pv 1) pe_int (fun _ _ => rfl)) (pv 4) rfl)))) (pss_one (ps_set (i := 2) sc_law_layer_of.nd rfl (by first | exact Or.inl rfl | exact Or.inr rfl) (pe_op op_add (pv 3) pe_int))) pss_nil)))))
    (pss_one (ps_ret (pv 2))))), rd_law_layer_of h⟩)) g F.kp (F.binds (ps := ["_law_rows", "_law_one"]) fun _ _ _ _ _ _ us hl => match us, hl with | [_, _], _ => rfl)
abbrev s_law : Stmt := topS 9
theorem sc_law : FnScope n_law ["_law_script"] (defScope s_law) := ⟨rfl, rfl, rfl, by decide +kernel, rfl, by decide +kernel, by decide +kernel⟩
theorem fn_law {P : Program} {w : World} {K : PySem.W.Frag} {mg : Str → Option Value} {base : Heap} {f : Addr} {fd : FuncData} (F : Fun K "law" "law" s_law f fd) (B : Blt mg) (c_law_cell_at : Cal P w K mg base 1 "_law_cell_at" (sp_law_cell_at K) []) (c_law_compare_by : Cal P w K mg base 1 "_law_compare_by" (sp_law_compare_by K) []) (c_law_layer_of : Cal P w K mg base 1 "_law_layer_of" (sp_law_layer_of K) []) (c_law_mixed : Cal P w K mg base 1 "_law_mixed" (sp_law_mixed K) []) (c_law_program_by : Cal P w K mg base 2 "_law_program_by" (sp_law_program_by K) []) (c_layers : Cal P w K mg base 1 "layers" (sp_layers K) []) :
    FnOk P w K mg base CX0 3 f fd ["_law_script"] (sp_law K) := F.ok (k := 2) sc_law (fun vs H Q E h => len_law h) (fun cdv A outer s H vs Q E hr h => by
      exact ⟨t_law K, (pss_cons (ps_set (i := 1) sc_law.nd rfl (by first | exact Or.inl rfl | exact Or.inr rfl) (pe_ix ix_list (pe_lst (pa_cons pe_int (pa_cons pe_int (pa_cons pe_int (pa_cons pe_int (pa_cons pe_int (pa_cons pe_int (pa_cons pe_int (pa_cons pe_int (pa_cons (pe_op op_add pe_int (pe_op op_mod (pe_op op_fdiv (C8.pe_c c_law_cell_at hr (by decide) (by rfl) (pa_cons (pv 0) (pa_cons pe_int pa_nil))) pe_int) pe_int)) pa_nil)))))))))) (pe_op op_mod (C8.pe_c c_law_cell_at hr (by decide) (by rfl) (pa_cons (pv 0) (pa_cons pe_int pa_nil))) pe_int) (fun _ _ => rfl)))
    (pss_cons (ps_set (i := 2) sc_law.nd rfl (by first | exact Or.inl rfl | exact Or.inr rfl) (C8.pe_c c_law_program_by hr (by decide) (by rfl) (pa_cons (pv 0) (pa_cons pe_int (pa_cons (pv 1) (pa_cons (pe_op op_mod (C8.pe_c c_law_cell_at hr (by decide) (by rfl) (pa_cons (pv 0) (pa_cons pe_int pa_nil))) pe_int) pa_nil))))))
    (pss_cons (ps_if (pt_cmpR op_eq (pe_op op_mod (C8.pe_c c_law_cell_at hr (by decide) (by rfl) (pa_cons (pv 0) (pa_cons pe_int pa_nil))) pe_int) pe_int (nomark _)) (pss_cons (ps_set (i := 3) sc_law.nd rfl (by first | exact Or.inl rfl | exact Or.inr rfl) (pe_op op_mod (pe_op op_fdiv (C8.pe_c c_law_cell_at hr (by decide) (by rfl) (pa_cons (pv 0) (pa_cons pe_int pa_nil))) pe_int) pe_int))
    (pss_one (ps_set (i := 2) sc_law.nd rfl (by first | exact Or.inl rfl | exact Or.inr rfl) (pe_callTy call_tuple_of (by rfl) B.tuple (by decide +kernel) (pa_cons (pe_lc (own := [("_law_k", 8)]) (g := (gName 8)) (tt := tYes) rfl sc_law.nd (pi_range1 (by rfl) B.range (pa_cons (pv 3) pa_nil)) (blkOk_by (own := [("_law_k", 8)]) (N := n_law) (sc := defScope s_law) (by decide +kernel)) (fun _ _ _ _ _ => (pg_name (i := 8) sc_law.nd rfl (by first | exact Or.inl rfl | exact Or.inr rfl))) (fun _ _ _ _ _ => pts_nil) (fun _ _ _ _ _ => (C8.pe_c c_law_compare_by hr (by decide) (by rfl) (pa_cons (C8.pe_c c_law_mixed hr (by decide) (by rfl) (pa_cons (pv 0) (pa_cons (pe_op op_add pe_int (pv 8)) pa_nil))) (pa_cons (pv 1) pa_nil))))) pa_nil))))) pss_nil)
    (pss_cons (ps_set (i := 4) sc_law.nd rfl (by first | exact Or.inl rfl | exact Or.inr rfl) (pe_lst pa_nil))
    (pss_cons (ps_for PassesOwn.never rfl (pi_tup (pe_slice sl_tupA (pv 2) po_none (po_some pe_int))) (pg_name (i := 5) sc_law.nd rfl (by first | exact Or.inl rfl | exact Or.inr rfl)) (pss_cons (ps_set (i := 6) sc_law.nd rfl (by first | exact Or.inl rfl | exact Or.inr rfl) (C8.pe_c c_law_layer_of hr (by decide) (by rfl) (pa_cons (pv 4) (pa_cons (pv 5) pa_nil))))
    (pss_cons (ps_if (pt_cmpR op_eq (pv 6) (pe_callB call_len_seq (by rfl) B.len (by decide +kernel) (pa_cons (pv 4) pa_nil)) (nomark _)) (pss_one (ps_expr (pe_bm PySem.F.plainAttrs_list PySem.F.slot_list_append PySem.F.type_list_append mt_append (pv 4) (pa_cons (pe_lst pa_nil) pa_nil)))) pss_nil)
    (pss_one (ps_expr (pe_bm PySem.F.plainAttrs_list PySem.F.slot_list_append PySem.F.type_list_append mt_append (pe_ix ix_list (pv 4) (pv 6) (fun _ _ => rfl)) (pa_cons (pv 5) pa_nil)))))))
    (pss_cons (ps_set (i := 7) sc_law.nd rfl (by first | exact Or.inl rfl | exact Or.inr rfl) (C8.pe_c c_layers hr (by decide) (by rfl) (pa_cons (pe_slice sl_tupA (pv 2) po_none (po_some pe_int)) pa_nil)))
    (pss_cons (ps_if (PW.pt (pw_or (pt_not (pt_val (pe_callB call_isi (by rfl) B.isinstance (by decide +kernel) (pa_cons (pv 7) (pa_cons (pe_bltn (v := .ty "tuple") (by rfl) B.tuple (by decide +kernel) rfl) pa_nil))))) (pw_or1 (pt_cmpR (op_neD hr.units) (pe_lc (own := [("_law_one", 5)]) (g := (gName 5)) (tt := (tNot (tB (tCB (rIsi K) (tCons (tVar 5) (tCons (tC (.ty "tuple")) tNil)))))) rfl sc_law.nd (pi_tup (pv 7)) (blkOk_by (own := [("_law_one", 5)]) (N := n_law) (sc := defScope s_law) (by decide +kernel)) (fun _ _ _ _ _ => (pg_name (i := 5) sc_law.nd rfl (by first | exact Or.inl rfl | exact Or.inr rfl))) (fun _ _ _ _ _ => (pts_one (pt_not (pt_val (pe_callB call_isi (by rfl) B.isinstance (by decide +kernel) (pa_cons (pv 5) (pa_cons (pe_bltn (v := .ty "tuple") (by rfl) B.tuple (by decide +kernel) rfl) pa_nil))))))) (fun _ _ _ _ _ => (pv 5))) (pe_lst pa_nil) (nomark _))))) (pss_one (ps_ret pe_bl)) pss_nil)
    (pss_one (ps_ret (pe_cmpR (op_eqD hr.units) (pe_lc (own := [("_law_one", 5)]) (g := (gName 5)) (tt := tYes) rfl sc_law.nd (pi_tup (pv 7)) (blkOk_by (own := [("_law_one", 5)]) (N := n_law) (sc := defScope s_law) (by decide +kernel)) (fun _ _ _ _ _ => (pg_name (i := 5) sc_law.nd rfl (by first | exact Or.inl rfl | exact Or.inr rfl))) (fun _ _ _ _ _ => pts_nil) (fun _ _ _ _ _ => (pe_callTy call_list_of (by rfl) B.list (by decide +kernel) (pa_cons (pv 5) pa_nil)))) (pv 4) (nomark _))))))))))), rd_law h⟩)
theorem all_mk {l : PySem.W.OpenLaw} {w : World} {K : PySem.W.Frag} {h : Heap} {mg : Str → Option Value} {fa : Addr} (X : K.In h) (G : h.Ns mainGlobals mg) (hfa : mg "law" = some (.ref fa))
    {f0 : Addr} {od0 an0 : Option Addr} {sl0 : Array (Option Value)} {oc0 kV0 dc0 pm0 cd0 ct0 : Value}
    {f1 : Addr} {od1 an1 : Option Addr} {sl1 : Array (Option Value)} {oc1 kV1 dc1 pm1 cd1 ct1 : Value}
    {f2 : Addr} {od2 an2 : Option Addr} {sl2 : Array (Option Value)} {oc2 kV2 dc2 pm2 cd2 ct2 : Value}
    {f3 : Addr} {od3 an3 : Option Addr} {sl3 : Array (Option Value)} {oc3 kV3 dc3 pm3 cd3 ct3 : Value}
    {f4 : Addr} {od4 an4 : Option Addr} {sl4 : Array (Option Value)} {oc4 kV4 dc4 pm4 cd4 ct4 : Value}
    {f5 : Addr} {od5 an5 : Option Addr} {sl5 : Array (Option Value)} {oc5 kV5 dc5 pm5 cd5 ct5 : Value}
    {f6 : Addr} {od6 an6 : Option Addr} {sl6 : Array (Option Value)} {oc6 kV6 dc6 pm6 cd6 ct6 : Value}
    {f7 : Addr} {od7 an7 : Option Addr} {sl7 : Array (Option Value)} {oc7 kV7 dc7 pm7 cd7 ct7 : Value}
    (a0 : PySem.W.nsIn K mainGlobals "layers" = some (some (.ref f0))) (l0 : K.lookup f0 = some ⟨oc0, od0, .func (PySem.W.fnOf "layers" "layers" (defArgs s_layers) (defBody s_layers) (defScope s_layers) .none kV0 dc0 pm0 an0 cd0 ct0), sl0⟩) (c0 : PySem.W.codeIn K cd0 "layers" = true) (k0 : PySem.W.keepIn K (.ref f0) = true)
    (a1 : PySem.W.nsIn K mainGlobals "_law_cell_at" = some (some (.ref f1))) (l1 : K.lookup f1 = some ⟨oc1, od1, .func (PySem.W.fnOf "_law_cell_at" "_law_cell_at" (defArgs s_law_cell_at) (defBody s_law_cell_at) (defScope s_law_cell_at) .none kV1 dc1 pm1 an1 cd1 ct1), sl1⟩) (c1 : PySem.W.codeIn K cd1 "_law_cell_at" = true) (k1 : PySem.W.keepIn K (.ref f1) = true)
    (a2 : PySem.W.nsIn K mainGlobals "_law_mixed" = some (some (.ref f2))) (l2 : K.lookup f2 = some ⟨oc2, od2, .func (PySem.W.fnOf "_law_mixed" "_law_mixed" (defArgs s_law_mixed) (defBody s_law_mixed) (defScope s_law_mixed) .none kV2 dc2 pm2 an2 cd2 ct2), sl2⟩) (c2 : PySem.W.codeIn K cd2 "_law_mixed" = true) (k2 : PySem.W.keepIn K (.ref f2) = true)
    (a3 : PySem.W.nsIn K mainGlobals "_law_compare_by" = some (some (.ref f3))) (l3 : K.lookup f3 = some ⟨oc3, od3, .func (PySem.W.fnOf "_law_compare_by" "_law_compare_by" (defArgs s_law_compare_by) (defBody s_law_compare_by) (defScope s_law_compare_by) .none kV3 dc3 pm3 an3 cd3 ct3), sl3⟩) (c3 : PySem.W.codeIn K cd3 "_law_compare_by" = true) (k3 : PySem.W.keepIn K (.ref f3) = true)
    (a4 : PySem.W.nsIn K mainGlobals "_law_steps" = some (some (.ref f4))) (l4 : K.lookup f4 = some ⟨oc4, od4, .func (PySem.W.fnOf "_law_steps" "_law_steps" (defArgs s_law_steps) (defBody s_law_steps) (defScope s_law_steps) .none kV4 dc4 pm4 an4 cd4 ct4), sl4⟩) (c4 : PySem.W.codeIn K cd4 "_law_steps" = true) (k4 : PySem.W.keepIn K (.ref f4) = true)
    (a5 : PySem.W.nsIn K mainGlobals "_law_layer_of" = some (some (.ref f5))) (l5 : K.lookup f5 = some ⟨oc5, od5, .func (PySem.W.fnOf "_law_layer_of" "_law_layer_of" (defArgs s_law_layer_of) (defBody s_law_layer_of) (defScope s_law_layer_of) .none kV5 dc5 pm5 an5 cd5 ct5), sl5⟩) (c5 : PySem.W.codeIn K cd5 "_law_layer_of" = true) (k5 : PySem.W.keepIn K (.ref f5) = true)
    (a6 : PySem.W.nsIn K mainGlobals "_law_program_by" = some (some (.ref f6))) (l6 : K.lookup f6 = some ⟨oc6, od6, .func (PySem.W.fnOf "_law_program_by" "_law_program_by" (defArgs s_law_program_by) (defBody s_law_program_by) (defScope s_law_program_by) .none kV6 dc6 pm6 an6 cd6 ct6), sl6⟩) (c6 : PySem.W.codeIn K cd6 "_law_program_by" = true) (k6 : PySem.W.keepIn K (.ref f6) = true)
    (a7 : PySem.W.nsIn K mainGlobals "law" = some (some (.ref f7))) (l7 : K.lookup f7 = some ⟨oc7, od7, .func (PySem.W.fnOf "law" "law" (defArgs s_law) (defBody s_law) (defScope s_law) .none kV7 dc7 pm7 an7 cd7 ct7), sl7⟩) (c7 : PySem.W.codeIn K cd7 "law" = true) (k7 : PySem.W.keepIn K (.ref f7) = true)
    (z_len : PySem.W.nsIn K mainGlobals "len" = some none)
    (z_range : PySem.W.nsIn K mainGlobals "range" = some none)
    (z_tuple : PySem.W.nsIn K mainGlobals "tuple" = some none)
    (z_list : PySem.W.nsIn K mainGlobals "list" = some none)
    (z_isinstance : PySem.W.nsIn K mainGlobals "isinstance" = some none)
    (z_int : PySem.W.nsIn K mainGlobals "int" = some none)
    (z_bool : PySem.W.nsIn K mainGlobals "bool" = some none)
    (z_str : PySem.W.nsIn K mainGlobals "str" = some none)
    (z_all : PySem.W.nsIn K mainGlobals "all" = some none)
    (z_max : PySem.W.nsIn K mainGlobals "max" = some none)
    (z_sorted : PySem.W.nsIn K mainGlobals "sorted" = some none)
    (z_ValueError : PySem.W.nsIn K mainGlobals "ValueError" = some none) :
    ∃ fd : FuncData, (∀ (s : Shared) (v : Value), BindsTo s fd ⟨[v], []⟩ [("_law_script", v)]) ∧ ∀ base : Heap, K.In base → base.Ns mainGlobals mg → FnOk l.prog w K mg base CX0 3 fa fd ["_law_script"] (sp_law K) := by
  have e := hfa.symm.trans (PySem.W.mg_of X G a7)
  cases e
  have B : Blt mg := ⟨PySem.W.mg_none_of X G z_len, PySem.W.mg_none_of X G z_range, PySem.W.mg_none_of X G z_tuple, PySem.W.mg_none_of X G z_list, PySem.W.mg_none_of X G z_isinstance, PySem.W.mg_none_of X G z_int, PySem.W.mg_none_of X G z_bool, PySem.W.mg_none_of X G z_str, PySem.W.mg_none_of X G z_all, PySem.W.mg_none_of X G z_max, PySem.W.mg_none_of X G z_sorted, PySem.W.mg_none_of X G z_ValueError⟩
  have F0 := fun_mk (st := s_layers) l0 c0 k0
  have F1 := fun_mk (st := s_law_cell_at) l1 c1 k1
  have F2 := fun_mk (st := s_law_mixed) l2 c2 k2
  have F3 := fun_mk (st := s_law_compare_by) l3 c3 k3
  have F4 := fun_mk (st := s_law_steps) l4 c4 k4
  have F5 := fun_mk (st := s_law_layer_of) l5 c5 k5
  have F6 := fun_mk (st := s_law_program_by) l6 c6 k6
  have F7 := fun_mk (st := s_law) l7 c7 k7
  refine ⟨PySem.W.fnOf "law" "law" (defArgs s_law) (defBody s_law) (defScope s_law) .none kV7 dc7 pm7 an7 cd7 ct7, fun s v => .of_eq rfl, fun base _ _ => ?_⟩
  have c_layers := ok_layers (P := l.prog) (w := w) (base := base) F0 (PySem.W.mg_of X G a0) B
  have c_law_cell_at := ok_law_cell_at (P := l.prog) (w := w) (base := base) F1 (PySem.W.mg_of X G a1) B
  have c_law_mixed := ok_law_mixed (P := l.prog) (w := w) (base := base) F2 (PySem.W.mg_of X G a2) B
  have c_law_compare_by := ok_law_compare_by (P := l.prog) (w := w) (base := base) F3 (PySem.W.mg_of X G a3) B
  have c_law_steps := ok_law_steps (P := l.prog) (w := w) (base := base) F4 (PySem.W.mg_of X G a4) B
  have c_law_layer_of := ok_law_layer_of (P := l.prog) (w := w) (base := base) F5 (PySem.W.mg_of X G a5) B
  have c_law_program_by := ok_law_program_by (P := l.prog) (w := w) (base := base) F6 (PySem.W.mg_of X G a6) B c_law_compare_by c_law_mixed c_law_steps
  exact fn_law F7 B c_law_cell_at c_law_compare_by c_law_layer_of c_law_mixed c_law_program_by c_layers
end SF
open PySem PySem.W PyProof.Rows
set_option maxHeartbeats 0 in
theorem PySem.Challenge.cw_sortforge_k03_layers_told_holds : PySem.Challenge.rw_sortforge_k03_layers_told.Holds := by
  w_on; o_law; k_head; (case hw => w_witness2)
  k_fill
  refine L2.walk_of (l := PySem.Challenge.rw_sortforge_k03_layers_told) (n := 63) (k := 3) (x := "_law_script") (CX := fun _ => L2.CX0) (sp := fun w => SF.sp_law _) rfl (by decide) rfl ⟨rfl, by decide, by decide⟩ (fun w h Y => PySem.W.kIn_of Y) ?F (fun w H a ns hl hO hS => SF.law_start hl hO hS) (fun _ _ _ _ _ h => h)
  case F =>
    intro w mg fa h KX G hmg
    refine' SF.all_mk KX G hmg ?a0 ?l0 ?c0 ?k0 ?a1 ?l1 ?c1 ?k1 ?a2 ?l2 ?c2 ?k2 ?a3 ?l3 ?c3 ?k3 ?a4 ?l4 ?c4 ?k4 ?a5 ?l5 ?c5 ?k5 ?a6 ?l6 ?c6 ?k6 ?a7 ?l7 ?c7 ?k7 ?z_len ?z_range ?z_tuple ?z_list ?z_isinstance ?z_int ?z_bool ?z_str ?z_all ?z_max ?z_sorted ?z_ValueError
    (case a0 => k_is)
    (case l0 => k_is)
    (case c0 => k_is)
    (case k0 => k_is)
    (case a1 => k_is)
    (case l1 => k_is)
    (case c1 => k_is)
    (case k1 => k_is)
    (case a2 => k_is)
    (case l2 => k_is)
    (case c2 => k_is)
    (case k2 => k_is)
    (case a3 => k_is)
    (case l3 => k_is)
    (case c3 => k_is)
    (case k3 => k_is)
    (case a4 => k_is)
    (case l4 => k_is)
    (case c4 => k_is)
    (case k4 => k_is)
    (case a5 => k_is)
    (case l5 => k_is)
    (case c5 => k_is)
    (case k5 => k_is)
    (case a6 => k_is)
    (case l6 => k_is)
    (case c6 => k_is)
    (case k6 => k_is)
    (case a7 => k_is)
    (case l7 => k_is)
    (case c7 => k_is)
    (case k7 => k_is)
    (case z_len => k_is)
    (case z_range => k_is)
    (case z_tuple => k_is)
    (case z_list => k_is)
    (case z_isinstance => k_is)
    (case z_int => k_is)
    (case z_bool => k_is)
    (case z_str => k_is)
    (case z_all => k_is)
    (case z_max => k_is)
    (case z_sorted => k_is)
    (case z_ValueError => k_is)
