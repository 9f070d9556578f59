import PyProof.Rows.All
import Wide.All
import OpenK.AllK
import Wide.FinOn
import HandS.ForExc
import HandS.ForMost
import HandS.IsInst
import HandS.ExcIs
import HandS.TupAny
import HandS.SortKw
import HandS.Conv
import HandS.Style
import HandS.Wide
import HandS.Codes
import HandS.CallLocal
import HandS.SortInts
import HandS.More
import KE.GoesComp
import KE.KAsSuite
import PySem.Challenge.RW_sortforge_k04_texts_of_programs
set_option Elab.async false
set_option linter.all false
set_option maxRecDepth 100000
set_option maxHeartbeats 8000000
set_option maxHeartbeats 4000000
/-! max(list of ints, default=int): the library's walk carried over to the call that bears a default. -/
namespace SF
open PySem PySem.Spec PyProof.Rows L2
open Sem (wp)
abbrev dKw (d : Value) : List (Str × Value) := [(Str.ofString "default", d)]
theorem maxArgs (a d : Value) : argsOk "max" ⟨[a], dKw d⟩ := by unfold argsOk; kernel_rfl
theorem maxBind (d : Value) : Builtin.Builtins.bindParams "max" ["key", "default"] 0 ⟨[], dKw d⟩ = pure [none, some d] := by rfl
section
variable {prog : Program} {w : World} {A : Around} {R : Result → Shared → Prop} {It : Addr} {fp wr : List Addr} {n : Nat} {P : Nat → Value → Prop} {St : Nat → Heap → Prop}
theorem maxName : (toString "max" ++ toString ".loop" : String) = "max.loop" := by decide
/-- some items have gone by -/
theorem maxGo (W : Walks prog w A.in1 It fp wr n P St) (bt : Nat → Nat → Bool) (cmp : CmpOf prog w A.in1 .Gt P bt) (S : Addr) (d : Value) (nf : S ∉ fp) :
    ∀ (k j : Nat) (s : Shared) (top : Value) (c : Nat), n - (j + 1) = k → j + 1 ≤ n → St (j + 1) s.heap → P (argBest bt j) top →
      s.heap.get? S = some { cls := .type "list", dict := none, data := .seq #[top, top] c, slots := #[] } →
      (∀ v h' tk, P (argBest bt (n - 1)) v → (∀ b o, b ∉ wr → b ≠ S → s.heap.get? b = some o → h'.get? b = some o) → R (.ok (.ret v)) { s with heap := h', toks := tk }) →
      codeAny (model prog w) A (.builtin "max.loop" ⟨[.ref It, .none, .ref S], dKw d⟩) R s := by
  have nw : S ∉ wr := fun q => nf (W.sub _ q)
  intro k
  induction k with
  | zero =>
    intro j s top c hk hj st pt oS fin
    have last : j + 1 = n := by omega
    refine codeAny_builtin F.entry_max_loop ?_
    rw [Around.under_plainId F.plain_max_loop _]
    show wpAny _ A.in1 (seqItems? (.ref S) >>= _) _ _ s
    refine wpAny_bind (wpAny_seqItems oS rfl ?_)
    show wpAny _ A.in1 (tryCatch (pyNext (.ref It)) _ >>= _) _ _ s
    refine wpAny_bind (wpAny_tryCatch (W.done s _ _ (last ▸ st) fun h' tk keep => ?_))
    have oS' := keep S _ nw oS
    show wpAny _ A.in1 (updateSeq S (fun _ => #[]) >>= _) _ _ _
    refine wpAny_bind ?_
    refine wpAny_updateSeq oS' rfl (wpAny_bind (wpAny_letGo (wpAny_pure ?_)))
    exact fin top _ tk (by rw [← last]; exact pt) fun b o b1 b2 e => (Heap.get?_update_other _ _ (Ne.symm b2)).trans (keep b o b1 e)
  | succ k ih =>
    intro j s top c hk hj st pt oS fin
    have more : j + 1 < n := by omega
    refine codeAny_builtin F.entry_max_loop ?_
    rw [Around.under_plainId F.plain_max_loop _]
    show wpAny _ A.in1 (seqItems? (.ref S) >>= _) _ _ s
    refine wpAny_bind (wpAny_seqItems oS rfl ?_)
    show wpAny _ A.in1 (tryCatch (pyNext (.ref It)) _ >>= _) _ _ s
    refine wpAny_bind (wpAny_tryCatch (W.item (j + 1) s _ _ more st fun v h' tk pv st' keep => ?_))
    have oS' := keep S _ nw oS
    show wpAny _ A.in1 (tryCatch (holding [v, v] (richCompare .Gt v top >>= _)) _ >>= _) _ _ _
    refine wpAny_bind (wpAny_tryCatch (wpAny_holding (wpAny_bind (cmp (j + 1) (argBest bt j) v top _ _ _ pv pt ?_))))
    refine wpAny_bind (wpAny_holding (wpAny_truthy_bool ?_))
    refine wpAny_bind (wpAny_letGo (wpAny_pure ?_))
    cases hb : bt (j + 1) (argBest bt j) with
    | true =>
      simp only [if_true]
      refine wpAny_bind ?_
      refine wpAny_updateSeq oS' rfl (wpAny_bind (wpAny_letGo ?_))
      rw [maxName]
      refine wpAny_pure ⟨plainId_quiet F.plain_max_loop _, ih (j + 1) _ v _ (by omega) more (W.frame _ _ _ st' fun b hbf o e => ?_) (by simp only [argBest, hb, if_true]; exact pv) (Heap.get?_update_self _ oS' rfl)
        fun v' h2 tk2 pv' keep2 => ?_⟩
      · exact (Heap.get?_update_other _ _ (fun q : S = b => nf (by rw [q]; exact hbf))).trans e
      · exact fin v' h2 tk2 pv' fun b o b1 b2 e => keep2 b o b1 b2 ((Heap.get?_update_other _ _ (Ne.symm b2)).trans (keep b o b1 e))
    | false =>
      simp only [Bool.false_eq_true, if_false]
      refine wpAny_bind (wpAny_letGo ?_)
      rw [maxName]
      refine wpAny_pure ⟨plainId_quiet F.plain_max_loop _, ih (j + 1) _ top c (by omega) more st' (by simp only [argBest, hb, Bool.false_eq_true, if_false]; exact pt) oS' fun v' h2 tk2 pv' keep2 => ?_⟩
      exact fin v' h2 tk2 pv' fun b o b1 b2 e => keep2 b o b1 b2 (keep b o b1 e)
/-- the first look: an item, or the default -/
theorem maxStart (W : Walks prog w A.in1 It fp wr n P St) (bt : Nat → Nat → Bool) (cmp : CmpOf prog w A.in1 .Gt P bt) (S : Addr) (d : Value) (nf : S ∉ fp) {s : Shared} {c : Nat} (st : St 0 s.heap)
    (oS : s.heap.get? S = some { cls := .type "list", dict := none, data := .seq #[] c, slots := #[] })
    (fin : ∀ v h' tk, (n = 0 ∧ v = d ∨ 0 < n ∧ P (argBest bt (n - 1)) v) → (∀ b o, b ∉ wr → b ≠ S → s.heap.get? b = some o → h'.get? b = some o) → R (.ok (.ret v)) { s with heap := h', toks := tk }) :
    codeAny (model prog w) A (.builtin "max.loop" ⟨[.ref It, .none, .ref S], dKw d⟩) R s := by
  have nw : S ∉ wr := fun q => nf (W.sub _ q)
  refine codeAny_builtin F.entry_max_loop ?_
  rw [Around.under_plainId F.plain_max_loop _]
  show wpAny _ A.in1 (seqItems? (.ref S) >>= _) _ _ s
  refine wpAny_bind (wpAny_seqItems oS rfl ?_)
  show wpAny _ A.in1 (tryCatch (pyNext (.ref It)) _ >>= _) _ _ s
  by_cases hn : 0 < n
  · refine wpAny_bind (wpAny_tryCatch (W.item 0 s _ _ hn st fun v h' tk pv st' keep => ?_))
    have oS' := keep S _ nw oS
    show wpAny _ A.in1 (updateSeq S (fun _ => #[v, v]) >>= _) _ _ _
    refine wpAny_bind ?_
    refine wpAny_updateSeq oS' rfl ?_
    rw [maxName]
    refine wpAny_pure ⟨plainId_quiet F.plain_max_loop _, maxGo W bt cmp S d nf _ 0 _ v _ rfl hn (W.frame _ _ _ st' fun b hbf o e => ?_) pv (Heap.get?_update_self _ oS' rfl) fun v' h2 tk2 pv' keep2 => ?_⟩
    · exact (Heap.get?_update_other _ _ (fun q : S = b => nf (by rw [q]; exact hbf))).trans e
    · exact fin v' h2 tk2 (.inr ⟨hn, pv'⟩) fun b o b1 b2 e => keep2 b o b1 b2 ((Heap.get?_update_other _ _ (Ne.symm b2)).trans (keep b o b1 e))
  · have e0 : n = 0 := by omega
    subst e0
    refine wpAny_bind (wpAny_tryCatch (W.done s _ _ st fun h' tk keep => ?_))
    show wpAny _ A.in1 (rule _ >>= _) _ _ _
    refine wpAny_bind (wpAny_rule ?_)
    exact wpAny_pure (fin d h' tk (.inl ⟨rfl, rfl⟩) fun b o b1 _ e => keep b o b1 e)
end
section
variable {prog : Program} {w : World} {A : Around} {E : Value → Shared → Prop} {s : Shared} {l : Addr} {xs : Array (Int × Tok)}
theorem max_def {d : Value} {Q : Value → Shared → Prop} (hh : A.handled = none) (hl : s.heap.IsList l (intItems xs))
    (fin : ∀ v h' tk, (xs.size = 0 ∧ v = d ∨ 0 < xs.size ∧ (intItems xs)[argBest (fun i j => decide (numAt xs i > numAt xs j)) (xs.size - 1)]? = some v) → (∀ b o, s.heap.get? b = some o → h'.get? b = some o) → Q v { s with heap := h', toks := tk }) :
    wpAny (model prog w) A (call (.builtin "max") [.ref l] (dKw d)) Q E s := by
  refine wpAny_call (codeAny_call_builtin F.plain_max F.entry_max ?_)
  have body : wpAny (model prog w) A.in1 (Builtin.«max» ⟨[.ref l], dKw d⟩) (fun f s' => match f with
      | .done g => (match (Except.ok g : Result) with | .ok (.ret v) => Q v s' | .ok _ => False | .error e => E e s')
      | .again c' => c'.quiet = true ∧ codeAny (model prog w) A c' (fun r s' => match r with | .ok (.ret v) => Q v s' | .ok _ => False | .error e => E e s') s') E s := by
    show wpAny _ A.in1 (Builtin.Builtins.bindParams "max" ["key", "default"] 0 ⟨[], dKw d⟩ >>= _) _ _ s
    refine wpAny_bind (wpAny_of_eq (maxBind d) ?_)
    refine wpAny_bind (wpAny_pure ?_)
    refine wpAny_bind (iter_intList hl fun s₂ e st hfp hlI => ?_)
    subst e
    refine wpAny_bind (wpAny_newObj_type ?_)
    rw [maxName]
    have W := Walks.list (prog := prog) (w := w) (A := A.in1.in1) hh s.heap.objs.size l hlI (intItems xs)
    refine wpAny_pure ⟨plainId_quiet F.plain_max_loop _, maxStart (A := A) (Walks.list (A := A.in1) hh _ l hlI (intItems xs)) _ (CmpOf.ints_gt (numAt xs) (fun _ _ => intItems_at)) _ d (fun hm => Nat.lt_irrefl _ (hfp _ hm))
      ((Walks.list (prog := prog) (w := w) (A := A.in1) hh _ l hlI (intItems xs)).frame _ _ _ st fun b _ o e => Heap.get?_push_of_some _ e) (Heap.get?_push_size _ rfl) fun v h' tk hv keep => ?_⟩
    refine fin v h' tk ?_ fun b o e => ?_
    · simpa [intItems] using hv
    · have lb : b < s.heap.objs.size := Heap.lt_size e
      refine keep b o (fun q => ?_) ?_ (Heap.get?_push_of_some _ (Heap.get?_push_of_some _ e))
      · have q' : b = s.heap.objs.size := by simpa using q
        exact Nat.lt_irrefl _ (q' ▸ lb)
      · intro q
        have z : (s.heap.push { cls := .type "list_iterator", data := .fields #[.ref l, .int 0 0] }).objs.size = s.heap.objs.size + 1 := Heap.size_push ..
        rw [q, z] at lb
        exact Nat.lt_irrefl _ (Nat.lt_of_succ_lt lb)
  simp only [checkBuiltinCall, F.kind_max]
  cases hsig : Manifest.signature? "max" with
  | none => exact wpAny_pure body
  | some sig =>
    have ha' : Bind.checkArgs "max" sig ⟨[.ref l], dKw d⟩ = pure () := by simpa only [argsOk, hsig] using maxArgs (.ref l) d
    simp only [ha']
    exact wpAny_pure body
end
/-- the greatest of ns, d where there is none -/
def maxOf (d : Int) : List Int → Int
  | [] => d
  | x :: xs => xs.foldl max x
theorem foldl_max_ge : ∀ (xs : List Int) (x : Int), x ≤ xs.foldl max x
  | [], x => Int.le_refl _
  | y :: ys, x => Int.le_trans (Int.le_max_left x y) (foldl_max_ge ys (max x y))
theorem foldl_max_all : ∀ (xs : List Int) (x y : Int), y ∈ xs → y ≤ xs.foldl max x
  | z :: zs, x, y, h => by
    rcases List.mem_cons.mp h with e | h
    · subst e
      exact Int.le_trans (Int.le_max_right x y) (foldl_max_ge zs (max x y))
    · exact foldl_max_all zs (max x z) y h
theorem foldl_max_mem : ∀ (xs : List Int) (x : Int), xs.foldl max x ∈ x :: xs
  | [], x => List.mem_cons_self
  | y :: ys, x => by
    have h := foldl_max_mem ys (max x y)
    show ys.foldl max (max x y) ∈ _
    rcases List.mem_cons.mp h with e | h
    · rw [e]
      by_cases q : x ≤ y
      · rw [Int.max_eq_right q]
        exact List.mem_cons_of_mem _ List.mem_cons_self
      · rw [Int.max_eq_left (by omega)]
        exact List.mem_cons_self
    · exact List.mem_cons_of_mem _ (List.mem_cons_of_mem _ h)
theorem maxOf_is {d m : Int} {ns : List Int} (h1 : m ∈ ns) (h2 : ∀ y ∈ ns, y ≤ m) : m = maxOf d ns := by
  cases ns with
  | nil => cases h1
  | cons x xs =>
    show m = xs.foldl max x
    refine Int.le_antisymm ?_ (h2 _ (foldl_max_mem xs x))
    rcases List.mem_cons.mp h1 with e | h
    · rw [e]
      exact foldl_max_ge xs x
    · exact foldl_max_all xs x m h
def rMaxD (K : PySem.W.Frag) : List V → List V → Hp → VK → Prop := fun vs zs H Q => ∃ (a : Addr) (ns : List Int) (d : Int), vs = [V.ref a] ∧ zs = [V.int d] ∧ SqL K H a (ns.map V.int) ∧ Q (.int (maxOf d ns)) H
theorem cr_maxD {X : Cx} (hc : X.calm = true) : CallRK X (.builtin "max") [Str.ofString "default"] (rMaxD X.K) := by
  intro pins s σ H vs zs us ws Q I r rz h
  obtain ⟨a, ns, d, rfl, rfl, hs, q⟩ := h
  obtain ⟨its, rv, hl, _⟩ := I.list hs
  rw [Vals.ref1 r]
  obtain ⟨w1, rfl, e1⟩ := vals1 rz
  obtain ⟨t, rfl⟩ : ∃ t, w1 = Value.int d t := e1
  have hi := rv.ints
  obtain ⟨xs, e⟩ := hi.allInts.items
  have hn : numsOf (intItems xs).toList = ns := by
    rw [← e]
    exact hi.numsOf
  rw [nums_intItems] at hn
  subst hn
  have hl' := hl.isList
  rw [e] at hl'
  refine max_def (d := .int d t) (I.ok.hd hc) hl' fun v h' tk hv keep => ?_
  rcases hv with ⟨e0, rfl⟩ | ⟨hsz, hv⟩
  · refine ⟨.int d, H, I.kept keep, ⟨_, rfl⟩, ?_⟩
    have e2 : xs.toList = [] := List.eq_nil_of_length_eq_zero (by simpa using e0)
    rw [e2] at q
    exact q
  · obtain ⟨t', rfl⟩ := intItems_at hv
    obtain ⟨h1, h2⟩ := argBest_gt (numAt xs) (xs.size - 1)
    refine ⟨.int _, H, I.kept keep, ⟨_, rfl⟩, ?_⟩
    rw [maxOf_is (d := d) (m := numAt xs (argBest (fun i j => decide (numAt xs i > numAt xs j)) (xs.size - 1))) (ns := xs.toList.map (·.1)) ?_ fun y hy => ?_]
    · exact q
    · rw [numAt_eq]
      exact PySem.getD_mem (by rw [List.length_map, Array.length_toList]; omega)
    · obtain ⟨j, hj, rfl⟩ := mem_getD hy
      rw [List.length_map, Array.length_toList] at hj
      rw [← numAt_eq]
      exact h2 j (by omega)
end SF

set_option maxHeartbeats 4000000
/-! What the walks of this program share: heaps that grow, data that stands, calls by value. -/
namespace SF
open PySem PySem.Spec PyProof.Rows L2
open C8 (Cal pe_c)
/-! ### heaps -/
theorem same_new {H : Hp} {p : Addr} {o : HO} (h : H p = none) : Same H (upd H p o) := fun b u e => by
  rw [upd_ne (ne_of_none e h)]
  exact e
theorem same_mut {H0 H : Hp} {p : Addr} {o : HO} (e : Same H0 H) (n : H0 p = none) : Same H0 (upd H p o) := fun b u q => by
  rw [upd_ne (ne_of_none q n)]
  exact e b u q
/-- tuples (and what is locked) stand -/
def Tx (H H' : Hp) : Prop := (∀ a xs, H a = some (.tup xs) → H' a = some (.tup xs)) ∧ ∀ a o u, H a = some (.frz o u) → H' a = some (.frz o u)
theorem Tx.refl (H : Hp) : Tx H H := ⟨fun _ _ e => e, fun _ _ _ e => e⟩
theorem Tx.trans {H H1 H2 : Hp} (a : Tx H H1) (b : Tx H1 H2) : Tx H H2 := ⟨fun x xs e => b.1 x xs (a.1 x xs e), fun x o u e => b.2 x o u (a.2 x o u e)⟩
theorem Tx.of {H H' : Hp} (e : Same H H') : Tx H H' := ⟨fun a xs q => e a _ q, fun a o u q => e a _ q⟩
theorem Tx.new {H : Hp} {p : Addr} {o : HO} (h : H p = none) : Tx H (upd H p o) := .of (same_new h)
theorem Tx.mut {H : Hp} {p : Addr} {xs : List V} {o : HO} (h : H p = some (.lst xs)) : Tx H (upd H p o) := ⟨fun a ys e => by
    rw [upd_ne (ne_of e h (fun z => by cases z))]
    exact e, fun a q u e => by
    rw [upd_ne (ne_of e h (fun z => by cases z))]
    exact e⟩
theorem Tx.mutD {H : Hp} {p : Addr} {xs : List (Key × V)} {o : HO} (h : H p = some (.dK xs)) : Tx H (upd H p o) := ⟨fun a ys e => by
    rw [upd_ne (ne_of e h (fun z => by cases z))]
    exact e, fun a q u e => by
    rw [upd_ne (ne_of e h (fun z => by cases z))]
    exact e⟩
theorem sqT_tx {K : PySem.W.Frag} {H H' : Hp} {a : Addr} {xs : List V} (e : Tx H H') (h : SqT K H a xs) : SqT K H' a xs := by
  rcases h with (h | ⟨o, h⟩) | h
  · exact .inl (.inl (e.1 _ _ h))
  · exact .inl (.inr ⟨o, e.2 _ _ _ h⟩)
  · exact .inr h
theorem sqL_same {K : PySem.W.Frag} {H H' : Hp} {a : Addr} {xs : List V} (e : Same H H') (h : SqL K H a xs) : SqL K H' a xs := e.seq h
theorem sqT_of {K : PySem.W.Frag} {H : Hp} {a : Addr} {xs : List V} (h : H a = some (.tup xs)) : SqT K H a xs := .inl (.inl h)
theorem sqL_of {K : PySem.W.Frag} {H : Hp} {a : Addr} {xs : List V} (h : H a = some (.lst xs)) : SqL K H a xs := .inl (.inl h)
/-- locked lists: the script -/
theorem sqL_tx {K : PySem.W.Frag} {H H' : Hp} {a : Addr} {xs : List V} (e : Tx H H') (h : (∃ o, H a = some (.frz o (.lst xs))) ∨ SqL K (fun _ => none) a xs) : (∃ o, H' a = some (.frz o (.lst xs))) ∨ SqL K (fun _ => none) a xs := by
  rcases h with ⟨o, h⟩ | h
  · exact .inl ⟨o, e.2 _ _ _ h⟩
  · exact .inr h
/-! ### data that stands -/
mutual
inductive Im (K : PySem.W.Frag) (H : Hp) : V → PyData → Prop
  | non : Im K H .non .none
  | bl (b : Bool) : Im K H (.bl b) (.bool b)
  | int (i : Int) : Im K H (.int i) (.int i)
  | str (x : Str) : Im K H (.str x) (.str x)
  | tup {a : Addr} {xs : List V} {ds : List PyData} : SqT K H a xs → ImAll K H xs ds → Im K H (.ref a) (.tuple ds)
inductive ImAll (K : PySem.W.Frag) (H : Hp) : List V → List PyData → Prop
  | nil : ImAll K H [] []
  | cons {v : V} {vs : List V} {d : PyData} {ds : List PyData} : Im K H v d → ImAll K H vs ds → ImAll K H (v :: vs) (d :: ds)
end
section
variable {K : PySem.W.Frag} {H H' : Hp}
mutual
theorem Im.tx (e : Tx H H') : ∀ {v : V} {d : PyData}, Im K H v d → Im K H' v d
  | _, _, .non => .non
  | _, _, .bl b => .bl b
  | _, _, .int i => .int i
  | _, _, .str x => .str x
  | _, _, .tup h t => .tup (sqT_tx e h) (ImAll.tx e t)
theorem ImAll.tx (e : Tx H H') : ∀ {vs : List V} {ds : List PyData}, ImAll K H vs ds → ImAll K H' vs ds
  | _, _, .nil => .nil
  | _, _, .cons h t => .cons (Im.tx e h) (ImAll.tx e t)
end
mutual
theorem Im.dp : ∀ {v : V} {d : PyData}, Im K H v d → Dp K H v d
  | _, _, .non => .non
  | _, _, .bl b => .bl b
  | _, _, .int i => .int i
  | _, _, .str x => .str x
  | _, _, .tup h t => .tup h (ImAll.dp t)
theorem ImAll.dp : ∀ {vs : List V} {ds : List PyData}, ImAll K H vs ds → DpAll K H vs ds
  | _, _, .nil => .nil
  | _, _, .cons h t => .cons (Im.dp h) (ImAll.dp t)
end
mutual
theorem dp_same (e : Same H H') : ∀ {v : V} {d : PyData}, Dp K H v d → Dp K H' v d
  | _, _, .non => .non
  | _, _, .bl b => .bl b
  | _, _, .int i => .int i
  | _, _, .str x => .str x
  | _, _, .lst h t => .lst (e.seq h) (dpAll_same e t)
  | _, _, .tup h t => .tup (sqT_tx (.of e) h) (dpAll_same e t)
theorem dpAll_same (e : Same H H') : ∀ {vs : List V} {ds : List PyData}, DpAll K H vs ds → DpAll K H' vs ds
  | _, _, .nil => .nil
  | _, _, .cons h t => .cons (dp_same e h) (dpAll_same e t)
end
theorem Im.same (e : Same H H') {v : V} {d : PyData} (h : Im K H v d) : Im K H' v d := h.tx (.of e)
theorem ImAll.same (e : Same H H') {vs : List V} {ds : List PyData} (h : ImAll K H vs ds) : ImAll K H' vs ds := h.tx (.of e)
theorem ImAll.length : ∀ {vs : List V} {ds : List PyData}, ImAll K H vs ds → vs.length = ds.length
  | _, _, .nil => rfl
  | _, _, .cons _ t => by simp [ImAll.length t]
theorem ImAll.get : ∀ {vs : List V} {ds : List PyData} {i : Nat} {v : V}, ImAll K H vs ds → vs[i]? = some v → ∃ d, ds[i]? = some d ∧ Im K H v d
  | _, _, _, _, .nil, e => by simp at e
  | _, _, 0, _, .cons h _, e => by
    simp at e
    subst e
    exact ⟨_, rfl, h⟩
  | _, _, i + 1, v, .cons _ t, e => by
    obtain ⟨d, h1, h2⟩ := ImAll.get (i := i) (v := v) t (by simpa using e)
    exact ⟨d, by simpa using h1, h2⟩
theorem ImAll.at : ∀ {vs : List V} {ds : List PyData} {i : Nat} {d : PyData}, ImAll K H vs ds → ds[i]? = some d → ∃ v, vs[i]? = some v ∧ Im K H v d
  | _, _, _, _, .nil, e => by simp at e
  | _, _, 0, _, .cons h _, e => by
    simp at e
    subst e
    exact ⟨_, rfl, h⟩
  | _, _, i + 1, d, .cons _ t, e => by
    obtain ⟨v, h1, h2⟩ := ImAll.at (i := i) (d := d) t (by simpa using e)
    exact ⟨v, by simpa using h1, h2⟩
theorem ImAll.append : ∀ {vs us : List V} {ds es : List PyData}, ImAll K H vs ds → ImAll K H us es → ImAll K H (vs ++ us) (ds ++ es)
  | _, _, _, _, .nil, h => h
  | _, _, _, _, .cons h t, h2 => .cons h (ImAll.append t h2)
theorem ImAll.snoc {vs : List V} {ds : List PyData} {v : V} {d : PyData} (h : ImAll K H vs ds) (h2 : Im K H v d) : ImAll K H (vs ++ [v]) (ds ++ [d]) := h.append (.cons h2 .nil)
theorem ImAll.take : ∀ {vs : List V} {ds : List PyData} (n : Nat), ImAll K H vs ds → ImAll K H (vs.take n) (ds.take n)
  | _, _, 0, _ => by simpa using ImAll.nil
  | _, _, n + 1, .nil => by simpa using ImAll.nil
  | _, _, n + 1, .cons h t => by simpa using ImAll.cons h (ImAll.take n t)
theorem ImAll.drop : ∀ {vs : List V} {ds : List PyData} (n : Nat), ImAll K H vs ds → ImAll K H (vs.drop n) (ds.drop n)
  | _, _, 0, h => by simpa using h
  | _, _, n + 1, .nil => by simpa using ImAll.nil
  | _, _, n + 1, .cons _ t => by simpa using ImAll.drop n t
theorem ImAll.set : ∀ {vs : List V} {ds : List PyData} (n : Nat) {v : V} {d : PyData}, ImAll K H vs ds → Im K H v d → ImAll K H (vs.set n v) (ds.set n d)
  | _, _, _, _, _, .nil, _ => by simpa using ImAll.nil
  | _, _, 0, _, _, .cons _ t, h => by simpa using ImAll.cons h t
  | _, _, n + 1, _, _, .cons h0 t, h => by simpa using ImAll.cons h0 (ImAll.set n t h)
theorem ImAll.reverse : ∀ {vs : List V} {ds : List PyData}, ImAll K H vs ds → ImAll K H vs.reverse ds.reverse
  | _, _, .nil => by simpa using ImAll.nil
  | _, _, .cons h t => by simpa using (ImAll.reverse t).append (.cons h .nil)
theorem ImAll.eraseIdx : ∀ {vs : List V} {ds : List PyData} (n : Nat), ImAll K H vs ds → ImAll K H (vs.eraseIdx n) (ds.eraseIdx n)
  | _, _, _, .nil => by simpa using ImAll.nil
  | _, _, 0, .cons _ t => by simpa using t
  | _, _, n + 1, .cons h t => by simpa using ImAll.cons h (ImAll.eraseIdx n t)
theorem ImAll.ints : ∀ (ns : List Int), ImAll K H (ns.map V.int) (ns.map PyData.int)
  | [] => .nil
  | n :: ns => .cons (.int n) (ImAll.ints ns)
theorem im_int {v : V} {i : Int} (h : Im K H v (.int i)) : v = .int i := by cases h; rfl
theorem im_bl {v : V} {b : Bool} (h : Im K H v (.bool b)) : v = .bl b := by cases h; rfl
theorem im_str {v : V} {x : Str} (h : Im K H v (.str x)) : v = .str x := by cases h; rfl
theorem im_non {v : V} (h : Im K H v .none) : v = .non := by cases h; rfl
theorem im_tup {v : V} {ds : List PyData} (h : Im K H v (.tuple ds)) : ∃ a xs, v = .ref a ∧ SqT K H a xs ∧ ImAll K H xs ds := by
  cases h with
  | tup h t => exact ⟨_, _, rfl, h, t⟩
theorem imAll_ints : ∀ {ns : List Int} {vs : List V}, ImAll K H vs (ns.map PyData.int) → vs = ns.map V.int
  | [], _, .nil => rfl
  | n :: ns, _, .cons h t => by
    rw [im_int h, imAll_ints t]
    rfl
/-- a fresh tuple -/
theorem im_new {p : Addr} {xs : List V} {ds : List PyData} (n : H p = none) (h : ImAll K H xs ds) : Im K (upd H p (.tup xs)) (.ref p) (.tuple ds) := .tup (sqT_of upd_same) (h.tx (.new n))
theorem im_newT {p : Addr} {xs : List V} {ds : List PyData} (e : H p = some (.tup xs)) (h : ImAll K H xs ds) : Im K H (.ref p) (.tuple ds) := .tup (sqT_of e) h
/-- the script, whatever the heap -/
def Scr (K : PySem.W.Frag) (H : Hp) (v : V) (ns : List Int) : Prop := ∃ a, v = .ref a ∧ ((∃ o, H a = some (.frz o (.lst (ns.map V.int)))) ∨ SqL K (fun _ => none) a (ns.map V.int))
theorem Scr.tx {v : V} {ns : List Int} (e : Tx H H') (h : Scr K H v ns) : Scr K H' v ns := by
  obtain ⟨a, rfl, h⟩ := h
  exact ⟨a, rfl, sqL_tx e h⟩
theorem Scr.seq {a : Addr} {ns : List Int} (h : Scr K H (.ref a) ns) : SqL K H a (ns.map V.int) := by
  obtain ⟨b, e, h⟩ := h
  cases e
  rcases h with ⟨o, h⟩ | h
  · exact .inl (.inr ⟨o, h⟩)
  · rcases h with (h | ⟨o, h⟩) | h
    · cases h
    · cases h
    · exact .inr h
/-! ### types -/
theorem tyT {a : Addr} {xs : List V} (h : SqT K H a xs) : TyX K H (.ref a) (.type "tuple") := by
  rcases h with (h | ⟨o, h⟩) | ⟨o, its, n, h1, h2, _⟩
  · exact .base (.tup h)
  · exact .fTuple h
  · exact .kTuple h1 h2
theorem tyL {a : Addr} {xs : List V} (h : SqL K H a xs) : TyX K H (.ref a) (.type "list") := by
  rcases h with (h | ⟨o, h⟩) | ⟨o, its, n, h1, h2, _⟩
  · exact .base (.lst h)
  · exact .base (.frz h)
  · exact .kList h1 h2
/-- a datum's type, by name -/
def tyD : PyData → String
  | .none => "NoneType"
  | .bool _ => "bool"
  | .int _ => "int"
  | .str _ => "str"
  | .list _ => "list"
  | .tuple _ => "tuple"
  | .dict _ => "dict"
theorem ty_dp {v : V} {d : PyData} (h : Dp K H v d) : TyX K H v (.type (tyD d)) := by
  cases h with
  | non => exact .base .non
  | bl b => exact .base (.bl b)
  | int i => exact .base (.int i)
  | str x => exact .base (.str x)
  | lst h _ => exact tyL h
  | tup h _ => exact tyT h
/-- is a datum an instance of a built-in class -/
def isD (d : PyData) (T : String) : Bool := (kitB (tyD d) T).getD false
theorem isi_dp {v : V} {d : PyData} {T : String} {Q : VK} (h : Dp K H v d) (k : (kitB (tyD d) T).isSome = true) (q : Q (.bl (isD d T)) H) : rIsi K [v, .ty T] H Q := by
  obtain ⟨b, e⟩ := Option.isSome_iff_exists.mp k
  have e2 : isD d T = b := by
    unfold isD
    rw [e]
    rfl
  rw [e2] at q
  exact ⟨v, .ty T, _, _, b, rfl, .ty T, ty_dp h, kit_ty e, q⟩
theorem kit_all (d : PyData) : (kitB (tyD d) "int").isSome = true ∧ (kitB (tyD d) "bool").isSome = true ∧ (kitB (tyD d) "tuple").isSome = true ∧ (kitB (tyD d) "list").isSome = true := by
  cases d <;> (dsimp only [tyD]; decide +kernel)
theorem isD_tup (d : PyData) : isD d "tuple" = (match d with | .tuple _ => true | _ => false) := by cases d <;> (dsimp only [isD, tyD]; decide +kernel)
theorem isD_list (d : PyData) : isD d "list" = (match d with | .list _ => true | _ => false) := by cases d <;> (dsimp only [isD, tyD]; decide +kernel)
theorem isD_int (d : PyData) : isD d "int" = (match d with | .int _ => true | .bool _ => true | _ => false) := by cases d <;> (dsimp only [isD, tyD]; decide +kernel)
theorem isD_bool (d : PyData) : isD d "bool" = (match d with | .bool _ => true | _ => false) := by cases d <;> (dsimp only [isD, tyD]; decide +kernel)
end
/-! ### small readings -/
theorem atI_n {α : Type} {xs : List α} {j : Nat} {v : α} {i : Int} (h : xs[j]? = some v) (e : i = (j : Int) := by rfl) : atI xs i = some v := by
  rw [e]
  exact atI_nat h
theorem small {n : Nat} (h : n ≤ 1000000) : n ≤ sizeLine := Nat.le_trans h (by decide)
theorem small' {n : Nat} (h : n ≤ 1000000) : n < sizeLine := Nat.lt_of_le_of_lt h (by decide)
abbrev oAdd : R2 := rI0 fun i j => .int (i + j)
abbrev oSub : R2 := rI0 fun i j => .int (i - j)
abbrev oMul : R2 := rI CMul fun i j => .int (i * j)
abbrev oMulW : R2 := rI CMulW fun i j => .int (i * j)
abbrev oDiv : R2 := rI CDiv fun i j => .int (i / j)
abbrev oMod : R2 := rI (fun _ j => 0 < j) fun i j => .int (i % j)
abbrev oPow : R2 := rI CPow fun i j => .int (i ^ j.toNat)
abbrev oShl : R2 := rI CPow fun i j => .int (i * 2 ^ j.toNat)
abbrev oShr : R2 := rI (fun _ j => 0 ≤ j) fun i j => .int (i / 2 ^ j.toNat)
abbrev oAnd : R2 := rI0 fun i j => .int (Builtin.bitAnd i j)
abbrev oOr : R2 := rI0 fun i j => .int (Builtin.bitOr i j)
abbrev oLt : R2 := rI0 fun i j => .bl (decide (i < j))
abbrev oLe : R2 := rI0 fun i j => .bl (decide (i ≤ j))
abbrev oGt : R2 := rI0 fun i j => .bl (decide (j < i))
abbrev oGe : R2 := rI0 fun i j => .bl (decide (j ≤ i))
abbrev oIsN : R2 := fun x y H Q => y = .non ∧ Q (.bl (decide (x = .non))) H
abbrev oNotN : R2 := fun x y H Q => y = .non ∧ Q (.bl (!decide (x = .non))) H
abbrev oIsB : R2 := fun x y H Q => ∃ a b, x = .bl a ∧ y = .bl b ∧ Q (.bl (decide (a = b))) H
abbrev oNotB : R2 := fun x y H Q => ∃ a b, x = .bl a ∧ y = .bl b ∧ Q (.bl (!decide (a = b))) H
abbrev oAddS : R2 := fun x y H Q => ∃ i j, x = .str i ∧ y = .str j ∧ i.length + j.length ≤ sizeLine ∧ Q (.str (i ++ j)) H
abbrev oInSg : R2 := fun x y H Q => ∃ (c : Nat) (z : Str), x = .str ⟨#[c]⟩ ∧ y = .str z ∧ Q (.bl (decide (c ∈ z.cps.toList))) H
abbrev oNiSg : R2 := fun x y H Q => ∃ (c : Nat) (z : Str), x = .str ⟨#[c]⟩ ∧ y = .str z ∧ Q (.bl (!decide (c ∈ z.cps.toList))) H
abbrev uNeg : V → Hp → VK → Prop := rU fun i => .int (-i)
abbrev uInv : V → Hp → VK → Prop := rU fun i => .int (Builtin.bitNot i)
abbrev cLen (K : PySem.W.Frag) : List V → Hp → VK → Prop := fun xs H Q => ∃ p ys, xs = [.ref p] ∧ (SqL K H p ys ∨ SqT K H p ys) ∧ Q (.int ys.length) H
abbrev cLenS : List V → Hp → VK → Prop := fun xs H Q => ∃ z, xs = [.str z] ∧ z.length ≤ sizeLine ∧ Q (.int z.length) H
abbrev cList (K : PySem.W.Frag) : List V → Hp → VK → Prop := fun xs H Q => ∃ p ys, xs = [.ref p] ∧ (SqL K H p ys ∨ SqT K H p ys) ∧ ∀ l, H l = none → Q (.ref l) (upd H l (.lst ys))
abbrev cTup (K : PySem.W.Frag) : List V → Hp → VK → Prop := fun xs H Q => ∃ p ys, xs = [.ref p] ∧ ((SqL K H p ys ∧ ∀ l, H l = none → Q (.ref l) (upd H l (.tup ys))) ∨ (SqT K H p ys ∧ Q (.ref p) H))
abbrev cMax2 : List V → Hp → VK → Prop := fun xs H Q => ∃ i j, xs = [.int i, .int j] ∧ Q (.int (if j > i then j else i)) H
abbrev cInt : List V → Hp → VK → Prop := fun xs H Q => (∃ i, xs = [.int i] ∧ Q (.int i) H) ∨ ∃ k, xs = [.bl k] ∧ Q (.int (if k then 1 else 0)) H
abbrev cIntS : List V → Hp → VK → Prop := fun xs H Q => ∃ a n, xs = [.str a] ∧ PySem.intText? a = some n ∧ a.length ≤ 640 ∧ Q (.int n) H
abbrev cStr : List V → Hp → VK → Prop := fun xs H Q => ∃ i, xs = [.int i] ∧ i.natAbs.log2 < 1920 ∧ Q (.str (toString i)) H
abbrev mIns : V → List V → Hp → VK → Prop := fun x vs H Q => ∃ (l : Addr) (xs : List V) (i : Int) (y : V), x = .ref l ∧ vs = [.int i, y] ∧ H l = some (.lst xs) ∧ xs.length < sizeLine ∧ 0 ≤ i ∧ i < 2 ^ 63 ∧ Q .non (upd H l (.lst (xs.take i.toNat ++ [y] ++ xs.drop i.toNat)))
abbrev mSplit : V → List V → Hp → VK → Prop := fun x xs H Q => ∃ a b, x = .str a ∧ xs = [.str b] ∧ (b.length == 0) = false ∧ a.length + 2 ≤ sizeLine ∧ rNewStrs (Txt.split a b) H Q
abbrev mJoin (K : PySem.W.Frag) : V → List V → Hp → VK → Prop := fun x xs H Q => ∃ a p, ∃ ys : List Str, x = .str a ∧ xs = [.ref p] ∧ (SqL K H p (ys.map V.str) ∨ SqT K H p (ys.map V.str)) ∧ (ys.map (·.length)).sum + ys.length * a.length ≤ 16777216 ∧ Q (.str (Txt.join a ys)) H
/-- a test of a number -/
abbrev tTru (K : PySem.W.Frag) (ta : TE) : TT := fun σ H Q => ta σ H fun x H' => ∃ k, TruV K x H' k ∧ Q k H'
/-! ### promises -/
theorem cal_of {P : Program} {w : World} {K : PySem.W.Frag} {mg : Str → Option Value} {base : Heap} {k : Nat} {f : Addr} {fd : FuncData} {ps : List Str} {sp : Sp} {x : Str} (F : FnOk P w K mg base CX0 k f fd ps sp) (g : mg x = some (.ref f)) (kp : PySem.W.keepIn K (.ref f) = true) (b : Binds K fd ps []) :
    Cal P w K mg base k x sp [] := ⟨f, fd, ps, [], F, g, kp, b, .nil⟩
/-- .. of a def that may raise -/
structure CalX (P : Program) (w : World) (K : PySem.W.Frag) (mg : Str → Option Value) (base : Heap) (k : Nat) (x : Str) (sp : Sp) : Prop where
  ex : ∃ (f : Addr) (fd : FuncData) (ps : List Str), FnOk P w K mg base (L2.CX P w) k f fd ps sp ∧ mg x = some (.ref f) ∧ PySem.W.keepIn K (.ref f) = true ∧ Binds K fd ps []
theorem calX_of {P : Program} {w : World} {K : PySem.W.Frag} {mg : Str → Option Value} {base : Heap} {k : Nat} {f : Addr} {fd : FuncData} {ps : List Str} {sp : Sp} {x : Str} (F : FnOk P w K mg base (L2.CX P w) k f fd ps sp) (g : mg x = some (.ref f)) (kp : PySem.W.keepIn K (.ref f) = true) (b : Binds K fd ps []) :
    CalX P w K mg base k x sp := ⟨f, fd, ps, F, g, kp, b⟩
section
variable {X : Cx} {x : Str} {p pos : Pos} {e f : Expr} {es : List Expr} {t : TA} {tf : TE} {k j : Nat} {sp : Sp} {E : XK} {W : WX}
/-- a call of such a def where nothing is raised -/
theorem pe_x0 (c : CalX X.prog X.w X.K X.mg X.base k x sp) (hr : Room j X.A) (hk : k ≤ j) (hg : Gl X x) (ha : PA X (e :: es) t)
    (hdb : (x == ("__debug__" : Str)) = false := by decide) (he : starEach (e :: es) X.env = (false, eval e X.env) :: starEach es X.env := by rfl) (hpl : (backTo pos (starEach es X.env)).any (·.1) = false := by rfl) :
    PE X (.Call (.Name x p) (e :: es) [] pos) (tCall sp [] E0 t) := by
  obtain ⟨f, fd, ps, F, hm, kp, b⟩ := c.ex
  exact pe_call F (hr.mono hk) hg hm kp b .nil passL ha hdb he hpl
/-- .. where what is raised is handed on -/
theorem pe_xE (c : CalX X.prog X.w X.K X.mg X.base k x sp) (hr : Room j X.A) (hk : k ≤ j) (hg : Gl X x) (tk : Takes X fun cls d _ H => E cls d H) (ha : PA X (e :: es) t)
    (hdb : (x == ("__debug__" : Str)) = false := by decide) (he : starEach (e :: es) X.env = (false, eval e X.env) :: starEach es X.env := by rfl) (hpl : (backTo pos (starEach es X.env)).any (·.1) = false := by rfl) :
    PE X (.Call (.Name x p) (e :: es) [] pos) (tCall sp [] E t) := by
  obtain ⟨f, fd, ps, F, hm, kp, b⟩ := c.ex
  exact pe_call F (hr.mono hk) hg hm kp b .nil (passes_call tk fun _ _ _ _ h => h) ha hdb he hpl
/-- .. within a try -/
theorem pe_xW (c : CalX X.prog X.w X.K X.mg X.base k x sp) (hr : Room j X.A) (hk : k ≤ j) (hg : Gl X x) (tk : Takes X W) (ha : PA X (e :: es) t)
    (hdb : (x == ("__debug__" : Str)) = false := by decide) (he : starEach (e :: es) X.env = (false, eval e X.env) :: starEach es X.env := by rfl) (hpl : (backTo pos (starEach es X.env)).any (·.1) = false := by rfl) :
    PE X (.Call (.Name x p) (e :: es) [] pos) (tCallS sp (WE W) t) := by
  obtain ⟨f, fd, ps, F, hm, kp, b⟩ := c.ex
  exact pe_callS F (hr.mono hk) hg hm kp b (fun σ => passAt tk σ) ha hdb he hpl
/-- a call of a value that is one of several defs: S tells the promise by the address -/
def tCallF (S : Addr → Sp → Prop) (E : L2.St → XK) (tf : TE) (t : TA) : TE := fun σ H Q => tf σ H fun v H1 => ∃ f sp, v = .ref f ∧ S f sp ∧ t σ H1 fun vs H2 => sp vs H2 Q (E σ)
theorem pe_callF {S : Addr → Sp → Prop} {CX : CXT} {E : L2.St → XK} (A : ∀ g sp, S g sp → ∃ fd ps, FnOk X.prog X.w X.K X.mg X.base CX k g fd ps sp ∧ PySem.W.keepIn X.K (.ref g) = true ∧ Binds X.K fd ps []) (hr : Room j X.A) (hk : k ≤ j) (hx : ∀ σ, PassesAt CX X σ (E σ)) (hf : PE X f tf) (ha : PA X (e :: es) t)
    (ht : eval (.Call f (e :: es) [] pos) X.env = (do callWith pos (← eval f X.env) [] (backTo pos (starEach (e :: es) X.env)) (backToKw pos (keywordEach [] X.env))) := by rfl)
    (he : starEach (e :: es) X.env = (false, eval e X.env) :: starEach es X.env := by rfl) (hpl : (backTo pos (starEach es X.env)).any (·.1) = false := by rfl) :
    PE X (.Call f (e :: es) [] pos) (tCallF S E tf t) := by
  refine ⟨fun pins s σ H Q I h => ?_⟩
  refine Call_ (thn (hf.run pins s σ H _ I h) fun u s1 ⟨v, H1, I1, rx, g, sp, ev, hS, q⟩ => ?_) ht
  subst ev
  obtain rfl : u = Value.ref g := rx
  obtain ⟨fd, ps, F, kp, b⟩ := A g sp hS
  refine PySem.W.callWith_K (h₀ := X.base) I1.ok.mod.kin kp (thn (ha.run pos pins s1 σ _ _ I1 q) fun us s2 ⟨vs, H2, I2, r, q⟩ => ⟨I2.kIn, ?_⟩) he hpl
  exact run_fnS F (hr.mono hk) b (hx σ) I2 r q
end
/-! ### the module's names -/
structure Blt (mg : Str → Option Value) : Prop where
  len : mg "len" = none
  range : mg "range" = none
  tuple : mg "tuple" = none
  list : mg "list" = none
  isinstance : mg "isinstance" = none
  int : mg "int" = none
  bool : mg "bool" = none
  str : mg "str" = none
  all : mg "all" = none
  max : mg "max" = none
  sorted : mg "sorted" = none
  ValueError : mg "ValueError" = none
/-- a class of errors of the program's own -/
structure ExcK (K : PySem.W.Frag) (mg : Str → Option Value) (x : Str) (C : Addr) : Prop where
  g : mg x = some (.ref C)
  k : PySem.W.keepIn K (.ref C) = true
  e : PySem.W.excIn K C [.type "ValueError", .type "Exception", .type "BaseException", .type "object"] "ValueError.__new__" = true
  sb : PySem.W.subIn K (.ref C) (.type "BaseException") = some true
  ty : PySem.W.typeIn K (.ref C) = some (.type "type")
  hd : PySem.W.hasDictIn K C = true
def tRaiseC (C : Addr) (E : XK) : TS := fun _ _ H => E (.ref C) none H
theorem ps_raiseC {X : Cx} {E : XK} {x m : Str} {C : Addr} {j : Nat} {p p2 pos pos' : Pos} (tk : Takes X fun cls d _ H => E cls d H) (h : ExcK X.K X.mg x C) (hg : Gl X x) (hc : X.calm = true := by rfl) (hdb : (x == ("__debug__" : Str)) = false := by decide) :
    PS X (.Raise (some (.Call (.Name x p) [.Constant (.str m) j p2] [] pos)) none pos') (tRaiseC C E) :=
  ps_raise hc tk (pmk_own PySem.F.excBase_ValueError h.e h.g h.k (raises_own h.sb h.ty) hg hdb)
/-- the class of an error that is caught as one of the class at F -/
structure CaughtK (K : PySem.W.Frag) (D F : Addr) : Prop where
  ec : ExcC K D
  ex : PySem.W.exmOne K (.ref D) (.ref F) = some true
  sv : PySem.W.subIn K (.ref D) (.type "ValueError") = some true
  sd : PySem.W.subIn K (.ref D) (.ref D) = some true
abbrev subRef (K : PySem.W.Frag) (D C : Addr) (b : Bool) : Prop := PySem.W.subIn K (.ref D) (.ref C) = some b
theorem kit_ref {K : PySem.W.Frag} {mg : Str → Option Value} {x : Str} {D C : Addr} {b : Bool} (h : ExcK K mg x C) (sd : PySem.W.subIn K (.ref D) (.ref D) = some true) (s : subRef K D C b) : PySem.W.kitOne K (.ref D) (.ref C) = some b := by
  unfold PySem.W.kitOne
  by_cases e : D = C
  · subst e
    have s' : PySem.W.subIn K (.ref D) (.ref D) = some b := s
    rw [sd] at s'
    cases s'
    rw [if_pos (by simp)]
  · rw [if_neg (by simpa using e)]
    obtain ⟨cd, hc, _⟩ := PySem.W.any_some h.hd
    show (if ((PySem.W.clsIn K C).isSome && PySem.W.typeIn K (.ref C) == some (.type "type")) = true then PySem.W.subIn K (.ref D) (.ref C) else none) = some b
    rw [if_pos (by rw [hc, h.ty]; rfl)]
    exact s
theorem kit_val {K : PySem.W.Frag} {D : Addr} (s : PySem.W.subIn K (.ref D) (.type "ValueError") = some true) : PySem.W.kitOne K (.ref D) (.type "ValueError") = some true := by
  unfold PySem.W.kitOne
  split
  · rfl
  · show (if PySem.W.kitMeta "ValueError" = true then PySem.W.subIn K (.ref D) (.type "ValueError") else none) = some true
    rw [if_pos (by decide +kernel)]
    exact s
/-- a suite that is come to only where P holds -/
def tWhen (P : Prop) (t : TS) : TS := fun E σ H => P ∧ t E σ H
theorem pss_when {X : Cx} {P : Prop} {ss : List Stmt} {t : TS} (h : P → PSs X ss t) : PSs X ss (tWhen P t) := ⟨fun pins s σ H E I q => (h q.1).run pins s σ H E I q.2⟩
theorem calX_at {P : Program} {w : World} {K : PySem.W.Frag} {mg : Str → Option Value} {base : Heap} {j k : Nat} {x : Str} {sp : Sp} {f : Addr} (c : CalX P w K mg base j x sp) (hk : j ≤ k) (g : mg x = some (.ref f)) :
    ∃ fd ps, FnOk P w K mg base (L2.CX P w) k f fd ps sp ∧ PySem.W.keepIn K (.ref f) = true ∧ Binds K fd ps [] := by
  obtain ⟨f', fd, ps, F, hm, kp, b⟩ := c.ex
  have e := hm.symm.trans g
  cases e
  exact ⟨fd, ps, F.mono hk, kp, b⟩
theorem cal_at {P : Program} {w : World} {K : PySem.W.Frag} {mg : Str → Option Value} {base : Heap} {j k : Nat} {x : Str} {sp : Sp} {f : Addr} (c : Cal P w K mg base j x sp []) (hk : j ≤ k) (g : mg x = some (.ref f)) :
    ∃ fd ps, FnOk P w K mg base CX0 k f fd ps sp ∧ PySem.W.keepIn K (.ref f) = true ∧ Binds K fd ps [] := by
  obtain ⟨f', fd, ps, ds, F, hm, kp, b, hd⟩ := c.ex
  have e := hm.symm.trans g
  cases e
  cases hd
  exact ⟨fd, ps, F.mono hk, kp, b⟩
theorem passAt0 {X : Cx} {σ : L2.St} {E : XK} : PassesAt CX0 X σ E := fun _ _ _ _ _ _ h => h.elim
end SF

set_option maxHeartbeats 4000000
/-! A reading, step by step: one lemma a head. -/
namespace SF
open PySem PySem.Spec PyProof.Rows L2
open C8 (Cal pe_c)
section
variable {K : PySem.W.Frag} {σ : L2.St} {H H' : Hp} {Q : VK} {ta tb te tx to : TE} {t u : TT} {A : TA} {ts us : TS} {g : TG} {n b c : L2.St → Hp → Prop} {r : VK} {x y v : V}
/-! ### heaps that change at one place -/
/-- all but what stands at l is as it was -/
def Bx (l : Addr) (H H' : Hp) : Prop := ((∃ xs, H l = some (.lst xs)) ∨ ∃ kvs, H l = some (.dK kvs)) ∧ ∀ a o, a ≠ l → H a = some o → H' a = some o
def At (H : Hp) (a : Addr) (o : HO) : Prop := H a = some o
def Fr (H : Hp) (a : Addr) : Prop := H a = none
@[grind →] theorem same_at (e : Same H H') {a : Addr} {o : HO} (h : At H a o) : At H' a o := e a o h
@[grind →] theorem same_none (e : Same H H') {a : Addr} (h : Fr H' a) : Fr H a := e.free h
@[grind →] theorem same_tr {H1 : Hp} (e : Same H H1) (f : Same H1 H') : Same H H' := e.trans f
@[grind →] theorem at_ne {a l : Addr} {o : HO} (h : At H a o) (h' : Fr H l) : a ≠ l := ne_of_none h h'
@[grind →] theorem at_bx {l a : Addr} {o : HO} (e : Bx l H H') (h : At H a o) : a = l ∨ At H' a o := by
  by_cases q : a = l
  · exact .inl q
  · exact .inr (e.2 a o q h)
@[grind ←] theorem at_seq {a : Addr} {xs : List V} (h : At H a (.lst xs)) : SqL K H a xs := sqL_of h
@[grind →] theorem bx_tx {l : Addr} (e : Bx l H H') : Tx H H' := by
  obtain ⟨⟨xs, h⟩ | ⟨kvs, h⟩, e⟩ := e
  · exact ⟨fun a ys q => e a _ (ne_of q h fun z => by cases z) q, fun a o w q => e a _ (ne_of q h fun z => by cases z) q⟩
  · exact ⟨fun a ys q => e a _ (ne_of q h fun z => by cases z) q, fun a o w q => e a _ (ne_of q h fun z => by cases z) q⟩
@[grind →] theorem same_bx {H1 : Hp} {l : Addr} (e : Same H H1) (f : Bx l H1 H') (h : Fr H l) : Same H H' := fun a o q => f.2 a o (ne_of_none q h) (e a o q)
@[grind →] theorem same_txG (e : Same H H') : Tx H H' := .of e
@[grind →] theorem tx_tr {H1 : Hp} (e : Tx H H1) (f : Tx H1 H') : Tx H H' := e.trans f
theorem im_tx {d : PyData} (e : Tx H H') (h : Im K H v d) : Im K H' v d := h.tx e
theorem imAll_tx {vs : List V} {ds : List PyData} (e : Tx H H') (h : ImAll K H vs ds) : ImAll K H' vs ds := h.tx e
theorem scr_tx {ns : List Int} (e : Tx H H') (h : Scr K H v ns) : Scr K H' v ns := h.tx e
theorem sqT_txG {a : Addr} {xs : List V} (e : Tx H H') (h : SqT K H a xs) : SqT K H' a xs := sqT_tx e h
theorem dp_sameG {d : PyData} (e : Same H H') (h : Dp K H v d) : Dp K H' v d := dp_same e h
theorem sqL_sameG {a : Addr} {xs : List V} (e : Same H H') (h : SqL K H a xs) : SqL K H' a xs := e.seq h
theorem ne_none {a l : Addr} {o : HO} (h : H a = some o) (h' : H l = none) : a ≠ l := ne_of_none h h'
theorem bx_upd {l : Addr} {xs : List V} {o : HO} (h : H l = some (.lst xs)) : Bx l H (upd H l o) := ⟨.inl ⟨xs, h⟩, fun a w q e => by
  rw [upd_ne q]
  exact e⟩
theorem bx_updD {l : Addr} {kvs : List (Key × V)} {o : HO} (h : H l = some (.dK kvs)) : Bx l H (upd H l o) := ⟨.inr ⟨kvs, h⟩, fun a w q e => by
  rw [upd_ne q]
  exact e⟩
/-! ### names -/
theorem st_v0 (h : Q v H) : tVar 0 (some v :: σ) H Q := ⟨v, rfl, h⟩
theorem st_g0 {s : Option V} (h : n (some v :: σ) H) : gName 0 v (s :: σ) H n := h
theorem st_v1 {s0 : Option V} (h : Q v H) : tVar 1 (s0 :: some v :: σ) H Q := ⟨v, rfl, h⟩
theorem st_g1 {s0 : Option V} {s : Option V} (h : n (s0 :: some v :: σ) H) : gName 1 v (s0 :: s :: σ) H n := h
theorem st_v2 {s0 s1 : Option V} (h : Q v H) : tVar 2 (s0 :: s1 :: some v :: σ) H Q := ⟨v, rfl, h⟩
theorem st_g2 {s0 s1 : Option V} {s : Option V} (h : n (s0 :: s1 :: some v :: σ) H) : gName 2 v (s0 :: s1 :: s :: σ) H n := h
theorem st_v3 {s0 s1 s2 : Option V} (h : Q v H) : tVar 3 (s0 :: s1 :: s2 :: some v :: σ) H Q := ⟨v, rfl, h⟩
theorem st_g3 {s0 s1 s2 : Option V} {s : Option V} (h : n (s0 :: s1 :: s2 :: some v :: σ) H) : gName 3 v (s0 :: s1 :: s2 :: s :: σ) H n := h
theorem st_v4 {s0 s1 s2 s3 : Option V} (h : Q v H) : tVar 4 (s0 :: s1 :: s2 :: s3 :: some v :: σ) H Q := ⟨v, rfl, h⟩
theorem st_g4 {s0 s1 s2 s3 : Option V} {s : Option V} (h : n (s0 :: s1 :: s2 :: s3 :: some v :: σ) H) : gName 4 v (s0 :: s1 :: s2 :: s3 :: s :: σ) H n := h
theorem st_v5 {s0 s1 s2 s3 s4 : Option V} (h : Q v H) : tVar 5 (s0 :: s1 :: s2 :: s3 :: s4 :: some v :: σ) H Q := ⟨v, rfl, h⟩
theorem st_g5 {s0 s1 s2 s3 s4 : Option V} {s : Option V} (h : n (s0 :: s1 :: s2 :: s3 :: s4 :: some v :: σ) H) : gName 5 v (s0 :: s1 :: s2 :: s3 :: s4 :: s :: σ) H n := h
theorem st_v6 {s0 s1 s2 s3 s4 s5 : Option V} (h : Q v H) : tVar 6 (s0 :: s1 :: s2 :: s3 :: s4 :: s5 :: some v :: σ) H Q := ⟨v, rfl, h⟩
theorem st_g6 {s0 s1 s2 s3 s4 s5 : Option V} {s : Option V} (h : n (s0 :: s1 :: s2 :: s3 :: s4 :: s5 :: some v :: σ) H) : gName 6 v (s0 :: s1 :: s2 :: s3 :: s4 :: s5 :: s :: σ) H n := h
theorem st_v7 {s0 s1 s2 s3 s4 s5 s6 : Option V} (h : Q v H) : tVar 7 (s0 :: s1 :: s2 :: s3 :: s4 :: s5 :: s6 :: some v :: σ) H Q := ⟨v, rfl, h⟩
theorem st_g7 {s0 s1 s2 s3 s4 s5 s6 : Option V} {s : Option V} (h : n (s0 :: s1 :: s2 :: s3 :: s4 :: s5 :: s6 :: some v :: σ) H) : gName 7 v (s0 :: s1 :: s2 :: s3 :: s4 :: s5 :: s6 :: s :: σ) H n := h
theorem st_v8 {s0 s1 s2 s3 s4 s5 s6 s7 : Option V} (h : Q v H) : tVar 8 (s0 :: s1 :: s2 :: s3 :: s4 :: s5 :: s6 :: s7 :: some v :: σ) H Q := ⟨v, rfl, h⟩
theorem st_g8 {s0 s1 s2 s3 s4 s5 s6 s7 : Option V} {s : Option V} (h : n (s0 :: s1 :: s2 :: s3 :: s4 :: s5 :: s6 :: s7 :: some v :: σ) H) : gName 8 v (s0 :: s1 :: s2 :: s3 :: s4 :: s5 :: s6 :: s7 :: s :: σ) H n := h
theorem st_v9 {s0 s1 s2 s3 s4 s5 s6 s7 s8 : Option V} (h : Q v H) : tVar 9 (s0 :: s1 :: s2 :: s3 :: s4 :: s5 :: s6 :: s7 :: s8 :: some v :: σ) H Q := ⟨v, rfl, h⟩
theorem st_g9 {s0 s1 s2 s3 s4 s5 s6 s7 s8 : Option V} {s : Option V} (h : n (s0 :: s1 :: s2 :: s3 :: s4 :: s5 :: s6 :: s7 :: s8 :: some v :: σ) H) : gName 9 v (s0 :: s1 :: s2 :: s3 :: s4 :: s5 :: s6 :: s7 :: s8 :: s :: σ) H n := h
theorem st_v10 {s0 s1 s2 s3 s4 s5 s6 s7 s8 s9 : Option V} (h : Q v H) : tVar 10 (s0 :: s1 :: s2 :: s3 :: s4 :: s5 :: s6 :: s7 :: s8 :: s9 :: some v :: σ) H Q := ⟨v, rfl, h⟩
theorem st_g10 {s0 s1 s2 s3 s4 s5 s6 s7 s8 s9 : Option V} {s : Option V} (h : n (s0 :: s1 :: s2 :: s3 :: s4 :: s5 :: s6 :: s7 :: s8 :: s9 :: some v :: σ) H) : gName 10 v (s0 :: s1 :: s2 :: s3 :: s4 :: s5 :: s6 :: s7 :: s8 :: s9 :: s :: σ) H n := h
theorem st_v11 {s0 s1 s2 s3 s4 s5 s6 s7 s8 s9 s10 : Option V} (h : Q v H) : tVar 11 (s0 :: s1 :: s2 :: s3 :: s4 :: s5 :: s6 :: s7 :: s8 :: s9 :: s10 :: some v :: σ) H Q := ⟨v, rfl, h⟩
theorem st_g11 {s0 s1 s2 s3 s4 s5 s6 s7 s8 s9 s10 : Option V} {s : Option V} (h : n (s0 :: s1 :: s2 :: s3 :: s4 :: s5 :: s6 :: s7 :: s8 :: s9 :: s10 :: some v :: σ) H) : gName 11 v (s0 :: s1 :: s2 :: s3 :: s4 :: s5 :: s6 :: s7 :: s8 :: s9 :: s10 :: s :: σ) H n := h
theorem st_v12 {s0 s1 s2 s3 s4 s5 s6 s7 s8 s9 s10 s11 : Option V} (h : Q v H) : tVar 12 (s0 :: s1 :: s2 :: s3 :: s4 :: s5 :: s6 :: s7 :: s8 :: s9 :: s10 :: s11 :: some v :: σ) H Q := ⟨v, rfl, h⟩
theorem st_g12 {s0 s1 s2 s3 s4 s5 s6 s7 s8 s9 s10 s11 : Option V} {s : Option V} (h : n (s0 :: s1 :: s2 :: s3 :: s4 :: s5 :: s6 :: s7 :: s8 :: s9 :: s10 :: s11 :: some v :: σ) H) : gName 12 v (s0 :: s1 :: s2 :: s3 :: s4 :: s5 :: s6 :: s7 :: s8 :: s9 :: s10 :: s11 :: s :: σ) H n := h
theorem st_v13 {s0 s1 s2 s3 s4 s5 s6 s7 s8 s9 s10 s11 s12 : Option V} (h : Q v H) : tVar 13 (s0 :: s1 :: s2 :: s3 :: s4 :: s5 :: s6 :: s7 :: s8 :: s9 :: s10 :: s11 :: s12 :: some v :: σ) H Q := ⟨v, rfl, h⟩
theorem st_g13 {s0 s1 s2 s3 s4 s5 s6 s7 s8 s9 s10 s11 s12 : Option V} {s : Option V} (h : n (s0 :: s1 :: s2 :: s3 :: s4 :: s5 :: s6 :: s7 :: s8 :: s9 :: s10 :: s11 :: s12 :: some v :: σ) H) : gName 13 v (s0 :: s1 :: s2 :: s3 :: s4 :: s5 :: s6 :: s7 :: s8 :: s9 :: s10 :: s11 :: s12 :: s :: σ) H n := h
theorem st_v14 {s0 s1 s2 s3 s4 s5 s6 s7 s8 s9 s10 s11 s12 s13 : Option V} (h : Q v H) : tVar 14 (s0 :: s1 :: s2 :: s3 :: s4 :: s5 :: s6 :: s7 :: s8 :: s9 :: s10 :: s11 :: s12 :: s13 :: some v :: σ) H Q := ⟨v, rfl, h⟩
theorem st_g14 {s0 s1 s2 s3 s4 s5 s6 s7 s8 s9 s10 s11 s12 s13 : Option V} {s : Option V} (h : n (s0 :: s1 :: s2 :: s3 :: s4 :: s5 :: s6 :: s7 :: s8 :: s9 :: s10 :: s11 :: s12 :: s13 :: some v :: σ) H) : gName 14 v (s0 :: s1 :: s2 :: s3 :: s4 :: s5 :: s6 :: s7 :: s8 :: s9 :: s10 :: s11 :: s12 :: s13 :: s :: σ) H n := h
/-! ### expressions -/
theorem st_c (h : Q v H) : tC v σ H Q := h
theorem st_op {o : R2} (h : ta σ H fun x H1 => tb σ H1 fun y H2 => o x y H2 Q) : tOp o ta tb σ H Q := h
theorem st_un {o : V → Hp → VK → Prop} (h : ta σ H fun x H1 => o x H1 Q) : tUn o ta σ H Q := h
theorem st_andV (h : ta σ H fun x H1 => ∃ c, x = .bl c ∧ if c = true then tb σ H1 Q else Q (.bl false) H1) : tAndV ta tb σ H Q := h
theorem st_orV (h : ta σ H fun x H1 => ∃ c, x = .bl c ∧ if c = true then Q (.bl true) H1 else tb σ H1 Q) : tOrV ta tb σ H Q := h
theorem st_notV (h : ta σ H fun x H1 => ∃ c, x = .bl c ∧ Q (.bl (!c)) H1) : tNotV ta σ H Q := h
theorem st_cb {o : List V → Hp → VK → Prop} (h : A σ H fun vs H1 => o vs H1 Q) : tCB o A σ H Q := h
theorem st_ckw {o : List V → List V → Hp → VK → Prop} {A2 : TA} (h : A σ H fun vs H1 => A2 σ H1 fun zs H2 => o vs zs H2 Q) : tCKw o A A2 σ H Q := h
theorem st_nil {Q : List V → Hp → Prop} (h : Q [] H) : tNil σ H Q := h
theorem st_cons {Q : List V → Hp → Prop} (h : ta σ H fun x H1 => A σ H1 fun xs H2 => Q (x :: xs) H2) : tCons ta A σ H Q := h
theorem st_call {sp : Sp} {E : XK} (h : A σ H fun vs H1 => sp vs H1 Q E) : tCall sp [] E A σ H Q := by
  have e0 : (fun (vs : List V) (H1 : Hp) => sp (vs ++ []) H1 Q E) = fun vs H1 => sp vs H1 Q E := by
    funext vs H1
    rw [List.append_nil]
  show A σ H (fun vs H1 => sp (vs ++ []) H1 Q E)
  rw [e0]
  exact h
theorem st_callS {sp : Sp} {W : WX} (h : A σ H fun vs H1 => sp vs H1 Q (WE W σ)) : tCallS sp (WE W) A σ H Q := h
theorem st_callF {S : Addr → Sp → Prop} {E : L2.St → XK} (h : te σ H fun v H1 => ∃ f sp, v = .ref f ∧ S f sp ∧ A σ H1 fun vs H2 => sp vs H2 Q (E σ)) : tCallF S E te A σ H Q := h
theorem st_bm {T : String} {o : V → List V → Hp → VK → Prop} (h : te σ H fun x H1 => tyV K T x H1 ∧ A σ H1 fun xs H2 => o x xs H2 Q) : tBM K T o te A σ H Q := h
theorem st_m1 {o : V → List V → Hp → VK → Prop} (h : to σ H fun x H1 => (∃ a, x = .str a) ∧ te σ H1 fun y H2 => o x [y] H2 Q) : tM1 o to te σ H Q := h
theorem st_sl {o : V → Option Int → Option Int → Hp → VK → Prop} {tl th : TO} (h : te σ H fun x H1 => tl σ H1 fun l H2 => th σ H2 fun w H3 => o x l w H3 Q) : tSl o te tl th σ H Q := h
theorem st_nopart {Q : Option Int → Hp → Prop} (h : Q none H) : tNoPart σ H Q := h
theorem st_part {Q : Option Int → Hp → Prop} (h : te σ H fun x H1 => ∃ i, x = .int i ∧ Q (some i) H1) : tPart te σ H Q := h
/-- a display: the items, then a new object -/
def NewT (xs : List V) (H : Hp) (Q : VK) : Prop := xs.length ≤ sizeLine ∧ ∀ p, H p = none → Q (.ref p) (upd H p (.tup xs))
def NewL (xs : List V) (H : Hp) (Q : VK) : Prop := xs.length ≤ sizeLine ∧ ∀ p, H p = none → Q (.ref p) (upd H p (.lst xs))
theorem st_tup (h : A σ H fun xs H1 => NewT xs H1 Q) : tTup A σ H Q := h
theorem st_lst (h : A σ H fun xs H1 => NewL xs H1 Q) : tLst A σ H Q := h
theorem newT {xs : List V} (hz : xs.length ≤ 1000000) (h : ∀ p H2, Fr H p → Same H H2 → At H2 p (.tup xs) → Q (.ref p) H2) : NewT xs H Q := ⟨small hz, fun p np => h p _ np (same_new np) upd_same⟩
theorem newL {xs : List V} (hz : xs.length ≤ 1000000) (h : ∀ p H2, Fr H p → Same H H2 → At H2 p (.lst xs) → Q (.ref p) H2) : NewL xs H Q := ⟨small hz, fun p np => h p _ np (same_new np) upd_same⟩
/-- a tuple of data that stand -/
theorem newI {xs : List V} {ds : List PyData} (hd : ImAll K H xs ds) (hz : ds.length ≤ 1000000) (h : ∀ w H2, Same H H2 → Im K H2 w (.tuple ds) → Q w H2) : NewT xs H Q := by
  have e := hd.length
  exact ⟨small (by omega), fun p np => h _ _ (same_new np) (im_new np hd)⟩
/-- an address that is new, if it is one -/
def FreshV (H : Hp) (v : V) : Prop := ∀ a, v = .ref a → H a = none
theorem FreshV.back {v : V} (h : FreshV H' v) (e : Same H H') : FreshV H v := fun a q => e.free (h a q)
theorem FreshV.ne {v : V} (h : FreshV H v) {l : Addr} {o : HO} (hl : At H l o) : ∀ a, v = .ref a → a ≠ l := fun a q z => by
  have e := h a q
  rw [z] at e
  exact nomatch (e.symm.trans hl)
theorem newF {xs : List V} {ds : List PyData} (hd : ImAll K H xs ds) (hz : ds.length ≤ 1000000) (h : ∀ w H2, Same H H2 → Im K H2 w (.tuple ds) → FreshV H w → Q w H2) : NewT xs H Q := by
  have e := hd.length
  exact ⟨small (by omega), fun p np => h _ _ (same_new np) (im_new np hd) fun a q => by cases q; exact np⟩
/-! ### operators -/
theorem st_I0 {f : Int → Int → V} {i j : Int} (h : Q (f i j) H) : rI0 f (.int i) (.int j) H Q := ⟨i, j, rfl, rfl, h⟩
theorem st_mod {i j : Int} (hj : 0 < j) (h : Q (.int (i % j)) H) : oMod (.int i) (.int j) H Q := ⟨i, j, rfl, rfl, hj, h⟩
theorem st_div {i j : Int} (hj : 0 < j ∧ j < 1073741824) (h : Q (.int (i / j)) H) : oDiv (.int i) (.int j) H Q := ⟨i, j, rfl, rfl, hj, h⟩
theorem st_mul {i j : Int} (hj : (-(2 ^ 64) < i ∧ i < 2 ^ 64) ∨ (-(2 ^ 64) < j ∧ j < 2 ^ 64)) (h : Q (.int (i * j)) H) : oMul (.int i) (.int j) H Q := ⟨i, j, rfl, rfl, hj, h⟩
theorem st_shl {i j : Int} (hj : 0 ≤ j ∧ j ≤ 1000000 ∧ i.natAbs < 2 ^ 64) (h : Q (.int (i * 2 ^ j.toNat)) H) : oShl (.int i) (.int j) H Q := ⟨i, j, rfl, rfl, hj, h⟩
theorem st_shr {i j : Int} (hj : 0 ≤ j) (h : Q (.int (i / 2 ^ j.toNat)) H) : oShr (.int i) (.int j) H Q := ⟨i, j, rfl, rfl, hj, h⟩
theorem st_pow {i j : Int} (hj : 0 ≤ j ∧ j ≤ 1000000 ∧ i.natAbs < 2 ^ 64) (h : Q (.int (i ^ j.toNat)) H) : oPow (.int i) (.int j) H Q := ⟨i, j, rfl, rfl, hj, h⟩
theorem st_mulW {i j : Int} (hi : i.natAbs < 2 ^ 100) (hj : j.natAbs < 2 ^ 100) (h : Q (.int (i * j)) H) : oMulW (.int i) (.int j) H Q := by
  refine ⟨i, j, rfl, rfl, ?_, h⟩
  have l : ∀ z : Nat, z < 2 ^ 100 → z.log2 ≤ 100 := fun z hz => by
    by_cases e : z = 0
    · subst e
      simp
    · exact Nat.le_of_lt ((Nat.log2_lt e).mpr hz)
  have h1 := l _ hi
  have h2 := l _ hj
  unfold CMulW
  omega
theorem st_neg {i : Int} (h : Q (.int (-i)) H) : uNeg (.int i) H Q := ⟨i, rfl, h⟩
theorem st_inv {i : Int} (h : Q (.int (Builtin.bitNot i)) H) : uInv (.int i) H Q := ⟨i, rfl, h⟩
theorem st_eqI {i j : Int} (h : Q (.bl (decide (i = j))) H) : rEq (.int i) (.int j) H Q := ⟨rfl, by
  have e : decide (V.int i = V.int j) = decide (i = j) := decide_eq_decide.mpr ⟨V.int.inj, congrArg V.int⟩
  rw [e]
  exact h⟩
theorem st_neI {i j : Int} (h : Q (.bl (!decide (i = j))) H) : rNe (.int i) (.int j) H Q := ⟨rfl, by
  have e : decide (V.int i = V.int j) = decide (i = j) := decide_eq_decide.mpr ⟨V.int.inj, congrArg V.int⟩
  rw [e]
  exact h⟩
theorem st_eqS {i j : Str} (h : Q (.bl (decide (i = j))) H) : rEq (.str i) (.str j) H Q := ⟨rfl, by
  have e : decide (V.str i = V.str j) = decide (i = j) := decide_eq_decide.mpr ⟨V.str.inj, congrArg V.str⟩
  rw [e]
  exact h⟩
theorem st_neS {i j : Str} (h : Q (.bl (!decide (i = j))) H) : rNe (.str i) (.str j) H Q := ⟨rfl, by
  have e : decide (V.str i = V.str j) = decide (i = j) := decide_eq_decide.mpr ⟨V.str.inj, congrArg V.str⟩
  rw [e]
  exact h⟩
theorem st_neB {i j : Bool} (h : Q (.bl (!decide (i = j))) H) : rNe (.bl i) (.bl j) H Q := ⟨rfl, by
  have e : decide (V.bl i = V.bl j) = decide (i = j) := decide_eq_decide.mpr ⟨V.bl.inj, congrArg V.bl⟩
  rw [e]
  exact h⟩
theorem st_isB {i j : Bool} (h : Q (.bl (decide (i = j))) H) : rIsB (.bl i) (.bl j) H Q := ⟨i, j, rfl, rfl, h⟩
theorem st_notB {i j : Bool} (h : Q (.bl (!decide (i = j))) H) : rNotB (.bl i) (.bl j) H Q := ⟨i, j, rfl, rfl, h⟩
theorem st_isN (h : Q (.bl (decide (x = .non))) H) : oIsN x .non H Q := ⟨rfl, h⟩
theorem st_notN (h : Q (.bl (!decide (x = .non))) H) : oNotN x .non H Q := ⟨rfl, h⟩
theorem st_addS {i j : Str} (hz : i.length + j.length ≤ 1000000) (h : Q (.str (i ++ j)) H) : oAddS (.str i) (.str j) H Q := ⟨i, j, rfl, rfl, small hz, h⟩
theorem st_max2 {i j : Int} (h : Q (.int (if j > i then j else i)) H) : cMax2 [.int i, .int j] H Q := ⟨i, j, rfl, h⟩
theorem st_lenL {p : Addr} {xs : List V} (hp : SqL K H p xs) (h : Q (.int xs.length) H) : cLen K [.ref p] H Q := ⟨p, xs, rfl, .inl hp, h⟩
theorem st_lenT {p : Addr} {xs : List V} (hp : SqT K H p xs) (h : Q (.int xs.length) H) : cLen K [.ref p] H Q := ⟨p, xs, rfl, .inr hp, h⟩
theorem st_lenI {ds : List PyData} (hp : Im K H v (.tuple ds)) (h : Q (.int ds.length) H) : cLen K [v] H Q := by
  obtain ⟨a, xs, rfl, hs, ht⟩ := im_tup hp
  rw [← ht.length] at h
  exact ⟨a, xs, rfl, .inr hs, h⟩
theorem st_ixL {p : Addr} {xs : List V} {i : Int} (j : Nat) (hp : SqL K H p xs) (ei : i = (j : Int)) (hj : xs[j]? = some v) (h : Q v H) : rIxL K (.ref p) (.int i) H Q := ⟨p, xs, i, v, rfl, rfl, hp, atI_n hj ei, h⟩
theorem st_ixT {p : Addr} {xs : List V} {i : Int} (j : Nat) (hp : SqT K H p xs) (ei : i = (j : Int)) (hj : xs[j]? = some v) (h : Q v H) : rIxT K (.ref p) (.int i) H Q := ⟨p, xs, i, v, rfl, rfl, hp, atI_n hj ei, h⟩
/-- an item of a datum -/
theorem st_ixI {ds : List PyData} {d : PyData} {i : Int} (j : Nat) (hp : Im K H x (.tuple ds)) (ei : i = (j : Int)) (hj : ds[j]? = some d) (h : ∀ v, Im K H v d → Q v H) : rIxT K x (.int i) H Q := by
  obtain ⟨a, xs, rfl, hs, ht⟩ := im_tup hp
  obtain ⟨v, hv, hi⟩ := ht.at hj
  exact ⟨a, xs, i, v, rfl, rfl, hs, atI_n hv ei, h v hi⟩
theorem st_tupL {p : Addr} {xs : List V} (hp : SqL K H p xs) (h : ∀ l H2, Fr H l → Same H H2 → At H2 l (.tup xs) → Q (.ref l) H2) : cTup K [.ref p] H Q := ⟨p, xs, rfl, .inl ⟨hp, fun l nl => h l _ nl (same_new nl) upd_same⟩⟩
/-- tuple(a list of data) -/
theorem st_tupI {p : Addr} {xs : List V} {ds : List PyData} (hp : SqL K H p xs) (hd : ImAll K H xs ds) (h : ∀ w H2, Same H H2 → Im K H2 w (.tuple ds) → Q w H2) : cTup K [.ref p] H Q := ⟨p, xs, rfl, .inl ⟨hp, fun l nl => h _ _ (same_new nl) (im_new nl hd)⟩⟩
theorem st_tupD {p : Addr} {xs : List V} {ds : List PyData} (hp : SqL K H p xs) (hd : DpAll K H xs ds) (h : ∀ w H2, Same H H2 → Dp K H2 w (.tuple ds) → Q w H2) : cTup K [.ref p] H Q := ⟨p, xs, rfl, .inl ⟨hp, fun l nl => h _ _ (same_new nl) (.tup (sqT_of upd_same) (dpAll_same (same_new nl) hd))⟩⟩
theorem st_listT {p : Addr} {xs : List V} (hp : SqT K H p xs) (h : ∀ l H2, Fr H l → Same H H2 → At H2 l (.lst xs) → Q (.ref l) H2) : cList K [.ref p] H Q := ⟨p, xs, rfl, .inr hp, fun l nl => h l _ nl (same_new nl) upd_same⟩
theorem st_listL {p : Addr} {xs : List V} (hp : SqL K H p xs) (h : ∀ l H2, Fr H l → Same H H2 → At H2 l (.lst xs) → Q (.ref l) H2) : cList K [.ref p] H Q := ⟨p, xs, rfl, .inl hp, fun l nl => h l _ nl (same_new nl) upd_same⟩
theorem st_listI {ds : List PyData} (hp : Im K H v (.tuple ds)) (h : ∀ l H2 xs, Fr H l → Same H H2 → At H2 l (.lst xs) → ImAll K H2 xs ds → Q (.ref l) H2) : cList K [v] H Q := by
  obtain ⟨a, xs, rfl, hs, ht⟩ := im_tup hp
  exact ⟨a, xs, rfl, .inr hs, fun l nl => h l _ xs nl (same_new nl) upd_same (ht.tx (.new nl))⟩
theorem st_app {l : Addr} {xs : List V} (hl : At H l (.lst xs)) (hz : xs.length < 1000000) (h : ∀ H2, Bx l H H2 → At H2 l (.lst (xs ++ [v])) → Q .non H2) : rAppend (.ref l) [v] H Q := ⟨l, xs, v, rfl, rfl, hl, small' (by omega), h _ (bx_upd hl) upd_same⟩
theorem st_ins {l : Addr} {xs : List V} {i : Int} (hl : At H l (.lst xs)) (hz : xs.length < 1000000) (hi : 0 ≤ i ∧ i < 2 ^ 63) (h : ∀ H2, Bx l H H2 → At H2 l (.lst (xs.take i.toNat ++ [v] ++ xs.drop i.toNat)) → Q .non H2) : mIns (.ref l) [.int i, v] H Q := ⟨l, xs, i, v, rfl, rfl, hl, small' (by omega), hi.1, hi.2, h _ (bx_upd hl) upd_same⟩
theorem st_popAt {l : Addr} {xs : List V} {i : Int} {k : Nat} (hl : At H l (.lst xs)) (ei : i = (k : Int)) (hk : k < 2 ^ 62) (hx : xs[k]? = some v) (h : ∀ H2, Bx l H H2 → At H2 l (.lst (xs.eraseIdx k)) → Q v H2) : rPopAt (.ref l) [.int i] H Q := by
  have hlt : k < xs.length := (List.getElem?_eq_some_iff.mp hx).1
  have e2 : ixN xs.length (k : Int) = some k := by
    unfold ixN
    rw [if_pos (by omega), if_pos (by omega)]
    simp
  exact ⟨l, xs, i, k, v, rfl, rfl, hl, by omega, by omega, by rw [ei]; exact (ixN_seq e2).1, hx, h _ (bx_upd hl) upd_same⟩
theorem st_extL {l m : Addr} {xs zs : List V} (hl : At H l (.lst xs)) (hm : At H m (.lst zs)) (hz : xs.length + zs.length ≤ 1000000) (h : ∀ H2, Bx l H H2 → At H2 l (.lst (xs ++ zs)) → Q .non H2) : rExtend (.ref l) [.ref m] H Q := ⟨l, m, xs, zs, rfl, rfl, hl, hm, small hz, h _ (bx_upd hl) upd_same⟩
theorem st_setL {l : Addr} {xs : List V} {i : Int} (k : Nat) {Q : Hp → Prop} (hl : At H l (.lst xs)) (ei : i = (k : Int)) (hk : k < xs.length) (h : ∀ H2, Bx l H H2 → At H2 l (.lst (xs.set k v)) → Q H2) : rSetL (.ref l) (.int i) v H Q := by
  have e2 : ixN xs.length (k : Int) = some k := by
    unfold ixN
    rw [if_pos (by omega), if_pos (by omega)]
    simp
  exact ⟨l, xs, i, k, rfl, rfl, hl, by rw [ei]; exact e2, h _ (bx_upd hl) upd_same⟩
theorem st_tyL {p : Addr} {xs : List V} {R : Prop} (hp : At H p (.lst xs)) (h : R) : tyV K "list" (.ref p) H ∧ R := ⟨.inl ⟨rfl, xs, sqL_of hp⟩, h⟩
def RevL (K : PySem.W.Frag) (Q : VK) (x : V) (H : Hp) : Prop := ∃ a xs, x = .ref a ∧ SqL K H a xs ∧ ∀ p, H p = none → Q (.ref p) (upd H p (.lst xs.reverse))
theorem st_revL {p : Addr} {xs : List V} (hp : SqL K H p xs) (h : ∀ l H2, Fr H l → Same H H2 → At H2 l (.lst xs.reverse) → Q (.ref l) H2) : RevL K Q (.ref p) H := ⟨p, xs, rfl, hp, fun l nl => h l _ nl (same_new nl) upd_same⟩
theorem st_rev (h : te σ H fun x H1 => RevL K Q x H1) : tRevL K te σ H Q := h
theorem st_catL {l m : Addr} {xs zs : List V} (hl : At H l (.lst xs)) (hm : At H m (.lst zs)) (hz : xs.length + zs.length ≤ 1000000) (h : ∀ p H2, Fr H p → Same H H2 → At H2 p (.lst (xs ++ zs)) → Q (.ref p) H2) : rCat (.ref l) (.ref m) H Q := ⟨l, m, xs, zs, rfl, rfl, hl, hm, small hz, fun p np => h p _ np (same_new np) upd_same⟩
/-- + of two tuples of data -/
theorem st_catI {ds es : List PyData} (h1 : Im K H x (.tuple ds)) (h2 : Im K H y (.tuple es)) (hz : ds.length + es.length ≤ 1000000) (h : ∀ w H2, Same H H2 → Im K H2 w (.tuple (ds ++ es)) → Q w H2) : rCatA K x y H Q := by
  obtain ⟨a, xs, rfl, ha, hx⟩ := im_tup h1
  obtain ⟨b, ys, rfl, hb, hy⟩ := im_tup h2
  have l1 := hx.length
  have l2 := hy.length
  refine ⟨a, b, xs, ys, rfl, rfl, ha, hb, small (by omega), fun e => ?_, fun e1 e2 => ?_, fun _ _ p np => h _ _ (same_new np) (im_new np (hx.append hy))⟩
  · subst e
    cases hx
    exact h _ _ (Same.refl H) h2
  · subst e2
    cases hy
    rw [List.append_nil] at h
    exact h _ _ (Same.refl H) h1
/-- a slice of a tuple of data, by its ends -/
theorem st_sliceI {ds : List PyData} {lo hi : Option Int} (h1 : Im K H x (.tuple ds)) (h : ∀ w H2, Same H H2 → Im K H2 w (.tuple ((ds.drop (HT.sIx ds.length 0 lo)).take (HT.sIx ds.length ds.length hi - HT.sIx ds.length 0 lo))) → Q w H2) : rSlA K x lo hi H Q := by
  obtain ⟨a, xs, rfl, ha, hx⟩ := im_tup h1
  have l1 := hx.length
  rw [← l1] at h
  refine ⟨a, xs, rfl, ha, fun e => ?_, fun _ p np => h _ _ (same_new np) (im_new np ((hx.drop _).take _))⟩
  rw [e.1, e.2] at h
  simp only [List.drop_zero, Nat.sub_zero, l1, List.take_length] at h
  exact h _ _ (Same.refl H) h1
theorem st_isi {d : PyData} {T : String} (hd : Dp K H v d) (k : (kitB (tyD d) T).isSome = true) (q : Q (.bl (isD d T)) H) : rIsi K [v, .ty T] H Q := isi_dp hd k q
theorem st_all {a : Addr} {bs : List Bool} (h : SqL K H a (bs.map V.bl)) (q : Q (.bl (bs.all id)) H) : rAll K [.ref a] H Q := ⟨a, bs, rfl, h, q⟩
theorem st_maxD {a : Addr} {ns : List Int} {d : Int} (h : SqL K H a (ns.map V.int)) (q : Q (.int (maxOf d ns)) H) : rMaxD K [.ref a] [.int d] H Q := ⟨a, ns, d, rfl, rfl, h, q⟩
theorem st_intI {i : Int} (q : Q (.int i) H) : cInt [.int i] H Q := .inl ⟨i, rfl, q⟩
theorem st_intB {k : Bool} (q : Q (.int (if k then 1 else 0)) H) : cInt [.bl k] H Q := .inr ⟨k, rfl, q⟩
theorem st_str {i : Int} (hi : i.natAbs.log2 < 1920) (q : Q (.str (toString i)) H) : cStr [.int i] H Q := ⟨i, rfl, hi, q⟩
/-- == of data -/
theorem st_eqD {d e : PyData} (h1 : Dp K H x d) (h2 : Dp K H y e) (s1 : SeqAt.shaped d = true) (s2 : SeqAt.shaped e = true) (q : Q (.bl (PyData.eqv d e)) H) : rEqD K x y H Q := ⟨d, e, h1, h2, s1, s2, q⟩
theorem st_neD {d e : PyData} (h1 : Dp K H x d) (h2 : Dp K H y e) (s1 : SeqAt.shaped d = true) (s2 : SeqAt.shaped e = true) (q : Q (.bl (!PyData.eqv d e)) H) : rNeD K x y H Q := ⟨d, e, h1, h2, s1, s2, q⟩
/-! ### tests -/
theorem st_test {Q : Bool → Hp → Prop} (h : te σ H fun x H1 => ∃ k, x = .bl k ∧ Q k H1) : tTest te σ H Q := h
theorem st_B {Q : Bool → Hp → Prop} (h : te σ H fun x H1 => ∃ k, x = .bl k ∧ Q k H1) : tB te σ H Q := h
theorem st_not {Q : Bool → Hp → Prop} (h : t σ H fun k H1 => Q (!k) H1) : tNot t σ H Q := h
theorem st_and {Q : Bool → Hp → Prop} (h : t σ H fun k H1 => if k = true then u σ H1 Q else Q false H1) : tAnd t u σ H Q := h
theorem st_or {Q : Bool → Hp → Prop} (h : t σ H fun k H1 => if k = true then Q true H1 else u σ H1 Q) : tOr t u σ H Q := h
theorem st_tru {Q : Bool → Hp → Prop} (h : ta σ H fun x H1 => ∃ k, TruV K x H1 k ∧ Q k H1) : tTru K ta σ H Q := h
theorem st_truI {Q : Bool → Hp → Prop} {i : Int} (h : Q (i != 0) H) : ∃ k, TruV K (.int i) H k ∧ Q k H := ⟨_, rfl, h⟩
theorem st_yes {Q : Bool → Hp → Prop} (h : Q true H) : tYes σ H Q := h
theorem st_bl {k : Bool} {R : Bool → Prop} (h : R k) : ∃ c, V.bl k = .bl c ∧ R c := ⟨k, rfl, h⟩
theorem st_in {i : Int} {R : Int → Prop} (h : R i) : ∃ c, V.int i = .int c ∧ R c := ⟨i, rfl, h⟩
theorem st_yT {P : Prop} [Decidable P] {a b : Prop} (h : P) (k : a) : if decide P = true then a else b := by
  rw [decide_eq_true h]
  exact k
theorem st_yF {P : Prop} [Decidable P] {a b : Prop} (h : ¬ P) (k : b) : if decide P = true then a else b := by
  rw [decide_eq_false h]
  exact k
theorem st_y2 {P : Prop} [Decidable P] {a b : Prop} (h1 : P → a) (h2 : ¬ P → b) : if decide P = true then a else b := by
  by_cases h : P
  · exact st_yT h (h1 h)
  · exact st_yF h (h2 h)
theorem st_nT {P : Prop} [Decidable P] {a b : Prop} (h : ¬ P) (k : a) : if (!decide P) = true then a else b := by
  rw [decide_eq_false h]
  exact k
theorem st_nF {P : Prop} [Decidable P] {a b : Prop} (h : P) (k : b) : if (!decide P) = true then a else b := by
  rw [decide_eq_true h]
  exact k
theorem st_n2 {P : Prop} [Decidable P] {a b : Prop} (h1 : ¬ P → a) (h2 : P → b) : if (!decide P) = true then a else b := by
  by_cases h : P
  · exact st_nF h (h2 h)
  · exact st_nT h (h1 h)
theorem st_nbT {a b : Prop} (k : b) : if (!true) = true then a else b := k
theorem st_nbF {a b : Prop} (k : a) : if (!false) = true then a else b := k
theorem st_b2 {k : Bool} {a b : Prop} (h1 : k = true → a) (h2 : k = false → b) : if k = true then a else b := by
  cases k with
  | true => exact h1 rfl
  | false => exact h2 rfl
/-! ### statements -/
theorem st_seq (h : ts ⟨us ⟨n, r, b, c⟩, r, b, c⟩ σ H) : tSeq ts us ⟨n, r, b, c⟩ σ H := h
theorem st_next (h : n σ H) : tNext ⟨n, r, b, c⟩ σ H := h
theorem st_brk (h : b σ H) : tBreak ⟨n, r, b, c⟩ σ H := h
theorem st_cont (h : c σ H) : tCont ⟨n, r, b, c⟩ σ H := h
theorem st_drop (h : te σ H fun _ H1 => n σ H1) : tDrop te ⟨n, r, b, c⟩ σ H := h
theorem st_ret (h : te σ H r) : tRet te ⟨n, r, b, c⟩ σ H := h
theorem st_asg (h : te σ H fun x H1 => g x σ H1 n) : tAsg te g ⟨n, r, b, c⟩ σ H := h
theorem st_if (h : t σ H fun k H1 => if k = true then ts ⟨n, r, b, c⟩ σ H1 else us ⟨n, r, b, c⟩ σ H1) : tIfS t ts us ⟨n, r, b, c⟩ σ H := h
theorem st_sub {o : TSet} (h : ta σ H fun x H1 => tb σ H1 fun y H2 => o x y v H2 fun H3 => n σ H3) : gSub ta tb o v σ H n := h
theorem st_gtup {k : Nat} {G : TGs} {ds : List PyData} (hd : Im K H v (.tuple ds)) (hl : ds.length = k) (h : ∀ xs, ImAll K H xs ds → G xs σ H n) : gTup K k G v σ H n := by
  obtain ⟨a, xs, rfl, hs, ht⟩ := im_tup hd
  exact ⟨a, xs, rfl, hs, by rw [ht.length, hl], h xs ht⟩
theorem st_gcons {G : TGs} {xs : List V} (h : g x σ H fun σ' H' => G xs σ' H' n) : gCons g G (x :: xs) σ H n := ⟨x, xs, rfl, h⟩
theorem st_gnil (h : n σ H) : gNil [] σ H n := ⟨rfl, h⟩

/-! ### loops: the word of a turn -/
def Loop (J : It) (g : TG) (tb : TS) (D : Ends) (σ : L2.St) (H : Hp) : Prop := ∃ W : Nat → Nat → L2.St → Hp → Prop, (∃ m, W 0 m σ H) ∧ ∀ i m σ H, W i m σ H →
  (J.stop i H ∧ D.nx σ H) ∨ (J.go i H ∧ ∃ N : L2.St → Hp → Prop, (∀ σ' H', N σ' H' → ∃ m', m' < m ∧ W (i + 1) m' σ' H') ∧ ∀ x H', J.yld i H x H' → g x σ H' fun σ2 H2 => tb { D with nx := N, ct := N, bk := D.nx } σ2 H2)
def LoopC (J : It) (g : TG) (tt : TT) (te : TE) (vs : List Nat) (σ : L2.St) (Q : VK) (H1 : Hp) : Prop := ∀ D, H1 D = none → ∃ W : Nat → Nat → Hp → Prop, (∃ m, W 0 m (upd H1 D (.lst []))) ∧ ∀ i m H, W i m H →
  (J.stop i H ∧ Q (.ref D) H) ∨ (J.go i H ∧ ∃ Nx : Hp → Prop, (∀ H', Nx H' → ∃ m', m' < m ∧ W (i + 1) m' H') ∧ ∀ x H', J.yld i H x H' → g x (wipe σ vs) H' fun σ2 H2 => wipe σ2 vs = wipe σ vs ∧ tt σ2 H2 fun b H3 =>
    if b = true then te σ2 H3 fun y H4 => ∃ acc, H4 D = some (.lst acc) ∧ acc.length < sizeLine ∧ Nx (upd H4 D (.lst (acc ++ [y]))) else Nx H3)
variable {wi : TI} {vs : List Nat}
theorem st_for (h : wi σ H fun J H1 => Loop J g ts ⟨n, r, b, c⟩ σ H1) : tFor wi g ts ⟨n, r, b, c⟩ σ H := h
theorem st_lc (h : wi σ H fun J H1 => LoopC J g t te vs σ Q H1) : tLc wi g t te vs σ H Q := h
def Rng1 (R : It → Hp → Prop) (vs : List V) (H1 : Hp) : Prop := ∃ j : Int, vs = [.int j] ∧ -(2 ^ 62) ≤ j ∧ j < 2 ^ 62 ∧ R (Itr 0 j.toNat) H1
def Rng2 (R : It → Hp → Prop) (vs : List V) (H1 : Hp) : Prop := ∃ i j : Int, vs = [.int i, .int j] ∧ (-(2 ^ 62) ≤ i ∧ i < 2 ^ 62 ∧ -(2 ^ 62) ≤ j ∧ j < 2 ^ 62) ∧ R (Itr i (j - i).toNat) H1
def Rng3 (R : It → Hp → Prop) (vs : List V) (H1 : Hp) : Prop := ∃ (i j c : Int) (n : Nat), vs = [.int i, .int j, .int c] ∧ RgC i j c n ∧ R (Itc i c n) H1
theorem st_i1 {R : It → Hp → Prop} (h : A σ H fun vs H1 => Rng1 R vs H1) : iRng1 A σ H R := h
theorem st_i2 {R : It → Hp → Prop} (h : A σ H fun vs H1 => Rng2 R vs H1) : iRng2 A σ H R := h
theorem st_i3 {R : It → Hp → Prop} (h : A σ H fun vs H1 => Rng3 R vs H1) : iRng3 A σ H R := h
theorem st_iT {R : It → Hp → Prop} (h : te σ H fun x H1 => ∃ a, x = .ref a ∧ (∃ xs, SqT K H1 a xs) ∧ R (Itt K a) H1) : iTup K te σ H R := h
theorem st_iL {R : It → Hp → Prop} (h : te σ H fun x H1 => ∃ a, x = .ref a ∧ (∃ xs, SqL K H1 a xs) ∧ R (Itl K a) H1) : iList K te σ H R := h
theorem st_iS {R : It → Hp → Prop} (h : te σ H fun v H1 => ∃ x, v = .str x ∧ R (Its x) H1) : iStr te σ H R := h
theorem st_r1 {R : It → Hp → Prop} {j : Int} (m : Nat) (ej : j = (m : Int)) (hm : m ≤ 1000000000) (h : R (Itr 0 m) H) : Rng1 R [V.int j] H :=
  ⟨j, rfl, by omega, by omega, by
    subst ej
    exact h⟩
theorem st_r2 {R : It → Hp → Prop} {i j : Int} (m : Nat) (ej : m = (j - i).toNat) (hi : -1000000000 ≤ i ∧ i ≤ 1000000000) (hj : -1000000000 ≤ j ∧ j ≤ 1000000000) (h : R (Itr i m) H) : Rng2 R [V.int i, V.int j] H := ⟨i, j, rfl, by omega, by
    subst ej
    exact h⟩
theorem st_r3 {R : It → Hp → Prop} {i j c : Int} (m : Nat) (hr : RgC i j c m) (h : R (Itc i c m) H) : Rng3 R [V.int i, V.int j, V.int c] H := ⟨i, j, c, m, rfl, hr, h⟩
/-- for over a range: lo, lo + 1, .. -/
theorem loop_r {lo : Int} {m : Nat} (Pv : Nat → L2.St → Hp → Prop) (h0 : Pv 0 σ H) (hs : ∀ i σ' H', i < m → Pv i σ' H' → g (.int (lo + (i : Int))) σ' H' fun σ2 H2 => ts ⟨Pv (i + 1), r, n, Pv (i + 1)⟩ σ2 H2)
    (hd : ∀ σ' H', Pv m σ' H' → n σ' H') : Loop (Itr lo m) g ts ⟨n, r, b, c⟩ σ H := for_range (lo := lo) (n := m) Pv h0 hs hd
theorem loop_r0 {m : Nat} (Pv : Nat → L2.St → Hp → Prop) (h0 : Pv 0 σ H) (hs : ∀ i σ' H', i < m → Pv i σ' H' → g (.int (i : Int)) σ' H' fun σ2 H2 => ts ⟨Pv (i + 1), r, n, Pv (i + 1)⟩ σ2 H2)
    (hd : ∀ σ' H', Pv m σ' H' → n σ' H') : Loop (Itr 0 m) g ts ⟨n, r, b, c⟩ σ H := loop_r Pv h0 (fun i σ' H' hi p => by
  rw [Int.zero_add]
  exact hs i σ' H' hi p) hd
theorem loop_c {lo st : Int} {m : Nat} (Pv : Nat → L2.St → Hp → Prop) (h0 : Pv 0 σ H) (hs : ∀ i σ' H', i < m → Pv i σ' H' → g (.int (lo + (i : Nat) * st)) σ' H' fun σ2 H2 => ts ⟨Pv (i + 1), r, n, Pv (i + 1)⟩ σ2 H2)
    (hd : ∀ σ' H', Pv m σ' H' → n σ' H') : Loop (Itc lo st m) g ts ⟨n, r, b, c⟩ σ H := for_rangeC (lo := lo) (c := st) (n := m) Pv h0 hs hd
/-- for over a list that stands -/
theorem loop_l {p : Addr} {xs : List V} (hp : SqL K H p xs) (Pv : Nat → L2.St → Hp → Prop) (h0 : Pv 0 σ H) (hl : ∀ i σ' H', Pv i σ' H' → SqL K H' p xs)
    (hs : ∀ i x σ' H', xs[i]? = some x → Pv i σ' H' → g x σ' H' fun σ2 H2 => ts ⟨Pv (i + 1), r, n, Pv (i + 1)⟩ σ2 H2) (hd : ∀ σ' H', Pv xs.length σ' H' → n σ' H') :
    ∃ a, V.ref p = .ref a ∧ (∃ xs, SqL K H a xs) ∧ Loop (Itl K a) g ts ⟨n, r, b, c⟩ σ H := ⟨p, rfl, ⟨xs, hp⟩, for_list Pv h0 (fun i σ' H' _ q => hl i σ' H' q) hs hd⟩
/-- for over a tuple of data -/
theorem loop_t {ds : List PyData} (hp : Im K H x (.tuple ds)) (Pv : Nat → L2.St → Hp → Prop) (h0 : Pv 0 σ H) (hl : ∀ i σ' H', Pv i σ' H' → Tx H H')
    (hs : ∀ i d y σ' H', ds[i]? = some d → Pv i σ' H' → Im K H' y d → g y σ' H' fun σ2 H2 => ts ⟨Pv (i + 1), r, n, Pv (i + 1)⟩ σ2 H2) (hd : ∀ σ' H', Pv ds.length σ' H' → n σ' H') :
    ∃ a, x = .ref a ∧ (∃ xs, SqT K H a xs) ∧ Loop (Itt K a) g ts ⟨n, r, b, c⟩ σ H := by
  obtain ⟨a, xs, rfl, hs0, ht⟩ := im_tup hp
  have e := ht.length
  refine ⟨a, rfl, ⟨xs, hs0⟩, for_tup Pv h0 (fun i σ' H' _ q => sqT_tx (hl i σ' H' q) hs0) (fun i y σ' H' hy q => ?_) (by rw [e]; exact hd)⟩
  obtain ⟨d, h1, h2⟩ := ht.get hy
  exact hs i d y σ' H' h1 q (h2.tx (hl i σ' H' q))
theorem loop_s {z : Str} (Pv : Nat → L2.St → Hp → Prop) (h0 : Pv 0 σ H) (hs : ∀ i k σ' H', z.cps[i]? = some k → Pv i σ' H' → g (.str ⟨#[k]⟩) σ' H' fun σ2 H2 => ts ⟨Pv (i + 1), r, n, Pv (i + 1)⟩ σ2 H2)
    (hd : ∀ σ' H', Pv z.cps.size σ' H' → n σ' H') : ∃ x, V.str z = .str x ∧ Loop (Its x) g ts ⟨n, r, b, c⟩ σ H := by
  refine ⟨z, rfl, fun i m σ' H' => m = z.cps.size - i ∧ i ≤ z.cps.size ∧ Pv i σ' H', ⟨_, rfl, Nat.zero_le _, h0⟩, ?_⟩
  rintro i m σ' H' ⟨rfl, hi, p⟩
  by_cases hlt : i < z.cps.size
  · refine .inr ⟨hlt, Pv (i + 1), fun σ2 H2 p' => ⟨z.cps.size - (i + 1), by omega, rfl, hlt, p'⟩, fun x H2 y => ?_⟩
    obtain ⟨rfl, k, hk, rfl⟩ := y
    exact hs i k σ' _ hk p
  · have e : i = z.cps.size := by omega
    exact .inl ⟨Nat.le_of_not_lt hlt, hd σ' H' (e ▸ p)⟩
/-- while: W falls -/
theorem st_while (W : Nat → L2.St → Hp → Prop) (m0 : Nat) (h0 : W m0 σ H) (hs : ∀ m σ' H', W m σ' H' → t σ' H' fun k H1 => if k = true then ∃ N : L2.St → Hp → Prop, (∀ σ2 H2, N σ2 H2 → ∃ m', m' < m ∧ W m' σ2 H2) ∧ ts ⟨N, r, n, N⟩ σ' H1 else n σ' H1) :
    tWhile t ts ⟨n, r, b, c⟩ σ H := ⟨W, ⟨m0, h0⟩, hs⟩
theorem st_turn {W : Nat → L2.St → Hp → Prop} {m : Nat} (h : ts ⟨fun σ2 H2 => ∃ m', m' < m ∧ W m' σ2 H2, r, n, fun σ2 H2 => ∃ m', m' < m ∧ W m' σ2 H2⟩ σ H) :
    ∃ N : L2.St → Hp → Prop, (∀ σ2 H2, N σ2 H2 → ∃ m', m' < m ∧ W m' σ2 H2) ∧ ts ⟨N, r, n, N⟩ σ H := ⟨_, fun _ _ q => q, h⟩
/-! ### comprehensions: which turns give, and what (data) -/
def given (m : Nat) (f : Nat → Bool) (e : Nat → PyData) : List PyData := ((List.range m).filter f).map e
theorem given_yes {m : Nat} {f : Nat → Bool} {e : Nat → PyData} (h : f m = true) : given (m + 1) f e = given m f e ++ [e m] := by
  unfold given
  rw [List.range_succ, List.filter_append, List.map_append, List.filter_cons, if_pos h] <;> rfl
theorem given_no {m : Nat} {f : Nat → Bool} {e : Nat → PyData} (h : f m = false) : given (m + 1) f e = given m f e := by
  unfold given
  rw [List.range_succ, List.filter_append, List.map_append, List.filter_cons, if_neg (by rw [h]; decide)]
  simp
theorem given_len (m : Nat) (f : Nat → Bool) (e : Nat → PyData) : (given m f e).length ≤ m := by
  unfold given
  rw [List.length_map]
  have h := List.length_filter_le f (List.range m)
  rw [List.length_range] at h
  exact h
theorem given_all (m : Nat) (e : Nat → PyData) : given m (fun _ => true) e = (List.range m).map e := by
  unfold given
  rw [List.filter_eq_self.mpr (fun _ _ => rfl)]
/-- what stands between two turns -/
def Cw (K : PySem.W.Frag) (H : Hp) (f : Nat → Bool) (e : Nat → PyData) (D : Addr) (i : Nat) (H' : Hp) : Prop := H D = none ∧ Same H H' ∧ ∃ ys, H' D = some (.lst ys) ∧ ImAll K H' ys (given i f e)
/-- what a turn must show: for any ways on -/
def Turned (K : PySem.W.Frag) (g : TG) (t : TT) (te : TE) (vs : List Nat) (σw : L2.St) (x : V) (H' : Hp) (keep : Bool) (d : PyData) : Prop := ∀ (CT : VK) (CF : Hp → Prop), (keep = true → ∀ y H4, Same H' H4 → Im K H4 y d → CT y H4) → (keep = false → ∀ H4, Same H' H4 → CF H4) →
  g x σw H' fun σ2 H2 => wipe σ2 vs = σw ∧ t σ2 H2 fun k H3 => if k = true then te σ2 H3 CT else CF H3
theorem cw_turn {f : Nat → Bool} {e : Nat → PyData} {D : Addr} {i : Nat} {σw : L2.St} {x : V} (p : Cw K H f e D i H') (hi : i ≤ 1000000) (ht : Turned K g t te vs σw x H' (f i) (e i)) :
    g x σw H' fun σ2 H2 => wipe σ2 vs = σw ∧ t σ2 H2 fun k H3 => if k = true then te σ2 H3 fun y H4 => ∃ acc, H4 D = some (.lst acc) ∧ acc.length < sizeLine ∧ Cw K H f e D (i + 1) (upd H4 D (.lst (acc ++ [y]))) else Cw K H f e D (i + 1) H3 := by
  obtain ⟨p1, p2, ys, p3, p4⟩ := p
  refine ht _ _ (fun hf y H4 s q => ?_) fun hf H4 s => ?_
  · have hD := s _ _ p3
    refine ⟨ys, hD, small' (by have := given_len i f e; have := p4.length; omega), p1, same_mut (p2.trans s) p1, _, upd_same, ?_⟩
    rw [given_yes hf]
    exact ((p4.same s).tx (.mut hD)).snoc (q.tx (.mut hD))
  · refine ⟨p1, p2.trans s, ys, s _ _ p3, ?_⟩
    rw [given_no hf]
    exact p4.same s
theorem lc_r {lo : Int} {m : Nat} {σw : L2.St} (f : Nat → Bool) (e : Nat → PyData) (hw : wipe σ vs = σw) (hm : m ≤ 1000000) (hs : ∀ i H', i < m → Same H H' → Turned K g t te vs σw (.int (lo + (i : Int))) H' (f i) (e i))
    (h : ∀ p H2 ys, Fr H p → Same H H2 → At H2 p (.lst ys) → ImAll K H2 ys (given m f e) → Q (.ref p) H2) : LoopC (Itr lo m) g t te vs σ Q H := by
  subst hw
  exact fun D hD => lc_range (lo := lo) (n := m) (Cw K H f e D) ⟨hD, same_new hD, [], upd_same, .nil⟩ (fun i H' hi p => cw_turn p (by omega) (hs i H' hi p.2.1)) fun H2 ⟨_, q2, ys, q3, q4⟩ => h D H2 ys hD q2 q3 q4
theorem lc_r0 {m : Nat} {σw : L2.St} (f : Nat → Bool) (e : Nat → PyData) (hw : wipe σ vs = σw) (hm : m ≤ 1000000) (hs : ∀ i H', i < m → Same H H' → Turned K g t te vs σw (.int (i : Int)) H' (f i) (e i))
    (h : ∀ p H2 ys, Fr H p → Same H H2 → At H2 p (.lst ys) → ImAll K H2 ys (given m f e) → Q (.ref p) H2) : LoopC (Itr 0 m) g t te vs σ Q H := lc_r f e hw hm (fun i H' hi q => by
  rw [Int.zero_add]
  exact hs i H' hi q) h
theorem lc_t {ds : List PyData} {σw : L2.St} (hp : Im K H x (.tuple ds)) (f : Nat → Bool) (e : Nat → PyData) (hw : wipe σ vs = σw) (hm : ds.length ≤ 1000000) (hs : ∀ i d y H', ds[i]? = some d → Same H H' → Im K H' y d → Turned K g t te vs σw y H' (f i) (e i))
    (h : ∀ p H2 ys, Fr H p → Same H H2 → At H2 p (.lst ys) → ImAll K H2 ys (given ds.length f e) → Q (.ref p) H2) : ∃ a, x = .ref a ∧ (∃ xs, SqT K H a xs) ∧ LoopC (Itt K a) g t te vs σ Q H := by
  obtain ⟨a, xs, rfl, hs0, ht⟩ := im_tup hp
  have el := ht.length
  subst hw
  refine ⟨a, rfl, ⟨xs, hs0⟩, fun D hD => lc_tup (xs := xs) (Cw K H f e D) ⟨hD, same_new hD, [], upd_same, .nil⟩ (fun i H' _ p => sqT_tx (.of p.2.1) hs0) (fun i y H' hy p => ?_) fun H2 ⟨_, q2, ys, q3, q4⟩ => ?_⟩
  · obtain ⟨d, h1, h2⟩ := ht.get hy
    have hi := (List.getElem?_eq_some_iff.mp hy).1
    exact cw_turn p (by omega) (hs i d y H' h1 p.2.1 (h2.same p.2.1))
  · rw [el] at q4
    exact h D H2 ys hD q2 q3 q4
theorem lc_l {p : Addr} {xs : List V} {σw : L2.St} (hp : SqL K H p xs) (f : Nat → Bool) (e : Nat → PyData) (hw : wipe σ vs = σw) (hm : xs.length ≤ 1000000) (hs : ∀ i y H', xs[i]? = some y → Same H H' → Turned K g t te vs σw y H' (f i) (e i))
    (h : ∀ p H2 ys, Fr H p → Same H H2 → At H2 p (.lst ys) → ImAll K H2 ys (given xs.length f e) → Q (.ref p) H2) : ∃ a, V.ref p = .ref a ∧ (∃ xs, SqL K H a xs) ∧ LoopC (Itl K a) g t te vs σ Q H := by
  subst hw
  refine ⟨p, rfl, ⟨xs, hp⟩, fun D hD => lc_list (xs := xs) (Cw K H f e D) ⟨hD, same_new hD, [], upd_same, .nil⟩ (fun i H' _ q => q.2.1.seq hp) (fun i y H' hy q => ?_) fun H2 ⟨_, q2, ys, q3, q4⟩ => h D H2 ys hD q2 q3 q4⟩
  have hi := (List.getElem?_eq_some_iff.mp hy).1
  exact cw_turn q (by omega) (hs i y H' hy q.2.1)
end
end SF

set_option maxHeartbeats 4000000
/-! A list comprehension whose element may raise, in a def that lets it out. -/
namespace SF
open PySem PySem.Spec PyProof.Rows L2
open C8 (Cal pe_c)
/-- a note is made by the frame alone -/
theorem note_frame {u : Value} {e1 e2 : Env} (h : e1.frame = e2.frame) : noteFrame u e1 = noteFrame u e2 := by
  unfold noteFrame PySem.frameOf
  rw [h]
section
variable {X : Cx} {pins : List (Addr × Obj)} {σ : L2.St} {H H' : Hp} {s s' : Shared} {E : XK} {C a : Addr} {B B2 : Heap} {cls : Value} {d : Option Addr} {m : Str → Option Value}
/-- an exception past a block: held by the def's frame; all but the block's names is as the call left it -/
theorem XE_past (I : Inv X pins σ H s) (fC : FpOk X pins H C) (held : HandSPX.HeldZ B2 X.stack a (Zc cls d) X.env.locals s'.heap) (hok : HOk X.prog X.w H' B2)
    (keep : ∀ b o, s.heap.get? b = some o → H b = none → b ∉ frs X.stack → b ≠ C → B2.get? b = some o) (slot : ∀ b o, s.heap.get? b = some o → b ∈ frs X.stack → ∃ sl, s'.heap.get? b = some { o with slots := sl })
    (free : ∀ b o, s.heap.get? b = some o → H b = none → H' b = none) (there : ∀ b o, s.heap.get? b = some o → b ∉ frs X.stack → b ≠ C → ∃ o', B2.get? b = some o')
    (tups : ∀ b xs, H b = some (.tup xs) → H' b = some (.tup xs)) (frzs : ∀ b o xs, H b = some (.frz o xs) → H' b = some (.frz o xs)) (tbls : ∀ b ps, H b = some (.tbl ps) → ∃ more, H' b = some (.tbl (ps ++ more)))
    (na : H' a = none) (os : s'.os = s.os) (ag : AllBare s'.gens) (hE : E cls d H') : XE X (fun cls d _ H => E cls d H) (.ref a) s' := by
  obtain ⟨G, g1, g2⟩ := restrict s'.heap fun b => (B2.get? b).isSome || decide (b ∈ frs X.stack)
  have st := held.1
  have inB : ∀ b o, B2.get? b = some o → G.get? b = some o := fun b o e => by
    rw [g1 b (by simp [e])]
    exact st b o e
  have inF : ∀ b, b ∈ frs X.stack → G.get? b = s'.heap.get? b := fun b hb => g1 b (by simp [hb])
  have only : ∀ b o, G.get? b = some o → s'.heap.get? b = some o ∧ ((B2.get? b).isSome = true ∨ b ∈ frs X.stack) := fun b o e => by
    cases q : ((B2.get? b).isSome || decide (b ∈ frs X.stack)) with
    | false =>
      rw [g2 b q] at e
      cases e
    | true =>
      rw [g1 b q] at e
      exact ⟨e, by simpa [Bool.or_eq_true] using q⟩
  have nC : ∀ b, b ∉ [C] → b ≠ C := fun b hb e => hb (by simp [e])
  have J : Inv X pins σ H' { s with heap := G, gens := s'.gens, drawn := s'.drawn, toks := s'.toks } := by
    refine I.call (ch := [C]) ⟨fun b o e n hb hc => inB b o (keep b o e n hb (nC b hc)), fun b o e n hb hc => ?_, fun b o e n _ => free b o e n, fun b o e hc => ?_, tups, frzs, tbls⟩ (hok.kept inB) ag (fun b hb => ?_)
    · obtain ⟨sl, q⟩ := slot b o e hb
      exact ⟨sl, by rw [inF b hb]; exact q⟩
    · by_cases hb : b ∈ frs X.stack
      · obtain ⟨sl, q⟩ := slot b o e hb
        exact ⟨_, by rw [inF b hb]; exact q⟩
      · obtain ⟨o', q⟩ := there b o e hb (nC b hc)
        exact ⟨o', inB b o' q⟩
    · have e : b = C := by simpa using hb
      subst e
      obtain ⟨f0, f1, f2, f3, f4, f5⟩ := fC
      exact ⟨f3, f1, f4, f5⟩
  refine ⟨a, B2, _, pins, σ, H', cls, d, rfl, J, fun b o e hb => ?_, Heap.UpToSlots.of_keeps fun b o e => (only b o e).1, .inr (.inr held), na, os, ag, hE⟩
  obtain ⟨e', h⟩ := only b o e
  rcases h with h | h
  · obtain ⟨o', q⟩ := Option.isSome_iff_exists.mp h
    have z := (st b o' q).symm.trans e'
    cases z
    exact q
  · exact absurd h hb
/-- a call's exception within a block: noted, its names let go, then in the def's own air -/
theorem comp_air {ce : Env} (hs : X.stack = X.env :: X.outer) (hf : X.env.frame = some X.env.locals) (tk : Takes X (fun cls d _ H => E cls d H)) (I : Inv X pins σ H s) (fC : FpOk X pins H C) (hn : s.heap.Ns C m) (hL : ce.frame = X.env.frame) (hC : ce.locals = C) {u : Value}
    (c : CX X.prog X.w X.stack H s E u s') : notedBy (model X.prog X.w) X.A ce (CompFails (model X.prog X.w) X.A X.xe ce) u s' := by
  obtain ⟨a, B, H', cls, d, rfl, fl, hok, ub, na, os, ag, hE⟩ := c
  obtain ⟨f0, f1, f2, f3, f4, f5⟩ := id fC
  have fr : X.A.frames = some (X.env :: X.outer) := by rw [I.ok.frames, hs]
  have nfr : C ∉ frs X.stack := fun hm => by
    rw [hs] at hm
    unfold frs at hm
    rw [List.filterMap_cons, hf] at hm
    rcases List.mem_cons.mp hm with z | z
    · exact f1 z
    · exact f2 z
  obtain ⟨oC, es, ep, hoC, hdC, hkC, hfC⟩ := id hn
  have bC : B.get? C = some oC := ub.keep C oC hoC f0 nfr
  show wpAny (model X.prog X.w) X.A (noteFrame (.ref a) ce) (fun _ s2 => CompFails (model X.prog X.w) X.A X.xe ce (.ref a) s2) _ s'
  rw [note_frame hL]
  have fl' := fl
  rw [hs] at fl'
  refine HandSPX.looks_onZ Zc.steady fr hf fl' fun h1 hh up1 => ?_
  obtain ⟨st1, bn1, ff1, oe, vs, T, oT, ts, he, hz, hd, hv1, hBT, hTa, hT, hdT, h3⟩ := id hh
  have h1C : h1.get? C = some oC := st1 C oC bC
  have aC : a ≠ C := fun z => by
    rw [z, bC] at bn1
    cases bn1
  have TC : T ≠ C := fun z => by
    rw [z, bC] at hBT
    cases hBT
  subst hC
  refine ⟨m, ⟨oC, es, ep, h1C, hdC, hkC, hfC⟩, fun h2 m2 hn2 sb => ?_⟩
  obtain ⟨B2, b1, b2⟩ := restrict h2 fun b => (B.get? b).isSome
  have sameB : ∀ b o, b ≠ ce.locals → B.get? b = some o → B2.get? b = some o := fun b o ne e => by
    rw [b1 b (by simp [e]), sb.2 b ne]
    exact st1 b o e
  have noneB : ∀ b, B.get? b = none → B2.get? b = none := fun b e => b2 b (by simp [e])
  have ofB : ∀ b o, B2.get? b = some o → h2.get? b = some o := fun b o e => by
    cases q : (B.get? b).isSome with
    | false =>
      rw [b2 b q] at e
      cases e
    | true =>
      rw [b1 b q] at e
      exact e
  have e2a : h2.get? a = some oe := (sb.2 a aC).trans he
  have e2T : h2.get? T = some oT := (sb.2 T TC).trans hT
  have held2 : HandSPX.HeldZ B2 (X.env :: X.outer) a (Zc cls d) X.env.locals h2 := by
    refine ⟨ofB, noneB a bn1, ?_, oe, vs, T, oT, ts, e2a, hz, hd, hv1, noneB T hBT, hTa, e2T, hdT, h3⟩
    exact funFrames_none (Heap.FunFrames.sameBut sb hn2 ff1) fun L hL => noneB L (Heap.FunFrames.mem ff1 hL).1
  unfold PySem.passOn
  refine wpAny_bind (wpAny_field e2a hd hv1 ?_)
  rw [if_neg (show ¬ ((Value.ref T == Value.none) = true) from by simp)]
  have fin : wpAny (model X.prog X.w) X.A (setFlight (.ref a) ce.frame) (fun _ s4 => wpAny (model X.prog X.w) X.A (throw (.ref a) : Sem Value) (fun _ _ => False) X.xe s4) X.xe { s' with heap := h2 } := by
    rw [hL, hf]
    refine HandSPX.setFlight_onZ held2 fun h4 held4 up4 => wpAny_throw (tk _ _ ?_)
    have ff := I.ok.frames
    refine XE_past (C := ce.locals) (B2 := B2) I fC (by rw [hs]; exact held4) (fun b u e => ?_) (fun b o e n hb hc => sameB b o hc (ub.keep b o e n hb)) (fun b o e hb => ?_) ub.free (fun b o e hb hc => ?_) ub.tups ub.frzs ub.tbls na os ag hE
    · have bne : b ≠ ce.locals := fun z => by
        have := ub.free _ _ hoC f0
        rw [z, this] at e
        cases e
      refine (hok b u e).stay (fun c v hc q => sameB c v (fun z => ?_) q) (fun _ q => q) fun _ _ q => q
      have hCn := ub.free _ _ hoC f0
      rcases hc with hc | hc
      · exact bne (hc.symm.trans z)
      · rw [z, hCn] at hc
        cases hc
    · obtain ⟨sl, q⟩ := ub.slot b o e hb
      have hb' := hb
      rw [hs] at hb'
      obtain ⟨_, o', e', hnf⟩ := Heap.FunFrames.mem fl'.2.2.1 hb'
      have eo : o' = { o with slots := sl } := Option.some.inj (e'.symm.trans q)
      subst eo
      obtain ⟨sl1, q1⟩ := up1 b _ q hnf
      have q2 : h2.get? b = _ := (sb.2 b (fun z => nfr (z ▸ hb))).trans q1
      obtain ⟨sl2, q3⟩ := up4 b _ q2 hnf
      exact ⟨sl2, q3⟩
    · obtain ⟨o', q⟩ := ub.there b o e hb
      exact ⟨o', sameB b o' hc q⟩
  first
    | exact wpAny_bind (wpAny_pure (wpAny_bind fin))
    | exact wpAny_bind fin
/-- what a call within a block lets out -/
def blkAir (Y : Cx) (E : XK) (u : Value) (s' : Shared) : Prop := ∃ pn σ H s, Inv (Y.tr pn fun _ _ => False) [] σ H s ∧ CX Y.prog Y.w Y.stack H s E u s'
/-- a call within a block, of a def that may raise -/
theorem pe_xB {Y : Cx} {pn : List (Addr × Obj)} {x : Str} {p pos : Pos} {e : Expr} {es : List Expr} {t : TA} {k j : Nat} {sp : Sp} (c : CalX Y.prog Y.w Y.K Y.mg Y.base k x sp) (hr : Room j Y.A) (hk : k ≤ j) (hg : Gl (Y.tr pn (blkAir Y E)) x) (ha : PA (Y.tr pn (blkAir Y E)) (e :: es) t)
    (hdb : (x == ("__debug__" : Str)) = false := by decide) (he : starEach (e :: es) Y.env = (false, eval e Y.env) :: starEach es Y.env := by rfl) (hpl : (backTo pos (starEach es Y.env)).any (·.1) = false := by rfl) :
    PE (Y.tr pn (blkAir Y E)) (.Call (.Name x p) (e :: es) [] pos) (tCall sp [] E t) := by
  obtain ⟨f, fd, ps, F, hm, kp, b⟩ := c.ex
  exact pe_call (X := Y.tr pn (blkAir Y E)) F (hr.mono hk) hg hm kp b .nil (fun pins σ H s e s' I c => ⟨_, σ, H, s, I.toTry _, c⟩) ha hdb he hpl
theorem pe_lcE {elt tg iter : Expr} {ifs : List Expr} {scope : Scope} {own : List (Str × Nat)} {pos : Pos} {wi : TI} {g : TG} {tt : TT} {te : TE} (st0 : X.stack = X.env :: X.outer) (hf : X.env.frame = some X.env.locals) (tk : Takes X (fun cls d _ H => E cls d H)) (hc : X.calm = true) (hN : X.N.Nodup)
    (hi : PI X tg iter wi) (ok : BlkOk X.N X.env.scope scope own)
    (hg : ∀ (s : Shared) (H : Hp) (C : Addr) (cl : List (Str × Addr)) (fp : List Addr), PG (X.blk s H scope (compEnvC scope cl C X.env) fp) tg g)
    (ht : ∀ (s : Shared) (H : Hp) (C : Addr) (cl : List (Str × Addr)) (fp : List Addr), PTs (X.blk s H scope (compEnvC scope cl C X.env) fp) ifs tt)
    (he : ∀ (s : Shared) (H : Hp) (C : Addr) (cl : List (Str × Addr)) (fp : List Addr) (pn : List (Addr × Obj)), PE ((X.blk s H scope (compEnvC scope cl C X.env) fp).tr pn (blkAir (X.blk s H scope (compEnvC scope cl C X.env) fp) E)) elt te) (hs : ∀ x, foldedSetIterable iter X.env x = pure x := by intro _; rfl) :
    PE X (.ListComp elt [⟨tg, iter, ifs, 0⟩] scope pos) (tLc wi g tt te (own.map (·.2))) := by
  refine ⟨fun pins s σ H Q I h => ?_⟩
  rw [eval_ListComp]
  have cells : ∀ y ∈ scope.names, y.2 = .free → ∃ c, X.env.cells.lookup y.1 = some c := fun y hy e => (ok.free y hy e).elim (fun q => I.ok.has _ (.inl q)) (fun q => I.ok.has _ (.inr q))
  refine comprehension_at (use := none) rfl hs (closure_ok cells) ok.kind (fun y hy e => by rw [ok.uniq y hy, e]) ?_
  refine thn (hi.run pins s σ H _ I h) fun xv s1 hx => thn hx fun itv s2 h2 => ?_
  obtain ⟨it, fp, tn, J, Ha, ev, Ia, T, sta, fa, q⟩ := h2
  subst ev
  refine wpAny_newObj_type (newEnv_comp ?_) (by show 0 ≤ sizeLine; decide)
  generalize hD : s2.heap.objs.size = D
  have nD : Ha D = none := Ia.hok.fresh (Nat.le_of_eq hD)
  obtain ⟨W, ⟨m0, w0⟩, turn⟩ := q D nD
  generalize hsb : ({ s2 with heap := s2.heap.push { cls := .type "list", data := .seq ([] : List Value).toArray } } : Shared) = sb
  have heb : sb.heap = s2.heap.push { cls := .type "list", data := .seq ([] : List Value).toArray } := by rw [← hsb]
  have Ib : Inv X pins σ (upd Ha D (.lst [])) sb := by
    rw [← hsb]
    refine Ia.laid (t' := s2.toks) (fun b o e => Heap.get?_push_of_some _ e) (Nat.le_of_eq hD) ⟨Nat.zero_le _, [], 0, .nil, ?_⟩
    rw [← hD]
    exact Heap.get?_push_size _ rfl
  have lt2 : ∀ b ∈ fp, b < s2.heap.objs.size := fun b hb => by
    obtain ⟨o, e, _⟩ := T.obj _ _ sta b hb
    exact Heap.lt_size e
  have fb : ∀ b ∈ fp, FpOk X pins (upd Ha D (.lst [])) b ∧ b < sb.heap.objs.size := fun b hb => by
    have l2 := lt2 b hb
    have ne : b ≠ D := by
      rw [← hD]
      exact Nat.ne_of_lt l2
    obtain ⟨z0, z⟩ := fa b hb
    refine ⟨⟨by rw [upd_ne ne]; exact z0, z⟩, ?_⟩
    rw [heb, Heap.size_push]
    exact Nat.lt_succ_of_lt l2
  have stb : tn 0 sb.heap := T.keep _ _ _ sta fun b _ o e => by
    rw [heb]
    exact Heap.get?_push_of_some _ e
  have Ic := block_start Ib ok hN fb
  have pg := hg sb (upd Ha D (.lst [])) sb.heap.objs.size (cellsFrom (sb.heap.objs.size + 1) scope.names (cloFrom X.env.cells scope.names [])) fp
  have pt := ht sb (upd Ha D (.lst [])) sb.heap.objs.size (cellsFrom (sb.heap.objs.size + 1) scope.names (cloFrom X.env.cells scope.names [])) fp
  have pe := he sb (upd Ha D (.lst [])) sb.heap.objs.size (cellsFrom (sb.heap.objs.size + 1) scope.names (cloFrom X.env.cells scope.names [])) fp
  show codeAny _ _ (.compStart (.ListComp elt [⟨tg, iter, ifs, 0⟩] scope pos) 0 (.ref it) (.ref D) (compEnvC scope (cellsFrom (sb.heap.objs.size + 1) scope.names (cloFrom X.env.cells scope.names [])) sb.heap.objs.size X.env))
    (compEnds (model X.prog X.w) X.A X.xe none _ (.ref D) (compEnvC scope (cellsFrom (sb.heap.objs.size + 1) scope.names (cloFrom X.env.cells scope.names [])) sb.heap.objs.size X.env)) { sb with heap := pushCells (sb.heap.push { cls := .type "dict", data := .dict #[] }) scope.names }
  have nfp : ∀ b ∈ fp, (upd Ha D (.lst [])) b = none := fun b hb => (fb b hb).1.1
  have eL : (compEnvC scope (cellsFrom (sb.heap.objs.size + 1) scope.names (cloFrom X.env.cells scope.names [])) sb.heap.objs.size X.env).locals = sb.heap.objs.size := rfl
  have eF : (compEnvC scope (cellsFrom (sb.heap.objs.size + 1) scope.names (cloFrom X.env.cells scope.names [])) sb.heap.objs.size X.env).frame = X.env.frame := rfl
  generalize hce : compEnvC scope (cellsFrom (sb.heap.objs.size + 1) scope.names (cloFrom X.env.cells scope.names [])) sb.heap.objs.size X.env = ce at Ic pg pt pe eL eF ⊢
  generalize hHb : upd Ha D (.lst []) = Hb at Ib Ic pg pt pe w0 nfp fb
  generalize hsc : ({ sb with heap := pushCells (sb.heap.push { cls := .type "dict", data := .dict #[] }) scope.names } : Shared) = sc at Ic ⊢
  have stc : tn 0 sc.heap := T.keep _ _ _ stb fun b _ o e => by
    rw [← hsc]
    exact pushCells_keeps _ _ _ _ (Heap.get?_push_of_some _ e)
  have stat : ∀ {σ' : L2.St} {H' : Hp} {s' : Shared}, Inv (X.blk sb Hb scope ce fp) [] σ' H' s' → (∀ b ∈ fp, H' b = none) → ∀ b ∈ fp, FpOk (X.blk sb Hb scope ce fp) [] H' b := fun {σ' H' s'} I' hn b hb =>
    ⟨hn b hb, (I'.ok.exf b hb).1, I'.ok.exfs b hb, .inl hb, fun x c e => (I'.ok.exf b hb).2 x c e, fun p hp => absurd (show p ∈ ([] : List (Addr × Obj)) ++ [] from hp) (by simp)⟩
  -- from the block back into the def's context
  have back : ∀ {H' : Hp} {s' : Shared}, s'.os = sb.os → Un (frs X.stack) fp Hb H' sb.heap s'.heap → HOk X.prog X.w H' s'.heap → AllBare s'.gens → Inv X pins σ H' s' := fun o u k g => Ib.call' (ch := fp) o u k g fun b hb => by
    obtain ⟨z0, z1, z2, z3, z4, z5⟩ := (fb b hb).1
    exact ⟨z3, z1, z4, z5⟩
  have loop : codeAny (model X.prog X.w) X.A (.compLoop (.ListComp elt [⟨tg, iter, ifs, 0⟩] scope pos) 0 (.ref it) (.ref D) ce) (compEnds (model X.prog X.w) X.A X.xe none (EP X pins σ Q) (.ref D) ce) sc := by
    refine compLoop_any (fun n s' => ∃ i H', Inv (X.blk sb Hb scope ce fp) [] (wipe σ (own.map (·.2))) H' s' ∧ tn i s'.heap ∧ (∀ b ∈ fp, H' b = none) ∧ W i n H') ?_ m0 ⟨0, Hb, Ic, stc, nfp, w0⟩
    rintro n s5 ⟨i, H5, I5, st5, n5, w5⟩
    rcases turn i n H5 w5 with ⟨stop, qq⟩ | ⟨go, Nx, hNx, step⟩
    · refine thnF (T.done (X.blk sb Hb scope ce fp) rfl rfl rfl hc i [] s5 _ H5 (fun _ _ => False) I5 (stat I5 n5) st5 stop) fun r s6 ⟨hr, I6⟩ => ?_
      subst hr
      have I7 : Inv X pins σ H5 s6 := back I6.os I6.base I6.hok I6.bare
      have z : H5 ce.locals = none := I6.free
      obtain ⟨m, hn, _⟩ := I6.loc
      have hn : s6.heap.Ns ce.locals m := hn
      have fC : FpOk X pins H5 ce.locals := Ib.fpOk (by rw [eL]; exact Nat.le_refl _) z
      refine ⟨m, hn, fun h' sbut => ?_⟩
      obtain ⟨z0, z1, z2, z3, z4, z5⟩ := fC
      exact ⟨.ref D, H5, I7.turned (t' := s6.toks) (fun b o hb e => (sbut.2 b hb).trans e) z0 z1 z3 z4 z5, rfl, qq⟩
    · refine thnF (T.item (X.blk sb Hb scope ce fp) rfl rfl rfl hc i [] s5 _ H5 (fun _ _ => False) I5 (stat I5 n5) st5 go) fun r s6 ⟨u, hr, h6⟩ => ?_
      subst hr
      refine thnF h6 fun _ s7 ⟨x, H7, I7, r7, y7, st7, n7⟩ => ?_
      have P7 := I7.pinned (stat I7 n7) (T.obj _ _ st7)
      refine thnF (pg.run _ s7 _ H7 x u _ P7 r7 (step x H7 y7)) fun _ s8 ⟨σ8, H8, I8, hw8, q8⟩ => ?_
      refine thnF (pt.run _ s8 σ8 H8 _ I8 q8) fun b s9 ⟨H9, I9, q9⟩ => ?_
      have fin : ∀ {s' : Shared} {H' : Hp}, Inv (X.blk sb Hb scope ce fp) ([] ++ pinsAt fp s7.heap) σ8 H' s' → Nx H' → ∃ m, m < n ∧ ∃ i H', Inv (X.blk sb Hb scope ce fp) [] (wipe σ (own.map (·.2))) H' s' ∧ tn i s'.heap ∧ (∀ b ∈ fp, H' b = none) ∧ W i m H' := fun {s' H'} I' nx => by
        obtain ⟨m', hm, w'⟩ := hNx H' nx
        have pin : ∀ b ∈ fp, ∀ o, s7.heap.get? b = some o → s'.heap.get? b = some o ∧ H' b = none := fun b hb o e => by
          have z := I'.pin (b, o) (List.mem_append_right _ (List.mem_append_right _ (mem_pinsAt hb e)))
          exact ⟨z.1, z.2.1⟩
        have hl : (wipe σ (own.map (·.2))).length = σ8.length := by rw [← hw8, wipe_length]
        have Iw := (I'.unpinned (pins := [])).weak hl fun j v e => by
          rw [← hw8] at e
          exact (wipe_some e).1
        refine ⟨m', hm, i + 1, H', Iw, T.keep _ _ _ st7 fun b hb o e => (pin b hb o e).1, fun b hb => ?_, w'⟩
        obtain ⟨o, e, _⟩ := T.obj _ _ st7 b hb
        exact (pin b hb o e).2
      cases b with
      | false =>
        simp only [Bool.false_eq_true, if_false] at q9 ⊢
        exact fin I9 q9
      | true =>
        simp only [if_true] at q9 ⊢
        have pe9 := (pe ((X.blk sb Hb scope ce fp).pn ++ ([] ++ pinsAt fp s7.heap))).run [] s9 σ8 H9 _ (I9.toTry _) q9
        refine wpAny_mono pe9 (fun z s10 h10 => ?_) fun er s10 h10 => ?_
        · obtain ⟨yv, H10, I10, r10, acc, hD10, hz10, nx⟩ := h10
          exact app_ok (X := X.blk sb Hb scope ce fp) (I10.ofTry I9.ok) hD10 hz10 r10 fun s11 I11 => fin I11 nx
        · obtain ⟨pn, σe, He, se, Ie, ce2⟩ := h10
          have Iv : Inv X pins σ He se := back Ie.os Ie.base Ie.hok Ie.bare
          have zl : He ce.locals = none := Ie.free
          obtain ⟨m, hn, _⟩ := Ie.loc
          have hn : se.heap.Ns ce.locals m := hn
          exact comp_air st0 hf tk Iv (Ib.fpOk (by rw [eL]; exact Nat.le_refl _) zl) hn eF rfl ce2
  exact codeAny_compStart_list loop (T.self X.A 0 _ _ _ stc loop)
end
end SF

set_option maxHeartbeats 8000000
namespace SF
open PySem PySem.Spec PyProof.Rows L2
open C8 (Cal pe_c)
local macro_rules | `(tactic| walk_at "g1") => `(tactic| first
  | with_reducible refine st_asg ?_ | with_reducible refine st_if ?_ | with_reducible refine st_ret ?_ | with_reducible refine st_op ?_ | with_reducible refine st_c ?_
  | with_reducible refine st_v0 ?_ | with_reducible refine st_v1 ?_ | with_reducible refine st_v2 ?_ | with_reducible refine st_v3 ?_ | with_reducible refine st_v4 ?_ | with_reducible refine st_v5 ?_ | with_reducible refine st_v6 ?_ | with_reducible refine st_v7 ?_
  | with_reducible refine st_v8 ?_ | with_reducible refine st_v9 ?_ | with_reducible refine st_v10 ?_ | with_reducible refine st_v11 ?_ | with_reducible refine st_v12 ?_ | with_reducible refine st_v13 ?_ | with_reducible refine st_v14 ?_
  | with_reducible refine st_g0 ?_ | with_reducible refine st_g1 ?_ | with_reducible refine st_g2 ?_ | with_reducible refine st_g3 ?_ | with_reducible refine st_g4 ?_ | with_reducible refine st_g5 ?_ | with_reducible refine st_g6 ?_ | with_reducible refine st_g7 ?_
  | with_reducible refine st_g8 ?_ | with_reducible refine st_g9 ?_ | with_reducible refine st_g10 ?_ | with_reducible refine st_g11 ?_ | with_reducible refine st_g12 ?_ | with_reducible refine st_g13 ?_ | with_reducible refine st_g14 ?_
  | with_reducible refine st_cb ?_ | with_reducible refine st_cons ?_ | with_reducible refine st_nil ?_ | with_reducible refine st_call ?_ | with_reducible refine st_test ?_ | with_reducible refine st_B ?_ | with_reducible refine st_bl ?_ | with_reducible refine st_in ?_
  | with_reducible refine st_not ?_ | with_reducible refine st_and ?_ | with_reducible refine st_or ?_ | with_reducible refine st_tru ?_ | with_reducible refine st_truI ?_ | with_reducible refine st_yes ?_
  | with_reducible refine st_andV ?_ | with_reducible refine st_orV ?_ | with_reducible refine st_notV ?_ | with_reducible refine st_un ?_ | with_reducible refine st_ckw ?_
  | with_reducible refine st_I0 ?_ | (with_reducible refine st_mod ?hj ?_; case hj => omega) | (with_reducible refine st_div ?hj ?_; case hj => omega) | (with_reducible refine st_mul ?hj ?_; case hj => omega) | (with_reducible refine st_shr ?hj ?_; case hj => omega) | (with_reducible refine st_shl ?hj ?_; case hj => omega)
  | (with_reducible refine st_pow ?hj ?_; case hj => first | omega | decide) | with_reducible refine st_neg ?_ | with_reducible refine st_inv ?_ | with_reducible refine st_eqI ?_ | with_reducible refine st_neI ?_ | with_reducible refine st_eqS ?_ | with_reducible refine st_neS ?_ | with_reducible refine st_neB ?_ | with_reducible refine st_isB ?_ | with_reducible refine st_notB ?_ | with_reducible refine st_isN ?_ | with_reducible refine st_notN ?_
  | with_reducible refine st_max2 ?_ | with_reducible refine st_intI ?_ | with_reducible refine st_intB ?_
  | with_reducible refine iteT ?_ | with_reducible refine st_nbT ?_ | with_reducible refine st_nbF ?_ | with_reducible refine iteF ?_ | (with_reducible refine st_yT ?hj ?_; case hj => first | omega | with_reducible rfl | exact Bool.false_ne_true | exact Bool.noConfusion) | (with_reducible refine st_yF ?hj ?_; case hj => first | omega | with_reducible rfl | exact Bool.false_ne_true | exact Bool.noConfusion) | (with_reducible refine st_nT ?hj ?_; case hj => first | omega | with_reducible rfl | exact Bool.false_ne_true | exact Bool.noConfusion) | (with_reducible refine st_nF ?hj ?_; case hj => first | omega | with_reducible rfl | exact Bool.false_ne_true | exact Bool.noConfusion)
  | with_reducible refine st_next ?_ | with_reducible refine st_drop ?_ | with_reducible refine st_bm ?_ | with_reducible refine st_tup ?_ | with_reducible refine st_lst ?_ | with_reducible refine st_sub ?_ | with_reducible refine st_gcons ?_ | with_reducible refine st_gnil ?_
  | with_reducible refine st_for ?_ | with_reducible refine st_lc ?_ | with_reducible refine st_i1 ?_ | with_reducible refine st_i2 ?_ | with_reducible refine st_i3 ?_ | with_reducible refine st_iT ?_ | with_reducible refine st_iL ?_ | with_reducible refine st_iS ?_
  | with_reducible refine st_sl ?_ | with_reducible refine st_nopart ?_ | with_reducible refine st_part ?_ | with_reducible refine st_m1 ?_ | with_reducible refine st_callS ?_ | with_reducible refine st_callF ?_ | with_reducible refine st_rev ?_ | with_reducible refine st_brk ?_ | with_reducible refine st_cont ?_)
local macro_rules | `(tactic| walk_at "go1") => `(tactic| first | with_reducible refine st_seq ?_ | walk_at "g1")
local macro_rules | `(tactic| walk_at "gt") => `(tactic| repeat walk_at "g1")
local macro_rules | `(tactic| walk_at "go") => `(tactic| repeat walk_at "go1")
local macro_rules | `(tactic| walk_at "sm") => `(tactic| first | assumption | exact Same.refl _ | (refine Same.trans (by assumption) ?_; walk_at "sm"))
local macro_rules | `(tactic| walk_at "tx") => `(tactic| first | assumption | exact Tx.refl _ | (refine Tx.trans (Tx.of (by assumption)) ?_; walk_at "tx") | (refine Tx.trans (bx_tx (by assumption)) ?_; walk_at "tx") | (refine Tx.trans (by assumption) ?_; walk_at "tx"))
/-! ### programs as data -/
abbrev Cmp := Nat × Nat
abbrev Prog := List Cmp
def dC (c : Cmp) : PyData := .tuple [.int c.1, .int c.2]
def dP (p : Prog) : PyData := .tuple (p.map dC)
def dL (ns : List Int) : PyData := .list (ns.map .int)
def cellAt (ns : List Int) (k : Nat) : Int := ns.getD k 0
def sp_law_cell_at (K : PySem.W.Frag) : Sp := fun vs H Q _ => ∃ v ns, ∃ k : Nat, vs = [v, .int k] ∧ Scr K H v ns ∧ Q (.int (cellAt ns k)) H
def t_law_cell_at (K : PySem.W.Frag) : TS := (tSeq (tIfS (tTest (tOp oLt (tVar 1) (tCB (cLen K) (tCons (tVar 0) tNil)))) (tRet (tOp (rIxL K) (tVar 0) (tVar 1))) tNext)
    (tRet (tC (.int 0))))
abbrev n_law_cell_at : List Str := ["_law_script", "_law_k"]
section
variable {K : PySem.W.Frag} {vs : List V} {H : Hp} {Q : VK} {E : XK}
theorem len_law_cell_at (h : sp_law_cell_at K vs H Q E) : vs.length = 2 := by
  obtain ⟨v, ns, k, rfl, _⟩ := h
  rfl
theorem rd_law_cell_at (h : sp_law_cell_at K vs H Q E) : t_law_cell_at K { nx := fun _ H' => Q .non H', rt := Q } (start n_law_cell_at vs) H := by
  obtain ⟨v, ns, k, rfl, hs, q⟩ := h
  obtain ⟨a, rfl, _⟩ := id hs
  show t_law_cell_at K ⟨_, _, _, _⟩ [some (.ref a), some (.int k)] H
  unfold t_law_cell_at
  walk_at "go"
  refine st_lenL hs.seq ?_
  walk_at "go"
  rw [List.length_map]
  refine st_y2 (fun h => ?_) (fun h => ?_)
  · walk_at "go"
    have hk : k < ns.length := by omega
    refine st_ixL k hs.seq rfl (by rw [List.getElem?_map, List.getElem?_eq_getElem hk]; rfl) ?_
    have e : cellAt ns k = ns[k] := by simp [cellAt, List.getD, List.getElem?_eq_getElem hk]
    rw [e] at q
    exact q
  · walk_at "go"
    have e : cellAt ns k = 0 := by
      have hk : ns.length ≤ k := by omega
      simp [cellAt, List.getD, List.getElem?_eq_none hk]
    rw [e] at q
    exact q
end
/-- what a script's cell is mixed to -/
def mixed (ns : List Int) (k : Nat) : Nat :=
  let m := ((ns.getD (k % ns.length) 0 + 7919 * (k : Int)) * 48271 % 2147483647).toNat
  m * m % 2147483647
theorem mixed_lt (ns : List Int) (k : Nat) : mixed ns k < 2147483647 := Nat.mod_lt _ (by decide)
def sp_law_mixed (K : PySem.W.Frag) : Sp := fun vs H Q _ => ∃ v ns, ∃ k : Nat, vs = [v, .int k] ∧ Scr K H v ns ∧ Q (.int (mixed ns k)) H
def t_law_mixed (K : PySem.W.Frag) : TS := (tSeq (tAsg (tC (.int 0)) (gName 2))
    (tSeq (tIfS (tTest (tOp oGt (tCB (cLen K) (tCons (tVar 0) tNil)) (tC (.int 0)))) (tAsg (tOp (rIxL K) (tVar 0) (tOp oMod (tVar 1) (tCB (cLen K) (tCons (tVar 0) tNil)))) (gName 2)) tNext)
    (tSeq (tAsg (tOp oMod (tOp oMul (tOp oAdd (tVar 2) (tOp oMul (tC (.int 7919)) (tVar 1))) (tC (.int 48271))) (tC (.int 2147483647))) (gName 3))
    (tRet (tOp oMod (tOp oMul (tVar 3) (tVar 3)) (tC (.int 2147483647)))))))
abbrev n_law_mixed : List Str := ["_law_script", "_law_k", "_law_cell", "_law_number_here"]
section
variable {K : PySem.W.Frag} {vs : List V} {H : Hp} {Q : VK} {E : XK}
theorem len_law_mixed (h : sp_law_mixed K vs H Q E) : vs.length = 2 := by
  obtain ⟨v, ns, k, rfl, _⟩ := h
  rfl
theorem rd_law_mixed (h : sp_law_mixed K vs H Q E) : t_law_mixed K { nx := fun _ H' => Q .non H', rt := Q } (start n_law_mixed vs) H := by
  obtain ⟨v, ns, k, rfl, hs, q⟩ := h
  obtain ⟨a, rfl, _⟩ := id hs
  show t_law_mixed K ⟨_, _, _, _⟩ [some (.ref a), some (.int k), none, none] H
  unfold t_law_mixed
  walk_at "go"
  refine st_lenL hs.seq ?_
  walk_at "go"
  rw [List.length_map]
  have fin : ∀ cell : Int, cell = ns.getD (k % ns.length) 0 → (tSeq (tAsg (tOp oMod (tOp oMul (tOp oAdd (tVar 2) (tOp oMul (tC (.int 7919)) (tVar 1))) (tC (.int 48271))) (tC (.int 2147483647))) (gName 3)) (tRet (tOp oMod (tOp oMul (tVar 3) (tVar 3)) (tC (.int 2147483647)))))
      ⟨fun _ H' => Q .non H', Q, fun _ _ => False, fun _ _ => False⟩ [some (.ref a), some (.int k), some (.int cell), none] H := fun cell ec => by
    walk_at "go"
    have h0 : 0 ≤ (cell + 7919 * (k : Int)) * 48271 % 2147483647 := Int.emod_nonneg _ (by decide)
    have h1 : (cell + 7919 * (k : Int)) * 48271 % 2147483647 < 2147483647 := Int.emod_lt_of_pos _ (by decide)
    walk_at "go"
    have e : ((mixed ns k : Nat) : Int) = (cell + 7919 * (k : Int)) * 48271 % 2147483647 * ((cell + 7919 * (k : Int)) * 48271 % 2147483647) % 2147483647 := by
      unfold mixed
      rw [← ec]
      generalize (cell + 7919 * (k : Int)) * 48271 % 2147483647 = z at h0 h1
      obtain ⟨w, rfl⟩ := Int.eq_ofNat_of_zero_le h0
      simp
    rw [e] at q
    exact q
  refine st_y2 (fun h => ?_) (fun h => ?_)
  · walk_at "go"
    refine st_lenL hs.seq ?_
    rw [List.length_map]
    walk_at "go"
    have hk : k % ns.length < ns.length := Nat.mod_lt _ (by omega)
    refine st_ixL (k % ns.length) hs.seq (by simp) (by rw [List.getElem?_map, List.getElem?_eq_getElem hk]; rfl) ?_
    refine st_g2 ?_
    exact fin _ (by simp [List.getD, List.getElem?_eq_getElem hk])
  · refine st_next ?_
    refine fin _ ?_
    have e0 : ns = [] := List.eq_nil_of_length_eq_zero (by omega)
    subst e0
    rfl
end
theorem scr_of {K : PySem.W.Frag} {H : Hp} {a : Addr} {ns : List Int} (hO : Only H) (h : SqL K H a (ns.map V.int)) : Scr K H (.ref a) ns := by
  refine ⟨a, rfl, ?_⟩
  rcases h with (h | ⟨o, h⟩) | h
  · rcases hO a with z | ⟨o, xs, z⟩
    · exact nomatch (z.symm.trans h)
    · exact nomatch (z.symm.trans h)
  · exact .inl ⟨o, h⟩
  · exact .inr (.inr h)
/-! ### == of data -/
def Sh (n : Nat) (d : PyData) : Prop := d.canLay0 = true ∧ d.depth ≤ n
theorem Sh.mono {m n : Nat} {d : PyData} (h : Sh m d) (e : m ≤ n) : Sh n d := ⟨h.1, Nat.le_trans h.2 e⟩
theorem Sh.shaped {n : Nat} {d : PyData} (h : Sh n d) (e : n ≤ 64) : SeqAt.shaped d = true := by
  unfold SeqAt.shaped
  rw [h.1, decide_eq_true (Nat.le_trans h.2 e)]
  rfl
theorem sh_int {n : Nat} (i : Int) : Sh n (.int i) := ⟨by simp [PyData.canLay0], by simp [PyData.depth]⟩
theorem sh_non {n : Nat} : Sh n .none := ⟨by simp [PyData.canLay0], by simp [PyData.depth]⟩
theorem sh_bl {n : Nat} (b : Bool) : Sh n (.bool b) := ⟨by simp [PyData.canLay0], by simp [PyData.depth]⟩
theorem sh_all {n : Nat} : ∀ {ds : List PyData}, (∀ d ∈ ds, Sh n d) → PyData.canLayAll0 ds = true ∧ PyData.depthAll ds ≤ n
  | [], _ => ⟨by simp [PyData.canLayAll0], by simp [PyData.depthAll]⟩
  | d :: ds, h => by
    obtain ⟨a, b⟩ := sh_all fun x hx => h x (List.mem_cons_of_mem _ hx)
    obtain ⟨c, e⟩ := h d List.mem_cons_self
    constructor
    · rw [PyData.canLayAll0, a, c]
      rfl
    · rw [PyData.depthAll]
      omega
theorem sh_tup {n : Nat} {ds : List PyData} (h : ∀ d ∈ ds, Sh n d) : Sh (n + 1) (.tuple ds) := by
  obtain ⟨a, b⟩ := sh_all h
  exact ⟨by rw [PyData.canLay0]; exact a, by rw [PyData.depth]; omega⟩
theorem sh_list {n : Nat} {ds : List PyData} (h : ∀ d ∈ ds, Sh n d) : Sh (n + 1) (.list ds) := by
  obtain ⟨a, b⟩ := sh_all h
  exact ⟨by rw [PyData.canLay0]; exact a, by rw [PyData.depth]; omega⟩
theorem sh_map {n : Nat} {α : Type} {f : α → PyData} {l : List α} (h : ∀ a ∈ l, Sh n (f a)) : ∀ d ∈ l.map f, Sh n d := fun d hd => by
  obtain ⟨a, ha, rfl⟩ := List.mem_map.mp hd
  exact h a ha
theorem sh_dC {n : Nat} (c : Cmp) : Sh (n + 1) (dC c) := sh_tup fun d hd => by
  simp only [List.mem_cons, List.not_mem_nil, or_false] at hd
  rcases hd with rfl | rfl <;> exact sh_int _
theorem sh_dP (p : Prog) : Sh 2 (dP p) := sh_tup (sh_map fun c _ => sh_dC c)
theorem sh_ints (ns : List Int) : ∀ d ∈ ns.map PyData.int, Sh 0 d := sh_map fun i _ => sh_int i
theorem eqv_self {n : Nat} {d : PyData} (h : Sh n d) : PyData.eqv d d = true := SeqAt.eqv_refl d h.1
theorem eqvAll_map {α : Type} [DecidableEq α] {f : α → PyData} (h : ∀ a b, PyData.eqv (f a) (f b) = decide (a = b)) : ∀ l m : List α, PyData.eqvAll (l.map f) (m.map f) = decide (l = m)
  | [], [] => by simp [PyData.eqvAll]
  | [], b :: m => by simp [PyData.eqvAll]
  | a :: l, [] => by simp [PyData.eqvAll]
  | a :: l, b :: m => by
    show PyData.eqvAll (f a :: l.map f) (f b :: m.map f) = _
    rw [PyData.eqvAll, h, eqvAll_map h l m]
    by_cases e : a = b
    · subst e
      by_cases q : l = m
      · subst q
        simp
      · simp [q]
    · simp [e]
theorem eqv_int (a b : Int) : PyData.eqv (.int a) (.int b) = decide (a = b) := by
  rw [PyData.eqv]
  by_cases e : a = b <;> simp [e]
theorem eqv_dC (a b : Cmp) : PyData.eqv (dC a) (dC b) = decide (a = b) := by
  obtain ⟨a1, a2⟩ := a
  obtain ⟨b1, b2⟩ := b
  show PyData.eqv (.tuple [.int a1, .int a2]) (.tuple [.int b1, .int b2]) = _
  rw [PyData.eqv, PyData.eqvAll, PyData.eqvAll, PyData.eqvAll, eqv_int, eqv_int]
  by_cases e : a1 = b1 <;> by_cases q : a2 = b2 <;> simp [e, q] <;> omega
theorem eqv_dP (p q : Prog) : PyData.eqv (dP p) (dP q) = decide (p = q) := by
  show PyData.eqv (.tuple (p.map dC)) (.tuple (q.map dC)) = _
  rw [PyData.eqv]
  exact eqvAll_map eqv_dC p q
/-! ### the suite's looks at what was caught -/
theorem st_isE {K : PySem.W.Frag} {mg : Str → Option Value} {x : Str} {D C a : Addr} {b : Bool} {H : Hp} {Q : VK} (X : ExcK K mg x C) (sd : PySem.W.subIn K (.ref D) (.ref D) = some true) (s : subRef K D C b) (q : Q (.bl b) H) : rIsE K D a [.ref a, .ref C] H Q := ⟨.ref C, .ref C, b, rfl, fun _ r => r, kit_ref X sd s, q⟩
theorem st_isE0 {K : PySem.W.Frag} {D a : Addr} {H : Hp} {Q : VK} (X : PySem.W.keepIn K (.ref D) = true) (sd : PySem.W.subIn K (.ref D) (.ref D) = some true) (q : Q (.bl true) H) : rIsE K D a [.ref a, .ref D] H Q := ⟨.ref D, .ref D, true, rfl, fun _ r => r, by
  unfold PySem.W.kitOne
  rw [if_pos (by simp)], q⟩
theorem st_isEv {K : PySem.W.Frag} {D a : Addr} {H : Hp} {Q : VK} (s : PySem.W.subIn K (.ref D) (.type "ValueError") = some true) (q : Q (.bl true) H) : rIsE K D a [.ref a, .ty "ValueError"] H Q := ⟨.ty "ValueError", .type "ValueError", true, rfl, fun _ r => r, kit_val s, q⟩
/-- what a raise of the class is answered by within try .. except F -/
theorem st_as {K : PySem.W.Frag} {C F : Addr} {i : Nat} {ts : Addr → TS} {Wo : WX} {D : Ends} {σ : L2.St} {H : Hp} (ck : CaughtK K C F) (h : ∀ a, H a = none → ts a { nx := fun σ' H' => D.nx (σ'.set i none) H', rt := D.rt, bk := fun σ' H' => D.bk (σ'.set i none) H', ct := fun σ' H' => D.ct (σ'.set i none) H' } (σ.set i (some (.ref a))) H) :
    wAs K (.ref F) i (fun a cls d => tWhen (cls = .ref C ∧ d = none) (ts a)) Wo D (.ref C) none σ H := ⟨true, ck.ex, fun _ a ha => ⟨⟨rfl, rfl⟩, h a ha⟩, fun e => nomatch e⟩
/-! ### texts of programs: what a word tells -/
/-- one to three figures, no nought ahead -/
def numOK (l : List Nat) : Prop := 1 ≤ l.length ∧ l.length ≤ 3 ∧ ¬ (1 < l.length ∧ l[0]? = some 48) ∧ ∀ c ∈ l, 48 ≤ c ∧ c ≤ 57
instance (l : List Nat) : Decidable (numOK l) := by
  unfold numOK
  infer_instance
def numW (w : Str) : Option Nat := if numOK (TL.tl w) then some (NumText.digitsVal (TL.tl w)) else none
theorem numW_yes {w : Str} (h : numOK (TL.tl w)) : numW w = some (NumText.digitsVal (TL.tl w)) := if_pos h
theorem numW_no {w : Str} (h : ¬ numOK (TL.tl w)) : numW w = none := if_neg h
theorem numOK_int {w : Str} (h : numOK (TL.tl w)) : PySem.intText? w = some ((NumText.digitsVal (TL.tl w) : Nat) : Int) := by
  obtain ⟨h1, h2, _, h4⟩ := h
  have e := TL.len_tl w
  refine PySem.intText_digits h4 (fun z => ?_) (by omega)
  have z' : TL.tl w = [] := z
  rw [z'] at h1
  exact absurd h1 (by decide)
/-- a number's text -/
def numT (n : Nat) : Str := Str.ofString (toString ((n : Nat) : Int))
theorem numT_len {n : Nat} (h : n < 1000) : (numT n).length ≤ 3 := PyProof.Rows.toString_length_le (by omega) (by decide) (by omega)
theorem numT_small {n k : Nat} (hk : 0 < k) (h : n < 10 ^ k) : (numT n).length ≤ k := by
  refine PyProof.Rows.toString_length_le (by omega) hk ?_
  have e : ((10 : Int) ^ k) = (((10 : Nat) ^ k : Nat) : Int) := by simp
  rw [e]
  omega
theorem numT_free (n k : Nat) (hk : k ≠ 45 ∧ (k < 48 ∨ 57 < k)) : k ∉ TL.tl (numT n) := PyProof.Rows.int_text_free' k hk n
theorem numT_tl {n : Nat} (h : n < 1000) : (n < 10 ∧ TL.tl (numT n) = [48 + n]) ∨ (10 ≤ n ∧ n < 100 ∧ TL.tl (numT n) = [48 + n / 10, 48 + n % 10]) ∨ (100 ≤ n ∧ TL.tl (numT n) = [48 + n / 10 / 10, 48 + n / 10 % 10, 48 + n % 10]) := by
  have e := TL.tl_num n
  by_cases h1 : n < 10
  · rw [TL.numL_lt h1] at e
    exact .inl ⟨h1, e⟩
  · rw [TL.numL_step (by omega)] at e
    by_cases h2 : n < 100
    · rw [TL.numL_lt (by omega)] at e
      exact .inr (.inl ⟨by omega, h2, e⟩)
    · rw [TL.numL_step (by omega), TL.numL_lt (by omega)] at e
      exact .inr (.inr ⟨by omega, e⟩)
theorem numW_num {n : Nat} (h : n < 1000) : numW (numT n) = some n := by
  rcases numT_tl h with ⟨h1, e⟩ | ⟨h1, h2, e⟩ | ⟨h1, e⟩
  · have ok : numOK (TL.tl (numT n)) := by
      rw [e]
      refine ⟨by simp, by simp, by simp, fun c hc => ?_⟩
      simp only [List.mem_cons, List.not_mem_nil, or_false] at hc
      omega
    rw [numW_yes ok, e]
    show some (0 * 10 + (48 + n - 48)) = some n
    congr 1
    omega
  · have ok : numOK (TL.tl (numT n)) := by
      rw [e]
      refine ⟨by simp, by simp, fun q => ?_, fun c hc => ?_⟩
      · have q2 := q.2
        simp only [List.getElem?_cons_zero, Option.some.injEq] at q2
        omega
      · simp only [List.mem_cons, List.not_mem_nil, or_false] at hc
        omega
    rw [numW_yes ok, e]
    show some ((0 * 10 + (48 + n / 10 - 48)) * 10 + (48 + n % 10 - 48)) = some n
    congr 1
    omega
  · have ok : numOK (TL.tl (numT n)) := by
      rw [e]
      refine ⟨by simp, by simp, fun q => ?_, fun c hc => ?_⟩
      · have q2 := q.2
        simp only [List.getElem?_cons_zero, Option.some.injEq] at q2
        omega
      · simp only [List.mem_cons, List.not_mem_nil, or_false] at hc
        omega
    rw [numW_yes ok, e]
    show some (((0 * 10 + (48 + n / 10 / 10 - 48)) * 10 + (48 + n / 10 % 10 - 48)) * 10 + (48 + n % 10 - 48)) = some n
    congr 1
    omega
/-- the two numbers of a word's parts -/
def pairW (a b : Str) : Option Cmp := match numW a, numW b with
  | some i, some j => if i < j then some (i, j) else none
  | _, _ => none
/-- the compare that a word tells -/
def wordW (w : Str) : Option Cmp := match Txt.split w ":" with
  | [a, b] => pairW a b
  | _ => none
theorem wordW_two {w a b : Str} (h : Txt.split w ":" = [a, b]) : wordW w = pairW a b := by
  unfold wordW
  rw [h]
theorem wordW_not {w : Str} (h : (Txt.split w ":").length ≠ 2) : wordW w = none := by
  unfold wordW
  split
  · rename_i a b e
    rw [e] at h
    exact absurd rfl h
  · rfl
theorem split_two {w : Str} (h : (Txt.split w ":").length = 2) : ∃ a b, Txt.split w ":" = [a, b] := by
  generalize Txt.split w ":" = l at h
  match l, h with
  | [a, b], _ => exact ⟨a, b, rfl⟩
theorem pairW_l {a b : Str} (h : numW a = none) : pairW a b = none := by
  unfold pairW
  rw [h]
theorem pairW_r {a b : Str} (h : numW b = none) : pairW a b = none := by
  unfold pairW
  rw [h]
  cases numW a <;> rfl
theorem pairW_lr {a b : Str} {i j : Nat} (h : numW a = some i) (h2 : numW b = some j) : pairW a b = if i < j then some (i, j) else none := by
  unfold pairW
  rw [h, h2]
/-- a compare's text -/
def cT (c : Cmp) : Str := numT c.1 ++ ":" ++ numT c.2
theorem cT_free {c : Cmp} {k : Nat} (hk : k ≠ 45 ∧ (k < 48 ∨ 57 < k)) (h58 : k ≠ 58) : k ∉ TL.tl (cT c) := by
  unfold cT
  rw [TL.tl_append, TL.tl_append, List.mem_append, List.mem_append]
  have e : TL.tl (":" : Str) = [58] := by decide +kernel
  rintro ((h | h) | h)
  · exact numT_free _ _ hk h
  · rw [e] at h
    exact h58 (by simpa using h)
  · exact numT_free _ _ hk h
theorem cT_len {c : Cmp} (h1 : c.1 < 1000) (h2 : c.2 < 1000) : (cT c).length ≤ 7 := by
  unfold cT
  rw [Str.length_append, Str.length_append]
  have a := numT_len h1
  have b := numT_len h2
  have e : (":" : Str).length = 1 := by decide +kernel
  omega
theorem kind_colon : (":" : Str).cps.all (· < 256) = true := by decide +kernel
theorem kind_blank : (" " : Str).cps.all (· < 256) = true := by decide +kernel
theorem split_cT (c : Cmp) : Txt.split (cT c) ":" = [numT c.1, numT c.2] := by
  have e : cT c = Txt.join ":" [numT c.1, numT c.2] := by
    rw [TL.join_eq]
    rfl
  rw [e]
  refine TL.split_join (s := 58) (S := []) (by decide +kernel) kind_colon (by simp) fun p hp => ?_
  simp only [List.mem_cons, List.not_mem_nil, or_false] at hp
  rcases hp with rfl | rfl <;> exact numT_free _ _ (by decide)
theorem word_cT {c : Cmp} (h : c.1 < c.2) (h2 : c.2 < 1000) : wordW (cT c) = some c := by
  rw [wordW_two (split_cT c), pairW_lr (numW_num (by omega)) (numW_num h2), if_pos h]
/-- the words of a text -/
def readL : List Str → Option Prog
  | [] => some []
  | w :: ws => match wordW w with
    | none => none
    | some c => (readL ws).map (c :: ·)
theorem readL_ok : ∀ {ws : List Str} {ps : Prog}, ws.map wordW = ps.map some → readL ws = some ps
  | [], [], _ => rfl
  | [], _ :: _, h => by simp at h
  | _ :: _, [], h => by simp at h
  | w :: ws, p :: ps, h => by
    simp only [List.map_cons, List.cons.injEq] at h
    unfold readL
    rw [h.1, readL_ok h.2]
    rfl
theorem readL_no : ∀ {ws : List Str} {w : Str}, w ∈ ws → wordW w = none → readL ws = none
  | [], _, h, _ => by simp at h
  | v :: ws, w, h, e => by
    unfold readL
    rcases List.mem_cons.mp h with rfl | h
    · rw [e]
    · cases wordW v with
      | none => rfl
      | some c =>
        rw [readL_no h e]
        rfl
def readW (t : Str) : Option Prog := if t = "" then some [] else readL (Txt.split t " ")
/-- what a text tells, as data -/
def dRd (t : Str) : PyData := match readW t with
  | some ps => dP ps
  | none => .none
theorem dRd_some {t : Str} {ps : Prog} (h : readW t = some ps) : dRd t = dP ps := by
  unfold dRd
  rw [h]
theorem dRd_none {t : Str} (h : readW t = none) : dRd t = .none := by
  unfold dRd
  rw [h]
theorem sh_dRd (t : Str) : Sh 2 (dRd t) := by
  unfold dRd
  split
  · exact sh_dP _
  · exact sh_non
/-- a program's text -/
def textOf (cs : Prog) : Str := Txt.join " " (cs.map cT)
theorem text_len {cs : Prog} (hc : ∀ c ∈ cs, c.1 < 1000 ∧ c.2 < 1000) : (textOf cs).length ≤ 8 * cs.length := by
  unfold textOf
  rw [TL.join_eq]
  have h := StrLaws.join_length_le " " (cs.map cT)
  have e : (" " : Str).length = 1 := by decide +kernel
  rw [e, List.length_map] at h
  have key : ∀ l : Prog, (∀ c ∈ l, c.1 < 1000 ∧ c.2 < 1000) → ((l.map cT).map (·.length)).sum ≤ 7 * l.length := fun l => by
    induction l with
    | nil => intro _; simp
    | cons c l ih =>
      intro hl
      have h1 := ih fun d hd => hl d (List.mem_cons_of_mem _ hd)
      have h2 := cT_len (hl c List.mem_cons_self).1 (hl c List.mem_cons_self).2
      simp only [List.map_cons, List.sum_cons, List.length_cons]
      omega
  have := key cs hc
  omega
theorem cT_ne (c : Cmp) : cT c ≠ "" := fun h => by
  have h2 := congrArg Str.length h
  unfold cT at h2
  rw [Str.length_append, Str.length_append] at h2
  have e : (":" : Str).length = 1 := by decide +kernel
  have e0 : ("" : Str).length = 0 := by decide +kernel
  omega
theorem text_read {cs : Prog} (hc : ∀ c ∈ cs, c.1 < c.2 ∧ c.2 < 1000) : readW (textOf cs) = some cs := by
  cases cs with
  | nil => rfl
  | cons c r =>
    have hsp : Txt.split (textOf (c :: r)) " " = (c :: r).map cT := by
      refine TL.split_join (s := 32) (S := []) (by decide +kernel) kind_blank (by simp) fun p hp => ?_
      obtain ⟨d, _, rfl⟩ := List.mem_map.mp hp
      exact cT_free (by decide) (by decide)
    have hne : textOf (c :: r) ≠ "" := fun h => by
      rw [h] at hsp
      have h3 : Txt.split ("" : Str) " " = [("" : Str)] := by decide +kernel
      rw [h3, List.map_cons] at hsp
      exact cT_ne c (List.cons.inj hsp).1.symm
    unfold readW
    rw [if_neg hne, hsp]
    refine readL_ok ?_
    rw [List.map_map]
    exact List.map_congr_left fun d hd => word_cT (hc d hd).1 (hc d hd).2
/-! the sizes of what split gives -/
theorem split_part {t w y : Str} (h : w ∈ Txt.split t y) : w.length ≤ t.length := PyProof.Rows.part_short h
theorem split_size (t y : Str) : (Txt.split t y).length ≤ t.length + 2 := PyProof.Rows.split_le t y
theorem split_sum (t : Str) : ((Txt.split t " ").map (·.length)).sum ≤ t.length + 1 := by
  have h := PyProof.Rows.split_weight t " " (by decide +kernel)
  omega
/-! ### steps over texts -/
section
variable {K : PySem.W.Frag} {σ : L2.St} {H H' : Hp} {Q : VK} {v : V}
theorem st_lenS {z : Str} (hz : z.length ≤ 1000000) (h : Q (.int z.length) H) : cLenS [.str z] H Q := ⟨z, rfl, small hz, h⟩
theorem st_ixS {z : Str} {i : Int} {c : Nat} (j : Nat) (hz : z.length ≤ 1000000) (ei : i = (j : Int)) (hj : (TL.tl z)[j]? = some c) (h : Q (.str ⟨#[c]⟩) H) : rIxS (.str z) (.int i) H Q := ⟨z, i, c, rfl, rfl, small hz, atI_n hj ei, h⟩
theorem st_slS {z : Str} {lo hi : Option Int} (hz : z.length ≤ 1000000) (h : Q (.str (cutS z lo hi)) H) : rSlS (.str z) lo hi H Q := ⟨z, rfl, small hz, h⟩
theorem st_split {a b : Str} (hb : (b.length == 0) = false) (hz : a.length ≤ 1000000) (h : ∀ p H2, Fr H p → Same H H2 → At H2 p (.lst ((Txt.split a b).map V.str)) → Q (.ref p) H2) : mSplit (.str a) [.str b] H Q :=
  ⟨a, b, rfl, rfl, hb, Nat.le_trans (show a.length + 2 ≤ 1000002 by omega) (by decide), fun p np => h p _ np (same_new np) upd_same⟩
theorem st_joinL {a : Str} {p : Addr} {ys : List Str} (hp : SqL K H p (ys.map V.str)) (hz : (ys.map (·.length)).sum + ys.length * a.length ≤ 1000000) (h : Q (.str (Txt.join a ys)) H) : mJoin K (.str a) [.ref p] H Q := ⟨a, p, ys, rfl, rfl, .inl hp, by omega, h⟩
theorem st_intS {a : Str} {n : Int} (e : PySem.intText? a = some n) (hz : a.length ≤ 640) (h : Q (.int n) H) : cIntS [.str a] H Q := ⟨a, n, rfl, e, hz, h⟩
theorem st_niSg {c : Nat} {z : Str} (h : Q (.bl (!decide (c ∈ z.cps.toList))) H) : oNiSg (.str ⟨#[c]⟩) (.str z) H Q := ⟨c, z, rfl, rfl, h⟩
theorem st_num {n : Nat} (hn : n < 1000) (h : Q (.str (numT n)) H) : cStr [.int (n : Int)] H Q := by
  refine ⟨_, rfl, ?_, h⟩
  have e := Nat.log2_le_self n
  rw [Int.natAbs_natCast]
  omega
theorem colon_len : ((":" : Str).length == 0) = false := by decide +kernel
theorem blank_len : ((" " : Str).length == 0) = false := by decide +kernel
theorem figs_tl : ("0123456789" : Str).cps.toList = [48, 49, 50, 51, 52, 53, 54, 55, 56, 57] := by decide +kernel
theorem figs_mem {c : Nat} : c ∈ ("0123456789" : Str).cps.toList ↔ 48 ≤ c ∧ c ≤ 57 := by
  rw [figs_tl]
  simp only [List.mem_cons, List.not_mem_nil, or_false]
  omega
theorem nought : ("0" : Str) = ⟨#[48]⟩ := by decide +kernel
theorem sign_nought {c : Nat} : ((⟨#[c]⟩ : Str) = "0") ↔ c = 48 := by
  rw [nought]
  constructor
  · intro h
    have h2 := congrArg (fun z : Str => z.cps.toList) h
    simpa using h2
  · rintro rfl
    rfl
theorem imAll_strs : ∀ {ws : List Str} {vs : List V}, ImAll K H vs (ws.map PyData.str) → vs = ws.map V.str
  | [], _, .nil => rfl
  | w :: ws, _, .cons h t => by
    rw [im_str h, imAll_strs t]
    rfl
end
theorem range_map {α β : Type} (g : α → β) (d : α) (l : List α) : (List.range l.length).map (fun i => g (l.getD i d)) = l.map g := by
  refine List.ext_getElem (by simp) fun i h1 h2 => ?_
  have hi : i < l.length := by simpa using h2
  simp [List.getD, List.getElem?_eq_getElem hi]
/-- a comprehension that may break off: P tells what stands behind each turn -/
theorem lc_lE {K : PySem.W.Frag} {σ : L2.St} {H : Hp} {Q : VK} {te : TE} {t : TT} {g : TG} {vs : List Nat} {p : Addr} {xs : List V} {σw : L2.St} (hp : SqL K H p xs) (P : Nat → Prop) (e : Nat → PyData) (h0 : P 0) (hw : wipe σ vs = σw) (hm : xs.length ≤ 1000000)
    (hs : ∀ i y H', xs[i]? = some y → P i → Same H H' → ∀ (CT : VK) (CF : Hp → Prop), (P (i + 1) → ∀ z H4, Same H' H4 → Im K H4 z (e i) → CT z H4) → g y σw H' fun σ2 H2 => wipe σ2 vs = σw ∧ t σ2 H2 fun k H3 => if k = true then te σ2 H3 CT else CF H3)
    (h : P xs.length → ∀ p H2 ys, Fr H p → Same H H2 → At H2 p (.lst ys) → ImAll K H2 ys ((List.range xs.length).map e) → Q (.ref p) H2) : ∃ a, V.ref p = .ref a ∧ (∃ xs, SqL K H a xs) ∧ LoopC (Itl K a) g t te vs σ Q H := by
  subst hw
  refine ⟨p, rfl, ⟨xs, hp⟩, fun D hD => lc_list (xs := xs) (fun i H' => P i ∧ Cw K H (fun _ => true) e D i H') ⟨h0, hD, same_new hD, [], upd_same, .nil⟩ (fun i H' _ q => q.2.2.1.seq hp) (fun i y H' hy q => ?_) fun H2 ⟨q0, _, q2, ys, q3, q4⟩ => h q0 D H2 ys hD q2 q3 (by rw [given_all] at q4; exact q4)⟩
  obtain ⟨q0, p1, p2, ys, p3, p4⟩ := q
  have hi := (List.getElem?_eq_some_iff.mp hy).1
  refine hs i y H' hy q0 p2 _ _ fun qn z H4 s iz => ?_
  have hDz := s _ _ p3
  refine ⟨ys, hDz, small' (by have := given_len i (fun _ => true) e; have := p4.length; omega), qn, p1, same_mut (p2.trans s) p1, _, upd_same, ?_⟩
  rw [given_yes rfl]
  exact ((p4.same s).tx (.mut hDz)).snoc (iz.tx (.mut hDz))
theorem dCs_at {p : Prog} {i : Nat} {d : PyData} (h : (p.map dC)[i]? = some d) : ∃ c, p[i]? = some c ∧ d = dC c := by
  rw [List.getElem?_map] at h
  obtain ⟨c, h1, h2⟩ := Option.map_eq_some_iff.mp h
  exact ⟨c, h1, h2.symm⟩
theorem im_dC {K : PySem.W.Frag} {H : Hp} {xs : List V} {c : Cmp} (h : ImAll K H xs [.int c.1, .int c.2]) : xs = [.int (c.1 : Int), .int (c.2 : Int)] := imAll_ints (ns := [(c.1 : Int), (c.2 : Int)]) h
/-- the figures of a word so far -/
def figTo (w : Str) (i : Nat) : Prop := ∀ c ∈ (TL.tl w).take i, 48 ≤ c ∧ c ≤ 57
theorem figTo_next {w : Str} {i c : Nat} (h : figTo w i) (hc : w.cps[i]? = some c) (hf : 48 ≤ c ∧ c ≤ 57) : figTo w (i + 1) := fun d hd => by
  have e : (TL.tl w)[i]? = some c := by
    show w.cps.toList[i]? = some c
    rw [Array.getElem?_toList]
    exact hc
  rw [List.take_add_one, e, List.mem_append] at hd
  rcases hd with hd | hd
  · exact h d hd
  · simp at hd
    subst hd
    exact hf
theorem figTo_all {w : Str} (h : figTo w w.cps.size) : ∀ c ∈ TL.tl w, 48 ≤ c ∧ c ≤ 57 := fun c hc => h c (by
  rw [List.take_of_length_le (by simp [TL.tl])]
  exact hc)
theorem not_fig {w : Str} {i c : Nat} (hc : w.cps[i]? = some c) (hf : ¬ (48 ≤ c ∧ c ≤ 57)) : ¬ numOK (TL.tl w) := fun h => hf (h.2.2.2 c (by
  have e : (TL.tl w)[i]? = some c := by
    show w.cps.toList[i]? = some c
    rw [Array.getElem?_toList]
    exact hc
  exact List.mem_of_getElem? e))
theorem head_at {w : Str} (h : 1 < w.length) : ∃ c, (TL.tl w)[0]? = some c := ⟨_, List.getElem?_eq_getElem (by rw [TL.len_tl] at h; omega)⟩
/-- what number_of gives -/
def vNum (o : Option Nat) : V := match o with
  | none => .non
  | some n => .int (n : Int)
def sp_number_of (K : PySem.W.Frag) : Sp := fun vs H Q _ => ∃ w, vs = [.str w] ∧ w.length ≤ 1000000 ∧ Q (vNum (numW w)) H
def t_number_of (K : PySem.W.Frag) : TS := (tSeq (tIfS (tOr (tTest (tOp rEq (tCB cLenS (tCons (tVar 0) tNil)) (tC (.int 0)))) (tOr (tTest (tOp oGt (tCB cLenS (tCons (tVar 0) tNil)) (tC (.int 3)))) (tAnd (tTest (tOp oGt (tCB cLenS (tCons (tVar 0) tNil)) (tC (.int 1)))) (tTest (tOp rEq (tOp rIxS (tVar 0) (tC (.int 0))) (tC (.str "0"))))))) (tRet (tC .non)) tNext)
    (tSeq (tFor (iStr (tVar 0)) (gName 1) (tIfS (tTest (tOp oNiSg (tVar 1) (tC (.str "0123456789")))) (tRet (tC .non)) tNext))
    (tRet (tCB cIntS (tCons (tVar 0) tNil)))))
abbrev n_number_of : List Str := ["word", "sign"]
section
variable {K : PySem.W.Frag} {vs : List V} {H : Hp} {Q : VK} {E : XK}
theorem len_number_of (h : sp_number_of K vs H Q E) : vs.length = 1 := by
  obtain ⟨w, rfl, _⟩ := h
  rfl
theorem rd_number_of (h : sp_number_of K vs H Q E) : t_number_of K { nx := fun _ H' => Q .non H', rt := Q } (start n_number_of vs) H := by
  obtain ⟨w, rfl, hz, q⟩ := h
  show t_number_of K ⟨_, _, _, _⟩ [some (.str w), none] H
  have el := TL.len_tl w
  have no : ¬ numOK (TL.tl w) → Q .non H := fun hn => by
    rw [numW_no hn] at q
    exact q
  have loop : 1 ≤ (TL.tl w).length → (TL.tl w).length ≤ 3 → ¬ (1 < (TL.tl w).length ∧ (TL.tl w)[0]? = some 48) →
      tSeq (tFor (iStr (tVar 0)) (gName 1) (tIfS (tTest (tOp oNiSg (tVar 1) (tC (.str "0123456789")))) (tRet (tC .non)) tNext)) (tRet (tCB cIntS (tCons (tVar 0) tNil)))
      ⟨fun _ H' => Q .non H', Q, fun _ _ => False, fun _ _ => False⟩ [some (.str w), none] H := fun h1 h2 h3 => by
    walk_at "go"
    refine loop_s (fun i σ' H' => H' = H ∧ (∃ s, σ' = [some (.str w), s]) ∧ figTo w i) ⟨rfl, ⟨_, rfl⟩, fun c hc => by simp at hc⟩ (fun i c σ' H' hc p => ?_) (fun σ' H' p => ?_)
    · obtain ⟨rfl, ⟨s, rfl⟩, p3⟩ := p
      walk_at "go"
      refine st_niSg ?_
      walk_at "go"
      refine st_n2 (fun hf => ?_) (fun hf => ?_)
      · walk_at "go"
        exact no (not_fig hc fun z => hf (figs_mem.mpr z))
      · walk_at "go"
        exact ⟨rfl, ⟨_, rfl⟩, figTo_next p3 hc (figs_mem.mp hf)⟩
    · obtain ⟨rfl, ⟨s, rfl⟩, p3⟩ := p
      have ok : numOK (TL.tl w) := ⟨h1, h2, h3, figTo_all p3⟩
      walk_at "go"
      refine st_intS (numOK_int ok) (by omega) ?_
      rw [numW_yes ok] at q
      exact q
  unfold t_number_of
  walk_at "go"
  refine st_lenS hz ?_
  walk_at "go"
  refine st_y2 (fun h1 => ?_) (fun h1 => ?_)
  · walk_at "go"
    exact no fun z => by have := z.1; omega
  · walk_at "go"
    refine st_lenS hz ?_
    walk_at "go"
    refine st_y2 (fun h2 => ?_) (fun h2 => ?_)
    · walk_at "go"
      exact no fun z => by have := z.2.1; omega
    · walk_at "go"
      refine st_lenS hz ?_
      walk_at "go"
      refine st_y2 (fun h3 => ?_) (fun h3 => ?_)
      · obtain ⟨c, hc⟩ := head_at (w := w) (by omega)
        walk_at "go"
        refine st_ixS 0 hz rfl hc ?_
        walk_at "go"
        refine st_y2 (fun h4 => ?_) (fun h4 => ?_)
        · walk_at "go"
          exact no fun z => z.2.2.1 ⟨by omega, by rw [hc, sign_nought.mp h4]⟩
        · refine st_next ?_
          refine loop (by omega) (by omega) fun z => ?_
          have z2 := z.2
          rw [hc] at z2
          exact h4 (sign_nought.mpr (Option.some.inj z2))
      · show if false = true then _ else _
        refine iteF ?_
        refine st_next ?_
        exact loop (by omega) (by omega) fun z => by have := z.1; omega
end
/-- what the law's own gives -/
def iNum (o : Option Nat) : Int := match o with
  | none => -1
  | some n => (n : Int)
def sp_law_number (K : PySem.W.Frag) : Sp := fun vs H Q _ => ∃ w, vs = [.str w] ∧ w.length ≤ 1000000 ∧ Q (.int (iNum (numW w))) H
def t_law_number (K : PySem.W.Frag) : TS := (tSeq (tIfS (tOr (tTest (tOp oLt (tCB cLenS (tCons (tVar 0) tNil)) (tC (.int 1)))) (tOr (tTest (tOp oGt (tCB cLenS (tCons (tVar 0) tNil)) (tC (.int 3)))) (tAnd (tTest (tOp oGt (tCB cLenS (tCons (tVar 0) tNil)) (tC (.int 1)))) (tTest (tOp rEq (tOp rIxS (tVar 0) (tC (.int 0))) (tC (.str "0"))))))) (tRet (tUn uNeg (tC (.int 1)))) tNext)
    (tSeq (tFor (iStr (tVar 0)) (gName 1) (tIfS (tTest (tOp oNiSg (tVar 1) (tC (.str "0123456789")))) (tRet (tUn uNeg (tC (.int 1)))) tNext))
    (tRet (tCB cIntS (tCons (tVar 0) tNil)))))
abbrev n_law_number : List Str := ["_law_word", "_law_sign"]
section
variable {K : PySem.W.Frag} {vs : List V} {H : Hp} {Q : VK} {E : XK}
theorem len_law_number (h : sp_law_number K vs H Q E) : vs.length = 1 := by
  obtain ⟨w, rfl, _⟩ := h
  rfl
theorem rd_law_number (h : sp_law_number K vs H Q E) : t_law_number K { nx := fun _ H' => Q .non H', rt := Q } (start n_law_number vs) H := by
  obtain ⟨w, rfl, hz, q⟩ := h
  show t_law_number K ⟨_, _, _, _⟩ [some (.str w), none] H
  have el := TL.len_tl w
  have no : ¬ numOK (TL.tl w) → Q (.int (-1)) H := fun hn => by
    rw [numW_no hn] at q
    exact q
  have loop : 1 ≤ (TL.tl w).length → (TL.tl w).length ≤ 3 → ¬ (1 < (TL.tl w).length ∧ (TL.tl w)[0]? = some 48) →
      tSeq (tFor (iStr (tVar 0)) (gName 1) (tIfS (tTest (tOp oNiSg (tVar 1) (tC (.str "0123456789")))) (tRet (tUn uNeg (tC (.int 1)))) tNext)) (tRet (tCB cIntS (tCons (tVar 0) tNil)))
      ⟨fun _ H' => Q .non H', Q, fun _ _ => False, fun _ _ => False⟩ [some (.str w), none] H := fun h1 h2 h3 => by
    walk_at "go"
    refine loop_s (fun i σ' H' => H' = H ∧ (∃ s, σ' = [some (.str w), s]) ∧ figTo w i) ⟨rfl, ⟨_, rfl⟩, fun c hc => by simp at hc⟩ (fun i c σ' H' hc p => ?_) (fun σ' H' p => ?_)
    · obtain ⟨rfl, ⟨s, rfl⟩, p3⟩ := p
      walk_at "go"
      refine st_niSg ?_
      walk_at "go"
      refine st_n2 (fun hf => ?_) (fun hf => ?_)
      · walk_at "go"
        exact no (not_fig hc fun z => hf (figs_mem.mpr z))
      · walk_at "go"
        exact ⟨rfl, ⟨_, rfl⟩, figTo_next p3 hc (figs_mem.mp hf)⟩
    · obtain ⟨rfl, ⟨s, rfl⟩, p3⟩ := p
      have ok : numOK (TL.tl w) := ⟨h1, h2, h3, figTo_all p3⟩
      walk_at "go"
      refine st_intS (numOK_int ok) (by omega) ?_
      rw [numW_yes ok] at q
      exact q
  unfold t_law_number
  walk_at "go"
  refine st_lenS hz ?_
  walk_at "go"
  refine st_y2 (fun h1 => ?_) (fun h1 => ?_)
  · walk_at "go"
    exact no fun z => by have := z.1; omega
  · walk_at "go"
    refine st_lenS hz ?_
    walk_at "go"
    refine st_y2 (fun h2 => ?_) (fun h2 => ?_)
    · walk_at "go"
      exact no fun z => by have := z.2.1; omega
    · walk_at "go"
      refine st_lenS hz ?_
      walk_at "go"
      refine st_y2 (fun h3 => ?_) (fun h3 => ?_)
      · obtain ⟨c, hc⟩ := head_at (w := w) (by omega)
        walk_at "go"
        refine st_ixS 0 hz rfl hc ?_
        walk_at "go"
        refine st_y2 (fun h4 => ?_) (fun h4 => ?_)
        · walk_at "go"
          exact no fun z => z.2.2.1 ⟨by omega, by rw [hc, sign_nought.mp h4]⟩
        · refine st_next ?_
          refine loop (by omega) (by omega) fun z => ?_
          have z2 := z.2
          rw [hc] at z2
          exact h4 (sign_nought.mpr (Option.some.inj z2))
      · show if false = true then _ else _
        refine iteF ?_
        refine st_next ?_
        exact loop (by omega) (by omega) fun z => by have := z.1; omega
end
def sp_read_word (K : PySem.W.Frag) (C : Addr) : Sp := fun vs H Q E => ∃ w, vs = [.str w] ∧ w.length ≤ 100000 ∧ (∀ c, wordW w = some c → ∀ v H', Same H H' → Im K H' v (dC c) → Q v H') ∧ (wordW w = none → ∀ H', Same H H' → E (.ref C) none H')
def t_read_word (K : PySem.W.Frag) (C_BadText : Addr) (E : XK) : TS := (tSeq (tAsg (tM1 mSplit (tVar 0) (tC (.str ":"))) (gName 1))
    (tSeq (tIfS (tTest (tOp rNe (tCB (cLen K) (tCons (tVar 1) tNil)) (tC (.int 2)))) (tRaiseC C_BadText E) tNext)
    (tSeq (tAsg (tCall (sp_number_of K) [] E0 (tCons (tOp (rIxL K) (tVar 1) (tC (.int 0))) tNil)) (gName 2))
    (tSeq (tAsg (tCall (sp_number_of K) [] E0 (tCons (tOp (rIxL K) (tVar 1) (tC (.int 1))) tNil)) (gName 3))
    (tSeq (tIfS (tOr (tTest (tOp oIsN (tVar 2) (tC .non))) (tOr (tTest (tOp oIsN (tVar 3) (tC .non))) (tTest (tOp oGe (tVar 2) (tVar 3))))) (tRaiseC C_BadText E) tNext)
    (tRet (tTup (tCons (tVar 2) (tCons (tVar 3) tNil)))))))))
abbrev n_read_word : List Str := ["word", "parts", "low", "high"]
section
variable {K : PySem.W.Frag} {vs : List V} {H : Hp} {Q : VK} {E : XK}
theorem len_read_word {C : Addr} (h : sp_read_word K C vs H Q E) : vs.length = 1 := by
  obtain ⟨w, rfl, _⟩ := h
  rfl
theorem rd_read_word {C : Addr} (h : sp_read_word K C vs H Q E) : t_read_word K C E { nx := fun _ H' => Q .non H', rt := Q } (start n_read_word vs) H := by
  obtain ⟨w, rfl, hz, q, qE⟩ := h
  show t_read_word K C E ⟨_, _, _, _⟩ [some (.str w), none, none, none] H
  unfold t_read_word
  walk_at "go"
  refine ⟨⟨_, rfl⟩, ?_⟩
  walk_at "go"
  refine st_split colon_len (by omega) (fun p H1 np s1 a1 => ?_)
  walk_at "go"
  refine st_lenL (at_seq a1) ?_
  rw [List.length_map]
  walk_at "go"
  refine st_n2 (fun h2 => ?_) (fun h2 => ?_)
  · exact qE (wordW_not fun z => h2 (by omega)) _ s1
  · obtain ⟨a, b, eab⟩ := split_two (w := w) (by omega)
    have ha : a.length ≤ w.length := split_part (by rw [eab]; simp)
    have hb : b.length ≤ w.length := split_part (by rw [eab]; simp)
    have ew := wordW_two eab
    rw [eab] at a1
    walk_at "go"
    refine st_ixL 0 (at_seq a1) rfl rfl ?_
    refine ⟨a, rfl, by omega, ?_⟩
    walk_at "go"
    refine st_ixL 1 (at_seq a1) rfl rfl ?_
    refine ⟨b, rfl, by omega, ?_⟩
    walk_at "go"
    cases ea : numW a with
    | none =>
      refine st_yT rfl ?_
      walk_at "go"
      exact qE (by rw [ew]; exact pairW_l ea) _ s1
    | some i =>
      refine st_yF (fun z => nomatch z) ?_
      walk_at "go"
      cases eb : numW b with
      | none =>
        refine st_yT rfl ?_
        walk_at "go"
        exact qE (by rw [ew]; exact pairW_r eb) _ s1
      | some j =>
        refine st_yF (fun z => nomatch z) ?_
        have e2 := pairW_lr ea eb
        show tTest (tOp oGe (tVar 2) (tVar 3)) [some (.str w), some (.ref p), some (.int (i : Int)), some (.int (j : Int))] H1 _
        walk_at "go"
        refine st_y2 (fun h3 => ?_) (fun h3 => ?_)
        · exact qE (by rw [ew, e2, if_neg (by omega)]) _ s1
        · walk_at "go"
          refine newI (K := K) (ds := [.int (i : Int), .int (j : Int)]) (.cons (.int _) (.cons (.int _) .nil)) (by simp) (fun v H2 s2 i2 => ?_)
          exact q (i, j) (by rw [ew, e2, if_pos (by omega)]) v H2 (s1.trans s2) i2
end
def sp_read (K : PySem.W.Frag) (C : Addr) : Sp := fun vs H Q E => ∃ t, vs = [.str t] ∧ t.length ≤ 100000 ∧ (∀ ps, readW t = some ps → ∀ v H', Same H H' → Im K H' v (dP ps) → Q v H') ∧ (readW t = none → ∀ H', Same H H' → E (.ref C) none H')
/-- what a word tells, as data -/
def dW (w : Str) : PyData := match wordW w with
  | some c => dC c
  | none => .none
theorem dW_some {w : Str} {c : Cmp} (h : wordW w = some c) : dW w = dC c := by
  unfold dW
  rw [h]
theorem dW_all : ∀ {ws : List Str} {ps : Prog}, ws.map wordW = ps.map some → ws.map dW = ps.map dC
  | [], [], _ => rfl
  | [], _ :: _, h => by simp at h
  | _ :: _, [], h => by simp at h
  | w :: ws, p :: ps, h => by
    simp only [List.map_cons, List.cons.injEq] at h
    rw [List.map_cons, List.map_cons, dW_some h.1, dW_all h.2]
def t_read (K : PySem.W.Frag) (C_BadText : Addr) (E : XK) : TS := (tSeq (tIfS (tTest (tOp rEq (tVar 0) (tC (.str "")))) (tRet (tTup tNil)) tNext)
    (tRet (tCB (cTup K) (tCons (tLc (iList K (tM1 mSplit (tVar 0) (tC (.str " ")))) (gName 1) tYes (tCall (sp_read_word K C_BadText) [] E (tCons (tVar 1) tNil)) [1]) tNil))))
abbrev n_read : List Str := ["text", "word"]
section
variable {K : PySem.W.Frag} {vs : List V} {H : Hp} {Q : VK} {E : XK}
theorem len_read {C : Addr} (h : sp_read K C vs H Q E) : vs.length = 1 := by
  obtain ⟨w, rfl, _⟩ := h
  rfl
theorem rd_read {C : Addr} (h : sp_read K C vs H Q E) : t_read K C E { nx := fun _ H' => Q .non H', rt := Q } (start n_read vs) H := by
  obtain ⟨t, rfl, hz, q, qE⟩ := h
  show t_read K C E ⟨_, _, _, _⟩ [some (.str t), none] H
  unfold t_read
  walk_at "go"
  refine st_y2 (fun h1 => ?_) (fun h1 => ?_)
  · walk_at "go"
    refine newI (K := K) (ds := []) .nil (by simp) (fun v H2 s2 i2 => ?_)
    exact q [] (if_pos h1) v H2 s2 i2
  · have er : readW t = readL (Txt.split t " ") := if_neg h1
    rw [er] at q qE
    walk_at "go"
    refine ⟨⟨_, rfl⟩, ?_⟩
    walk_at "go"
    refine st_split blank_len (by omega) (fun p H1 np s1 a1 => ?_)
    have hsz := split_size t " "
    have hpart : ∀ w ∈ Txt.split t " ", w.length ≤ t.length := fun w hw => split_part hw
    generalize Txt.split t " " = ws at q qE a1 hsz hpart
    walk_at "go"
    refine lc_lE (σw := [some (.str t), none]) (at_seq a1) (fun i => ∃ ps : Prog, (ws.take i).map wordW = ps.map some) (fun i => dW (ws.getD i "")) ⟨[], by simp⟩ rfl (by rw [List.length_map]; omega) (fun i y H' hy hP sH CT CF kT => ?_) (fun hP pl H2 ys n2 s2 a2 x2 => ?_)
    · rw [List.getElem?_map] at hy
      obtain ⟨w, hw, rfl⟩ := Option.map_eq_some_iff.mp hy
      have hm := List.mem_of_getElem? hw
      obtain ⟨ps, hps⟩ := hP
      have ed : ws.getD i "" = w := by simp [List.getD, hw]
      simp only [ed] at kT
      walk_at "go"
      refine ⟨rfl, ?_⟩
      walk_at "go"
      refine ⟨w, rfl, by have := hpart w hm; omega, fun c hc v H4 s4 i4 => ?_, fun hc H4 s4 => qE (readL_no hm hc) H4 (s1.trans (sH.trans s4))⟩
      rw [dW_some hc] at kT
      refine kT ⟨ps ++ [c], ?_⟩ v H4 s4 i4
      rw [List.take_add_one, hw, List.map_append, List.map_append, hps]
      simp [hc]
    · obtain ⟨ps, hps⟩ := hP
      rw [List.length_map, List.take_length] at hps
      rw [List.length_map, range_map dW "" ws, dW_all hps] at x2
      walk_at "go"
      refine st_tupI (at_seq a2) x2 (fun w2 H3 s3 i3 => ?_)
      exact q ps (readL_ok hps) w2 H3 (s1.trans (s2.trans s3)) i3
end
def sp_written (K : PySem.W.Frag) : Sp := fun vs H Q _ => ∃ v cs, vs = [v] ∧ Im K H v (dP cs) ∧ (∀ c ∈ cs, c.1 < 1000 ∧ c.2 < 1000) ∧ cs.length ≤ 1000 ∧ ∀ H', Same H H' → Q (.str (textOf cs)) H'
theorem text_sum {cs : Prog} (hc : ∀ c ∈ cs, c.1 < 1000 ∧ c.2 < 1000) : ((cs.map cT).map (·.length)).sum ≤ 7 * cs.length := by
  induction cs with
  | nil => simp
  | cons c l ih =>
    have h1 := ih fun d hd => hc d (List.mem_cons_of_mem _ hd)
    have h2 := cT_len (hc c List.mem_cons_self).1 (hc c List.mem_cons_self).2
    simp only [List.map_cons, List.sum_cons, List.length_cons]
    omega
theorem blank_one : (" " : Str).length = 1 := by decide +kernel
theorem colon_one : (":" : Str).length = 1 := by decide +kernel
def t_written (K : PySem.W.Frag) : TS := (tRet (tM1 (mJoin K) (tC (.str " ")) (tLc (iTup K (tVar 0)) (gTup K 2 (gCons (gName 1) (gCons (gName 2) gNil))) tYes (tOp oAddS (tOp oAddS (tCB cStr (tCons (tVar 1) tNil)) (tC (.str ":"))) (tCB cStr (tCons (tVar 2) tNil))) [1, 2])))
abbrev n_written : List Str := ["program", "low", "high"]
section
variable {K : PySem.W.Frag} {vs : List V} {H : Hp} {Q : VK} {E : XK}
theorem len_written (h : sp_written K vs H Q E) : vs.length = 1 := by
  obtain ⟨v, cs, rfl, _⟩ := h
  rfl
theorem rd_written (h : sp_written K vs H Q E) : t_written K { nx := fun _ H' => Q .non H', rt := Q } (start n_written vs) H := by
  obtain ⟨v, cs, rfl, iv, hc, hz, q⟩ := h
  show t_written K ⟨_, _, _, _⟩ [some v, none, none] H
  unfold t_written
  walk_at "go"
  refine ⟨⟨_, rfl⟩, ?_⟩
  walk_at "go"
  refine lc_t (σw := [some v, none, none]) iv (fun _ => true) (fun i => .str (cT (cs.getD i (0, 0)))) rfl (by rw [List.length_map]; omega) (fun i d y H' hd s iy CT CF kT kF => ?_) (fun p H2 ys np s2 ap xp => ?_)
  · obtain ⟨c, hc', rfl⟩ := dCs_at hd
    have ed : cs.getD i (0, 0) = c := by simp [List.getD, hc']
    simp only [ed] at kT
    obtain ⟨c1, c2⟩ := hc c (List.mem_of_getElem? hc')
    refine st_gtup (ds := [.int c.1, .int c.2]) iy rfl (fun xs xi => ?_)
    obtain rfl := im_dC xi
    walk_at "go"
    refine ⟨rfl, ?_⟩
    walk_at "go"
    refine st_num c1 ?_
    walk_at "go"
    have l1 := numT_len c1
    have l2 := numT_len c2
    have e1 := colon_one
    refine st_addS (by omega) ?_
    walk_at "go"
    refine st_num c2 ?_
    refine st_addS (by rw [Str.length_append]; omega) ?_
    exact kT trivial _ _ (Same.refl _) (.str _)
  · rw [List.length_map, given_all, range_map (fun c => PyData.str (cT c)) (0, 0) cs] at xp
    have e2 : cs.map (fun c => PyData.str (cT c)) = (cs.map cT).map PyData.str := by
      rw [List.map_map]
      rfl
    rw [e2] at xp
    have ey := imAll_strs xp
    subst ey
    refine st_joinL (at_seq ap) ?_ ?_
    · have h1 := text_sum hc
      rw [blank_one, List.length_map]
      omega
    · exact q _ s2
end
def sp_law_due (K : PySem.W.Frag) : Sp := fun vs H Q _ => ∃ t, vs = [.str t] ∧ t.length ≤ 100000 ∧ ∀ v H', Same H H' → Im K H' v (dRd t) → Q v H'
def t_law_due (K : PySem.W.Frag) : TS := (tSeq (tIfS (tTest (tOp rEq (tVar 0) (tC (.str "")))) (tRet (tTup tNil)) tNext)
    (tSeq (tAsg (tLst tNil) (gName 1))
    (tSeq (tFor (iList K (tM1 mSplit (tVar 0) (tC (.str " ")))) (gName 2) (tSeq (tAsg (tM1 mSplit (tVar 2) (tC (.str ":"))) (gName 3))
    (tSeq (tIfS (tOr (tTest (tOp rNe (tCB (cLen K) (tCons (tVar 3) tNil)) (tC (.int 2)))) (tOr (tTest (tOp oLt (tCall (sp_law_number K) [] E0 (tCons (tOp (rIxL K) (tVar 3) (tC (.int 0))) tNil)) (tC (.int 0)))) (tTest (tOp oLe (tCall (sp_law_number K) [] E0 (tCons (tOp (rIxL K) (tVar 3) (tC (.int 1))) tNil)) (tCall (sp_law_number K) [] E0 (tCons (tOp (rIxL K) (tVar 3) (tC (.int 0))) tNil)))))) (tRet (tC .non)) tNext)
    (tDrop (tBM K "list" rAppend (tVar 1) (tCons (tTup (tCons (tCall (sp_law_number K) [] E0 (tCons (tOp (rIxL K) (tVar 3) (tC (.int 0))) tNil)) (tCons (tCall (sp_law_number K) [] E0 (tCons (tOp (rIxL K) (tVar 3) (tC (.int 1))) tNil)) tNil))) tNil))))))
    (tRet (tCB (cTup K) (tCons (tVar 1) tNil))))))
abbrev n_law_due : List Str := ["_law_text", "_law_found", "_law_word", "_law_parts"]
section
variable {K : PySem.W.Frag} {vs : List V} {H : Hp} {Q : VK} {E : XK}
theorem len_law_due (h : sp_law_due K vs H Q E) : vs.length = 1 := by
  obtain ⟨w, rfl, _⟩ := h
  rfl
theorem rd_law_due (h : sp_law_due K vs H Q E) : t_law_due K { nx := fun _ H' => Q .non H', rt := Q } (start n_law_due vs) H := by
  obtain ⟨t, rfl, hz, q⟩ := h
  show t_law_due K ⟨_, _, _, _⟩ [some (.str t), none, none, none] H
  unfold t_law_due
  walk_at "go"
  refine st_y2 (fun h1 => ?_) (fun h1 => ?_)
  · walk_at "go"
    refine newI (K := K) (ds := []) .nil (by simp) (fun v H2 s2 i2 => ?_)
    refine q v H2 s2 ?_
    rw [dRd_some (ps := []) (if_pos h1)]
    exact i2
  · have er : readW t = readL (Txt.split t " ") := if_neg h1
    walk_at "go"
    refine newL (by simp) (fun l H0 n0 s0 a0 => ?_)
    walk_at "go"
    refine ⟨⟨_, rfl⟩, ?_⟩
    walk_at "go"
    refine st_split blank_len (by omega) (fun p H1 np s1 a1 => ?_)
    have hsz := split_size t " "
    have hpart : ∀ w ∈ Txt.split t " ", w.length ≤ t.length := fun w hw => split_part hw
    generalize Txt.split t " " = ws at er a1 hsz hpart
    have qno : ∀ {w : Str}, w ∈ ws → wordW w = none → ∀ H', Same H H' → Q .non H' := fun hm hn H' s => by
      refine q .non H' s ?_
      rw [dRd_none (by rw [er]; exact readL_no hm hn)]
      exact .non
    have lp : l ≠ p := at_ne a0 np
    refine loop_l (at_seq a1) (fun i σ' H' => ∃ a b ys, ∃ ps : Prog, σ' = [some (.str t), some (.ref l), a, b] ∧ Same H H' ∧ At H' p (.lst (ws.map V.str)) ∧ At H' l (.lst ys) ∧ ImAll K H' ys (ps.map dC) ∧ (ws.take i).map wordW = ps.map some)
      ⟨_, _, [], [], rfl, s0.trans s1, a1, same_at s1 a0, .nil, by simp⟩ (fun i σ' H' ⟨_, _, _, _, _, _, h3, _⟩ => at_seq h3) (fun i y σ' H' hy hP => ?_) (fun σ' H' hP => ?_)
    · obtain ⟨a, b, ys, ps, rfl, sH, ap, al, xl, hps⟩ := hP
      rw [List.getElem?_map] at hy
      obtain ⟨w, hw, rfl⟩ := Option.map_eq_some_iff.mp hy
      have hm := List.mem_of_getElem? hw
      have hwl := hpart w hm
      have hi : i < ws.length := (List.getElem?_eq_some_iff.mp hw).1
      have ly : ys.length ≤ 110000 := by
        have e1 := xl.length
        have e2 := congrArg List.length hps
        simp only [List.length_map, List.length_take] at e1 e2
        omega
      walk_at "go"
      refine ⟨⟨_, rfl⟩, ?_⟩
      walk_at "go"
      refine st_split colon_len (by omega) (fun c H2 nc s2 a2 => ?_)
      walk_at "go"
      refine st_lenL (at_seq a2) ?_
      rw [List.length_map]
      walk_at "go"
      refine st_n2 (fun h2 => ?_) (fun h2 => ?_)
      · walk_at "go"
        exact qno hm (wordW_not fun z => h2 (by omega)) _ (sH.trans s2)
      · obtain ⟨x, z, exz⟩ := split_two (w := w) (by omega)
        have hx : x.length ≤ w.length := split_part (by rw [exz]; simp)
        have hz2 : z.length ≤ w.length := split_part (by rw [exz]; simp)
        have ew := wordW_two exz
        rw [exz] at a2
        walk_at "go"
        refine st_ixL 0 (at_seq a2) rfl rfl ?_
        refine ⟨x, rfl, by omega, ?_⟩
        walk_at "go"
        cases ex : numW x with
        | none =>
          refine st_yT (by decide) ?_
          walk_at "go"
          exact qno hm (by rw [ew]; exact pairW_l ex) _ (sH.trans s2)
        | some m =>
          have em : iNum (some m) = (m : Int) := rfl
          rw [em]
          refine st_yF (by omega) ?_
          walk_at "go"
          refine st_ixL 1 (at_seq a2) rfl rfl ?_
          refine ⟨z, rfl, by omega, ?_⟩
          walk_at "go"
          refine st_ixL 0 (at_seq a2) rfl rfl ?_
          refine ⟨x, rfl, by omega, ?_⟩
          rw [ex, em]
          walk_at "go"
          cases ez : numW z with
          | none =>
            have en : iNum none = -1 := rfl
            rw [en]
            refine st_yT (by omega) ?_
            walk_at "go"
            exact qno hm (by rw [ew]; exact pairW_r ez) _ (sH.trans s2)
          | some n =>
            have en : iNum (some n) = (n : Int) := rfl
            rw [en]
            have e2 := pairW_lr ex ez
            refine st_y2 (fun h3 => ?_) (fun h3 => ?_)
            · walk_at "go"
              exact qno hm (by rw [ew, e2, if_neg (by omega)]) _ (sH.trans s2)
            · walk_at "go"
              refine st_tyL (same_at s2 al) ?_
              walk_at "go"
              refine st_ixL 0 (at_seq a2) rfl rfl ?_
              refine ⟨x, rfl, by omega, ?_⟩
              rw [ex, em]
              walk_at "go"
              refine st_ixL 1 (at_seq a2) rfl rfl ?_
              refine ⟨z, rfl, by omega, ?_⟩
              rw [ez, en]
              walk_at "go"
              refine newI (K := K) (ds := [.int (m : Int), .int (n : Int)]) (.cons (.int _) (.cons (.int _) .nil)) (by simp) (fun v H3 s3 i3 => ?_)
              walk_at "go"
              refine st_app (same_at (s2.trans s3) al) (by omega) (fun H4 b4 a4 => ?_)
              walk_at "go"
              have s23 := s2.trans s3
              have sL : Same H H4 := same_bx (sH.trans s23) b4 n0
              refine ⟨_, _, _, ps ++ [(m, n)], rfl, sL, ?_, a4, ?_, ?_⟩
              · rcases at_bx b4 (same_at s23 ap) with z0 | z0
                · exact absurd z0.symm lp
                · exact z0
              · rw [List.map_append]
                exact ((xl.same s23).tx (bx_tx b4)).snoc (i3.tx (bx_tx b4))
              · rw [List.take_add_one, hw, List.map_append, List.map_append, hps]
                have ewm : wordW w = some (m, n) := by rw [ew, e2, if_pos (by omega)]
                simp [ewm]
    · obtain ⟨a, b, ys, ps, rfl, sH, ap, al, xl, hps⟩ := hP
      rw [List.length_map, List.take_length] at hps
      walk_at "go"
      refine st_tupI (at_seq al) xl (fun w2 H3 s3 i3 => ?_)
      refine q w2 H3 (sH.trans s3) ?_
      rw [dRd_some (by rw [er]; exact readL_ok hps)]
      exact i3
end
def sp_law_read (K : PySem.W.Frag) : Sp := fun vs H Q _ => ∃ t, vs = [.str t] ∧ t.length ≤ 100000 ∧ ∀ v H', Same H H' → Im K H' v (dRd t) → Q v H'
def t_law_read_body (K : PySem.W.Frag) (C_ForgeError : Addr) (C_BadProgram : Addr) (C_BadRow : Addr) (C_NoRule : Addr) (C_BadText : Addr) (W : WX) : TS := (tRet (tCallS (sp_read K C_BadText) (WE W) (tCons (tVar 0) tNil)))
def t_law_read_suite (K : PySem.W.Frag) (C_ForgeError : Addr) (C_BadProgram : Addr) (C_BadRow : Addr) (C_NoRule : Addr) (C_BadText : Addr) (a : Addr) : TS := (tSeq (tIfS (tOr (tB (tCB (rIsE K C_BadText a) (tCons (tVar 1) (tCons (tC (.ref C_BadProgram)) tNil)))) (tOr (tB (tCB (rIsE K C_BadText a) (tCons (tVar 1) (tCons (tC (.ref C_BadRow)) tNil)))) (tB (tCB (rIsE K C_BadText a) (tCons (tVar 1) (tCons (tC (.ref C_NoRule)) tNil)))))) (tRet (tC (.str "other"))) tNext)
    (tIfS (tAnd (tB (tCB (rIsE K C_BadText a) (tCons (tVar 1) (tCons (tC (.ty "ValueError")) tNil)))) (tB (tCB (rIsE K C_BadText a) (tCons (tVar 1) (tCons (tC (.ref C_BadText)) tNil))))) (tRet (tC .non)) tNext))
def t_law_read (K : PySem.W.Frag) (C_ForgeError : Addr) (C_BadProgram : Addr) (C_BadRow : Addr) (C_NoRule : Addr) (C_BadText : Addr) : TS := (tSeq (fun D σ H => t_law_read_body K C_ForgeError C_BadProgram C_BadRow C_NoRule C_BadText (wAs K (.ref C_ForgeError) 1 (fun a cls d => tWhen (cls = .ref C_BadText ∧ d = none) (t_law_read_suite K C_ForgeError C_BadProgram C_BadRow C_NoRule C_BadText a)) (fun _ _ _ _ => False) D) D σ H)
    (tRet (tC (.str "other"))))
abbrev n_law_read : List Str := ["_law_text", "e"]
section
variable {K : PySem.W.Frag} {vs : List V} {H : Hp} {Q : VK} {E : XK}
theorem len_law_read (h : sp_law_read K vs H Q E) : vs.length = 1 := by
  obtain ⟨w, rfl, _⟩ := h
  rfl
theorem rd_law_read {mg : Str → Option Value} {C_ForgeError C_BadProgram C_BadRow C_NoRule C_BadText : Addr} (CK : CaughtK K C_BadText C_ForgeError) (X_BadProgram : ExcK K mg "BadProgram" C_BadProgram) (A_BadProgram : subRef K C_BadText C_BadProgram false) (X_BadRow : ExcK K mg "BadRow" C_BadRow) (A_BadRow : subRef K C_BadText C_BadRow false) (X_NoRule : ExcK K mg "NoRule" C_NoRule) (A_NoRule : subRef K C_BadText C_NoRule false)
    (h : sp_law_read K vs H Q E) : t_law_read K C_ForgeError C_BadProgram C_BadRow C_NoRule C_BadText { nx := fun _ H' => Q .non H', rt := Q } (start n_law_read vs) H := by
  obtain ⟨t, rfl, hz, q⟩ := h
  show t_law_read K _ _ _ _ _ ⟨_, _, _, _⟩ [some (.str t), none] H
  unfold t_law_read
  refine st_seq ?_
  show t_law_read_body K _ _ _ _ _ _ ⟨_, _, _, _⟩ _ _
  unfold t_law_read_body
  walk_at "go"
  refine ⟨t, rfl, hz, fun ps hps v H2 s2 i2 => q v H2 s2 (by rw [dRd_some hps]; exact i2), fun hn H2 s2 => ?_⟩
  have qn : Q .non H2 := q .non H2 s2 (by rw [dRd_none hn]; exact .non)
  refine st_as CK (fun a ha => ?_)
  show t_law_read_suite K _ _ _ _ _ a ⟨_, _, _, _⟩ [some (.str t), some (.ref a)] H2
  unfold t_law_read_suite
  walk_at "go"
  refine st_isE X_BadProgram CK.sd A_BadProgram ?_
  walk_at "go"
  refine st_isE X_BadRow CK.sd A_BadRow ?_
  walk_at "go"
  refine st_isE X_NoRule CK.sd A_NoRule ?_
  walk_at "go"
  refine st_isEv CK.sv ?_
  walk_at "go"
  refine ⟨_, _, true, rfl, fun _ r => r, ?_, ?_⟩
  · unfold PySem.W.kitOne
    rw [if_pos (by simp)]
  · walk_at "go"
    exact qn
end
theorem lits1 : (" " : Str).length = 1 ∧ ("\n" : Str).length = 1 ∧ (" 1" : Str).length = 2 ∧ (":" : Str).length = 1 := by decide +kernel
def sp_law_spoilt (K : PySem.W.Frag) : Sp := fun vs H Q _ => ∃ (t : Str) (way pos : Nat) (sign : Str), vs = [.str t, .int (way : Int), .int (pos : Int), .str sign] ∧ t.length ≤ 1000 ∧ sign.length ≤ 10 ∧ ∀ s H', Same H H' → s.length ≤ 4000 → Q (.str s) H'
def t_law_spoilt (K : PySem.W.Frag) : TS := (tSeq (tIfS (tTest (tOp rEq (tVar 1) (tC (.int 0)))) (tRet (tOp oAddS (tSl rSlS (tVar 0) tNoPart (tPart (tVar 2))) (tSl rSlS (tVar 0) (tPart (tOp oAdd (tVar 2) (tC (.int 1)))) tNoPart))) tNext)
    (tSeq (tIfS (tTest (tOp rEq (tVar 1) (tC (.int 1)))) (tRet (tOp oAddS (tOp oAddS (tSl rSlS (tVar 0) tNoPart (tPart (tVar 2))) (tVar 3)) (tSl rSlS (tVar 0) (tPart (tVar 2)) tNoPart))) tNext)
    (tSeq (tIfS (tTest (tOp rEq (tVar 1) (tC (.int 2)))) (tRet (tOp oAddS (tOp oAddS (tSl rSlS (tVar 0) tNoPart (tPart (tVar 2))) (tVar 3)) (tSl rSlS (tVar 0) (tPart (tOp oAdd (tVar 2) (tC (.int 1)))) tNoPart))) tNext)
    (tSeq (tIfS (tTest (tOp rEq (tVar 1) (tC (.int 3)))) (tRet (tOp oAddS (tC (.str " ")) (tVar 0))) tNext)
    (tRet (tOp oAddS (tVar 0) (tOp (rIxL K) (tLst (tCons (tC (.str " ")) (tCons (tC (.str "\n")) (tCons (tC (.str " 1")) (tCons (tC (.str ":")) tNil))))) (tOp oMod (tVar 2) (tC (.int 4))))))))))
abbrev n_law_spoilt : List Str := ["_law_text", "_law_way", "_law_at", "_law_sign"]
section
variable {K : PySem.W.Frag} {vs : List V} {H : Hp} {Q : VK} {E : XK}
theorem len_law_spoilt (h : sp_law_spoilt K vs H Q E) : vs.length = 4 := by
  obtain ⟨t, way, pos, sign, rfl, _⟩ := h
  rfl
theorem rd_law_spoilt (h : sp_law_spoilt K vs H Q E) : t_law_spoilt K { nx := fun _ H' => Q .non H', rt := Q } (start n_law_spoilt vs) H := by
  obtain ⟨t, way, pos, sign, rfl, hz, hg, q⟩ := h
  show t_law_spoilt K ⟨_, _, _, _⟩ [some (.str t), some (.int way), some (.int pos), some (.str sign)] H
  obtain ⟨b1, b2, b3, b4⟩ := lits1
  have cl : ∀ lo hi, (cutS t lo hi).length ≤ 1000 := fun lo hi => Nat.le_trans (cutS_length t lo hi) hz
  unfold t_law_spoilt
  walk_at "go"
  refine st_y2 (fun h1 => ?_) (fun h1 => ?_)
  · walk_at "go"
    refine st_slS (by omega) ?_
    walk_at "go"
    refine st_slS (by omega) ?_
    have c1 := cl none (some (pos : Int))
    have c2 := cl (some ((pos : Int) + 1)) none
    refine st_addS (by omega) (q _ _ (Same.refl _) ?_)
    rw [Str.length_append]
    omega
  · walk_at "go"
    refine st_y2 (fun h2 => ?_) (fun h2 => ?_)
    · walk_at "go"
      refine st_slS (by omega) ?_
      have c1 := cl none (some (pos : Int))
      have c2 := cl (some (pos : Int)) none
      walk_at "go"
      refine st_addS (by omega) ?_
      walk_at "go"
      refine st_slS (by omega) ?_
      refine st_addS ?_ (q _ _ (Same.refl _) ?_)
      · rw [Str.length_append]
        omega
      · rw [Str.length_append, Str.length_append]
        omega
    · walk_at "go"
      refine st_y2 (fun h3 => ?_) (fun h3 => ?_)
      · walk_at "go"
        refine st_slS (by omega) ?_
        have c1 := cl none (some (pos : Int))
        have c2 := cl (some ((pos : Int) + 1)) none
        walk_at "go"
        refine st_addS (by omega) ?_
        walk_at "go"
        refine st_slS (by omega) ?_
        refine st_addS ?_ (q _ _ (Same.refl _) ?_)
        · rw [Str.length_append]
          omega
        · rw [Str.length_append, Str.length_append]
          omega
      · walk_at "go"
        refine st_y2 (fun h4 => ?_) (fun h4 => ?_)
        · walk_at "go"
          refine st_addS (by omega) (q _ _ (Same.refl _) ?_)
          rw [Str.length_append]
          omega
        · walk_at "go"
          refine newL (by simp) (fun l H1 n1 s1 a1 => ?_)
          walk_at "go"
          obtain ⟨s, hs, hl⟩ : ∃ s : Str, ([V.str " ", .str "\n", .str " 1", .str ":"] : List V)[pos % 4]? = some (.str s) ∧ s.length ≤ 2 := by
            have h4 : pos % 4 = 0 ∨ pos % 4 = 1 ∨ pos % 4 = 2 ∨ pos % 4 = 3 := by omega
            rcases h4 with e | e | e | e <;> rw [e]
            · exact ⟨_, rfl, by omega⟩
            · exact ⟨_, rfl, by omega⟩
            · exact ⟨_, rfl, by omega⟩
            · exact ⟨_, rfl, by omega⟩
          refine st_ixL (pos % 4) (at_seq a1) (by omega) hs ?_
          refine st_addS (by omega) (q _ _ s1 ?_)
          rw [Str.length_append]
          omega
end
theorem lits2 : (":" : Str).length = 1 ∧ ("0" : Str).length = 1 ∧ (":0" : Str).length = 2 ∧ (":1000" : Str).length = 5 ∧ ("" : Str).length = 0 ∧ (":99" : Str).length = 3 ∧ ("::" : Str).length = 2 ∧ ("-1:" : Str).length = 3 ∧ (";" : Str).length = 1 ∧ (": " : Str).length = 2 ∧ ("0:0" : Str).length = 3 ∧ (":999" : Str).length = 4 ∧ ("00:" : Str).length = 3 := by decide +kernel
def sp_law_odd (K : PySem.W.Frag) : Sp := fun vs H Q _ => ∃ n : Nat, vs = [.int (n : Int)] ∧ ∀ s H', Same H H' → s.length ≤ 30 → Q (.str s) H'
def t_law_odd (K : PySem.W.Frag) : TS := (tSeq (tAsg (tCB cStr (tCons (tOp oMod (tVar 0) (tC (.int 30))) tNil)) (gName 1))
    (tSeq (tAsg (tCB cStr (tCons (tOp oAdd (tC (.int 31)) (tOp oMod (tOp oDiv (tVar 0) (tC (.int 30))) (tC (.int 60)))) tNil)) (gName 2))
    (tSeq (tAsg (tLst (tCons (tOp oAddS (tOp oAddS (tVar 1) (tC (.str ":"))) (tVar 1)) (tCons (tOp oAddS (tOp oAddS (tVar 2) (tC (.str ":"))) (tVar 1)) (tCons (tOp oAddS (tOp oAddS (tOp oAddS (tC (.str "0")) (tVar 1)) (tC (.str ":"))) (tVar 2)) (tCons (tOp oAddS (tOp oAddS (tVar 1) (tC (.str ":0"))) (tVar 2)) (tCons (tOp oAddS (tVar 1) (tC (.str ":1000"))) (tCons (tVar 1) (tCons (tC (.str "")) tNil)))))))) (gName 3))
    (tSeq (tAsg (tOp rCat (tVar 3) (tLst (tCons (tOp oAddS (tOp oAddS (tOp oAddS (tVar 1) (tC (.str ":"))) (tVar 2)) (tC (.str ":99"))) (tCons (tOp oAddS (tC (.str ":")) (tVar 2)) (tCons (tOp oAddS (tVar 1) (tC (.str ":"))) (tCons (tOp oAddS (tOp oAddS (tVar 1) (tC (.str "::"))) (tVar 2)) (tCons (tOp oAddS (tC (.str "-1:")) (tVar 2)) (tCons (tOp oAddS (tOp oAddS (tVar 1) (tC (.str ";"))) (tVar 2)) tNil)))))))) (gName 3))
    (tRet (tOp (rIxL K) (tOp rCat (tVar 3) (tLst (tCons (tOp oAddS (tOp oAddS (tVar 1) (tC (.str ": "))) (tVar 2)) (tCons (tC (.str "0:0")) (tCons (tOp oAddS (tOp oAddS (tVar 1) (tC (.str ":"))) (tVar 2)) (tCons (tOp oAddS (tVar 1) (tC (.str ":999"))) (tCons (tOp oAddS (tC (.str "00:")) (tVar 2)) tNil))))))) (tOp oMod (tOp oDiv (tVar 0) (tC (.int 2000))) (tC (.int 18)))))))))
abbrev n_law_odd : List Str := ["_law_number_here", "_law_low", "_law_high", "_law_some"]
section
variable {K : PySem.W.Frag} {vs : List V} {H : Hp} {Q : VK} {E : XK}
theorem len_law_odd (h : sp_law_odd K vs H Q E) : vs.length = 1 := by
  obtain ⟨n, rfl, _⟩ := h
  rfl
theorem rd_law_odd (h : sp_law_odd K vs H Q E) : t_law_odd K { nx := fun _ H' => Q .non H', rt := Q } (start n_law_odd vs) H := by
  obtain ⟨n, rfl, q⟩ := h
  show t_law_odd K ⟨_, _, _, _⟩ [some (.int n), none, none, none] H
  obtain ⟨b1, b2, b3, b4, b5, b6, b7, b8, b9, b10, b11, b12, b13⟩ := lits2
  unfold t_law_odd
  walk_at "go"
  have ea : (n : Int) % 30 = ((n % 30 : Nat) : Int) := by omega
  rw [ea]
  refine st_num (by omega) ?_
  have la := numT_len (n := n % 30) (by omega)
  generalize numT (n % 30) = a at la
  walk_at "go"
  have eb : (31 : Int) + (n : Int) / 30 % 60 = ((31 + n / 30 % 60 : Nat) : Int) := by omega
  rw [eb]
  refine st_num (by omega) ?_
  have lb := numT_len (n := 31 + n / 30 % 60) (by omega)
  generalize numT (31 + n / 30 % 60) = b at lb
  repeat first
    | walk_at "go1"
    | refine st_addS (by first | omega | (simp only [Str.length_append]; omega)) ?_
  refine newL (by simp) (fun l1 H1 n1 s1 a1 => ?_)
  repeat first
    | walk_at "go1"
    | refine st_addS (by first | omega | (simp only [Str.length_append]; omega)) ?_
  refine newL (by simp) (fun l2 H2 n2 s2 a2 => ?_)
  refine st_catL (same_at s2 a1) a2 (by simp) (fun l3 H3 n3 s3 a3 => ?_)
  repeat first
    | walk_at "go1"
    | refine st_addS (by first | omega | (simp only [Str.length_append]; omega)) ?_
  refine newL (by simp) (fun l4 H4 n4 s4 a4 => ?_)
  refine st_catL (same_at s4 a3) a4 (by simp) (fun l5 H5 n5 s5 a5 => ?_)
  walk_at "go"
  obtain ⟨L, hL, hlen, hall⟩ : ∃ L : List Str, At H5 l5 (.lst (L.map V.str)) ∧ L.length = 18 ∧ ∀ s ∈ L, s.length ≤ 30 := by
    refine ⟨[a ++ ":" ++ a, b ++ ":" ++ a, "0" ++ a ++ ":" ++ b, a ++ ":0" ++ b, a ++ ":1000", a, "", a ++ ":" ++ b ++ ":99", ":" ++ b, a ++ ":", a ++ "::" ++ b, "-1:" ++ b, a ++ ";" ++ b, a ++ ": " ++ b, "0:0", a ++ ":" ++ b, a ++ ":999", "00:" ++ b], a5, rfl, fun s hs => ?_⟩
    simp only [List.mem_cons, List.not_mem_nil, or_false] at hs
    rcases hs with rfl | rfl | rfl | rfl | rfl | rfl | rfl | rfl | rfl | rfl | rfl | rfl | rfl | rfl | rfl | rfl | rfl | rfl <;> first | omega | (simp only [Str.length_append]; omega)
  have hj : n / 2000 % 18 < L.length := by omega
  have hs := List.getElem?_eq_getElem hj
  refine st_ixL (n / 2000 % 18) (at_seq hL) (by omega) (by rw [List.getElem?_map, hs]; rfl) ?_
  exact q _ H5 (s1.trans (s2.trans (s3.trans (s4.trans s5)))) (hall _ (List.mem_of_getElem? hs))
end
theorem signs_size : ("0123456789: -+_.,\nO" : Str).length = 19 := by decide +kernel
/-- str(c[0]) + ":" + str(c[1]), behind the first -/
theorem wide_at (k : Nat) : ∃ w : Nat, ([V.int 8, .int 30, .int 999] : List V)[k % 3]? = some (.int (w : Int)) ∧ 8 ≤ w ∧ w ≤ 999 := by
  have h : k % 3 = 0 ∨ k % 3 = 1 ∨ k % 3 = 2 := by omega
  rcases h with e | e | e <;> rw [e]
  · exact ⟨8, rfl, by omega, by omega⟩
  · exact ⟨30, rfl, by omega, by omega⟩
  · exact ⟨999, rfl, by omega, by omega⟩
theorem ins_sum (ws : List Str) (k : Nat) (s : Str) : ((ws.take k ++ [s] ++ ws.drop k).map (·.length)).sum = (ws.map (·.length)).sum + s.length := by
  have h : (ws.map (·.length)).sum = ((ws.take k).map (·.length)).sum + ((ws.drop k).map (·.length)).sum := by
    rw [← List.sum_append, ← List.map_append, List.take_append_drop]
  rw [List.map_append, List.map_append, List.sum_append, List.sum_append, h]
  simp
  omega
theorem join_len (ws : List Str) : (Txt.join " " ws).length ≤ (ws.map (·.length)).sum + ws.length := by
  rw [TL.join_eq]
  have h := StrLaws.join_length_le " " ws
  rw [blank_one] at h
  omega
def sp_law (K : PySem.W.Frag) : Sp := fun vs H Q _ => ∃ v ns, vs = [v] ∧ Scr K H v ns ∧ ∀ H', Q (.bl true) H'
def t_law (K : PySem.W.Frag) : TS := (tSeq (tAsg (tLst tNil) (gName 1))
    (tSeq (tFor (iRng1 (tCons (tOp oMod (tCall (sp_law_cell_at K) [] E0 (tCons (tVar 0) (tCons (tC (.int 0)) tNil))) (tC (.int 13))) tNil)) (gName 2) (tSeq (tAsg (tCall (sp_law_mixed K) [] E0 (tCons (tVar 0) (tCons (tOp oAdd (tC (.int 3)) (tVar 2)) tNil))) (gName 3))
    (tSeq (tAsg (tOp (rIxL K) (tLst (tCons (tC (.int 8)) (tCons (tC (.int 30)) (tCons (tC (.int 999)) tNil)))) (tOp oMod (tVar 3) (tC (.int 3)))) (gName 4))
    (tSeq (tAsg (tOp oMod (tOp oDiv (tVar 3) (tC (.int 3))) (tVar 4)) (gName 5))
    (tDrop (tBM K "list" rAppend (tVar 1) (tCons (tTup (tCons (tVar 5) (tCons (tOp oAdd (tOp oAdd (tVar 5) (tC (.int 1))) (tOp oMod (tOp oDiv (tVar 3) (tC (.int 3000))) (tOp oSub (tVar 4) (tVar 5)))) tNil))) tNil)))))))
    (tSeq (tAsg (tM1 (mJoin K) (tC (.str " ")) (tLc (iList K (tVar 1)) (gName 10) tYes (tOp oAddS (tOp oAddS (tCB cStr (tCons (tOp (rIxT K) (tVar 10) (tC (.int 0))) tNil)) (tC (.str ":"))) (tCB cStr (tCons (tOp (rIxT K) (tVar 10) (tC (.int 1))) tNil))) [10])) (gName 6))
    (tSeq (tIfS (tOr (tTest (tOp rNe (tCall (sp_written K) [] E0 (tCons (tCB (cTup K) (tCons (tVar 1) tNil)) tNil)) (tVar 6))) (tTest (tOp (rNeD K) (tCall (sp_law_read K) [] E0 (tCons (tVar 6) tNil)) (tCB (cTup K) (tCons (tVar 1) tNil))))) (tRet (tC (.bl false))) tNext)
    (tSeq (tAsg (tC (.str "0123456789: -+_.,\nO")) (gName 7))
    (tSeq (tAsg (tCall (sp_law_mixed K) [] E0 (tCons (tVar 0) (tCons (tC (.int 1)) tNil))) (gName 3))
    (tSeq (tAsg (tCall (sp_law_spoilt K) [] E0 (tCons (tVar 6) (tCons (tOp oMod (tVar 3) (tC (.int 5))) (tCons (tOp oMod (tOp oDiv (tVar 3) (tC (.int 5))) (tOp oAdd (tCB cLenS (tCons (tVar 6) tNil)) (tC (.int 1)))) (tCons (tOp rIxS (tVar 7) (tOp oMod (tOp oDiv (tVar 3) (tC (.int 5000))) (tC (.int 19)))) tNil))))) (gName 8))
    (tSeq (tIfS (tTest (tOp (rNeD K) (tCall (sp_law_read K) [] E0 (tCons (tVar 8) tNil)) (tCall (sp_law_due K) [] E0 (tCons (tVar 8) tNil)))) (tRet (tC (.bl false))) tNext)
    (tSeq (tAsg (tM1 mSplit (tVar 6) (tC (.str " "))) (gName 9))
    (tSeq (tAsg (tCall (sp_law_mixed K) [] E0 (tCons (tVar 0) (tCons (tC (.int 2)) tNil))) (gName 3))
    (tSeq (tDrop (tBM K "list" mIns (tVar 9) (tCons (tOp oMod (tOp oDiv (tVar 3) (tC (.int 50000))) (tOp oAdd (tCB (cLen K) (tCons (tVar 9) tNil)) (tC (.int 1)))) (tCons (tCall (sp_law_odd K) [] E0 (tCons (tVar 3) tNil)) tNil))))
    (tSeq (tAsg (tM1 (mJoin K) (tC (.str " ")) (tVar 9)) (gName 8))
    (tRet (tAndV (tOp (rEqD K) (tCall (sp_law_read K) [] E0 (tCons (tVar 8) tNil)) (tCall (sp_law_due K) [] E0 (tCons (tVar 8) tNil))) (tOp (rEqD K) (tCall (sp_law_read K) [] E0 (tCons (tVar 6) tNil)) (tCB (cTup K) (tCons (tVar 1) tNil)))))))))))))))))
abbrev n_law : List Str := ["_law_script", "_law_found", "_law_k", "_law_number_here", "_law_wide", "_law_low", "_law_text", "_law_signs", "_law_other", "_law_words", "_law_one"]
section
variable {K : PySem.W.Frag} {vs : List V} {H : Hp} {Q : VK} {E : XK}
theorem len_law (h : sp_law K vs H Q E) : vs.length = 1 := by
  obtain ⟨v, ns, rfl, _⟩ := h
  rfl
theorem rd_law (h : sp_law K vs H Q E) : t_law K { nx := fun _ H' => Q .non H', rt := Q } (start n_law vs) H := by
  obtain ⟨v, ns, rfl, hs, q⟩ := h
  show t_law K ⟨_, _, _, _⟩ [some v, none, none, none, none, none, none, none, none, none, none] H
  unfold t_law
  walk_at "go"
  refine newL (by simp) (fun l0 H0 n0 s0 a0 => ?_)
  walk_at "go"
  refine ⟨v, ns, 0, rfl, hs.tx (.of s0), ?_⟩
  walk_at "go"
  obtain ⟨m, em, hm⟩ : ∃ m : Nat, cellAt ns 0 % 13 = (m : Int) ∧ m < 13 := ⟨(cellAt ns 0 % 13).toNat, by omega, by omega⟩
  rw [em]
  refine st_r1 m rfl (by omega) ?_
  refine loop_r0 (fun i σ' H' => ∃ a b c d ys, ∃ cs : Prog, σ' = [some v, some (.ref l0), a, b, c, d, none, none, none, none, none] ∧ Same H H' ∧ At H' l0 (.lst ys) ∧ ImAll K H' ys (cs.map dC) ∧ cs.length = i ∧ ∀ c ∈ cs, c.1 < c.2 ∧ c.2 < 1000)
    ⟨_, _, _, _, [], [], rfl, s0, a0, .nil, rfl, fun c hc => by cases hc⟩ (fun i σ' H' hi hP => ?_) (fun σ' H' hP => ?_)
  · obtain ⟨a, b, c, d, ys, cs, rfl, sH, al, xl, hl, hc⟩ := hP
    have ly := xl.length
    rw [List.length_map] at ly
    walk_at "go"
    refine ⟨v, ns, 3 + i, by simp, hs.tx (.of sH), ?_⟩
    generalize mixed ns (3 + i) = n
    walk_at "go"
    refine newL (by simp) (fun l1 H1 n1 s1 a1 => ?_)
    walk_at "go"
    obtain ⟨w, hw, w8, w9⟩ := wide_at n
    refine st_ixL (n % 3) (at_seq a1) (by omega) hw ?_
    have x0 : 0 ≤ (n : Int) / 3 % (w : Int) := Int.emod_nonneg _ (by omega)
    have x1 : (n : Int) / 3 % (w : Int) < (w : Int) := Int.emod_lt_of_pos _ (by omega)
    walk_at "go"
    refine st_tyL (same_at s1 al) ?_
    walk_at "go"
    have y0 : 0 ≤ (n : Int) / 3000 % ((w : Int) - (n : Int) / 3 % (w : Int)) := Int.emod_nonneg _ (by omega)
    have y1 : (n : Int) / 3000 % ((w : Int) - (n : Int) / 3 % (w : Int)) < (w : Int) - (n : Int) / 3 % (w : Int) := Int.emod_lt_of_pos _ (by omega)
    generalize (n : Int) / 3000 % ((w : Int) - (n : Int) / 3 % (w : Int)) = y at y0 y1
    generalize (n : Int) / 3 % (w : Int) = x at x0 x1 y1
    refine newI (K := K) (ds := [.int x, .int (x + 1 + y)]) (.cons (.int _) (.cons (.int _) .nil)) (by simp) (fun u H2 s2 i2 => ?_)
    walk_at "go"
    refine st_app (same_at (s1.trans s2) al) (by omega) (fun H3 b3 a3 => ?_)
    walk_at "go"
    have s12 := s1.trans s2
    have ec : dC (x.toNat, (x + 1 + y).toNat) = .tuple [.int x, .int (x + 1 + y)] := by
      show PyData.tuple [.int ((x.toNat : Nat) : Int), .int (((x + 1 + y).toNat : Nat) : Int)] = _
      rw [Int.toNat_of_nonneg x0, Int.toNat_of_nonneg (by omega)]
    refine ⟨_, _, _, _, _, cs ++ [(x.toNat, (x + 1 + y).toNat)], rfl, same_bx (sH.trans s12) b3 n0, a3, ?_, by simp [hl], fun c hcm => ?_⟩
    · rw [List.map_append]
      refine ((xl.same s12).tx (bx_tx b3)).snoc ?_
      rw [ec]
      exact i2.tx (bx_tx b3)
    · rcases List.mem_append.mp hcm with h | h
      · exact hc c h
      · rw [List.mem_singleton.mp h]
        constructor <;> (dsimp only; omega)
  · obtain ⟨a, b, c, d, ys, cs, rfl, sH, al, xl, hl, hc⟩ := hP
    have hc1 : ∀ c ∈ cs, c.1 < 1000 ∧ c.2 < 1000 := fun c h => by
      have := hc c h
      omega
    have ly := xl.length
    rw [List.length_map] at ly
    have htr : dRd (textOf cs) = dP cs := dRd_some (text_read hc)
    have htl : (textOf cs).length ≤ 104 := by
      have := text_len hc1
      omega
    have hb1 := blank_one
    walk_at "go"
    refine ⟨⟨_, rfl⟩, ?_⟩
    walk_at "go"
    refine lc_l (σw := [some v, some (.ref l0), a, b, c, d, none, none, none, none, none]) (at_seq al) (fun _ => true) (fun i => .str (cT (cs.getD i (0, 0)))) rfl (by omega) (fun i y H1 hy s1 CT CF kT kF => ?_) (fun p H1 zs np s1 ap xp => ?_)
    · obtain ⟨dd, hd, iy⟩ := xl.get hy
      obtain ⟨c, hc', rfl⟩ := dCs_at hd
      have ed : cs.getD i (0, 0) = c := by simp [List.getD, hc']
      simp only [ed] at kT
      obtain ⟨c1, c2⟩ := hc1 c (List.mem_of_getElem? hc')
      have iy1 := iy.same s1
      walk_at "go"
      refine ⟨rfl, ?_⟩
      walk_at "go"
      refine st_ixI 0 iy1 rfl rfl (fun v1 i1 => ?_)
      obtain rfl := im_int i1
      walk_at "go"
      refine st_num c1 ?_
      walk_at "go"
      have l1 := numT_len c1
      have l2 := numT_len c2
      have e1 := colon_one
      refine st_addS (by omega) ?_
      walk_at "go"
      refine st_ixI 1 iy1 rfl rfl (fun v2 i2 => ?_)
      obtain rfl := im_int i2
      walk_at "go"
      refine st_num c2 ?_
      refine st_addS (by rw [Str.length_append]; omega) ?_
      exact kT trivial _ _ (Same.refl _) (.str _)
    · rw [ly, given_all, range_map (fun c => PyData.str (cT c)) (0, 0) cs] at xp
      have e2 : cs.map (fun c => PyData.str (cT c)) = (cs.map cT).map PyData.str := by
        rw [List.map_map]
        rfl
      rw [e2] at xp
      have ey := imAll_strs xp
      subst ey
      refine st_joinL (at_seq ap) (by have h1 := text_sum hc1; rw [blank_one, List.length_map]; omega) ?_
      have eT : Txt.join " " (cs.map cT) = textOf cs := rfl
      rw [eT]
      have sH1 := sH.trans s1
      have al1 := same_at s1 al
      have xl1 := xl.same s1
      walk_at "go"
      refine st_tupI (at_seq al1) xl1 (fun w1 H2 s2 i2 => ?_)
      refine ⟨w1, cs, rfl, i2, hc1, by omega, fun H3 s3 => ?_⟩
      walk_at "go"
      refine ⟨textOf cs, rfl, by omega, fun r1 H4 s4 i4 => ?_⟩
      rw [htr] at i4
      have s14 := s2.trans (s3.trans s4)
      walk_at "go"
      refine st_tupI (at_seq (same_at s14 al1)) (xl1.same s14) (fun w2 H5 s5 i5 => ?_)
      refine st_neD (i4.same s5).dp i5.dp ((sh_dP cs).shaped (by decide)) ((sh_dP cs).shaped (by decide)) ?_
      have s15 := s14.trans s5
      rw [show PyData.eqv (dP cs) (.tuple (cs.map dC)) = true from eqv_self (sh_dP cs)]
      walk_at "go"
      refine ⟨v, ns, 1, rfl, hs.tx (.of (sH1.trans s15)), ?_⟩
      generalize mixed ns 1 = n1
      walk_at "go"
      refine st_lenS (by omega) ?_
      walk_at "go"
      obtain ⟨c0, hc0⟩ : ∃ c0, (TL.tl ("0123456789: -+_.,\nO" : Str))[n1 / 5000 % 19]? = some c0 := ⟨_, List.getElem?_eq_getElem (by rw [← TL.len_tl, signs_size]; omega)⟩
      refine st_ixS (n1 / 5000 % 19) (by rw [signs_size]; omega) (by omega) hc0 ?_
      refine ⟨textOf cs, n1 % 5, n1 / 5 % ((textOf cs).length + 1), ⟨#[c0]⟩, by simp, by omega, by show 1 ≤ 10; omega, fun s H6 s6 ls => ?_⟩
      walk_at "go"
      refine ⟨s, rfl, by omega, fun r2 H7 s7 i7 => ?_⟩
      walk_at "go"
      refine ⟨s, rfl, by omega, fun r3 H8 s8 i8 => ?_⟩
      refine st_neD (i7.same s8).dp i8.dp ((sh_dRd s).shaped (by decide)) ((sh_dRd s).shaped (by decide)) ?_
      rw [eqv_self (sh_dRd s)]
      walk_at "go"
      refine ⟨⟨_, rfl⟩, ?_⟩
      walk_at "go"
      refine st_split blank_len (by omega) (fun p9 H9 n9 s9 a9 => ?_)
      have hsz := split_size (textOf cs) " "
      have hsum := split_sum (textOf cs)
      generalize Txt.split (textOf cs) " " = ws at a9 hsz hsum
      have s59 := s6.trans (s7.trans (s8.trans s9))
      walk_at "go"
      refine ⟨v, ns, 2, rfl, hs.tx (.of (sH1.trans (s15.trans s59))), ?_⟩
      generalize mixed ns 2 = n2
      walk_at "go"
      refine st_tyL a9 ?_
      walk_at "go"
      refine st_lenL (at_seq a9) ?_
      rw [List.length_map]
      walk_at "go"
      refine ⟨n2, rfl, fun o H10 s10 lo => ?_⟩
      walk_at "go"
      have z0 : 0 ≤ (n2 : Int) / 50000 % ((ws.length : Int) + 1) := Int.emod_nonneg _ (by omega)
      have z1 : (n2 : Int) / 50000 % ((ws.length : Int) + 1) < (ws.length : Int) + 1 := Int.emod_lt_of_pos _ (by omega)
      refine st_ins (same_at s10 a9) (by rw [List.length_map]; omega) ⟨z0, by omega⟩ (fun H11 b11 a11 => ?_)
      generalize ((n2 : Int) / 50000 % ((ws.length : Int) + 1)).toNat = k at a11
      have e11 : (ws.map V.str).take k ++ [V.str o] ++ (ws.map V.str).drop k = (ws.take k ++ [o] ++ ws.drop k).map V.str := by simp [List.map_take, List.map_drop]
      rw [e11] at a11
      have h12 := ins_sum ws k o
      have l12 : (ws.take k ++ [o] ++ ws.drop k).length ≤ ws.length + 1 := by
        simp only [List.length_append, List.length_take, List.length_drop, List.length_cons, List.length_nil]
        omega
      generalize ws.take k ++ [o] ++ ws.drop k = us at a11 h12 l12
      walk_at "go"
      refine ⟨⟨_, rfl⟩, ?_⟩
      walk_at "go"
      refine st_joinL (at_seq a11) (by rw [blank_one]; omega) ?_
      have lj := join_len us
      generalize Txt.join " " us = z at lj
      walk_at "go"
      refine ⟨z, rfl, by omega, fun r4 H12 s12 i12 => ?_⟩
      walk_at "go"
      refine ⟨z, rfl, by omega, fun r5 H13 s13 i13 => ?_⟩
      refine st_eqD (i12.same s13).dp i13.dp ((sh_dRd z).shaped (by decide)) ((sh_dRd z).shaped (by decide)) ?_
      rw [eqv_self (sh_dRd z)]
      walk_at "go"
      refine ⟨textOf cs, rfl, by omega, fun r6 H14 s14' i14 => ?_⟩
      rw [htr] at i14
      walk_at "go"
      have np1 : l0 ≠ p9 := at_ne (same_at (s15.trans (s6.trans (s7.trans s8))) al1) n9
      have al11 : At H11 l0 (.lst ys) := by
        rcases at_bx b11 (same_at (s15.trans (s59.trans s10)) al1) with h | h
        · exact absurd h np1
        · exact h
      have xl11 : ImAll K H11 ys (cs.map dC) := (xl1.same (s15.trans (s59.trans s10))).tx (bx_tx b11)
      have s1114 := s12.trans (s13.trans s14')
      refine st_tupI (at_seq (same_at s1114 al11)) (xl11.same s1114) (fun w3 H15 s15' i15 => ?_)
      refine st_eqD (i14.same s15').dp i15.dp ((sh_dP cs).shaped (by decide)) ((sh_dP cs).shaped (by decide)) ?_
      rw [show PyData.eqv (dP cs) (.tuple (cs.map dC)) = true from eqv_self (sh_dP cs)]
      exact q _
theorem law_start {a : Addr} {ns : List Int} {n : Nat} (_ : ns.length ≤ n) (hO : Only H) (hS : SqL K H a (ns.map V.int)) : sp_law K [.ref a] H (fun v _ => v = .bl true) fun _ _ _ => False := ⟨_, ns, rfl, scr_of hO hS, fun _ => rfl⟩
end
def topS (i : Nat) : Stmt := PySem.Challenge.pw_sortforge_k04_texts_of_programs.main.body.getD i (.Pass ⟨0, 0, 0, 0⟩)
abbrev s_written : Stmt := topS 8
theorem sc_written : FnScope n_written ["program"] (defScope s_written) := ⟨rfl, rfl, rfl, by decide +kernel, rfl, by decide +kernel, by decide +kernel⟩
theorem ok_written {P : Program} {w : World} {K : PySem.W.Frag} {mg : Str → Option Value} {base : Heap} {f : Addr} {fd : FuncData} (F : Fun K "written" "written" s_written f fd) (g : mg "written" = some (.ref f)) (B : Blt mg) :
    Cal P w K mg base 1 "written" (sp_written K) [] := cal_of (F.ok (k := 0) sc_written (fun vs H Q E h => len_written h) (fun cdv A outer s H vs Q E hr h => by
      exact ⟨t_written K, (pss_one (ps_ret (pe_join pe_str (pe_lc (own := [("low", 1), ("high", 2)]) (g := (gTup K 2 (gCons (gName 1) (gCons (gName 2) gNil)))) (tt := tYes) rfl sc_written.nd (pi_tup (pv 0)) (blkOk_by (own := [("low", 1), ("high", 2)]) (N := n_written) (sc := defScope s_written) (by decide +kernel)) (fun _ _ _ _ _ => (pg_tup rfl (pgs_cons (pg_name (i := 1) sc_written.nd rfl (by first | exact Or.inl rfl | exact Or.inr rfl)) (pgs_cons (pg_name (i := 2) sc_written.nd rfl (by first | exact Or.inl rfl | exact Or.inr rfl)) pgs_nil)))) (fun _ _ _ _ _ => pts_nil) (fun _ _ _ _ _ => (pe_op op_add_str (pe_op op_add_str (pe_callTy call_str_int (by rfl) B.str (by decide +kernel) (pa_cons (pv 1) pa_nil)) pe_str) (pe_callTy call_str_int (by rfl) B.str (by decide +kernel) (pa_cons (pv 2) pa_nil)))))))), rd_written h⟩)) g F.kp (F.binds (ps := ["program"]) fun _ _ _ _ _ _ us hl => match us, hl with | [_], _ => rfl)
abbrev s_number_of : Stmt := topS 9
theorem sc_number_of : FnScope n_number_of ["word"] (defScope s_number_of) := ⟨rfl, rfl, rfl, by decide +kernel, rfl, by decide +kernel, by decide +kernel⟩
theorem ok_number_of {P : Program} {w : World} {K : PySem.W.Frag} {mg : Str → Option Value} {base : Heap} {f : Addr} {fd : FuncData} (F : Fun K "number_of" "number_of" s_number_of f fd) (g : mg "number_of" = some (.ref f)) (B : Blt mg) (G_FIGURES : ∃ u, mg "FIGURES" = some u ∧ RelV (.str "0123456789") u) :
    Cal P w K mg base 1 "number_of" (sp_number_of K) [] := cal_of (F.ok (k := 0) sc_number_of (fun vs H Q E h => len_number_of h) (fun cdv A outer s H vs Q E hr h => by
      exact ⟨t_number_of K, (pss_cons (ps_if (PW.pt (pw_or (pt_cmpR op_eq (pe_callB call_len_str (by rfl) B.len (by decide +kernel) (pa_cons (pv 0) pa_nil)) pe_int (nomark _)) (pw_or (pt_cmpR op_gt (pe_callB call_len_str (by rfl) B.len (by decide +kernel) (pa_cons (pv 0) pa_nil)) pe_int (nomark _)) (pw_or1 (PW.pt (pw_and (pt_cmpR op_gt (pe_callB call_len_str (by rfl) B.len (by decide +kernel) (pa_cons (pv 0) pa_nil)) pe_int (nomark _)) (pw_and1 (pt_cmpR op_eq (pe_ix ix_str (pv 0) pe_int (fun _ _ => rfl)) pe_str (nomark _))))))))) (pss_one (ps_ret pe_non)) pss_nil)
    (pss_cons (ps_for PassesOwn.never rfl (pi_str (pv 0)) (pg_name (i := 1) sc_number_of.nd rfl (by first | exact Or.inl rfl | exact Or.inr rfl)) (pss_one (ps_if (pt_cmpR op_notIn_sign (pv 1) (C8.pe_gc (by rfl) G_FIGURES) rfl) (pss_one (ps_ret pe_non)) pss_nil)))
    (pss_one (ps_ret (pe_callTy call_int_str (by rfl) B.int (by decide +kernel) (pa_cons (pv 0) pa_nil)))))), rd_number_of h⟩)) g F.kp (F.binds (ps := ["word"]) fun _ _ _ _ _ _ us hl => match us, hl with | [_], _ => rfl)
abbrev s_read_word : Stmt := topS 10
theorem sc_read_word : FnScope n_read_word ["word"] (defScope s_read_word) := ⟨rfl, rfl, rfl, by decide +kernel, rfl, by decide +kernel, by decide +kernel⟩
theorem ok_read_word {P : Program} {w : World} {K : PySem.W.Frag} {mg : Str → Option Value} {base : Heap} {f : Addr} {fd : FuncData} (F : Fun K "read_word" "read_word" s_read_word f fd) (g : mg "read_word" = some (.ref f)) {C_BadText : Addr} (X_BadText : ExcK K mg "BadText" C_BadText) (B : Blt mg) (c_number_of : Cal P w K mg base 1 "number_of" (sp_number_of K) []) :
    CalX P w K mg base 2 "read_word" (sp_read_word K C_BadText) := calX_of (F.okX (k := 1) sc_read_word (fun vs H Q E h => len_read_word h) (fun cdv A outer s H vs Q E hr h => by
      exact ⟨t_read_word K C_BadText E, (pss_cons (ps_set (i := 1) sc_read_word.nd rfl (by first | exact Or.inl rfl | exact Or.inr rfl) (pe_split (pv 0) pe_str))
    (pss_cons (ps_if (pt_cmpR op_ne (pe_callB call_len_seq (by rfl) B.len (by decide +kernel) (pa_cons (pv 1) pa_nil)) pe_int (nomark _)) (pss_one (ps_raiseC (takes_of rfl rfl rfl rfl) X_BadText (by rfl))) pss_nil)
    (pss_cons (ps_set (i := 2) sc_read_word.nd rfl (by first | exact Or.inl rfl | exact Or.inr rfl) (C8.pe_c c_number_of hr (by decide) (by rfl) (pa_cons (pe_ix ix_list (pv 1) pe_int (fun _ _ => rfl)) pa_nil)))
    (pss_cons (ps_set (i := 3) sc_read_word.nd rfl (by first | exact Or.inl rfl | exact Or.inr rfl) (C8.pe_c c_number_of hr (by decide) (by rfl) (pa_cons (pe_ix ix_list (pv 1) pe_int (fun _ _ => rfl)) pa_nil)))
    (pss_cons (ps_if (PW.pt (pw_or (pt_cmpR op_isN (pv 2) pe_non (nomark _)) (pw_or (pt_cmpR op_isN (pv 3) pe_non (nomark _)) (pw_or1 (pt_cmpR op_ge (pv 2) (pv 3) (nomark _)))))) (pss_one (ps_raiseC (takes_of rfl rfl rfl rfl) X_BadText (by rfl))) pss_nil)
    (pss_one (ps_ret (pe_tup (pa_cons (pv 2) (pa_cons (pv 3) pa_nil)))))))))), rd_read_word h⟩)) g F.kp (F.binds (ps := ["word"]) fun _ _ _ _ _ _ us hl => match us, hl with | [_], _ => rfl)
abbrev s_read : Stmt := topS 11
theorem sc_read : FnScope n_read ["text"] (defScope s_read) := ⟨rfl, rfl, rfl, by decide +kernel, rfl, by decide +kernel, by decide +kernel⟩
theorem ok_read {P : Program} {w : World} {K : PySem.W.Frag} {mg : Str → Option Value} {base : Heap} {f : Addr} {fd : FuncData} (F : Fun K "read" "read" s_read f fd) (g : mg "read" = some (.ref f)) {C_BadText : Addr} (B : Blt mg) (c_read_word : CalX P w K mg base 2 "read_word" (sp_read_word K C_BadText)) :
    CalX P w K mg base 3 "read" (sp_read K C_BadText) := calX_of (F.okX (k := 2) sc_read (fun vs H Q E h => len_read h) (fun cdv A outer s H vs Q E hr h => by
      exact ⟨t_read K C_BadText E, (pss_cons (ps_if (pt_cmpR op_eq (pv 0) pe_str (nomark _)) (pss_one (ps_ret (pe_tup pa_nil))) pss_nil)
    (pss_one (ps_ret (pe_callTy call_tuple_of (by rfl) B.tuple (by decide +kernel) (pa_cons (pe_lcE (own := [("word", 1)]) (g := (gName 1)) (tt := tYes) (E := E) rfl rfl (takes_of rfl rfl rfl rfl) rfl sc_read.nd (pi_list (pe_split (pv 0) pe_str)) (blkOk_by (own := [("word", 1)]) (N := n_read) (sc := defScope s_read) (by decide +kernel)) (fun _ _ _ _ _ => (pg_name (i := 1) sc_read.nd rfl (by first | exact Or.inl rfl | exact Or.inr rfl))) (fun _ _ _ _ _ => pts_nil) (fun _ _ _ _ _ _ => (pe_xB c_read_word hr (by decide) (by rfl) (pa_cons (pv 1) pa_nil)))) pa_nil))))), rd_read h⟩)) g F.kp (F.binds (ps := ["text"]) fun _ _ _ _ _ _ us hl => match us, hl with | [_], _ => rfl)
abbrev s_law_cell_at : Stmt := topS 13
theorem sc_law_cell_at : FnScope n_law_cell_at ["_law_script", "_law_k"] (defScope s_law_cell_at) := ⟨rfl, rfl, rfl, by decide +kernel, rfl, by decide +kernel, by decide +kernel⟩
theorem ok_law_cell_at {P : Program} {w : World} {K : PySem.W.Frag} {mg : Str → Option Value} {base : Heap} {f : Addr} {fd : FuncData} (F : Fun K "_law_cell_at" "_law_cell_at" s_law_cell_at f fd) (g : mg "_law_cell_at" = some (.ref f)) (B : Blt mg) :
    Cal P w K mg base 1 "_law_cell_at" (sp_law_cell_at K) [] := cal_of (F.ok (k := 0) sc_law_cell_at (fun vs H Q E h => len_law_cell_at h) (fun cdv A outer s H vs Q E hr h => by
      exact ⟨t_law_cell_at K, (pss_cons (ps_if (pt_cmpR op_lt (pv 1) (pe_callB call_len_seq (by rfl) B.len (by decide +kernel) (pa_cons (pv 0) pa_nil)) (nomark _)) (pss_one (ps_ret (pe_ix ix_list (pv 0) (pv 1) (fun _ _ => rfl)))) pss_nil)
    (pss_one (ps_ret pe_int))), rd_law_cell_at h⟩)) g F.kp (F.binds (ps := ["_law_script", "_law_k"]) fun _ _ _ _ _ _ us hl => match us, hl with | [_, _], _ => rfl)
abbrev s_law_mixed : Stmt := topS 14
theorem sc_law_mixed : FnScope n_law_mixed ["_law_script", "_law_k"] (defScope s_law_mixed) := ⟨rfl, rfl, rfl, by decide +kernel, rfl, by decide +kernel, by decide +kernel⟩
theorem ok_law_mixed {P : Program} {w : World} {K : PySem.W.Frag} {mg : Str → Option Value} {base : Heap} {f : Addr} {fd : FuncData} (F : Fun K "_law_mixed" "_law_mixed" s_law_mixed f fd) (g : mg "_law_mixed" = some (.ref f)) (B : Blt mg) :
    Cal P w K mg base 1 "_law_mixed" (sp_law_mixed K) [] := cal_of (F.ok (k := 0) sc_law_mixed (fun vs H Q E h => len_law_mixed h) (fun cdv A outer s H vs Q E hr h => by
      exact ⟨t_law_mixed K, (pss_cons (ps_set (i := 2) sc_law_mixed.nd rfl (by first | exact Or.inl rfl | exact Or.inr rfl) pe_int)
    (pss_cons (ps_if (pt_cmpR op_gt (pe_callB call_len_seq (by rfl) B.len (by decide +kernel) (pa_cons (pv 0) pa_nil)) pe_int (nomark _)) (pss_one (ps_set (i := 2) sc_law_mixed.nd rfl (by first | exact Or.inl rfl | exact Or.inr rfl) (pe_ix ix_list (pv 0) (pe_op op_mod (pv 1) (pe_callB call_len_seq (by rfl) B.len (by decide +kernel) (pa_cons (pv 0) pa_nil))) (fun _ _ => rfl)))) pss_nil)
    (pss_cons (ps_set (i := 3) sc_law_mixed.nd rfl (by first | exact Or.inl rfl | exact Or.inr rfl) (pe_op op_mod (pe_op op_mul (pe_op op_add (pv 2) (pe_op op_mul pe_int (pv 1))) pe_int) pe_int))
    (pss_one (ps_ret (pe_op op_mod (pe_op op_mul (pv 3) (pv 3)) pe_int)))))), rd_law_mixed h⟩)) g F.kp (F.binds (ps := ["_law_script", "_law_k"]) fun _ _ _ _ _ _ us hl => match us, hl with | [_, _], _ => rfl)
abbrev s_law_number : Stmt := topS 15
theorem sc_law_number : FnScope n_law_number ["_law_word"] (defScope s_law_number) := ⟨rfl, rfl, rfl, by decide +kernel, rfl, by decide +kernel, by decide +kernel⟩
theorem ok_law_number {P : Program} {w : World} {K : PySem.W.Frag} {mg : Str → Option Value} {base : Heap} {f : Addr} {fd : FuncData} (F : Fun K "_law_number" "_law_number" s_law_number f fd) (g : mg "_law_number" = some (.ref f)) (B : Blt mg) :
    Cal P w K mg base 1 "_law_number" (sp_law_number K) [] := cal_of (F.ok (k := 0) sc_law_number (fun vs H Q E h => len_law_number h) (fun cdv A outer s H vs Q E hr h => by
      exact ⟨t_law_number K, (pss_cons (ps_if (PW.pt (pw_or (pt_cmpR op_lt (pe_callB call_len_str (by rfl) B.len (by decide +kernel) (pa_cons (pv 0) pa_nil)) pe_int (nomark _)) (pw_or (pt_cmpR op_gt (pe_callB call_len_str (by rfl) B.len (by decide +kernel) (pa_cons (pv 0) pa_nil)) pe_int (nomark _)) (pw_or1 (PW.pt (pw_and (pt_cmpR op_gt (pe_callB call_len_str (by rfl) B.len (by decide +kernel) (pa_cons (pv 0) pa_nil)) pe_int (nomark _)) (pw_and1 (pt_cmpR op_eq (pe_ix ix_str (pv 0) pe_int (fun _ _ => rfl)) pe_str (nomark _))))))))) (pss_one (ps_ret (pe_un un_neg pe_int))) pss_nil)
    (pss_cons (ps_for PassesOwn.never rfl (pi_str (pv 0)) (pg_name (i := 1) sc_law_number.nd rfl (by first | exact Or.inl rfl | exact Or.inr rfl)) (pss_one (ps_if (pt_cmpR op_notIn_sign (pv 1) pe_str rfl) (pss_one (ps_ret (pe_un un_neg pe_int))) pss_nil)))
    (pss_one (ps_ret (pe_callTy call_int_str (by rfl) B.int (by decide +kernel) (pa_cons (pv 0) pa_nil)))))), rd_law_number h⟩)) g F.kp (F.binds (ps := ["_law_word"]) fun _ _ _ _ _ _ us hl => match us, hl with | [_], _ => rfl)
abbrev s_law_due : Stmt := topS 16
theorem sc_law_due : FnScope n_law_due ["_law_text"] (defScope s_law_due) := ⟨rfl, rfl, rfl, by decide +kernel, rfl, by decide +kernel, by decide +kernel⟩
theorem ok_law_due {P : Program} {w : World} {K : PySem.W.Frag} {mg : Str → Option Value} {base : Heap} {f : Addr} {fd : FuncData} (F : Fun K "_law_due" "_law_due" s_law_due f fd) (g : mg "_law_due" = some (.ref f)) (B : Blt mg) (c_law_number : Cal P w K mg base 1 "_law_number" (sp_law_number K) []) :
    Cal P w K mg base 2 "_law_due" (sp_law_due K) [] := cal_of (F.ok (k := 1) sc_law_due (fun vs H Q E h => len_law_due h) (fun cdv A outer s H vs Q E hr h => by
      exact ⟨t_law_due K, (pss_cons (ps_if (pt_cmpR op_eq (pv 0) pe_str (nomark _)) (pss_one (ps_ret (pe_tup pa_nil))) pss_nil)
    (pss_cons (ps_set (i := 1) sc_law_due.nd rfl (by first | exact Or.inl rfl | exact Or.inr rfl) (pe_lst pa_nil))
    (pss_cons (ps_for PassesOwn.never rfl (pi_list (pe_split (pv 0) pe_str)) (pg_name (i := 2) sc_law_due.nd rfl (by first | exact Or.inl rfl | exact Or.inr rfl)) (pss_cons (ps_set (i := 3) sc_law_due.nd rfl (by first | exact Or.inl rfl | exact Or.inr rfl) (pe_split (pv 2) pe_str))
    (pss_cons (ps_if (PW.pt (pw_or (pt_cmpR op_ne (pe_callB call_len_seq (by rfl) B.len (by decide +kernel) (pa_cons (pv 3) pa_nil)) pe_int (nomark _)) (pw_or (pt_cmpR op_lt (C8.pe_c c_law_number hr (by decide) (by rfl) (pa_cons (pe_ix ix_list (pv 3) pe_int (fun _ _ => rfl)) pa_nil)) pe_int (nomark _)) (pw_or1 (pt_cmpR op_le (C8.pe_c c_law_number hr (by decide) (by rfl) (pa_cons (pe_ix ix_list (pv 3) pe_int (fun _ _ => rfl)) pa_nil)) (C8.pe_c c_law_number hr (by decide) (by rfl) (pa_cons (pe_ix ix_list (pv 3) pe_int (fun _ _ => rfl)) pa_nil)) (nomark _)))))) (pss_one (ps_ret pe_non)) pss_nil)
    (pss_one (ps_expr (pe_bm PySem.F.plainAttrs_list PySem.F.slot_list_append PySem.F.type_list_append mt_append (pv 1) (pa_cons (pe_tup (pa_cons (C8.pe_c c_law_number hr (by decide) (by rfl) (pa_cons (pe_ix ix_list (pv 3) pe_int (fun _ _ => rfl)) pa_nil)) (pa_cons (C8.pe_c c_law_number hr (by decide) (by rfl) (pa_cons (pe_ix ix_list (pv 3) pe_int (fun _ _ => rfl)) pa_nil)) pa_nil))) pa_nil)))))))
    (pss_one (ps_ret (pe_callTy call_tuple_of (by rfl) B.tuple (by decide +kernel) (pa_cons (pv 1) pa_nil))))))), rd_law_due h⟩)) g F.kp (F.binds (ps := ["_law_text"]) fun _ _ _ _ _ _ us hl => match us, hl with | [_], _ => rfl)
abbrev s_law_read : Stmt := topS 17
theorem sc_law_read : FnScope n_law_read ["_law_text"] (defScope s_law_read) := ⟨rfl, rfl, rfl, by decide +kernel, rfl, by decide +kernel, by decide +kernel⟩
theorem ok_law_read {P : Program} {w : World} {K : PySem.W.Frag} {mg : Str → Option Value} {base : Heap} {f : Addr} {fd : FuncData} (F : Fun K "_law_read" "_law_read" s_law_read f fd) (g : mg "_law_read" = some (.ref f)) {C_ForgeError : Addr} {C_BadProgram : Addr} {C_BadRow : Addr} {C_NoRule : Addr} {C_BadText : Addr} (X_ForgeError : ExcK K mg "ForgeError" C_ForgeError) (X_BadProgram : ExcK K mg "BadProgram" C_BadProgram) (X_BadRow : ExcK K mg "BadRow" C_BadRow) (X_NoRule : ExcK K mg "NoRule" C_NoRule) (X_BadText : ExcK K mg "BadText" C_BadText) (CK : CaughtK K C_BadText C_ForgeError) (A_BadProgram : subRef K C_BadText C_BadProgram false) (A_BadRow : subRef K C_BadText C_BadRow false) (A_NoRule : subRef K C_BadText C_NoRule false) (B : Blt mg) (c_read : CalX P w K mg base 3 "read" (sp_read K C_BadText)) :
    Cal P w K mg base 4 "_law_read" (sp_law_read K) [] := cal_of (F.ok (k := 3) sc_law_read (fun vs H Q E h => len_law_read h) (fun cdv A outer s H vs Q E hr h => by
      exact ⟨t_law_read K C_ForgeError C_BadProgram C_BadRow C_NoRule C_BadText, (pss_cons (ps_try_as (i := 1) (c := .ref C_ForgeError) (tb := fun W => t_law_read_body K C_ForgeError C_BadProgram C_BadRow C_NoRule C_BadText W) (ts := fun a cls d => tWhen (cls = .ref C_BadText ∧ d = none) (t_law_read_suite K C_ForgeError C_BadProgram C_BadRow C_NoRule C_BadText a)) (Wout := fun _ _ _ _ => False) rfl rfl sc_law_read.nd rfl rfl ⟨rfl, by decide, .inl X_ForgeError.g⟩ takes0 (fun W pn xe tk _ => (pss_one (ps_ret (pe_xW c_read hr (by decide) (by rfl) tk (pa_cons (pv 0) pa_nil))))) (fun a oe cls d pn hz hf => pss_when fun q => by
      obtain ⟨q1, q2⟩ := q
      subst q1 q2
      exact (pss_cons (ps_if (PW.pt (pw_or (pt_val (pe_callB (call_isE CK.ec hz hf) (by rfl) B.isinstance (by decide +kernel) (pa_cons (pv 1) (pa_cons (pe_glob (v := .ref C_BadProgram) (by rfl) X_BadProgram.g rfl) pa_nil)))) (pw_or (pt_val (pe_callB (call_isE CK.ec hz hf) (by rfl) B.isinstance (by decide +kernel) (pa_cons (pv 1) (pa_cons (pe_glob (v := .ref C_BadRow) (by rfl) X_BadRow.g rfl) pa_nil)))) (pw_or1 (pt_val (pe_callB (call_isE CK.ec hz hf) (by rfl) B.isinstance (by decide +kernel) (pa_cons (pv 1) (pa_cons (pe_glob (v := .ref C_NoRule) (by rfl) X_NoRule.g rfl) pa_nil)))))))) (pss_one (ps_ret pe_str)) pss_nil)
    (pss_one (ps_if (PW.pt (pw_and (pt_val (pe_callB (call_isE CK.ec hz hf) (by rfl) B.isinstance (by decide +kernel) (pa_cons (pv 1) (pa_cons (pe_bltn (v := .ty "ValueError") (by rfl) B.ValueError (by decide +kernel) rfl) pa_nil)))) (pw_and1 (pt_val (pe_callB (call_isE CK.ec hz hf) (by rfl) B.isinstance (by decide +kernel) (pa_cons (pv 1) (pa_cons (pe_glob (v := .ref C_BadText) (by rfl) X_BadText.g rfl) pa_nil))))))) (pss_one (ps_ret pe_non)) pss_nil)))))
    (pss_one (ps_ret pe_str))), rd_law_read CK X_BadProgram A_BadProgram X_BadRow A_BadRow X_NoRule A_NoRule h⟩)) g F.kp (F.binds (ps := ["_law_text"]) fun _ _ _ _ _ _ us hl => match us, hl with | [_], _ => rfl)
abbrev s_law_spoilt : Stmt := topS 18
theorem sc_law_spoilt : FnScope n_law_spoilt ["_law_text", "_law_way", "_law_at", "_law_sign"] (defScope s_law_spoilt) := ⟨rfl, rfl, rfl, by decide +kernel, rfl, by decide +kernel, by decide +kernel⟩
theorem ok_law_spoilt {P : Program} {w : World} {K : PySem.W.Frag} {mg : Str → Option Value} {base : Heap} {f : Addr} {fd : FuncData} (F : Fun K "_law_spoilt" "_law_spoilt" s_law_spoilt f fd) (g : mg "_law_spoilt" = some (.ref f)) (B : Blt mg) :
    Cal P w K mg base 1 "_law_spoilt" (sp_law_spoilt K) [] := cal_of (F.ok (k := 0) sc_law_spoilt (fun vs H Q E h => len_law_spoilt h) (fun cdv A outer s H vs Q E hr h => by
      exact ⟨t_law_spoilt K, (pss_cons (ps_if (pt_cmpR op_eq (pv 1) pe_int (nomark _)) (pss_one (ps_ret (pe_op op_add_str (pe_slice sl_str (pv 0) po_none (po_some (pv 2))) (pe_slice sl_str (pv 0) (po_some (pe_op op_add (pv 2) pe_int)) po_none)))) pss_nil)
    (pss_cons (ps_if (pt_cmpR op_eq (pv 1) pe_int (nomark _)) (pss_one (ps_ret (pe_op op_add_str (pe_op op_add_str (pe_slice sl_str (pv 0) po_none (po_some (pv 2))) (pv 3)) (pe_slice sl_str (pv 0) (po_some (pv 2)) po_none)))) pss_nil)
    (pss_cons (ps_if (pt_cmpR op_eq (pv 1) pe_int (nomark _)) (pss_one (ps_ret (pe_op op_add_str (pe_op op_add_str (pe_slice sl_str (pv 0) po_none (po_some (pv 2))) (pv 3)) (pe_slice sl_str (pv 0) (po_some (pe_op op_add (pv 2) pe_int)) po_none)))) pss_nil)
    (pss_cons (ps_if (pt_cmpR op_eq (pv 1) pe_int (nomark _)) (pss_one (ps_ret (pe_op op_add_str pe_str (pv 0)))) pss_nil)
    (pss_one (ps_ret (pe_op op_add_str (pv 0) (pe_ix ix_list (pe_lst (pa_cons pe_str (pa_cons pe_str (pa_cons pe_str (pa_cons pe_str pa_nil))))) (pe_op op_mod (pv 2) pe_int) (fun _ _ => rfl))))))))), rd_law_spoilt h⟩)) g F.kp (F.binds (ps := ["_law_text", "_law_way", "_law_at", "_law_sign"]) fun _ _ _ _ _ _ us hl => match us, hl with | [_, _, _, _], _ => rfl)
abbrev s_law_odd : Stmt := topS 19
theorem sc_law_odd : FnScope n_law_odd ["_law_number_here"] (defScope s_law_odd) := ⟨rfl, rfl, rfl, by decide +kernel, rfl, by decide +kernel, by decide +kernel⟩
theorem ok_law_odd {P : Program} {w : World} {K : PySem.W.Frag} {mg : Str → Option Value} {base : Heap} {f : Addr} {fd : FuncData} (F : Fun K "_law_odd" "_law_odd" s_law_odd f fd) (g : mg "_law_odd" = some (.ref f)) (B : Blt mg) :
    Cal P w K mg base 1 "_law_odd" (sp_law_odd K) [] := cal_of (F.ok (k := 0) sc_law_odd (fun vs H Q E h => len_law_odd h) (fun cdv A outer s H vs Q E hr h => by
      exact ⟨t_law_odd K, (pss_cons (ps_set (i := 1) sc_law_odd.nd rfl (by first | exact Or.inl rfl | exact Or.inr rfl) (pe_callTy call_str_int (by rfl) B.str (by decide +kernel) (pa_cons (pe_op op_mod (pv 0) pe_int) pa_nil)))
    (pss_cons (ps_set (i := 2) sc_law_odd.nd rfl (by first | exact Or.inl rfl | exact Or.inr rfl) (pe_callTy call_str_int (by rfl) B.str (by decide +kernel) (pa_cons (pe_op op_add pe_int (pe_op op_mod (pe_op op_fdiv (pv 0) pe_int) pe_int)) pa_nil)))
    (pss_cons (ps_set (i := 3) sc_law_odd.nd rfl (by first | exact Or.inl rfl | exact Or.inr rfl) (pe_lst (pa_cons (pe_op op_add_str (pe_op op_add_str (pv 1) pe_str) (pv 1)) (pa_cons (pe_op op_add_str (pe_op op_add_str (pv 2) pe_str) (pv 1)) (pa_cons (pe_op op_add_str (pe_op op_add_str (pe_op op_add_str pe_str (pv 1)) pe_str) (pv 2)) (pa_cons (pe_op op_add_str (pe_op op_add_str (pv 1) pe_str) (pv 2)) (pa_cons (pe_op op_add_str (pv 1) pe_str) (pa_cons (pv 1) (pa_cons pe_str pa_nil)))))))))
    (pss_cons (ps_set (i := 3) sc_law_odd.nd rfl (by first | exact Or.inl rfl | exact Or.inr rfl) (pe_op op_cat (pv 3) (pe_lst (pa_cons (pe_op op_add_str (pe_op op_add_str (pe_op op_add_str (pv 1) pe_str) (pv 2)) pe_str) (pa_cons (pe_op op_add_str pe_str (pv 2)) (pa_cons (pe_op op_add_str (pv 1) pe_str) (pa_cons (pe_op op_add_str (pe_op op_add_str (pv 1) pe_str) (pv 2)) (pa_cons (pe_op op_add_str pe_str (pv 2)) (pa_cons (pe_op op_add_str (pe_op op_add_str (pv 1) pe_str) (pv 2)) pa_nil)))))))))
    (pss_one (ps_ret (pe_ix ix_list (pe_op op_cat (pv 3) (pe_lst (pa_cons (pe_op op_add_str (pe_op op_add_str (pv 1) pe_str) (pv 2)) (pa_cons pe_str (pa_cons (pe_op op_add_str (pe_op op_add_str (pv 1) pe_str) (pv 2)) (pa_cons (pe_op op_add_str (pv 1) pe_str) (pa_cons (pe_op op_add_str pe_str (pv 2)) pa_nil))))))) (pe_op op_mod (pe_op op_fdiv (pv 0) pe_int) pe_int) (fun _ _ => rfl)))))))), rd_law_odd h⟩)) g F.kp (F.binds (ps := ["_law_number_here"]) fun _ _ _ _ _ _ us hl => match us, hl with | [_], _ => rfl)
abbrev s_law : Stmt := topS 20
theorem sc_law : FnScope n_law ["_law_script"] (defScope s_law) := ⟨rfl, rfl, rfl, by decide +kernel, rfl, by decide +kernel, by decide +kernel⟩
theorem fn_law {P : Program} {w : World} {K : PySem.W.Frag} {mg : Str → Option Value} {base : Heap} {f : Addr} {fd : FuncData} (F : Fun K "law" "law" s_law f fd) (B : Blt mg) (c_law_cell_at : Cal P w K mg base 1 "_law_cell_at" (sp_law_cell_at K) []) (c_law_due : Cal P w K mg base 2 "_law_due" (sp_law_due K) []) (c_law_mixed : Cal P w K mg base 1 "_law_mixed" (sp_law_mixed K) []) (c_law_odd : Cal P w K mg base 1 "_law_odd" (sp_law_odd K) []) (c_law_read : Cal P w K mg base 4 "_law_read" (sp_law_read K) []) (c_law_spoilt : Cal P w K mg base 1 "_law_spoilt" (sp_law_spoilt K) []) (c_written : Cal P w K mg base 1 "written" (sp_written K) []) :
    FnOk P w K mg base CX0 5 f fd ["_law_script"] (sp_law K) := F.ok (k := 4) sc_law (fun vs H Q E h => len_law h) (fun cdv A outer s H vs Q E hr h => by
      exact ⟨t_law K, (pss_cons (ps_set (i := 1) sc_law.nd rfl (by first | exact Or.inl rfl | exact Or.inr rfl) (pe_lst pa_nil))
    (pss_cons (ps_for PassesOwn.never rfl (pi_range1 (by rfl) B.range (pa_cons (pe_op op_mod (C8.pe_c c_law_cell_at hr (by decide) (by rfl) (pa_cons (pv 0) (pa_cons pe_int pa_nil))) pe_int) pa_nil)) (pg_name (i := 2) sc_law.nd rfl (by first | exact Or.inl rfl | exact Or.inr rfl)) (pss_cons (ps_set (i := 3) sc_law.nd rfl (by first | exact Or.inl rfl | exact Or.inr rfl) (C8.pe_c c_law_mixed hr (by decide) (by rfl) (pa_cons (pv 0) (pa_cons (pe_op op_add pe_int (pv 2)) pa_nil))))
    (pss_cons (ps_set (i := 4) sc_law.nd rfl (by first | exact Or.inl rfl | exact Or.inr rfl) (pe_ix ix_list (pe_lst (pa_cons pe_int (pa_cons pe_int (pa_cons pe_int pa_nil)))) (pe_op op_mod (pv 3) pe_int) (fun _ _ => rfl)))
    (pss_cons (ps_set (i := 5) sc_law.nd rfl (by first | exact Or.inl rfl | exact Or.inr rfl) (pe_op op_mod (pe_op op_fdiv (pv 3) pe_int) (pv 4)))
    (pss_one (ps_expr (pe_bm PySem.F.plainAttrs_list PySem.F.slot_list_append PySem.F.type_list_append mt_append (pv 1) (pa_cons (pe_tup (pa_cons (pv 5) (pa_cons (pe_op op_add (pe_op op_add (pv 5) pe_int) (pe_op op_mod (pe_op op_fdiv (pv 3) pe_int) (pe_op op_sub (pv 4) (pv 5)))) pa_nil))) pa_nil))))))))
    (pss_cons (ps_set (i := 6) sc_law.nd rfl (by first | exact Or.inl rfl | exact Or.inr rfl) (pe_join pe_str (pe_lc (own := [("_law_one", 10)]) (g := (gName 10)) (tt := tYes) rfl sc_law.nd (pi_list (pv 1)) (blkOk_by (own := [("_law_one", 10)]) (N := n_law) (sc := defScope s_law) (by decide +kernel)) (fun _ _ _ _ _ => (pg_name (i := 10) sc_law.nd rfl (by first | exact Or.inl rfl | exact Or.inr rfl))) (fun _ _ _ _ _ => pts_nil) (fun _ _ _ _ _ => (pe_op op_add_str (pe_op op_add_str (pe_callTy call_str_int (by rfl) B.str (by decide +kernel) (pa_cons (pe_ix ix_tup (pv 10) pe_int (fun _ _ => rfl)) pa_nil)) pe_str) (pe_callTy call_str_int (by rfl) B.str (by decide +kernel) (pa_cons (pe_ix ix_tup (pv 10) pe_int (fun _ _ => rfl)) pa_nil)))))))
    (pss_cons (ps_if (PW.pt (pw_or (pt_cmpR op_ne (C8.pe_c c_written hr (by decide) (by rfl) (pa_cons (pe_callTy call_tuple_of (by rfl) B.tuple (by decide +kernel) (pa_cons (pv 1) pa_nil)) pa_nil)) (pv 6) (nomark _)) (pw_or1 (pt_cmpR (op_neD hr.units) (C8.pe_c c_law_read hr (by decide) (by rfl) (pa_cons (pv 6) pa_nil)) (pe_callTy call_tuple_of (by rfl) B.tuple (by decide +kernel) (pa_cons (pv 1) pa_nil)) (nomark _))))) (pss_one (ps_ret pe_bl)) pss_nil)
    (pss_cons (ps_set (i := 7) sc_law.nd rfl (by first | exact Or.inl rfl | exact Or.inr rfl) pe_str)
    (pss_cons (ps_set (i := 3) sc_law.nd rfl (by first | exact Or.inl rfl | exact Or.inr rfl) (C8.pe_c c_law_mixed hr (by decide) (by rfl) (pa_cons (pv 0) (pa_cons pe_int pa_nil))))
    (pss_cons (ps_set (i := 8) sc_law.nd rfl (by first | exact Or.inl rfl | exact Or.inr rfl) (C8.pe_c c_law_spoilt hr (by decide) (by rfl) (pa_cons (pv 6) (pa_cons (pe_op op_mod (pv 3) pe_int) (pa_cons (pe_op op_mod (pe_op op_fdiv (pv 3) pe_int) (pe_op op_add (pe_callB call_len_str (by rfl) B.len (by decide +kernel) (pa_cons (pv 6) pa_nil)) pe_int)) (pa_cons (pe_ix ix_str (pv 7) (pe_op op_mod (pe_op op_fdiv (pv 3) pe_int) pe_int) (fun _ _ => rfl)) pa_nil))))))
    (pss_cons (ps_if (pt_cmpR (op_neD hr.units) (C8.pe_c c_law_read hr (by decide) (by rfl) (pa_cons (pv 8) pa_nil)) (C8.pe_c c_law_due hr (by decide) (by rfl) (pa_cons (pv 8) pa_nil)) (nomark _)) (pss_one (ps_ret pe_bl)) pss_nil)
    (pss_cons (ps_set (i := 9) sc_law.nd rfl (by first | exact Or.inl rfl | exact Or.inr rfl) (pe_split (pv 6) pe_str))
    (pss_cons (ps_set (i := 3) sc_law.nd rfl (by first | exact Or.inl rfl | exact Or.inr rfl) (C8.pe_c c_law_mixed hr (by decide) (by rfl) (pa_cons (pv 0) (pa_cons pe_int pa_nil))))
    (pss_cons (ps_expr (pe_bm PySem.F.plainAttrs_list PySem.F.slot_list_insert PySem.F.type_list_insert mt_insert (pv 9) (pa_cons (pe_op op_mod (pe_op op_fdiv (pv 3) pe_int) (pe_op op_add (pe_callB call_len_seq (by rfl) B.len (by decide +kernel) (pa_cons (pv 9) pa_nil)) pe_int)) (pa_cons (C8.pe_c c_law_odd hr (by decide) (by rfl) (pa_cons (pv 3) pa_nil)) pa_nil))))
    (pss_cons (ps_set (i := 8) sc_law.nd rfl (by first | exact Or.inl rfl | exact Or.inr rfl) (pe_join pe_str (pv 9)))
    (pss_one (ps_ret (pe_and (pe_cmpR (op_eqD hr.units) (C8.pe_c c_law_read hr (by decide) (by rfl) (pa_cons (pv 8) pa_nil)) (C8.pe_c c_law_due hr (by decide) (by rfl) (pa_cons (pv 8) pa_nil)) (nomark _)) (pe_one (pe_cmpR (op_eqD hr.units) (C8.pe_c c_law_read hr (by decide) (by rfl) (pa_cons (pv 6) pa_nil)) (pe_callTy call_tuple_of (by rfl) B.tuple (by decide +kernel) (pa_cons (pv 1) pa_nil)) (nomark _)))))))))))))))))), rd_law h⟩)
theorem all_mk {l : PySem.W.OpenLaw} {w : World} {K : PySem.W.Frag} {h : Heap} {mg : Str → Option Value} {fa : Addr} (X : K.In h) (G : h.Ns mainGlobals mg) (hfa : mg "law" = some (.ref fa))
    {f0 : Addr} {od0 an0 : Option Addr} {sl0 : Array (Option Value)} {oc0 kV0 dc0 pm0 cd0 ct0 : Value}
    {f1 : Addr} {od1 an1 : Option Addr} {sl1 : Array (Option Value)} {oc1 kV1 dc1 pm1 cd1 ct1 : Value}
    {f2 : Addr} {od2 an2 : Option Addr} {sl2 : Array (Option Value)} {oc2 kV2 dc2 pm2 cd2 ct2 : Value}
    {f3 : Addr} {od3 an3 : Option Addr} {sl3 : Array (Option Value)} {oc3 kV3 dc3 pm3 cd3 ct3 : Value}
    {f4 : Addr} {od4 an4 : Option Addr} {sl4 : Array (Option Value)} {oc4 kV4 dc4 pm4 cd4 ct4 : Value}
    {f5 : Addr} {od5 an5 : Option Addr} {sl5 : Array (Option Value)} {oc5 kV5 dc5 pm5 cd5 ct5 : Value}
    {f6 : Addr} {od6 an6 : Option Addr} {sl6 : Array (Option Value)} {oc6 kV6 dc6 pm6 cd6 ct6 : Value}
    {f7 : Addr} {od7 an7 : Option Addr} {sl7 : Array (Option Value)} {oc7 kV7 dc7 pm7 cd7 ct7 : Value}
    {f8 : Addr} {od8 an8 : Option Addr} {sl8 : Array (Option Value)} {oc8 kV8 dc8 pm8 cd8 ct8 : Value}
    {f9 : Addr} {od9 an9 : Option Addr} {sl9 : Array (Option Value)} {oc9 kV9 dc9 pm9 cd9 ct9 : Value}
    {f10 : Addr} {od10 an10 : Option Addr} {sl10 : Array (Option Value)} {oc10 kV10 dc10 pm10 cd10 ct10 : Value}
    {f11 : Addr} {od11 an11 : Option Addr} {sl11 : Array (Option Value)} {oc11 kV11 dc11 pm11 cd11 ct11 : Value}
    {C0 : Addr}
    {C1 : Addr}
    {C2 : Addr}
    {C3 : Addr}
    {C4 : Addr}
    (a0 : PySem.W.nsIn K mainGlobals "written" = some (some (.ref f0))) (l0 : K.lookup f0 = some ⟨oc0, od0, .func (PySem.W.fnOf "written" "written" (defArgs s_written) (defBody s_written) (defScope s_written) .none kV0 dc0 pm0 an0 cd0 ct0), sl0⟩) (c0 : PySem.W.codeIn K cd0 "written" = true) (k0 : PySem.W.keepIn K (.ref f0) = true)
    (a1 : PySem.W.nsIn K mainGlobals "number_of" = some (some (.ref f1))) (l1 : K.lookup f1 = some ⟨oc1, od1, .func (PySem.W.fnOf "number_of" "number_of" (defArgs s_number_of) (defBody s_number_of) (defScope s_number_of) .none kV1 dc1 pm1 an1 cd1 ct1), sl1⟩) (c1 : PySem.W.codeIn K cd1 "number_of" = true) (k1 : PySem.W.keepIn K (.ref f1) = true)
    (a2 : PySem.W.nsIn K mainGlobals "_law_cell_at" = some (some (.ref f2))) (l2 : K.lookup f2 = some ⟨oc2, od2, .func (PySem.W.fnOf "_law_cell_at" "_law_cell_at" (defArgs s_law_cell_at) (defBody s_law_cell_at) (defScope s_law_cell_at) .none kV2 dc2 pm2 an2 cd2 ct2), sl2⟩) (c2 : PySem.W.codeIn K cd2 "_law_cell_at" = true) (k2 : PySem.W.keepIn K (.ref f2) = true)
    (a3 : PySem.W.nsIn K mainGlobals "_law_mixed" = some (some (.ref f3))) (l3 : K.lookup f3 = some ⟨oc3, od3, .func (PySem.W.fnOf "_law_mixed" "_law_mixed" (defArgs s_law_mixed) (defBody s_law_mixed) (defScope s_law_mixed) .none kV3 dc3 pm3 an3 cd3 ct3), sl3⟩) (c3 : PySem.W.codeIn K cd3 "_law_mixed" = true) (k3 : PySem.W.keepIn K (.ref f3) = true)
    (a4 : PySem.W.nsIn K mainGlobals "_law_number" = some (some (.ref f4))) (l4 : K.lookup f4 = some ⟨oc4, od4, .func (PySem.W.fnOf "_law_number" "_law_number" (defArgs s_law_number) (defBody s_law_number) (defScope s_law_number) .none kV4 dc4 pm4 an4 cd4 ct4), sl4⟩) (c4 : PySem.W.codeIn K cd4 "_law_number" = true) (k4 : PySem.W.keepIn K (.ref f4) = true)
    (a5 : PySem.W.nsIn K mainGlobals "_law_spoilt" = some (some (.ref f5))) (l5 : K.lookup f5 = some ⟨oc5, od5, .func (PySem.W.fnOf "_law_spoilt" "_law_spoilt" (defArgs s_law_spoilt) (defBody s_law_spoilt) (defScope s_law_spoilt) .none kV5 dc5 pm5 an5 cd5 ct5), sl5⟩) (c5 : PySem.W.codeIn K cd5 "_law_spoilt" = true) (k5 : PySem.W.keepIn K (.ref f5) = true)
    (a6 : PySem.W.nsIn K mainGlobals "_law_odd" = some (some (.ref f6))) (l6 : K.lookup f6 = some ⟨oc6, od6, .func (PySem.W.fnOf "_law_odd" "_law_odd" (defArgs s_law_odd) (defBody s_law_odd) (defScope s_law_odd) .none kV6 dc6 pm6 an6 cd6 ct6), sl6⟩) (c6 : PySem.W.codeIn K cd6 "_law_odd" = true) (k6 : PySem.W.keepIn K (.ref f6) = true)
    (a7 : PySem.W.nsIn K mainGlobals "read_word" = some (some (.ref f7))) (l7 : K.lookup f7 = some ⟨oc7, od7, .func (PySem.W.fnOf "read_word" "read_word" (defArgs s_read_word) (defBody s_read_word) (defScope s_read_word) .none kV7 dc7 pm7 an7 cd7 ct7), sl7⟩) (c7 : PySem.W.codeIn K cd7 "read_word" = true) (k7 : PySem.W.keepIn K (.ref f7) = true)
    (a8 : PySem.W.nsIn K mainGlobals "_law_due" = some (some (.ref f8))) (l8 : K.lookup f8 = some ⟨oc8, od8, .func (PySem.W.fnOf "_law_due" "_law_due" (defArgs s_law_due) (defBody s_law_due) (defScope s_law_due) .none kV8 dc8 pm8 an8 cd8 ct8), sl8⟩) (c8 : PySem.W.codeIn K cd8 "_law_due" = true) (k8 : PySem.W.keepIn K (.ref f8) = true)
    (a9 : PySem.W.nsIn K mainGlobals "read" = some (some (.ref f9))) (l9 : K.lookup f9 = some ⟨oc9, od9, .func (PySem.W.fnOf "read" "read" (defArgs s_read) (defBody s_read) (defScope s_read) .none kV9 dc9 pm9 an9 cd9 ct9), sl9⟩) (c9 : PySem.W.codeIn K cd9 "read" = true) (k9 : PySem.W.keepIn K (.ref f9) = true)
    (a10 : PySem.W.nsIn K mainGlobals "_law_read" = some (some (.ref f10))) (l10 : K.lookup f10 = some ⟨oc10, od10, .func (PySem.W.fnOf "_law_read" "_law_read" (defArgs s_law_read) (defBody s_law_read) (defScope s_law_read) .none kV10 dc10 pm10 an10 cd10 ct10), sl10⟩) (c10 : PySem.W.codeIn K cd10 "_law_read" = true) (k10 : PySem.W.keepIn K (.ref f10) = true)
    (a11 : PySem.W.nsIn K mainGlobals "law" = some (some (.ref f11))) (l11 : K.lookup f11 = some ⟨oc11, od11, .func (PySem.W.fnOf "law" "law" (defArgs s_law) (defBody s_law) (defScope s_law) .none kV11 dc11 pm11 an11 cd11 ct11), sl11⟩) (c11 : PySem.W.codeIn K cd11 "law" = true) (k11 : PySem.W.keepIn K (.ref f11) = true)
    (e0g : PySem.W.nsIn K mainGlobals "ForgeError" = some (some (.ref C0))) (e0k : PySem.W.keepIn K (.ref C0) = true) (e0x : PySem.W.excIn K C0 [.type "ValueError", .type "Exception", .type "BaseException", .type "object"] "ValueError.__new__" = true) (e0s : PySem.W.subIn K (.ref C0) (.type "BaseException") = some true) (e0t : PySem.W.typeIn K (.ref C0) = some (.type "type")) (e0h : PySem.W.hasDictIn K C0 = true)
    (e1g : PySem.W.nsIn K mainGlobals "BadProgram" = some (some (.ref C1))) (e1k : PySem.W.keepIn K (.ref C1) = true) (e1x : PySem.W.excIn K C1 [.type "ValueError", .type "Exception", .type "BaseException", .type "object"] "ValueError.__new__" = true) (e1s : PySem.W.subIn K (.ref C1) (.type "BaseException") = some true) (e1t : PySem.W.typeIn K (.ref C1) = some (.type "type")) (e1h : PySem.W.hasDictIn K C1 = true)
    (e2g : PySem.W.nsIn K mainGlobals "BadRow" = some (some (.ref C2))) (e2k : PySem.W.keepIn K (.ref C2) = true) (e2x : PySem.W.excIn K C2 [.type "ValueError", .type "Exception", .type "BaseException", .type "object"] "ValueError.__new__" = true) (e2s : PySem.W.subIn K (.ref C2) (.type "BaseException") = some true) (e2t : PySem.W.typeIn K (.ref C2) = some (.type "type")) (e2h : PySem.W.hasDictIn K C2 = true)
    (e3g : PySem.W.nsIn K mainGlobals "NoRule" = some (some (.ref C3))) (e3k : PySem.W.keepIn K (.ref C3) = true) (e3x : PySem.W.excIn K C3 [.type "ValueError", .type "Exception", .type "BaseException", .type "object"] "ValueError.__new__" = true) (e3s : PySem.W.subIn K (.ref C3) (.type "BaseException") = some true) (e3t : PySem.W.typeIn K (.ref C3) = some (.type "type")) (e3h : PySem.W.hasDictIn K C3 = true)
    (e4g : PySem.W.nsIn K mainGlobals "BadText" = some (some (.ref C4))) (e4k : PySem.W.keepIn K (.ref C4) = true) (e4x : PySem.W.excIn K C4 [.type "ValueError", .type "Exception", .type "BaseException", .type "object"] "ValueError.__new__" = true) (e4s : PySem.W.subIn K (.ref C4) (.type "BaseException") = some true) (e4t : PySem.W.typeIn K (.ref C4) = some (.type "type")) (e4h : PySem.W.hasDictIn K C4 = true)
    (q1 : PySem.W.findIn K (.ref C4) "__getattribute__" = some (some (.builtin "BaseException.__getattribute__"))) (q2 : PySem.W.findIn K (.ref C4) "__getattr__" = some none) (q3 : PySem.W.findIn K (.ref C4) "__class__" = some (some (.builtin "object.__class__"))) (q4 : PySem.W.specialIn K (.builtin "object.__class__") "__get__" = some (some (.builtin "getset_descriptor.__get__"))) (q5 : PySem.W.takesIn K (.builtin "object.__class__") = some true) (q6 : PySem.W.mroIn K C4 (.type "object") = some true) (q7 : PySem.W.subIn K (.ref C4) (.ref C0) = some true) (q8 : PySem.W.subIn K (.ref C4) (.type "ValueError") = some true) (q9 : PySem.W.subIn K (.ref C4) (.ref C4) = some true)
    (r_BadProgram : PySem.W.subIn K (.ref C4) (.ref C1) = some false)
    (r_BadRow : PySem.W.subIn K (.ref C4) (.ref C2) = some false)
    (r_NoRule : PySem.W.subIn K (.ref C4) (.ref C3) = some false)
    (z_len : PySem.W.nsIn K mainGlobals "len" = some none)
    (z_range : PySem.W.nsIn K mainGlobals "range" = some none)
    (z_tuple : PySem.W.nsIn K mainGlobals "tuple" = some none)
    (z_list : PySem.W.nsIn K mainGlobals "list" = some none)
    (z_isinstance : PySem.W.nsIn K mainGlobals "isinstance" = some none)
    (z_int : PySem.W.nsIn K mainGlobals "int" = some none)
    (z_bool : PySem.W.nsIn K mainGlobals "bool" = some none)
    (z_str : PySem.W.nsIn K mainGlobals "str" = some none)
    (z_all : PySem.W.nsIn K mainGlobals "all" = some none)
    (z_max : PySem.W.nsIn K mainGlobals "max" = some none)
    (z_sorted : PySem.W.nsIn K mainGlobals "sorted" = some none)
    (z_ValueError : PySem.W.nsIn K mainGlobals "ValueError" = some none)
    {tF : Tok} (y_FIG : PySem.W.nsIn K mainGlobals "FIGURES" = some (some (.str "0123456789" tF))) :
    ∃ fd : FuncData, (∀ (s : Shared) (v : Value), BindsTo s fd ⟨[v], []⟩ [("_law_script", v)]) ∧ ∀ base : Heap, K.In base → base.Ns mainGlobals mg → FnOk l.prog w K mg base CX0 5 fa fd ["_law_script"] (sp_law K) := by
  have e := hfa.symm.trans (PySem.W.mg_of X G a11)
  cases e
  have B : Blt mg := ⟨PySem.W.mg_none_of X G z_len, PySem.W.mg_none_of X G z_range, PySem.W.mg_none_of X G z_tuple, PySem.W.mg_none_of X G z_list, PySem.W.mg_none_of X G z_isinstance, PySem.W.mg_none_of X G z_int, PySem.W.mg_none_of X G z_bool, PySem.W.mg_none_of X G z_str, PySem.W.mg_none_of X G z_all, PySem.W.mg_none_of X G z_max, PySem.W.mg_none_of X G z_sorted, PySem.W.mg_none_of X G z_ValueError⟩
  have X_ForgeError : ExcK K mg "ForgeError" C0 := ⟨PySem.W.mg_of X G e0g, e0k, e0x, e0s, e0t, e0h⟩
  have X_BadProgram : ExcK K mg "BadProgram" C1 := ⟨PySem.W.mg_of X G e1g, e1k, e1x, e1s, e1t, e1h⟩
  have X_BadRow : ExcK K mg "BadRow" C2 := ⟨PySem.W.mg_of X G e2g, e2k, e2x, e2s, e2t, e2h⟩
  have X_NoRule : ExcK K mg "NoRule" C3 := ⟨PySem.W.mg_of X G e3g, e3k, e3x, e3s, e3t, e3h⟩
  have X_BadText : ExcK K mg "BadText" C4 := ⟨PySem.W.mg_of X G e4g, e4k, e4x, e4s, e4t, e4h⟩
  have CK : CaughtK K C4 C0 := ⟨⟨q1, q2, e4s, e4h, q3, q4, q5, q6⟩, PySem.W.exm_ref e0s e0h e0t q7, q8, q9⟩
  have A_BadProgram : subRef K C4 C1 false := r_BadProgram
  have A_BadRow : subRef K C4 C2 false := r_BadRow
  have A_NoRule : subRef K C4 C3 false := r_NoRule
  have G_FIGURES : ∃ u, mg "FIGURES" = some u ∧ RelV (.str "0123456789") u := ⟨_, PySem.W.mg_of X G y_FIG, ⟨_, rfl⟩⟩
  have F0 := fun_mk (st := s_written) l0 c0 k0
  have F1 := fun_mk (st := s_number_of) l1 c1 k1
  have F2 := fun_mk (st := s_law_cell_at) l2 c2 k2
  have F3 := fun_mk (st := s_law_mixed) l3 c3 k3
  have F4 := fun_mk (st := s_law_number) l4 c4 k4
  have F5 := fun_mk (st := s_law_spoilt) l5 c5 k5
  have F6 := fun_mk (st := s_law_odd) l6 c6 k6
  have F7 := fun_mk (st := s_read_word) l7 c7 k7
  have F8 := fun_mk (st := s_law_due) l8 c8 k8
  have F9 := fun_mk (st := s_read) l9 c9 k9
  have F10 := fun_mk (st := s_law_read) l10 c10 k10
  have F11 := fun_mk (st := s_law) l11 c11 k11
  refine ⟨PySem.W.fnOf "law" "law" (defArgs s_law) (defBody s_law) (defScope s_law) .none kV11 dc11 pm11 an11 cd11 ct11, fun s v => .of_eq rfl, fun base _ _ => ?_⟩
  have c_written := ok_written (P := l.prog) (w := w) (base := base) F0 (PySem.W.mg_of X G a0) B
  have c_number_of := ok_number_of (P := l.prog) (w := w) (base := base) F1 (PySem.W.mg_of X G a1) B G_FIGURES
  have c_law_cell_at := ok_law_cell_at (P := l.prog) (w := w) (base := base) F2 (PySem.W.mg_of X G a2) B
  have c_law_mixed := ok_law_mixed (P := l.prog) (w := w) (base := base) F3 (PySem.W.mg_of X G a3) B
  have c_law_number := ok_law_number (P := l.prog) (w := w) (base := base) F4 (PySem.W.mg_of X G a4) B
  have c_law_spoilt := ok_law_spoilt (P := l.prog) (w := w) (base := base) F5 (PySem.W.mg_of X G a5) B
  have c_law_odd := ok_law_odd (P := l.prog) (w := w) (base := base) F6 (PySem.W.mg_of X G a6) B
  have c_read_word := ok_read_word (P := l.prog) (w := w) (base := base) F7 (PySem.W.mg_of X G a7) X_BadText B c_number_of
  have c_law_due := ok_law_due (P := l.prog) (w := w) (base := base) F8 (PySem.W.mg_of X G a8) B c_law_number
  have c_read := ok_read (P := l.prog) (w := w) (base := base) F9 (PySem.W.mg_of X G a9) B c_read_word
  have c_law_read := ok_law_read (P := l.prog) (w := w) (base := base) F10 (PySem.W.mg_of X G a10) X_ForgeError X_BadProgram X_BadRow X_NoRule X_BadText CK A_BadProgram A_BadRow A_NoRule B c_read
  exact fn_law F11 B c_law_cell_at c_law_due c_law_mixed c_law_odd c_law_read c_law_spoilt c_written
end SF
open PySem PySem.W PyProof.Rows
set_option maxHeartbeats 0 in
theorem PySem.Challenge.cw_sortforge_k04_texts_of_programs_holds : PySem.Challenge.rw_sortforge_k04_texts_of_programs.Holds := by
  w_on; o_law; k_head; (case hw => w_witness2)
  k_fill
  refine L2.walk_of (l := PySem.Challenge.rw_sortforge_k04_texts_of_programs) (n := 63) (k := 5) (x := "_law_script") (CX := fun _ => L2.CX0) (sp := fun w => SF.sp_law _) rfl (by decide) rfl ⟨rfl, by decide, by decide⟩ (fun w h Y => PySem.W.kIn_of Y) ?F (fun w H a ns hl hO hS => SF.law_start hl hO hS) (fun _ _ _ _ _ h => h)
  case F =>
    intro w mg fa h KX G hmg
    refine' SF.all_mk KX G hmg ?a0 ?l0 ?c0 ?k0 ?a1 ?l1 ?c1 ?k1 ?a2 ?l2 ?c2 ?k2 ?a3 ?l3 ?c3 ?k3 ?a4 ?l4 ?c4 ?k4 ?a5 ?l5 ?c5 ?k5 ?a6 ?l6 ?c6 ?k6 ?a7 ?l7 ?c7 ?k7 ?a8 ?l8 ?c8 ?k8 ?a9 ?l9 ?c9 ?k9 ?a10 ?l10 ?c10 ?k10 ?a11 ?l11 ?c11 ?k11 ?e0g ?e0k ?e0x ?e0s ?e0t ?e0h ?e1g ?e1k ?e1x ?e1s ?e1t ?e1h ?e2g ?e2k ?e2x ?e2s ?e2t ?e2h ?e3g ?e3k ?e3x ?e3s ?e3t ?e3h ?e4g ?e4k ?e4x ?e4s ?e4t ?e4h ?q1 ?q2 ?q3 ?q4 ?q5 ?q6 ?q7 ?q8 ?q9 ?r_BadProgram ?r_BadRow ?r_NoRule ?z_len ?z_range ?z_tuple ?z_list ?z_isinstance ?z_int ?z_bool ?z_str ?z_all ?z_max ?z_sorted ?z_ValueError ?y_FIG
    (case a0 => k_is)
    (case l0 => k_is)
    (case c0 => k_is)
    (case k0 => k_is)
    (case a1 => k_is)
    (case l1 => k_is)
    (case c1 => k_is)
    (case k1 => k_is)
    (case a2 => k_is)
    (case l2 => k_is)
    (case c2 => k_is)
    (case k2 => k_is)
    (case a3 => k_is)
    (case l3 => k_is)
    (case c3 => k_is)
    (case k3 => k_is)
    (case a4 => k_is)
    (case l4 => k_is)
    (case c4 => k_is)
    (case k4 => k_is)
    (case a5 => k_is)
    (case l5 => k_is)
    (case c5 => k_is)
    (case k5 => k_is)
    (case a6 => k_is)
    (case l6 => k_is)
    (case c6 => k_is)
    (case k6 => k_is)
    (case a7 => k_is)
    (case l7 => k_is)
    (case c7 => k_is)
    (case k7 => k_is)
    (case a8 => k_is)
    (case l8 => k_is)
    (case c8 => k_is)
    (case k8 => k_is)
    (case a9 => k_is)
    (case l9 => k_is)
    (case c9 => k_is)
    (case k9 => k_is)
    (case a10 => k_is)
    (case l10 => k_is)
    (case c10 => k_is)
    (case k10 => k_is)
    (case a11 => k_is)
    (case l11 => k_is)
    (case c11 => k_is)
    (case k11 => k_is)
    (case e0g => k_is)
    (case e0k => k_is)
    (case e0x => k_exc)
    (case e0s => k_is)
    (case e0t => k_is)
    (case e0h => k_is)
    (case e1g => k_is)
    (case e1k => k_is)
    (case e1x => k_exc)
    (case e1s => k_is)
    (case e1t => k_is)
    (case e1h => k_is)
    (case e2g => k_is)
    (case e2k => k_is)
    (case e2x => k_exc)
    (case e2s => k_is)
    (case e2t => k_is)
    (case e2h => k_is)
    (case e3g => k_is)
    (case e3k => k_is)
    (case e3x => k_exc)
    (case e3s => k_is)
    (case e3t => k_is)
    (case e3h => k_is)
    (case e4g => k_is)
    (case e4k => k_is)
    (case e4x => k_exc)
    (case e4s => k_is)
    (case e4t => k_is)
    (case e4h => k_is)
    (case q1 => k_is)
    (case q2 => k_is)
    (case q3 => k_is)
    (case q4 => k_is)
    (case q5 => k_is)
    (case q6 => k_is)
    (case q7 => k_is)
    (case q8 => k_is)
    (case q9 => k_is)
    (case r_BadProgram => k_is)
    (case r_BadRow => k_is)
    (case r_NoRule => k_is)
    (case z_len => k_is)
    (case z_range => k_is)
    (case z_tuple => k_is)
    (case z_list => k_is)
    (case z_isinstance => k_is)
    (case z_int => k_is)
    (case z_bool => k_is)
    (case z_str => k_is)
    (case z_all => k_is)
    (case z_max => k_is)
    (case z_sorted => k_is)
    (case z_ValueError => k_is)
    (case y_FIG => k_is)
